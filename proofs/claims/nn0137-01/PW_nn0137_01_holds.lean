import PyProof.Rows.All
import Wide.All
import OpenK.AllK
import Wide.FinOn
import PySem.Challenge.RW_nn0137_01
set_option Elab.async false
set_option maxRecDepth 100000
set_option maxHeartbeats 8000000
set_option compiler.extract_closed false
set_option linter.all false
section
open PySem PySem.W PyProof.Rows
namespace Mine
section
local macro_rules | `(tactic| o_head $_:term) => `(tactic| assumption)
theorem frag : PySem.Challenge.rw_nn0137_01.row.Holds → PySem.Challenge.rw_nn0137_01.row.Holds := by
  intro h
  km_head
end
end Mine

end
section
open PySem PySem.W PyProof.Rows PySem.Calls
namespace Mine
abbrev pr : Program := PySem.Challenge.rw_nn0137_01.row.prog
abbrev lstO (vs : List Value) (n : Nat := 0) : Obj := { cls := .type "list", data := .seq vs.toArray n }
abbrev penO (q : Addr) (spot great : Int) (t1 t2 : Tok) : Obj := { cls := .type "list", data := .seq [Value.ref q, .int spot t1, .int great t2].toArray 0 }
theorem gen3 {α : Type} {M : Model} {A : Around} {t : Sem α} {Q : α → Shared → Prop} {E : Value → Shared → Prop} {h : Heap} {g : Array GenState} {d : Drawn} {o : OsState} {k : Nat} (H : ∀ k, wpAny M A t Q E ⟨h, g, d, k, o⟩) : wpAny M A t Q E ⟨h, g, d, k + 1 + 1 + 1, o⟩ := H _
theorem news_tail {h₀ h : Heap} {L : Addr} {x : Addr × Obj} {l : List (Addr × Obj)} (N : News h₀ L h (x :: l)) : News h₀ L h l := fun p hp => N p (.tail _ hp)
theorem news_sub {h₀ h : Heap} {L : Addr} {a b : List (Addr × Obj)} (N : News h₀ L h a) (hs : ∀ p ∈ b, p ∈ a) : News h₀ L h b := fun p hp => N p (hs p hp)
theorem allLt_up {c d : Nat} : ∀ {r : List (Addr × Obj)}, AllLt c r → c ≤ d → ∀ p ∈ r, p.1 ≠ d
  | [], _, _, _, h => nomatch h
  | _ :: _, h, hc, _, .head _ => Nat.ne_of_lt (Nat.lt_of_lt_of_le h.1 hc)
  | _ :: _, h, hc, _, .tail _ m => allLt_up h.2 hc _ m
theorem news_nil {h₀ h : Heap} {L : Addr} : News h₀ L h [] := fun _ hp => nomatch hp
theorem news_pick {h₀ h : Heap} {L : Addr} {x : Addr × Obj} {big l : List (Addr × Obj)} (N : News h₀ L h big) (hm : x ∈ big) (R : News h₀ L h l) : News h₀ L h (x :: l) := fun p hp => by
  rcases List.mem_cons.mp hp with rfl | hp
  · exact N _ hm
  · exact R _ hp
section
variable {prog : Program} {w : World} {A : Around} {E : Value → Shared → Prop} {s : Shared} {Q : Value → Shared → Prop} {a b : Int} {t u : Tok} {h₀ : Heap} {L : Addr} {news : List (Addr × Obj)}
theorem r_mod (hb : 0 < b) (h : ∀ r, 0 ≤ r → r < b → Q (.int r s.toks) { s with toks := s.toks + 1 }) : wpAny (model prog w) A (binaryOp .Mod (.int a t) (.int b u)) Q E s :=
  mod_int' (by omega) (h _ (Int.fmod_nonneg_of_pos a hb) (Int.fmod_lt_of_pos a hb))
theorem r_pow (hb : 0 ≤ b) (hb2 : b ≤ 1000000) (ha : a.natAbs < 2 ^ 64) (h : ∀ r, Q (.int r s.toks) { s with toks := s.toks + 1 }) : wpAny (model prog w) A (binaryOp .Pow (.int a t) (.int b u)) Q E s :=
  pow_int_small hb hb2 ha (h _)
theorem r_mul (ha : 0 ≤ a) (ha2 : a ≤ 4294967296) (hb : 0 ≤ b) (hb2 : b ≤ 1048576) (h : ∀ r, 0 ≤ r → r ≤ 4503599627370496 → Q (.int r s.toks) { s with toks := s.toks + 1 }) : wpAny (model prog w) A (binaryOp .Mult (.int a t) (.int b u)) Q E s := by
  refine PyProof.Rows.mul_int (h _ (Int.mul_nonneg ha hb) ?_) (IntMulOk.of_left ?_)
  · exact Int.mul_le_mul ha2 hb2 hb (by decide)
  · exact intBits_le_64 (by omega) (by omega)
theorem r_item {value slice : PySem.Expr} {l : Addr} {its : List Value} {n : Nat} {k : Int} {v : Value} (N : News h₀ L s.heap news) (hm : (l, ({ cls := .type "list", data := .seq its.toArray n } : Obj)) ∈ news) (h0 : 0 ≤ k) (hhi : k < 2 ^ 63) (hx : its[k.toNat]? = some v) (h : Q v s)
    (hs : subscripted slice false (.ref l) (.int k u) = operate [.ref l, .int k u] (getItem (.ref l) (.int k u)) := by with_unfolding_all rfl) :
    wpAny (model prog w) A (subscriptTail value slice (.ref l) (.int k u)) Q E s :=
  have hl : s.heap.IsList l its.toArray := ⟨_, N.get hm, rfl, n, rfl⟩
  tail_any hl.typeIs slot_list_getitem.lookup (wpAny_getItem_list hl h0 hhi (by simpa using hx) h) hs
theorem r_itemI {value slice : PySem.Expr} {l : Addr} {vs : List Value} {ns : List Int} {n : Nat} {k : Int} (N : News h₀ L s.heap news) (hm : (l, ({ cls := .type "list", data := .seq vs.toArray n } : Obj)) ∈ news) (hi : IntsAre vs ns) (h0 : 0 ≤ k) (hk : k < ns.length) (hl : ns.length ≤ 4611686018427387904)
    (h : ∀ c t, c ∈ ns → Q (.int c t) s)
    (hs : subscripted slice false (.ref l) (.int k u) = operate [.ref l, .int k u] (getItem (.ref l) (.int k u)) := by with_unfolding_all rfl) :
    wpAny (model prog w) A (subscriptTail value slice (.ref l) (.int k u)) Q E s := by
  have hlt : k.toNat < ns.length := by omega
  obtain ⟨t, hx⟩ := hi.get k.toNat ns[k.toNat] (by simp [hlt])
  exact r_item N hm h0 (by omega) hx (h _ _ (List.getElem_mem hlt)) hs
end
/-- one statement on all its ways; the rest is walked once -/
def SameEnd (h₀ : Heap) (L : Addr) (m : Str → Option Value) (led : List (Addr × Obj)) (s s' : Shared) : Prop := ∃ h' tk', s' = { s with heap := h', toks := tk' } ∧ Fr h₀ L h' m ∧ News h₀ L h' led
def SetEnd (h₀ : Heap) (L : Addr) (x : Str) (V : Value → Prop) (m : Str → Option Value) (led : List (Addr × Obj)) (s s' : Shared) : Prop := ∃ v h' tk', V v ∧ s' = { s with heap := h', toks := tk' } ∧ Fr h₀ L h' (fun y => if y = x then some v else m y) ∧ News h₀ L h' led
section
variable {M : Model} {A : Around} {st : Stmt} {rest : List Stmt} {env : Env} {Q : Flow → Shared → Prop} {E : Value → Shared → Prop} {s : Shared} {h₀ : Heap} {L : Addr} {m : Str → Option Value} {led : List (Addr × Obj)}
theorem cut_same (_F : Fr h₀ L s.heap m) (_N : News h₀ L s.heap led) (h1 : wpAny M A (exec st env) (fun f s' => match f with | .next => SameEnd h₀ L m led s s' | f => Q f s') E s)
    (h2 : ∀ h' tk', Fr h₀ L h' m → News h₀ L h' led → wpAny M A (execs rest env) Q E { s with heap := h', toks := tk' }) : wpAny M A (execs (st :: rest) env) Q E s :=
  wpAny_execs_cons (wpAny_mono h1 (fun f s' h => by
    cases f
    case next => obtain ⟨h', tk', rfl, F, N⟩ := h; exact h2 h' tk' F N
    all_goals exact h) fun _ _ e => e)
theorem cut_set (x : Str) (V : Value → Prop) (_F : Fr h₀ L s.heap m) (_N : News h₀ L s.heap led) (h1 : wpAny M A (exec st env) (fun f s' => match f with | .next => SetEnd h₀ L x V m led s s' | f => Q f s') E s)
    (h2 : ∀ v h' tk', V v → Fr h₀ L h' (fun y => if y = x then some v else m y) → News h₀ L h' led → wpAny M A (execs rest env) Q E { s with heap := h', toks := tk' }) : wpAny M A (execs (st :: rest) env) Q E s :=
  wpAny_execs_cons (wpAny_mono h1 (fun f s' h => by
    cases f
    case next => obtain ⟨v, h', tk', hv, rfl, F, N⟩ := h; exact h2 v h' tk' hv F N
    all_goals exact h) fun _ _ e => e)
theorem fr_over {h : Heap} {x : Str} {a b : Option Value} (F : Fr h₀ L h (fun y => if y = x then a else if y = x then b else m y)) : Fr h₀ L h (fun y => if y = x then a else m y) := by
  have e : (fun y => if y = x then a else if y = x then b else m y) = (fun y => if y = x then a else m y) := by
    funext y; by_cases h : y = x
    · rw [if_pos h, if_pos h]
    · rw [if_neg h, if_neg h, if_neg h]
  rw [← e]; exact F
theorem fr_dup {h : Heap} {x : Str} {a : Option Value} (F : Fr h₀ L h (fun y => if y = x then a else m y)) : Fr h₀ L h (fun y => if y = x then a else if y = x then a else m y) := by
  have e : (fun y => if y = x then a else if y = x then a else m y) = (fun y => if y = x then a else m y) := by
    funext y; by_cases h : y = x
    · rw [if_pos h, if_pos h]
    · simp only [if_neg h]
  rw [e]; exact F
end
/-- what stands behind a statement, by a name (a match written out is four times the size) -/
def SeqQ (M : Model) (A : Around) (rest : List Stmt) (env : Env) (Q : Flow → Shared → Prop) (E : Value → Shared → Prop) (f : Flow) (s : Shared) : Prop := match f with | .next => wpAny M A (execs rest env) Q E s | f => Q f s
section
variable {M : Model} {A : Around} {st : Stmt} {rest : List Stmt} {env : Env} {Q : Flow → Shared → Prop} {E : Value → Shared → Prop} {s : Shared}
theorem seq_cons (h : wpAny M A (exec st env) (SeqQ M A rest env Q E) E s) : wpAny M A (execs (st :: rest) env) Q E s := wpAny_execs_cons h
theorem seq_next (h : wpAny M A (execs rest env) Q E s) : SeqQ M A rest env Q E .next s := h
theorem seq_ret {v : Value} (h : Q (.ret v) s) : SeqQ M A rest env Q E (.ret v) s := h
end
theorem lt0 {a K c : Nat} (h : a + K < c) : a < c := Nat.lt_of_le_of_lt (Nat.le_add_right a K) h
theorem lt1 {a k K c : Nat} (h : a + K < c) (e : k ≤ K) : a + k < c := Nat.lt_of_le_of_lt (Nat.add_le_add_left e a) h
theorem lt2 {a k l K c : Nat} (h : a + K < c) (e : k + l ≤ K) : a + k + l < c := by rw [Nat.add_assoc]; exact lt1 h e
theorem ne_l0 {a b : Nat} {B : Prop} (h : a < b ∧ B) : a ≠ b := Nat.ne_of_lt h.1
theorem ne_g0 {a b : Nat} {B : Prop} (h : a < b ∧ B) : b ≠ a := Nat.ne_of_gt h.1
theorem ne_l1 {a b : Nat} {A0 B : Prop} (h : A0 ∧ a < b ∧ B) : a ≠ b := Nat.ne_of_lt h.2.1
theorem ne_g1 {a b : Nat} {A0 B : Prop} (h : A0 ∧ a < b ∧ B) : b ≠ a := Nat.ne_of_gt h.2.1
theorem ne_l2 {a b : Nat} {A0 A1 B : Prop} (h : A0 ∧ A1 ∧ a < b ∧ B) : a ≠ b := Nat.ne_of_lt h.2.2.1
theorem ne_g2 {a b : Nat} {A0 A1 B : Prop} (h : A0 ∧ A1 ∧ a < b ∧ B) : b ≠ a := Nat.ne_of_gt h.2.2.1
theorem ne_l3 {a b : Nat} {A0 A1 A2 B : Prop} (h : A0 ∧ A1 ∧ A2 ∧ a < b ∧ B) : a ≠ b := Nat.ne_of_lt h.2.2.2.1
theorem ne_g3 {a b : Nat} {A0 A1 A2 B : Prop} (h : A0 ∧ A1 ∧ A2 ∧ a < b ∧ B) : b ≠ a := Nat.ne_of_gt h.2.2.2.1
theorem ne_l4 {a b : Nat} {A0 A1 A2 A3 B : Prop} (h : A0 ∧ A1 ∧ A2 ∧ A3 ∧ a < b ∧ B) : a ≠ b := Nat.ne_of_lt h.2.2.2.2.1
theorem ne_g4 {a b : Nat} {A0 A1 A2 A3 B : Prop} (h : A0 ∧ A1 ∧ A2 ∧ A3 ∧ a < b ∧ B) : b ≠ a := Nat.ne_of_gt h.2.2.2.2.1
theorem ne_l5 {a b : Nat} {A0 A1 A2 A3 A4 B : Prop} (h : A0 ∧ A1 ∧ A2 ∧ A3 ∧ A4 ∧ a < b ∧ B) : a ≠ b := Nat.ne_of_lt h.2.2.2.2.2.1
theorem ne_g5 {a b : Nat} {A0 A1 A2 A3 A4 B : Prop} (h : A0 ∧ A1 ∧ A2 ∧ A3 ∧ A4 ∧ a < b ∧ B) : b ≠ a := Nat.ne_of_gt h.2.2.2.2.2.1
theorem ne_l6 {a b : Nat} {A0 A1 A2 A3 A4 A5 B : Prop} (h : A0 ∧ A1 ∧ A2 ∧ A3 ∧ A4 ∧ A5 ∧ a < b ∧ B) : a ≠ b := Nat.ne_of_lt h.2.2.2.2.2.2.1
theorem ne_g6 {a b : Nat} {A0 A1 A2 A3 A4 A5 B : Prop} (h : A0 ∧ A1 ∧ A2 ∧ A3 ∧ A4 ∧ A5 ∧ a < b ∧ B) : b ≠ a := Nat.ne_of_gt h.2.2.2.2.2.2.1
theorem ne_l7 {a b : Nat} {A0 A1 A2 A3 A4 A5 A6 B : Prop} (h : A0 ∧ A1 ∧ A2 ∧ A3 ∧ A4 ∧ A5 ∧ A6 ∧ a < b ∧ B) : a ≠ b := Nat.ne_of_lt h.2.2.2.2.2.2.2.1
theorem ne_g7 {a b : Nat} {A0 A1 A2 A3 A4 A5 A6 B : Prop} (h : A0 ∧ A1 ∧ A2 ∧ A3 ∧ A4 ∧ A5 ∧ A6 ∧ a < b ∧ B) : b ≠ a := Nat.ne_of_gt h.2.2.2.2.2.2.2.1
theorem ne_l8 {a b : Nat} {A0 A1 A2 A3 A4 A5 A6 A7 B : Prop} (h : A0 ∧ A1 ∧ A2 ∧ A3 ∧ A4 ∧ A5 ∧ A6 ∧ A7 ∧ a < b ∧ B) : a ≠ b := Nat.ne_of_lt h.2.2.2.2.2.2.2.2.1
theorem ne_g8 {a b : Nat} {A0 A1 A2 A3 A4 A5 A6 A7 B : Prop} (h : A0 ∧ A1 ∧ A2 ∧ A3 ∧ A4 ∧ A5 ∧ A6 ∧ A7 ∧ a < b ∧ B) : b ≠ a := Nat.ne_of_gt h.2.2.2.2.2.2.2.2.1
end Mine

end
section
open PySem PySem.W PyProof.Rows PySem.Calls PySem.Spec
namespace Mine
/-- a value whose iterator is one new object -/
def Src (prog : Program) (w : World) (A : Around) (xv : Value) (s : Shared) (n : Nat) (P : Nat → Value → Prop) : Prop :=
  ∀ (Q : Value → Shared → Prop) (E : Value → Shared → Prop), (∀ (o : Obj) (St : Nat → Heap → Prop), Walks prog w A s.heap.objs.size [s.heap.objs.size] [s.heap.objs.size] n P St → St 0 (s.heap.push o) → (∀ i h, St i h → ∃ o', h.get? s.heap.objs.size = some o') → o.isFreed = false →
      Q (.ref s.heap.objs.size) { s with heap := s.heap.push o }) → wpAny (model prog w) A (pyIter xv) Q E s
section
variable {prog : Program} {w : World} {A : Around} {s : Shared}
theorem src_bytes {b : Array UInt8} {t : Tok} (hh : A.handled = none) : Src prog w A (.bytes b t) s b.size (fun i v => ∃ c u, b[i]? = some c ∧ v = .int (c.toNat : Int) u) := fun Q E hQ =>
  KBw.pyIter_bytes (hQ _ _ (KBw.walks hh s.heap.objs.size b t) ⟨_, Heap.get?_push_size _ rfl, rfl, rfl⟩ (fun _ _ st => let ⟨o, ho, _⟩ := st; ⟨o, ho⟩) rfl)
theorem src_str {x : Str} {t : Tok} (hh : A.handled = none) : Src prog w A (.str x t) s x.cps.size (SignAt x) := fun Q E hQ => by
  cases ha : x.cps.all (· < 128)
  · exact wpAny_pyIter_wide ha (hQ _ _ (Walks.strWide hh _ x t) ⟨_, Heap.get?_push_size _ rfl, rfl, rfl⟩ (fun _ _ st => let ⟨o, ho, _⟩ := st; ⟨o, ho⟩) rfl)
  · exact wpAny_pyIter_ascii ha (hQ _ _ (Walks.strAscii hh _ x t) ⟨_, Heap.get?_push_size _ rfl, rfl, rfl⟩ (fun _ _ st => let ⟨o, ho, _⟩ := st; ⟨o, ho⟩) rfl)
theorem src_range {r : Addr} {a b c : Int} {t u v : Tok} {n : Nat} (hh : A.handled = none) (hr : IsRange s.heap r a b c t u v) (hs : Builtin.Range.small a b c = true) (hn : Builtin.Range.rangeSize a b c = ((n : Nat) : Int)) :
    Src prog w A (.ref r) s n (fun i v => ∃ t, v = .int (a + i * c) t) := fun Q E hQ =>
  wpAny_pyIter_range hr hs (hQ _ _ (Walks.range hh _ a c n) (by show _ = _; rw [hn]; simpa [rawInt] using Heap.get?_push_size _ rfl) (fun _ _ st => ⟨_, st⟩) rfl)
end
section
variable {prog : Program} {w : World} {A : Around} {E : Value → Shared → Prop} {s : Shared} {env : Env} {h₀ : Heap} {x : Str} {body : List Stmt} {Q : Flow → Shared → Prop}
def TurnEnd {σ : Type} (h₀ : Heap) (L : Addr) (Fm : σ → Str → Option Value) (Led : σ → List (Addr × Obj)) (P : σ → Prop) (keep : List (Addr × Obj)) (I : Addr) (s : Shared) (Q : Flow → Shared → Prop) (f : Flow) (s₂ : Shared) : Prop := match f with
  | .ret v => Q (.ret v) s₂
  | .brk => Q .next s₂
  | _ => ∃ c h' tk', s₂ = { s with heap := h', toks := tk' } ∧ Fr h₀ L h' (Fm c) ∧ News h₀ L h' (keep ++ Led c) ∧ (∀ p ∈ Led c, p.1 ≠ I) ∧ P c

theorem turn_ret {σ : Type} {L : Addr} {Fm : σ → Str → Option Value} {Led : σ → List (Addr × Obj)} {P : σ → Prop} {keep : List (Addr × Obj)} {I : Addr} {v : Value} {s₂ : Shared} (h : Q (.ret v) s₂) : TurnEnd h₀ L Fm Led P keep I s Q (.ret v) s₂ := h
theorem r_for {σ : Type} {I : Addr} {fp : List Addr} {n : Nat} {Pv : Nat → Value → Prop} {St : Nat → Heap → Prop} (ext : List (Addr × Obj)) (Fm : σ → Str → Option Value) (Led : σ → List (Addr × Obj)) (P : Nat → σ → Prop) (c₀ : σ)
    (W : Walks prog w A I fp [I] n Pv St) (hfp : ∀ b ∈ fp, b = I ∨ ∃ o, (b, o) ∈ ext) (hef : ∀ p ∈ ext, p.1 ∈ fp) (hIo : ∀ i h, St i h → ∃ o, h.get? I = some o) (hEx : ∀ i h, St i h → ∀ p ∈ ext, h.get? p.1 = some p.2) (hE0 : ∀ p ∈ ext, h₀.get? p.1 = none)
    (hL : env.locals ∉ fp) (hI : h₀.get? I = none) (hst : St 0 s.heap) (F : Fr h₀ env.locals s.heap (Fm c₀)) (N : News h₀ env.locals s.heap (Led c₀)) (hoff : ∀ p ∈ Led c₀, p.1 ≠ I) (hp : P 0 c₀)
    (turn : ∀ i v c oI h tk, i < n → Pv i v → P i c → (∀ p ∈ Led c, p.1 ≠ I) → Fr h₀ env.locals h (fun y => if y = x then some v else Fm c y) → News h₀ env.locals h (((I, oI) :: ext) ++ Led c) →
      wpAny (model prog w) A (execs body env) (TurnEnd h₀ env.locals Fm Led (P (i + 1)) ((I, oI) :: ext) I s Q) E { s with heap := h, toks := tk })
    (done : ∀ c h tk, P n c → Fr h₀ env.locals h (Fm c) → News h₀ env.locals h (Led c) → Q .next { s with heap := h, toks := tk }) :
    LoopAtV prog w A h₀ env x body Q E (.ref I) s := by
  refine ⟨I, fp, [I], n, Pv, St, Fm c₀, Led c₀, fun i m nx => ∃ c, m = Fm c ∧ nx = Led c ∧ P i c, rfl, W, hL, ?_, ?_, hst, F, N, ⟨c₀, rfl, rfl, hp⟩, ?_, ?_⟩
  · intro b hb; rw [List.mem_singleton.mp hb]; exact hI
  · intro p hp' hm; exact hoff p hp' (List.mem_singleton.mp hm)
  · rintro i v m₁ nx s₁ own ⟨h, tk, rfl⟩ hi hv ⟨c, rfl, rfl, hP⟩ hoff' hown hownat hall hst' F₁ N₁
    have hIfp : I ∈ fp := W.sub I (List.mem_singleton.mpr rfl)
    obtain ⟨oI, hoI⟩ := hIo _ _ hst'
    have hIown := hall I hIfp hI oI hoI
    have hext : ∀ p ∈ ext, p ∈ own := fun p hp' => hall p.1 (hef p hp') (hE0 p hp') p.2 (hEx _ _ hst' p hp')
    have N₂ : News h₀ env.locals h (((I, oI) :: ext) ++ Led c) := fun p hp' => by
      rcases List.mem_append.mp hp' with h1 | h1
      · rcases List.mem_cons.mp h1 with rfl | h1
        · exact N₁ _ (List.mem_append.mpr (.inl hIown))
        · exact N₁ _ (List.mem_append.mpr (.inl (hext p h1)))
      · exact N₁ _ (List.mem_append.mpr (.inr h1))
    have same : ∀ p ∈ own, p ∈ (I, oI) :: ext := fun p hp' => by
      have h1 := hownat p hp'
      rcases hfp p.1 (hown p hp') with e | ⟨o, ho⟩
      · have e2 : p.2 = oI := by rw [e] at h1; exact Option.some.inj (h1.symm.trans hoI)
        have : p = (I, oI) := by rw [← e, ← e2]
        rw [this]; exact .head _
      · have h2 := hEx _ _ hst' _ ho
        have e2 : p.2 = o := Option.some.inj (h1.symm.trans h2)
        have : p = (p.1, o) := by rw [← e2]
        rw [this]; exact .tail _ ho
    refine wpAny_mono (turn i v c oI h tk hi hv hP (fun p hp' hm => hoff' p hp' (by rw [hm]; exact List.mem_singleton.mpr rfl)) F₁ N₂) (fun f s₂ q => ?_) fun _ _ e => e
    have fin : (∃ c h' tk', s₂ = { s with heap := h', toks := tk' } ∧ Fr h₀ env.locals h' (Fm c) ∧ News h₀ env.locals h' (((I, oI) :: ext) ++ Led c) ∧ (∀ p ∈ Led c, p.1 ≠ I) ∧ P (i + 1) c) →
        LoopStepU h₀ env.locals [I] own (fun m nx => ∃ c, m = Fm c ∧ nx = Led c ∧ P (i + 1) c) { s with heap := h, toks := tk } .next s₂ := by
      rintro ⟨c', h', tk', rfl, F', N', hoff2, hP'⟩
      refine ⟨rfl, h', tk', Fm c', Led c', rfl, F', fun p hp' => ?_, fun p hp' hm => hoff2 p hp' (List.mem_singleton.mp hm), ⟨c', rfl, rfl, hP'⟩⟩
      rcases List.mem_append.mp hp' with h1 | h1
      · exact N' _ (List.mem_append.mpr (.inl (same p h1)))
      · exact N' _ (List.mem_append.mpr (.inr h1))
    cases f with
    | ret v => exact .ret q
    | brk => exact .brk q
    | next => exact .next (fin q)
    | cont => exact .cont (fin q)
  · rintro h' tk m' nx F' N' _ ⟨c, rfl, rfl, hP⟩
    exact done c h' tk hP F' N'

theorem for_src {σ : Type} {n : Nat} {xv : Value} {Pv : Nat → Value → Prop} (Fm : σ → Str → Option Value) (Led : σ → List (Addr × Obj)) (P : Nat → σ → Prop) (c₀ : σ)
    (S : Src prog w A xv s n Pv) (F : Fr h₀ env.locals s.heap (Fm c₀)) (N : News h₀ env.locals s.heap (Led c₀)) (hp : P 0 c₀)
    (turn : ∀ I i v c oI h tk, i < n → Pv i v → P i c → (∀ p ∈ Led c, p.1 ≠ I) → Fr h₀ env.locals h (fun y => if y = x then some v else Fm c y) → News h₀ env.locals h ((I, oI) :: Led c) →
      wpAny (model prog w) A (execs body env) (TurnEnd h₀ env.locals Fm Led (P (i + 1)) [(I, oI)] I s Q) E { s with heap := h, toks := tk })
    (done : ∀ c h tk, P n c → Fr h₀ env.locals h (Fm c) → News h₀ env.locals h (Led c) → Q .next { s with heap := h, toks := tk }) :
    wpAny (model prog w) A (pyIter xv) (fun it s₂ => LoopAtV prog w A h₀ env x body Q E it s₂) E s := by
  refine S _ _ fun o St W hst hIo hfr => ?_
  have up : ∀ b o', s.heap.get? b = some o' → (s.heap.push o).get? b = some o' := fun b o' e => Heap.get?_push_of_some _ e
  refine r_for (s := { s with heap := s.heap.push o }) [] Fm Led P c₀ W (fun b hb => .inl (List.mem_singleton.mp hb)) (fun _ h => nomatch h) hIo (fun _ _ _ _ h => nomatch h) (fun _ h => nomatch h) ?_ (next_is_new F) hst (F.keeps up) (N.grown up) ?_ hp ?_ ?_
  · intro hm; exact Nat.ne_of_lt F.ns.lt (List.mem_singleton.mp hm)
  · exact fun p hp' => Nat.ne_of_lt (Heap.lt_size (N p hp').1)
  · intro i v c oI h tk hi hv hP hoff F₁ N₁
    exact turn _ i v c oI h tk hi hv hP hoff F₁ N₁
  · exact done

theorem for_list {σ : Type} {l : Addr} {vs : List Value} {k : Nat} (Fm : σ → Str → Option Value) (Led : σ → List (Addr × Obj)) (P : Nat → σ → Prop) (c₀ : σ) (hh : A.handled = none)
    (F : Fr h₀ env.locals s.heap (Fm c₀)) (N : News h₀ env.locals s.heap (Led c₀)) (Nl : News h₀ env.locals s.heap [(l, lstO vs k)]) (hp : P 0 c₀)
    (turn : ∀ I i v c oI h tk, vs[i]? = some v → P i c → (∀ p ∈ Led c, p.1 ≠ I) → Fr h₀ env.locals h (fun y => if y = x then some v else Fm c y) → News h₀ env.locals h ((I, oI) :: (l, lstO vs k) :: Led c) →
      wpAny (model prog w) A (execs body env) (TurnEnd h₀ env.locals Fm Led (P (i + 1)) [(I, oI), (l, lstO vs k)] I s Q) E { s with heap := h, toks := tk })
    (done : ∀ c h tk, P vs.length c → Fr h₀ env.locals h (Fm c) → News h₀ env.locals h (Led c) → Q .next { s with heap := h, toks := tk }) :
    wpAny (model prog w) A (pyIter (.ref l)) (fun it s₂ => LoopAtV prog w A h₀ env x body Q E it s₂) E s := by
  have hl0 := (Nl (l, lstO vs k) (.head _))
  have hls : s.heap.IsList l vs.toArray := ⟨_, hl0.1, rfl, k, rfl⟩
  refine wpAny_pyIter_list hls ?_
  have hlt : l < s.heap.objs.size := Heap.lt_size hl0.1
  have hne : l ≠ s.heap.objs.size := Nat.ne_of_lt hlt
  have W0 := Walks.list (prog := prog) (w := w) hh s.heap.objs.size l hne vs.toArray
  have W : Walks prog w A s.heap.objs.size [s.heap.objs.size, l] [s.heap.objs.size] vs.toArray.size (fun i v => vs.toArray[i]? = some v) (fun i h => (h.IsListIter s.heap.objs.size l i ∧ h.IsList l vs.toArray) ∧ h.get? l = some (lstO vs k)) :=
    { sub := W0.sub
      frame := fun i h h' st hk => ⟨W0.frame i h h' st.1 hk, hk l (by simp) _ st.2⟩
      item := fun i s' Q' E' hi st hQ => W0.item i s' Q' E' hi st.1 fun v h' tk hP hst hk => hQ v h' tk hP ⟨hst, hk l _ (by simpa using hne) st.2⟩ hk
      done := fun s' Q' E' st hQ => W0.done s' Q' E' st.1 hQ
      self := fun i s' Q' E' st hQ => W0.self i s' Q' E' st.1 hQ }
  have up : ∀ b o' (o : Obj), s.heap.get? b = some o' → (s.heap.push o).get? b = some o' := fun b o' o e => Heap.get?_push_of_some _ e
  refine r_for (s := { s with heap := s.heap.push _ }) [(l, lstO vs k)] Fm Led P c₀ W ?_ ?_ (fun i h st => let ⟨o, ho, _⟩ := st.1.1; ⟨o, ho⟩) ?_ ?_ ?_ (next_is_new F) ⟨⟨⟨_, Heap.get?_push_size _ rfl, rfl, rfl⟩, hls.push _⟩, up _ _ _ hl0.1⟩ (F.keeps fun b o e => up b o _ e) (N.grown fun b o e => up b o _ e) ?_ hp ?_ ?_
  · intro b hb
    rcases List.mem_cons.mp hb with rfl | hb
    · exact .inl rfl
    · rw [List.mem_singleton.mp hb]; exact .inr ⟨_, .head _⟩
  · intro p hp'; rw [List.mem_singleton.mp hp']; simp
  · intro i h st p hp'; rw [List.mem_singleton.mp hp']; exact st.2
  · intro p hp'; rw [List.mem_singleton.mp hp']; exact hl0.2.2
  · intro hm
    rcases List.mem_cons.mp hm with e | hm
    · exact Nat.ne_of_lt F.ns.lt e
    · exact hl0.2.1 (List.mem_singleton.mp hm).symm
  · exact fun p hp' => Nat.ne_of_lt (Heap.lt_size (N p hp').1)
  · intro i v c oI h tk hi hv hP hoff F₁ N₁
    exact turn _ i v c oI h tk (by simpa using hv) hP hoff F₁ N₁
  · intro c h tk hP F' N'
    exact done c h tk (by simpa using hP) F' N'

def WhEnd {σ : Type} (h₀ : Heap) (L : Addr) (Fm : σ → Str → Option Value) (Led : σ → List (Addr × Obj)) (P : σ → Prop) (μ : σ → Nat) (n : Nat) (s : Shared) (Q : Flow → Shared → Prop) (f : Flow) (s₂ : Shared) : Prop := match f with
  | .ret v => Q (.ret v) s₂
  | .brk => Q .next s₂
  | _ => ∃ c h' tk', s₂ = { s with heap := h', toks := tk' } ∧ Fr h₀ L h' (Fm c) ∧ News h₀ L h' (Led c) ∧ P c ∧ μ c < n
theorem r_while {σ : Type} {L : Addr} {test : Expr} {pos : Pos} (Fm : σ → Str → Option Value) (Led : σ → List (Addr × Obj)) (P : σ → Prop) (μ : σ → Nat) (c₀ : σ)
    (F : Fr h₀ L s.heap (Fm c₀)) (N : News h₀ L s.heap (Led c₀)) (hp : P c₀)
    (turn : ∀ c h tk, P c → Fr h₀ L h (Fm c) → News h₀ L h (Led c) → wpAny (model prog w) A (isTrue test env (eval test env)) (fun b s₂ =>
        if b = true then wpAny (model prog w) A (execs body env) (WhEnd h₀ L Fm Led P μ (μ c) s Q) E s₂ else Q .next s₂) E { s with heap := h, toks := tk })
    (hE : PassesOwn (model prog w) A env E := by passes_own) :
    wpAny (model prog w) A (exec (.While test body [] pos) env) Q E s := by
  refine While_inv2 (fun n m nx => ∃ c : σ, m = Fm c ∧ nx = Led c ∧ μ c = n ∧ P c) F N ⟨c₀, rfl, rfl, rfl, hp⟩ ?_ hE
  rintro n m₁ nx h tk F₁ N₁ ⟨c, rfl, rfl, rfl, hP⟩
  refine wpAny_mono (turn c h tk hP F₁ N₁) (fun b s₂ p => ?_) fun _ _ x => x
  cases b with
  | false => simpa using p
  | true =>
    simp only [if_true] at p ⊢
    refine wpAny_mono p (fun f s₃ q => ?_) fun _ _ x => x
    cases f with
    | ret v => exact q
    | brk => exact q
    | next =>
      obtain ⟨c', h', tk', rfl, F', N', hP', hm⟩ := q
      exact ⟨h', tk', Fm c', Led c', μ c', rfl, F', N', hm, c', rfl, rfl, rfl, hP'⟩
    | cont =>
      obtain ⟨c', h', tk', rfl, F', N', hP', hm⟩ := q
      exact ⟨h', tk', Fm c', Led c', μ c', rfl, F', N', hm, c', rfl, rfl, rfl, hP'⟩
end
end Mine

end
section
open PySem PySem.W PyProof.Rows PySem.Calls PySem.Spec
namespace Mine
section
variable {prog : Program} {w : World} {A : Around} {E : Value → Shared → Prop} {s : Shared} {h₀ : Heap} {L : Addr} {m : Str → Option Value} {env : Env}
/-- what the source's value and the turns must give -/
def LcAt (prog : Program) (w : World) (A : Around) (h₀ : Heap) (L : Addr) (m : Str → Option Value) (env : Env) (elt : Expr) (x : Str) (scope : Scope) (cl : List (Str × Addr)) (Fin : Shared → List Value → List (Addr × Obj) → Prop) (xv : Value) (s₁ : Shared) : Prop :=
  ∃ n Pv news, Src prog w A xv s₁ n Pv ∧ n ≤ sizeLine ∧ Fr h₀ L s₁.heap m ∧ News h₀ L s₁.heap news ∧ ∀ g, LCg.CompRest prog w A h₀ L m env elt x scope cl { s₁ with heap := g } (fun _ => True) Pv (Fin { s₁ with heap := g }) n 0 [] news
def LcAtT (prog : Program) (w : World) (A : Around) (h₀ : Heap) (L : Addr) (m : Str → Option Value) (env : Env) (ct elt : Expr) (x : Str) (scope : Scope) (cl : List (Str × Addr)) (Fin : Shared → List Value → List (Addr × Obj) → Prop) (xv : Value) (s₁ : Shared) : Prop :=
  ∃ n Pv news, Src prog w A xv s₁ n Pv ∧ n ≤ sizeLine ∧ Fr h₀ L s₁.heap m ∧ News h₀ L s₁.heap news ∧ ∀ g, LCt.CompRestT prog w A h₀ L m env ct elt x scope cl { s₁ with heap := g } (fun _ => True) Pv (Fin { s₁ with heap := g }) n 0 [] news

theorem walks_st {I : Addr} {n : Nat} {Pv : Nat → Value → Prop} {St : Nat → Heap → Prop} (W : Walks prog w A I [I] [I] n Pv St) : ∀ i (h h' : Heap) (o : Obj) (nw : List (Addr × Obj)), St i h → h.get? I = some o → h'.get? I = some o → (∀ b o, h₀.get? b = some o → h'.get? b = some o) → News h₀ L h' nw → True → St i h' :=
  fun i h h' o nw st e e' _ _ _ => W.frame i h h' st fun b hb o' he => by rw [List.mem_singleton.mp hb] at he ⊢; rw [e] at he; rw [← he]; exact e'

theorem push_in {h : Heap} {o : Obj} {b : Addr} (hb : b ∈ [h.objs.size]) : @LT.lt Nat _ b (h.push o).objs.size := by
  rw [List.mem_singleton.mp hb, Heap.size_push]; exact Nat.lt_succ_self _
/-- a ledger lives through the turning of an object that is none of its own -/
theorem news_off {h h' : Heap} {C : Addr} {nw : List (Addr × Obj)} (N : News h₀ L h nw) (hs : Heap.SameBut C h h') (off : ∀ p ∈ nw, p.1 ≠ C) : News h₀ L h' nw := fun p hp => ⟨(hs.2 _ (off p hp)).trans (N p hp).1, (N p hp).2⟩
theorem off_too {C D : Addr} {o : Obj} {nw : List (Addr × Obj)} (hCD : C ≠ D) (off : ∀ p ∈ nw, p.1 ≠ C) : ∀ p ∈ (D, o) :: nw, p.1 ≠ C := List.forall_mem_cons.mpr ⟨Ne.symm hCD, off⟩
/-- a comprehension's end: its list is the value -/
theorem lc_endE {Q : Value → Shared → Prop} {s₀ : Shared} {h : Heap} {tk : Nat} {C D : Addr} {m' : Str → Option Value} {ys : List Value} {nw : List (Addr × Obj)} (F : Fr h₀ L h m) (N : News h₀ L h ((D, LCg.lst ys) :: nw)) (o1 : LCg.Off1 D nw) (hn : h.Ns C m') (hC₀ : h₀.get? C = none) (hCL : C ≠ L) (hCD : C ≠ D) (offC : ∀ p ∈ nw, p.1 ≠ C) (fin : LCg.FinE h₀ L m s₀ Q ys nw) :
    compPost (model prog w) A E none Q (.ref D) C (.ok .next) { s₀ with heap := h, toks := tk } :=
  ⟨m', hn, fun h' hs => fin D h' tk (F.change hs hCL hC₀) (news_off N hs (off_too hCD offC)) o1⟩
/-- a comprehension's end: its list is stored under a name -/
theorem lc_endA {y : Str} {py : Pos} {Q : Flow → Shared → Prop} {s₀ : Shared} {h : Heap} {tk : Nat} {C D : Addr} {m' : Str → Option Value} {ys : List Value} {nw : List (Addr × Obj)}
    (hy : env.kindOf y = some .local) (hp : (env.scope.kind == .class || (env.scope.kind == .module && env.locals != env.globals)) = false) (F : Fr h₀ env.locals h m) (N : News h₀ env.locals h ((D, LCg.lst ys) :: nw)) (o1 : LCg.Off1 D nw) (hn : h.Ns C m') (hC₀ : h₀.get? C = none) (hCL : C ≠ env.locals) (hCD : C ≠ D) (offC : ∀ p ∈ nw, p.1 ≠ C) (fin : LCg.FinA h₀ env.locals m s₀ y Q ys nw) :
    compPost (model prog w) A E (some (assign (.Name y py) env)) (fun _ s' => Q .next s') (.ref D) C (.ok .next) { s₀ with heap := h, toks := tk } := by
  refine wpAny_assign_Name (wpAny_storeName_local hy F.ns (fun h₂ hn₂ hs₂ => ?_) hp)
  have N₂ : News h₀ env.locals h₂ ((D, LCg.lst ys) :: nw) := news_off N hs₂ fun p hp => (N p hp).2.1
  have keep : ∀ b o, h₀.get? b = some o → h₂.get? b = some o := fun b o e => (hs₂.2 b fun q => by rw [q, Heap.get?_none_of_le F.above] at e; cases e).trans (F.keep b o e)
  exact ⟨m', hn.sameBut hs₂ hCL, fun h' hs => fin D h' _ (Fr.change ⟨hn₂, keep, F.above⟩ hs hCL hC₀) (news_off N₂ hs (off_too hCD offC)) o1⟩

theorem ListComp_src {elt iter : Expr} {x : Str} {px : Pos} {scope : Scope} {cl : List (Str × Addr)} {pos : Pos} {Q : Value → Shared → Prop} (_F₀ : Fr h₀ L s.heap m)
    (hclos : closureFor scope env = pure cl) (hcell : ∀ y ∈ scope.names, y.2 ≠ .cell) (hkind : scope.kind = .function)
    (hnames : ∀ y ∈ scope.names, y.2 = .local → scope.names.lookup y.1 = some .local) (hx : scope.names.lookup x = some .local)
    (h : wpAny (model prog w) A (eval iter env) (LcAt prog w A h₀ L m env elt x scope cl (fun s₂ => LCg.FinE h₀ L m s₂ Q)) E s)
    (hs : ∀ x, foldedSetIterable iter env x = pure x := by intro _; rfl) :
    wpAny (model prog w) A (eval (.ListComp elt [⟨.Name x px, iter, [], 0⟩] scope pos) env) Q E s := by
  rw [eval_ListComp]
  refine wpAny_comprehension_free (use := none) rfl hs hclos hkind hnames (wpAny_mono h (fun xv s₁ h₁ => ?_) fun _ _ e => e)
  obtain ⟨n, Pv, news, S, hsz, F, N, R⟩ := h₁
  refine S _ _ fun o St W hst hIo hfr => ?_
  have up : ∀ b o', s₁.heap.get? b = some o' → (s₁.heap.push o).get? b = some o' := fun b o' e => Heap.get?_push_of_some _ e
  refine LCg.block_U (s₂ := { s₁ with heap := s₁.heap.push o }) W hsz hIo (walks_st W) hcell hkind hx hst (fun b hb => push_in hb)
    (F.keeps up) (N.grown up) (Nat.ne_of_lt F.ns.lt) (next_is_new F) N.apart trivial (R _)
    fun D C h tk m' ys nw F' N' o1 hn hC₀ _ hCL _ hCD offC fin => lc_endE (s₀ := s₁) F' N' o1 hn hC₀ hCL hCD offC fin
theorem ListComp_srcT {ct elt iter : Expr} {x : Str} {px : Pos} {scope : Scope} {cl : List (Str × Addr)} {pos : Pos} {Q : Value → Shared → Prop} (_F₀ : Fr h₀ L s.heap m)
    (hclos : closureFor scope env = pure cl) (hcell : ∀ y ∈ scope.names, y.2 ≠ .cell) (hkind : scope.kind = .function)
    (hnames : ∀ y ∈ scope.names, y.2 = .local → scope.names.lookup y.1 = some .local) (hx : scope.names.lookup x = some .local)
    (h : wpAny (model prog w) A (eval iter env) (LcAtT prog w A h₀ L m env ct elt x scope cl (fun s₂ => LCg.FinE h₀ L m s₂ Q)) E s)
    (hs : ∀ x, foldedSetIterable iter env x = pure x := by intro _; rfl) :
    wpAny (model prog w) A (eval (.ListComp elt [⟨.Name x px, iter, [ct], 0⟩] scope pos) env) Q E s := by
  rw [eval_ListComp]
  refine wpAny_comprehension_free (use := none) rfl hs hclos hkind hnames (wpAny_mono h (fun xv s₁ h₁ => ?_) fun _ _ e => e)
  obtain ⟨n, Pv, news, S, hsz, F, N, R⟩ := h₁
  refine S _ _ fun o St W hst hIo hfr => ?_
  have up : ∀ b o', s₁.heap.get? b = some o' → (s₁.heap.push o).get? b = some o' := fun b o' e => Heap.get?_push_of_some _ e
  refine LCt.block_T (s₂ := { s₁ with heap := s₁.heap.push o }) W hsz hIo (walks_st W) hcell hkind hx hst (fun b hb => push_in hb)
    (F.keeps up) (N.grown up) (Nat.ne_of_lt F.ns.lt) (next_is_new F) N.apart trivial (R _)
    fun D C h tk m' ys nw F' N' o1 hn hC₀ _ hCL _ hCD offC fin => lc_endE (s₀ := s₁) F' N' o1 hn hC₀ hCL hCD offC fin
theorem Assign_ListComp_src {elt iter : Expr} {x y : Str} {px py : Pos} {scope : Scope} {cl : List (Str × Addr)} {pos spos : Pos} {Q : Flow → Shared → Prop} (_F₀ : Fr h₀ L s.heap m) (hLe : env.locals = L)
    (hsw : swapsWith (.ListComp elt [⟨.Name x px, iter, [], 0⟩] scope pos) (some (.Name y py)) spos.line env = pure true)
    (hclos : closureFor scope env = pure cl) (hcell : ∀ z ∈ scope.names, z.2 ≠ .cell) (hkind : scope.kind = .function)
    (hnames : ∀ z ∈ scope.names, z.2 = .local → scope.names.lookup z.1 = some .local) (hx : scope.names.lookup x = some .local)
    (hy : env.kindOf y = some .local) (hp : (env.scope.kind == .class || (env.scope.kind == .module && env.locals != env.globals)) = false)
    (h : wpAny (model prog w) A (eval iter env) (LcAt prog w A h₀ L m env elt x scope cl (fun s₂ => LCg.FinA h₀ L m s₂ y Q)) E s)
    (hs : ∀ x, foldedSetIterable iter env x = pure x := by intro _; rfl) :
    wpAny (model prog w) A (exec (.Assign [.Name y py] (.ListComp elt [⟨.Name x px, iter, [], 0⟩] scope pos) spos) env) Q E s := by
  subst hLe
  rw [exec_Assign_Name_used _ _ _ _ hsw]
  refine wpAny_bind (wpAny_standAt (wpAny_bind ?_))
  show wpAny _ A (do let _ ← comprehension (.ListComp elt [⟨.Name x px, iter, [], 0⟩] scope pos) scope env _ (newList []) false (eval iter env) (some (assign (.Name y py) env))) _ _ s
  refine wpAny_bind (wpAny_mono (wpAny_comprehension_free (use := some (assign (.Name y py) env)) (Q := fun _ s' => Q .next s') rfl hs hclos hkind hnames
    (wpAny_mono h (fun xv s₁ h₁ => ?_) fun _ _ e => e)) (fun _ s' hq => wpAny_pure (wpAny_pure hq)) fun _ _ e => e)
  obtain ⟨n, Pv, news, S, hsz, F, N, R⟩ := h₁
  refine S _ _ fun o St W hst hIo hfr => ?_
  have up : ∀ b o', s₁.heap.get? b = some o' → (s₁.heap.push o).get? b = some o' := fun b o' e => Heap.get?_push_of_some _ e
  refine LCg.block_U (s₂ := { s₁ with heap := s₁.heap.push o }) W hsz hIo (walks_st W) hcell hkind hx hst (fun b hb => push_in hb)
    (F.keeps up) (N.grown up) (Nat.ne_of_lt F.ns.lt) (next_is_new F) N.apart trivial (R _)
    fun D C h tk m' ys nw F' N' o1 hn hC₀ _ hCL _ hCD offC fin => lc_endA (s₀ := s₁) hy hp F' N' o1 hn hC₀ hCL hCD offC fin

abbrev Ne3 (I C D : Addr) : Prop := (@Ne Nat I C) ∧ (@Ne Nat I D) ∧ (@Ne Nat C D)
/-- a turn's end: the value and the next state -/
def EltEnd {σ : Type} (h₀ : Heap) (L : Addr) (m : Str → Option Value) (s : Shared) (I : Addr) (oI : Obj) (C : Addr) (oC : Obj) (D : Addr) (oD : Obj) (Led : σ → List (Addr × Obj)) (R : Value → σ → Prop) (y : Value) (s₂ : Shared) : Prop :=
  ∃ c h' tk, s₂ = { s with heap := h', toks := tk } ∧ Fr h₀ L h' m ∧ News h₀ L h' ((I, oI) :: (C, oC) :: (D, oD) :: Led c) ∧ LCg.Off3 I C D (Led c) ∧ R y c
theorem lc_rest {σ : Type} {elt : Expr} {x : Str} {scope : Scope} {cl : List (Str × Addr)} {n : Nat} {Pv : Nat → Value → Prop} {Fin : List Value → List (Addr × Obj) → Prop} (Led : σ → List (Addr × Obj)) (R : Nat → List Value → σ → Prop)
    (turn : ∀ i v ys c I oI C oC D m₂ h tk (E' : Value → Shared → Prop), i < n → Pv i v → R i ys c → LCg.NsObj oC m₂ → m₂ x = some v → Fr h₀ L h m → News h₀ L h ((I, oI) :: (C, oC) :: (D, LCg.lst ys) :: Led c) → LCg.Off3 I C D (Led c) → Ne3 I C D →
      wpAny (model prog w) A (eval elt (compEnvC scope cl C env)) (EltEnd h₀ L m { s with heap := h, toks := tk } I oI C oC D (LCg.lst ys) Led (fun y c' => R (i + 1) (ys ++ [y]) c')) E' { s with heap := h, toks := tk })
    (fin : ∀ ys c, R n ys c → Fin ys (Led c)) : ∀ k i ys c, i + k = n → R i ys c → LCg.CompRest prog w A h₀ L m env elt x scope cl s (fun _ => True) Pv Fin k i ys (Led c) := by
  intro k
  induction k with
  | zero => intro i ys c hi hr; obtain rfl : i = n := hi; exact LCg.CompRest.zero (fin ys c hr)
  | succ k ih =>
    intro i ys c hi hr
    refine LCg.CompRest.succ ?_
    intro v I oI C oC D m₂ h tk E' hv hC hx F N off ne
    refine wpAny_mono (turn i v ys c I oI C oC D m₂ h tk E' (by omega) hv hr hC hx F N off ne) (fun y s₂ q => ?_) fun _ _ e => e
    obtain ⟨c', h', tk', rfl, F', N', off', hr'⟩ := q
    exact ⟨h', tk', Led c', rfl, F', N', off', trivial, ih (i + 1) _ c' (by omega) hr'⟩
theorem lc_restT {σ : Type} {ct elt : Expr} {x : Str} {scope : Scope} {cl : List (Str × Addr)} {n : Nat} {Pv : Nat → Value → Prop} {Fin : List Value → List (Addr × Obj) → Prop} (Led : σ → List (Addr × Obj)) (R : Nat → List Value → σ → Prop)
    (turn : ∀ i v ys c I oI C oC D m₂ h tk (E' : Value → Shared → Prop), i < n → Pv i v → R i ys c → LCg.NsObj oC m₂ → m₂ x = some v → Fr h₀ L h m → News h₀ L h ((I, oI) :: (C, oC) :: (D, LCg.lst ys) :: Led c) → LCg.Off3 I C D (Led c) → Ne3 I C D →
      wpAny (model prog w) A (isTrue ct (compEnvC scope cl C env) (eval ct (compEnvC scope cl C env))) (fun ok s' => if ok = true then
        wpAny (model prog w) A (eval elt (compEnvC scope cl C env)) (EltEnd h₀ L m { s with heap := h, toks := tk } I oI C oC D (LCg.lst ys) Led (fun y c' => R (i + 1) (ys ++ [y]) c')) E' s'
        else EltEnd h₀ L m { s with heap := h, toks := tk } I oI C oC D (LCg.lst ys) Led (fun _ c' => R (i + 1) ys c') Value.none s') E' { s with heap := h, toks := tk })
    (fin : ∀ ys c, R n ys c → Fin ys (Led c)) : ∀ k i ys c, i + k = n → R i ys c → LCt.CompRestT prog w A h₀ L m env ct elt x scope cl s (fun _ => True) Pv Fin k i ys (Led c) := by
  intro k
  induction k with
  | zero => intro i ys c hi hr; obtain rfl : i = n := hi; exact LCt.CompRestT.zero (fin ys c hr)
  | succ k ih =>
    intro i ys c hi hr
    refine LCt.CompRestT.succ ?_
    intro v I oI C oC D m₂ h tk E' hv hC hx F N off ne
    refine wpAny_mono (turn i v ys c I oI C oC D m₂ h tk E' (by omega) hv hr hC hx F N off ne) (fun ok s₂ q => ?_) fun _ _ e => e
    cases ok with
    | true =>
      simp only [if_true] at q ⊢
      refine wpAny_mono q (fun y s₃ q => ?_) fun _ _ e => e
      obtain ⟨c', h', tk', rfl, F', N', off', hr'⟩ := q
      exact ⟨h', tk', Led c', rfl, F', N', off', trivial, ih (i + 1) _ c' (by omega) hr'⟩
    | false =>
      simp only [Bool.false_eq_true, if_false] at q ⊢
      obtain ⟨c', h', tk', rfl, F', N', off', hr'⟩ := q
      exact ⟨h', tk', Led c', rfl, F', N', off', trivial, ih (i + 1) _ c' (by omega) hr'⟩
theorem LcAt.of {σ : Type} {elt : Expr} {x : Str} {scope : Scope} {cl : List (Str × Addr)} {n : Nat} {Pv : Nat → Value → Prop} {xv : Value} {s₁ : Shared} {Fin : Shared → List Value → List (Addr × Obj) → Prop} (Led : σ → List (Addr × Obj)) (R : Nat → List Value → σ → Prop) (c₀ : σ)
    (S : Src prog w A xv s₁ n Pv) (hsz : n ≤ sizeLine) (F : Fr h₀ L s₁.heap m) (N : News h₀ L s₁.heap (Led c₀)) (hr : R 0 [] c₀)
    (turn : ∀ i v ys c I oI C oC D m₂ h tk (E' : Value → Shared → Prop), i < n → Pv i v → R i ys c → LCg.NsObj oC m₂ → m₂ x = some v → Fr h₀ L h m → News h₀ L h ((I, oI) :: (C, oC) :: (D, LCg.lst ys) :: Led c) → LCg.Off3 I C D (Led c) → Ne3 I C D →
      wpAny (model prog w) A (eval elt (compEnvC scope cl C env)) (EltEnd h₀ L m { s₁ with heap := h, toks := tk } I oI C oC D (LCg.lst ys) Led (fun y c' => R (i + 1) (ys ++ [y]) c')) E' { s₁ with heap := h, toks := tk })
    (fin : ∀ g ys c, R n ys c → Fin { s₁ with heap := g } ys (Led c)) : LcAt prog w A h₀ L m env elt x scope cl Fin xv s₁ :=
  ⟨n, Pv, Led c₀, S, hsz, F, N, fun g => lc_rest (s := { s₁ with heap := g }) Led R turn (fin g) n 0 [] c₀ (by omega) hr⟩
theorem LcAtT.of {σ : Type} {ct elt : Expr} {x : Str} {scope : Scope} {cl : List (Str × Addr)} {n : Nat} {Pv : Nat → Value → Prop} {xv : Value} {s₁ : Shared} {Fin : Shared → List Value → List (Addr × Obj) → Prop} (Led : σ → List (Addr × Obj)) (R : Nat → List Value → σ → Prop) (c₀ : σ)
    (S : Src prog w A xv s₁ n Pv) (hsz : n ≤ sizeLine) (F : Fr h₀ L s₁.heap m) (N : News h₀ L s₁.heap (Led c₀)) (hr : R 0 [] c₀)
    (turn : ∀ i v ys c I oI C oC D m₂ h tk (E' : Value → Shared → Prop), i < n → Pv i v → R i ys c → LCg.NsObj oC m₂ → m₂ x = some v → Fr h₀ L h m → News h₀ L h ((I, oI) :: (C, oC) :: (D, LCg.lst ys) :: Led c) → LCg.Off3 I C D (Led c) → Ne3 I C D →
      wpAny (model prog w) A (isTrue ct (compEnvC scope cl C env) (eval ct (compEnvC scope cl C env))) (fun ok s' => if ok = true then
        wpAny (model prog w) A (eval elt (compEnvC scope cl C env)) (EltEnd h₀ L m { s₁ with heap := h, toks := tk } I oI C oC D (LCg.lst ys) Led (fun y c' => R (i + 1) (ys ++ [y]) c')) E' s'
        else EltEnd h₀ L m { s₁ with heap := h, toks := tk } I oI C oC D (LCg.lst ys) Led (fun _ c' => R (i + 1) ys c') Value.none s') E' { s₁ with heap := h, toks := tk })
    (fin : ∀ g ys c, R n ys c → Fin { s₁ with heap := g } ys (Led c)) : LcAtT prog w A h₀ L m env ct elt x scope cl Fin xv s₁ :=
  ⟨n, Pv, Led c₀, S, hsz, F, N, fun g => lc_restT (s := { s₁ with heap := g }) Led R turn (fin g) n 0 [] c₀ (by omega) hr⟩
end
section
variable {prog : Program} {w : World} {A : Around} {E : Value → Shared → Prop} {s : Shared} {Q : Value → Shared → Prop} {u : Tok} {h₀ : Heap} {L : Addr} {news : List (Addr × Obj)}
theorem r_itemN {value slice : PySem.Expr} {l : Addr} {vs : List Value} {ns : List Int} {n : Nat} {k : Int} (N : News h₀ L s.heap news) (hm : (l, ({ cls := .type "list", data := .seq vs.toArray n } : Obj)) ∈ news) (hi : IntsAre vs ns) (h0 : 0 ≤ k) (hk : k < ns.length) (hl : ns.length ≤ 4611686018427387904)
    (h : ∀ t, Q (.int (ns.getD k.toNat 0) t) s)
    (hs : subscripted slice false (.ref l) (.int k u) = operate [.ref l, .int k u] (getItem (.ref l) (.int k u)) := by with_unfolding_all rfl) :
    wpAny (model prog w) A (subscriptTail value slice (.ref l) (.int k u)) Q E s := by
  have hlt : k.toNat < ns.length := by omega
  obtain ⟨t, hx⟩ := hi.get k.toNat ns[k.toNat] (by simp [hlt])
  have e : ns.getD k.toNat 0 = ns[k.toNat] := by simp [hlt]
  exact r_item N hm h0 (by omega) hx (by rw [← e]; exact h t) hs
end
theorem fr_cast {h₀ h : Heap} {L : Addr} {m m' : Str → Option Value} (F : Fr h₀ L h m) (e : ∀ y, m y = m' y) : Fr h₀ L h m' := by
  have : m = m' := funext e
  rw [← this]; exact F
theorem allLt_ne {d : Addr} : ∀ {r : List (Addr × Obj)}, AllLt d r → ∀ p ∈ r, p.1 ≠ d
  | [], _, _, h => nomatch h
  | _ :: _, h, _, .head _ => Nat.ne_of_lt h.1
  | _ :: _, h, _, .tail _ m => allLt_ne h.2 _ m
/-- the signs of a row of units (UTF-16), lone halves left out -/
def tu : List Int → List Int
  | [] => []
  | [u] => if 55296 ≤ u ∧ u < 56320 then [] else if 56320 ≤ u ∧ u < 57344 then [] else [u]
  | u :: v :: r => if 55296 ≤ u ∧ u < 56320 then (if 56320 ≤ v ∧ v < 57344 then (65536 + (u - 55296) * 1024 + v - 56320) :: tu r else tu (v :: r)) else if 56320 ≤ u ∧ u < 57344 then tu (v :: r) else u :: tu (v :: r)
/-- the texts of one sign each -/
def sg (cs : List Int) : List Str := cs.map fun c => ⟨#[c.toNat]⟩
theorem strs_pairs : ∀ {vs : List Value} {ys : List Str}, StrsAre vs ys → ∃ l : List (Str × Tok), vs = strValues l ∧ l.map (·.1) = ys
  | _, _, .nil => ⟨[], rfl, rfl⟩
  | _, _, .cons y t r => let ⟨l, h1, h2⟩ := strs_pairs r; ⟨(y, t) :: l, by rw [h1]; rfl, by rw [← h2]; rfl⟩
theorem strs_len : ∀ {vs : List Value} {ys : List Str}, StrsAre vs ys → vs.length = ys.length
  | _, _, .nil => rfl
  | _, _, .cons _ _ r => congrArg (· + 1) (strs_len r)
theorem strs_snoc {vs : List Value} {ys : List Str} {y : Str} {t : Tok} : StrsAre vs ys → StrsAre (vs ++ [.str y t]) (ys ++ [y]) := KStt.strs_snoc
theorem sg_snoc (cs : List Int) (c : Int) : sg cs ++ [⟨#[c.toNat]⟩] = sg (cs ++ [c]) := by simp [sg]
theorem join_sg : ∀ cs : List Int, Str.join Str.empty (sg cs) = KStt.txt cs
  | [] => rfl
  | [c] => by simp [sg, Str.join, KStt.txt]
  | c :: d :: r => by
    have ih := join_sg (d :: r)
    have e : Str.join Str.empty (sg (c :: d :: r)) = (⟨#[c.toNat]⟩ : Str) ++ Str.empty ++ Str.join Str.empty (sg (d :: r)) := rfl
    rw [e, ih]
    refine PySem.Str.ext' (Array.toList_inj.mp ?_)
    simp [PySem.Str.cps_append, KStt.txt, Str.empty]
theorem sg_length (cs : List Int) : (sg cs).length = cs.length := by simp [sg]
theorem sg_one (cs : List Int) : ∀ y ∈ sg cs, y.length ≤ 1 := by
  intro y hy
  obtain ⟨c, _, rfl⟩ := List.mem_map.mp hy
  exact Nat.le_refl _
section
variable {prog : Program} {w : World} {A : Around} {E : Value → Shared → Prop} {s : Shared} {Q : Value → Shared → Prop} {t u : Tok} {h₀ : Heap} {L : Addr} {news news' : List (Addr × Obj)} {m : Str → Option Value}
theorem r_join {D : Addr} {n : Nat} {ys : List Value} {cs : List Int} (N : News h₀ L s.heap news) (hm : (D, ({ cls := .type "list", data := .seq ys.toArray n } : Obj)) ∈ news) (hs : StrsAre ys (sg cs)) (hn : cs.length ≤ 100000)
    (h : ∀ t' k, Q (.str (KStt.txt cs) t') { s with toks := k }) : wpAny (model prog w) A (call (.builtin "str.join") [.str (Str.ofString "") t, .ref D]) Q E s := by
  obtain ⟨l, h1, h2⟩ := strs_pairs hs
  have hl : s.heap.IsList D (strValues l).toArray := ⟨_, N.get hm, rfl, n, by rw [h1]⟩
  refine SC.join hl h2 ?_ fun t' k => ?_
  · unfold JoinOk
    rw [Bool.not_eq_true']
    refine StrLaws.joinFits (sg_one cs) ?_
    rw [sg_length]
    have : (Str.ofString "").length = 0 := rfl
    rw [this]; omega
  · have e : Txt.join (Str.ofString "") (sg cs) = KStt.txt cs := (beq_iff_eq.mp (join_closes (sep := Str.ofString "") (sep' := Str.empty) (ys := sg cs) rfl)).trans (join_sg cs)
    rw [e]; exact h t' k
theorem r_append {D : Addr} {its : List Value} {n : Nat} {x : Value} (F : Fr h₀ L s.heap m) (N : News h₀ L s.heap news) (U : Upd D ({ cls := .type "list", data := .seq its.toArray n } : Obj) ({ cls := .type "list", data := .seq (its ++ [x]).toArray (n + 1) } : Obj) news news')
    (hsz : its.length ≤ 1000000) (h : ∀ h', Fr h₀ L h' m → News h₀ L h' news' → Q .none { s with heap := h' }) : wpAny (model prog w) A (call (.builtin "list.append") [.ref D, x]) Q E s := by
  refine append_K F N (its := its.toArray) (n := n) ?_ h (by rw [sizeLine_eq]; simp; omega)
  have e : its.toArray.push x = (its ++ [x]).toArray := by simp
  show Upd D (listOf its.toArray n) (listOf (its.toArray.push x) (n + 1)) news news'
  rw [e]; exact U
end
end Mine

end
section
open PySem PySem.W PyProof.Rows PySem.Calls PySem.Spec
namespace Mine
theorem r_forst {prog : Program} {w : World} {A : Around} {s : Shared} {env : Env} {h₀ : Heap} {m : Str → Option Value} {E : Value → Shared → Prop} {Q : Flow → Shared → Prop} {x : Str} {px pos : Pos} {iter : Expr} {body : List Stmt} (_F : Fr h₀ env.locals s.heap m) (hx : env.kindOf x = some .local)
    (hp : (env.scope.kind == .class || (env.scope.kind == .module && env.locals != env.globals)) = false)
    (hs : ∀ x, foldedSetIterable iter env x = pure x) (hE : PassesOwn (model prog w) A env E)
    (h : wpAny (model prog w) A (eval iter env) (fun xv s₁ => wpAny (model prog w) A (pyIter xv) (fun it s₂ => LoopAtV prog w A h₀ env x body Q E it s₂) E s₁) E s) :
    wpAny (model prog w) A (exec (.For (.Name x px) iter body [] pos) env) Q E s := For_invV h₀ hx hp h hs hE
theorem rg0 (d : Int) (h : 0 ≤ d) : Builtin.Range.rangeSize 0 d 1 = ((d.toNat : Nat) : Int) := by
  unfold Builtin.Range.rangeSize
  rw [if_pos (by decide)]
  split <;> omega
theorem sm0 (d : Int) (h0 : 0 ≤ d) (h : d ≤ 100) : Builtin.Range.small 0 d 1 = true := by
  unfold Builtin.Range.small Builtin.Range.rangeSize Builtin.Range.rangeFitsLong
  rw [if_pos (by decide)]
  by_cases h3 : (0 : Int) < d
  · rw [if_pos h3]
    simp only [Bool.and_eq_true, Bool.or_eq_true, decide_eq_true_eq]
    refine ⟨by omega, Or.inr ?_⟩
    rw [if_pos (by decide)]
    simp only [Bool.and_eq_true, decide_eq_true_eq]
    omega
  · rw [if_neg h3]
    simp only [Bool.and_eq_true, Bool.or_eq_true, decide_eq_true_eq]
    exact ⟨by omega, Or.inl rfl⟩
theorem sm2 (a d : Int) (h1 : 0 ≤ a) (h2 : a ≤ 10) (h4 : d ≤ 3000) (h5 : -10 ≤ d) : Builtin.Range.small a d 2 = true := by
  unfold Builtin.Range.small Builtin.Range.rangeSize Builtin.Range.rangeFitsLong
  rw [if_pos (by decide)]
  by_cases h3 : a < d
  · rw [if_pos h3]
    simp only [Bool.and_eq_true, Bool.or_eq_true, decide_eq_true_eq]
    refine ⟨by omega, Or.inr ?_⟩
    rw [if_pos (by decide)]
    simp only [Bool.and_eq_true, decide_eq_true_eq]
    omega
  · rw [if_neg h3]
    simp only [Bool.and_eq_true, Bool.or_eq_true, decide_eq_true_eq]
    exact ⟨by omega, Or.inl rfl⟩
section
variable {prog : Program} {w : World} {A : Around} {E : Value → Shared → Prop} {s : Shared} {h₀ : Heap} {L : Addr} {m : Str → Option Value} {env : Env}
theorem lc_restS {σ : Type} {elt : Expr} {x : Str} {scope : Scope} {cl : List (Str × Addr)} {n : Nat} {Pv : Nat → Value → Prop} {S : List (Addr × Obj) → Prop} {Fin : List Value → List (Addr × Obj) → Prop} (Led : σ → List (Addr × Obj)) (R : Nat → List Value → σ → Prop) (hS : ∀ c, S (Led c))
    (turn : ∀ i v ys c I oI C oC D m₂ h tk (E' : Value → Shared → Prop), i < n → Pv i v → R i ys c → LCg.NsObj oC m₂ → m₂ x = some v → Fr h₀ L h m → News h₀ L h ((I, oI) :: (C, oC) :: (D, LCg.lst ys) :: Led c) → LCg.Off3 I C D (Led c) → Ne3 I C D →
      wpAny (model prog w) A (eval elt (compEnvC scope cl C env)) (EltEnd h₀ L m { s with heap := h, toks := tk } I oI C oC D (LCg.lst ys) Led (fun y c' => R (i + 1) (ys ++ [y]) c')) E' { s with heap := h, toks := tk })
    (fin : ∀ ys c, R n ys c → Fin ys (Led c)) : ∀ k i ys c, i + k = n → R i ys c → LCg.CompRest prog w A h₀ L m env elt x scope cl s S Pv Fin k i ys (Led c) := by
  intro k
  induction k with
  | zero => intro i ys c hi hr; obtain rfl : i = n := hi; exact LCg.CompRest.zero (fin ys c hr)
  | succ k ih =>
    intro i ys c hi hr
    refine LCg.CompRest.succ ?_
    intro v I oI C oC D m₂ h tk E' hv hC hx F N off ne
    refine wpAny_mono (turn i v ys c I oI C oC D m₂ h tk E' (by omega) hv hr hC hx F N off ne) (fun y s₂ q => ?_) fun _ _ e => e
    obtain ⟨c', h', tk', rfl, F', N', off', hr'⟩ := q
    exact ⟨h', tk', Led c', rfl, F', N', off', hS c', ih (i + 1) _ c' (by omega) hr'⟩
theorem CompSrc_of {σ : Type} {elt : Expr} {x : Str} {scope : Scope} {cl : List (Str × Addr)} {ax : Addr} {its : List Value} {k : Nat} {s₁ : Shared} {Fin : Shared → List Value → List (Addr × Obj) → Prop} (Led : σ → List (Addr × Obj)) (R : Nat → List Value → σ → Prop) (c₀ : σ)
    (hh : A.handled = none) (F : Fr h₀ L s₁.heap m) (N : News h₀ L s₁.heap (Led c₀)) (hm : ∀ c, (ax, ({ cls := .type "list", data := .seq its.toArray k } : Obj)) ∈ Led c) (hsz : its.length ≤ 1000000) (hr : R 0 [] c₀)
    (turn : ∀ i v ys c I oI C oC D m₂ h tk (E' : Value → Shared → Prop), i < its.length → its[i]? = some v → R i ys c → LCg.NsObj oC m₂ → m₂ x = some v → Fr h₀ L h m → News h₀ L h ((I, oI) :: (C, oC) :: (D, LCg.lst ys) :: Led c) → LCg.Off3 I C D (Led c) → Ne3 I C D →
      wpAny (model prog w) A (eval elt (compEnvC scope cl C env)) (EltEnd h₀ L m { s₁ with heap := h, toks := tk } I oI C oC D (LCg.lst ys) Led (fun y c' => R (i + 1) (ys ++ [y]) c')) E' { s₁ with heap := h, toks := tk })
    (fin : ∀ g ys c, R its.length ys c → Fin { s₁ with heap := g } ys (Led c)) : LCg.CompSrc prog w A h₀ L m env elt x scope cl Fin (.ref ax) s₁ := by
  refine LCg.CompSrc.ledger hh F N (hm c₀) (by rw [sizeLine_eq]; simp; omega) fun g => ?_
  have e : its.toArray.size = its.length := by simp
  rw [e]
  exact lc_restS (s := { s₁ with heap := g }) Led R (fun c => .inr ⟨_, hm c, rfl, k, rfl⟩) (fun i v ys c I oI C oC D m₂ h tk E' hi hv => turn i v ys c I oI C oC D m₂ h tk E' hi (by simpa using hv)) (fin g) its.length 0 [] c₀ (by omega) hr
end
end Mine

end
section
open PySem PySem.W PyProof.Rows PySem.Calls PySem.Spec
namespace Mine
section
variable {prog : Program} {w : World} {A : Around} {E : Value → Shared → Prop} {s : Shared} {env : Env} {h₀ : Heap} {body : List Stmt} {Q : Flow → Shared → Prop}
/-- a for over a list of tuples, its target a tuple -/
def ForT (prog : Program) (w : World) (A : Around) (h₀ : Heap) (env : Env) (elts : List Expr) (x1 : Nat) (pt : Pos) (body : List Stmt) (Q : Flow → Shared → Prop) (E : Value → Shared → Prop) (xv : Value) (s : Shared) : Prop :=
  ∃ (σ : Type) (l : Addr) (vs : List Value) (k : Nat) (Fm : σ → Str → Option Value) (Led : σ → List (Addr × Obj)) (P : Nat → σ → Prop) (c₀ : σ), xv = .ref l ∧ (∀ v ∈ vs, ∃ T, v = .ref T) ∧ Fr h₀ env.locals s.heap (Fm c₀) ∧ News h₀ env.locals s.heap (Led c₀) ∧ News h₀ env.locals s.heap [(l, lstO vs k)] ∧ P 0 c₀ ∧
    (∀ I i v c oI h tk, vs[i]? = some v → P i c → (∀ p ∈ Led c, p.1 ≠ I) → Fr h₀ env.locals h (Fm c) → News h₀ env.locals h ((I, oI) :: (l, lstO vs k) :: Led c) →
      wpAny (model prog w) A (assign (.Tuple elts x1 pt) env v) (fun _ s₂ => wpAny (model prog w) A (execs body env) (TurnEnd h₀ env.locals Fm Led (P (i + 1)) [(I, oI), (l, lstO vs k)] I s Q) E s₂) E { s with heap := h, toks := tk }) ∧
    (∀ c h tk, P vs.length c → Fr h₀ env.locals h (Fm c) → News h₀ env.locals h (Led c) → Q .next { s with heap := h, toks := tk })
theorem r_forT {elts : List Expr} {x1 : Nat} {pt pos : Pos} {iter : Expr} {m : Str → Option Value} (_F : Fr h₀ env.locals s.heap m) (hh : A.handled = none)
    (h : wpAny (model prog w) A (eval iter env) (ForT prog w A h₀ env elts x1 pt body Q E) E s)
    (hs : ∀ x, foldedSetIterable iter env x = pure x) (hE : PassesOwn (model prog w) A env E) :
    wpAny (model prog w) A (exec (.For (.Tuple elts x1 pt) iter body [] pos) env) Q E s := by
  refine wpAny_For (wpAny_mono h (fun xv s₁ h₁ => ?_) fun _ _ e => e) hs
  obtain ⟨σ, l, vs, k, Fm, Led, P, c₀, rfl, hvs, F, N, Nl, hp, turn, done⟩ := h₁
  have hl0 := (Nl (l, lstO vs k) (.head _))
  have hls : s₁.heap.IsList l vs.toArray := ⟨_, hl0.1, rfl, k, rfl⟩
  refine wpAny_pyIter_list hls ?_
  have hlt : l < s₁.heap.objs.size := Heap.lt_size hl0.1
  have hne : l ≠ s₁.heap.objs.size := Nat.ne_of_lt hlt
  have W := Walks.list (prog := prog) (w := w) (A := A) hh s₁.heap.objs.size l hne vs.toArray
  generalize hI : s₁.heap.objs.size = I at *
  have hsz : vs.toArray.size = vs.length := by simp
  have hLI : env.locals ≠ I := by rw [← hI]; exact Nat.ne_of_lt F.ns.lt
  have hI0 : h₀.get? I = none := by rw [← hI]; exact next_is_new F
  have up : ∀ b o' (o : Obj), s₁.heap.get? b = some o' → (s₁.heap.push o).get? b = some o' := fun b o' o e => Heap.get?_push_of_some _ e
  have hq : ∀ o : Obj, o.isFreed = false → (s₁.heap.push o).get? I = some o := fun o ho => by rw [← hI]; exact Heap.get?_push_size _ ho
  refine codeAny_forLoop_any (R := fun r s' => match r with | .ok f => Q f s' | .error e => cameBackBy (model prog w) A env E e s')
    (fun kk s' => ∃ h' tk c i, s' = { s₁ with heap := h', toks := tk } ∧ h'.IsListIter I l i ∧ Fr h₀ env.locals h' (Fm c) ∧ News h₀ env.locals h' ((l, lstO vs k) :: Led c) ∧ (∀ p ∈ Led c, p.1 ≠ I) ∧ P i c ∧ i ≤ vs.length ∧ kk = vs.length + 1 - i) ?_ (vs.length + 1)
    ⟨_, _, c₀, 0, rfl, ⟨_, hq _ rfl, rfl, rfl⟩, F.keeps fun b o e => up b o _ e, ?_, ?_, hp, Nat.zero_le _, rfl⟩
  · rintro kk s' ⟨h', tk, c, i, rfl, hit, F', N', hoff, hP, hi, rfl⟩
    have hll : h'.IsList l vs.toArray := ⟨_, (N' (l, lstO vs k) (.head _)).1, rfl, k, rfl⟩
    have next : ∀ h₁ : Heap, (∀ b o, b ∉ [I] → h'.get? b = some o → h₁.get? b = some o) → Fr h₀ env.locals h₁ (Fm c) ∧ News h₀ env.locals h₁ ((l, lstO vs k) :: Led c) := fun h₁ hk₁ =>
      ⟨⟨F'.ns.at' fun o e => hk₁ _ o (fun q => hLI (List.mem_singleton.mp q)) e, fun b o e => hk₁ b o (fun q => by rw [List.mem_singleton.mp q, hI0] at e; cases e) (F'.keep b o e), F'.above⟩,
        fun p hp => ⟨hk₁ _ _ (fun q => by
          rcases List.mem_cons.mp hp with rfl | hp
          · exact hne (List.mem_singleton.mp q)
          · exact hoff p hp (List.mem_singleton.mp q)) (N' p hp).1, (N' p hp).2⟩⟩
    by_cases hlt2 : i < vs.length
    · refine W.item i _ _ _ (by rw [hsz]; exact hlt2) ⟨hit, hll⟩ fun v h₁ tk₁ hv hst₁ hk₁ => ?_
      obtain ⟨F₁, N₁⟩ := next h₁ hk₁
      have hv' : vs[i]? = some v := by simpa using hv
      obtain ⟨T, rfl⟩ := hvs v (List.mem_of_getElem? hv')
      refine wpAny_letOwnedTupleGo_listiter hst₁.1 ?_
      obtain ⟨oI, hoI, hoc, hod⟩ := hst₁.1
      refine wpAny_passesOwn hE ?_
      refine wpAny_mono (turn I i _ c oI h₁ tk₁ hv' hP hoff F₁ (news_pick (x := (I, oI)) (big := [(I, oI)]) (fun p hp => by rw [List.mem_singleton.mp hp]; exact ⟨hoI, Ne.symm hLI, hI0⟩) (.head _) N₁)) (fun _ s₂ q => wpAny_passesOwn hE (wpAny_mono q (fun f s₃ q3 => ?_) fun _ _ e => e)) fun _ _ e => e
      have fin : (∃ c h' tk', s₃ = { s₁ with heap := h', toks := tk' } ∧ Fr h₀ env.locals h' (Fm c) ∧ News h₀ env.locals h' ([(I, oI), (l, lstO vs k)] ++ Led c) ∧ (∀ p ∈ Led c, p.1 ≠ I) ∧ P (i + 1) c) →
          ∃ m, m < vs.length + 1 - i ∧ ∃ h' tk c i, s₃ = { s₁ with heap := h', toks := tk } ∧ h'.IsListIter I l i ∧ Fr h₀ env.locals h' (Fm c) ∧ News h₀ env.locals h' ((l, lstO vs k) :: Led c) ∧ (∀ p ∈ Led c, p.1 ≠ I) ∧ P i c ∧ i ≤ vs.length ∧ m = vs.length + 1 - i := by
        rintro ⟨c', h3, tk3, rfl, F3, N3, hoff3, hP3⟩
        exact ⟨vs.length + 1 - (i + 1), by omega, h3, tk3, c', i + 1, rfl, ⟨oI, (N3 (I, oI) (.head _)).1, hoc, hod⟩, F3, fun p hp => N3 p (.tail _ hp), hoff3, hP3, hlt2, rfl⟩
      cases f with
      | ret v => exact q3
      | brk => exact q3
      | next => exact fin q3
      | cont => exact fin q3
    · have hin : i = vs.length := by omega
      subst hin
      refine W.done _ _ _ (by rw [hsz]; exact ⟨hit, hll⟩) fun h₁ tk₁ hk₁ => wpAny_execs_nil ?_
      obtain ⟨F₁, N₁⟩ := next h₁ hk₁
      exact done c h₁ tk₁ hP F₁ fun p hp => N₁ p (.tail _ hp)
  · intro p hp
    rcases List.mem_cons.mp hp with rfl | hp
    · exact ⟨up _ _ _ hl0.1, hl0.2⟩
    · exact ⟨up _ _ _ (N p hp).1, (N p hp).2⟩
  · intro p hp; rw [← hI]; exact Nat.ne_of_lt (Heap.lt_size (N p hp).1)
end
end Mine

end
section
open PySem PySem.W PyProof.Rows PySem.Calls PySem.Spec
namespace Mine
section
variable {prog : Program} {w : World} {A : Around} {E : Value → Shared → Prop} {s : Shared} {h₀ : Heap} {L : Addr} {m : Str → Option Value} {env : Env}
def PairTurn {σ : Type} (prog : Program) (w : World) (A : Around) (h₀ : Heap) (L : Addr) (m : Str → Option Value) (env : Env) (elt : Expr) (x x₂ : Str) (scope : Scope) (cl : List (Str × Addr)) (s : Shared) (Led : σ → List (Addr × Obj)) (R : Nat → List Value → σ → Prop) (i : Nat) (v : Value) (ys : List Value) (c : σ) : Prop :=
  ∃ (t : Addr) (ot : Obj) (v₁ v₂ : Value) (nt : Nat), v = .ref t ∧ (t, ot) ∈ Led c ∧ ot.cls = .type "tuple" ∧ ot.data = .seq #[v₁, v₂] nt ∧
    ∀ I oI C oC D m₂ h tk (E' : Value → Shared → Prop), LCg.NsObj oC m₂ → m₂ x = some v₁ → m₂ x₂ = some v₂ → Fr h₀ L h m → News h₀ L h ((I, oI) :: (C, oC) :: (D, LCg.lst ys) :: Led c) → LCg.Off3 I C D (Led c) → Ne3 I C D →
      wpAny (model prog w) A (eval elt (compEnvC scope cl C env)) (EltEnd h₀ L m { s with heap := h, toks := tk } I oI C oC D (LCg.lst ys) Led (fun y c' => R (i + 1) (ys ++ [y]) c')) E' { s with heap := h, toks := tk }
theorem lc_restP {σ : Type} {elt : Expr} {x x₂ : Str} {scope : Scope} {cl : List (Str × Addr)} {n : Nat} {Pv : Nat → Value → Prop} {S : List (Addr × Obj) → Prop} {Fin : List Value → List (Addr × Obj) → Prop} (Led : σ → List (Addr × Obj)) (R : Nat → List Value → σ → Prop) (hS : ∀ c, S (Led c))
    (turn : ∀ i v ys c, i < n → Pv i v → R i ys c → PairTurn prog w A h₀ L m env elt x x₂ scope cl s Led R i v ys c)
    (fin : ∀ ys c, R n ys c → Fin ys (Led c)) : ∀ k i ys c, i + k = n → R i ys c → LCp.CompRestP prog w A h₀ L m env elt x x₂ scope cl s S Pv Fin k i ys (Led c) := by
  intro k
  induction k with
  | zero => intro i ys c hi hr; obtain rfl : i = n := hi; exact LCp.CompRestP.zero (fin ys c hr)
  | succ k ih =>
    intro i ys c hi hr
    refine LCp.CompRestP.succ ?_
    intro v hv
    obtain ⟨t, ot, v₁, v₂, nt, e, hm, hc, hd, go⟩ := turn i v ys c (by omega) hv hr
    refine ⟨t, ot, v₁, v₂, nt, e, hm, hc, hd, ?_⟩
    intro I oI C oC D m₂ h tk E' hC hx hx₂ F N off ne
    refine wpAny_mono (go I oI C oC D m₂ h tk E' hC hx hx₂ F N off ne) (fun y s₂ q => ?_) fun _ _ e => e
    obtain ⟨c', h', tk', rfl, F', N', off', hr'⟩ := q
    exact ⟨h', tk', Led c', rfl, F', N', off', hS c', ih (i + 1) _ c' (by omega) hr'⟩
theorem SrcLP_of4 {elt : Expr} {x x₂ : Str} {scope : Scope} {cl : List (Str × Addr)} {ax : Addr} {its : List Value} {k : Nat} {s₁ : Shared} {Fin : Shared → List Value → List (Addr × Obj) → Prop} {a2 a3 a4 : Addr × Obj} {rest : List (Addr × Obj)} (R : Nat → List Value → List (Addr × Obj) → Prop)
    (hh : A.handled = none) (F : Fr h₀ L s₁.heap m) (N : News h₀ L s₁.heap ((ax, lstO its k) :: a2 :: a3 :: a4 :: rest)) (hsz : its.length ≤ 1000000) (hr : R 0 [] [])
    (turn : ∀ i v ys c, i < its.length → its[i]? = some v → R i ys c → PairTurn prog w A h₀ L m env elt x x₂ scope cl s₁ (fun c => (ax, lstO its k) :: a2 :: a3 :: a4 :: (c ++ rest)) R i v ys c)
    (fin : ∀ g ys c, R its.length ys c → Fin { s₁ with heap := g } ys ((ax, lstO its k) :: a2 :: a3 :: a4 :: (c ++ rest))) : LCp.SrcLP prog w A h₀ L m env elt x x₂ scope cl Fin (.ref ax) s₁ := by
  refine LCp.SrcLP.ledger (k := k) hh F N (.head _) (by rw [sizeLine_eq]; simp; omega) fun g => ?_
  have e : its.toArray.size = its.length := by simp
  rw [e]
  exact lc_restP (s := { s₁ with heap := g }) (fun c => (ax, lstO its k) :: a2 :: a3 :: a4 :: (c ++ rest)) R (fun c => .inr ⟨_, .head _, rfl, k, rfl⟩) (fun i v ys c hi hv hR => turn i v ys c hi (by simpa using hv) hR) (fin g) its.length 0 [] [] (by omega) hr
end
end Mine

end
section
open PySem PySem.W PyProof.Rows PySem.Calls PySem.Spec PySem.SeqAt
namespace Mine
/-- the data that are compared: no lists, depth n at most -/
def dep : Nat → Dat → Bool
  | _, .none => true
  | _, .int _ => true
  | _, .str _ => true
  | _, .bytes _ => true
  | n + 1, .tuple ds => ds.all (dep n)
  | _, _ => false
section
variable {prog : Program} {w : World} {A : Around} {E : Value → Shared → Prop} {s : Shared} {h₀ : Heap} {L : Addr} {news : List (Addr × Obj)}
theorem datAll_at {vs : List Value} {ds : List Dat} (h : DatAll news vs ds) {j : Nat} (hj : j < vs.length) : ∃ d, ds[j]? = some d ∧ DatIn news vs[j] d := by
  have hl := h.length
  obtain ⟨v, h1, h2⟩ := h.get (k := j) (by omega)
  obtain ⟨h3, h4⟩ := List.getElem?_eq_some_iff.mp h1
  exact ⟨ds[j], List.getElem?_eq_getElem _, by rw [h4]; exact h2⟩
theorem range_all (n m : Nat) (h : n = m) : ((List.range (min n m)).all (fun _ => true) && n == m) = true := by
  subst h; simp
theorem dat_eq (N : News h₀ L s.heap news) : ∀ (n : Nat) (A : Around) (v u : Value) (d : Dat), dep n d = true → DatIn news v d → DatIn news u d → A.units + n < cLine → EqAt A s v u true := by
  have leaf : ∀ (n : Nat) (A : Around) (v u : Value) (d : Dat), (∀ ds, d ≠ .tuple ds) → dep n d = true → DatIn news v d → DatIn news u d → EqAt A s v u true := by
    intro n A v u d ht hd hv hu
    cases d with
    | none => cases hv; cases hu; exact EqAt.same _
    | bool b => cases n <;> simp [dep] at hd
    | int i => cases hv; cases hu; simpa using EqAt.int_int (A := A) (s := s) i _ i _
    | str x => cases hv; cases hu; simpa using EqAt.str_str (A := A) (s := s) x _ x _
    | bytes b => cases hv; cases hu; exact fun prog w E Q hq => eqBool_bytes (by simpa using hq)
    | tuple ds => exact absurd rfl (ht ds)
    | list ds => cases n <;> simp [dep] at hd
  intro n
  induction n with
  | zero =>
    intro A v u d hd hv hu hA
    refine leaf 0 A v u d (fun ds e => ?_) hd hv hu
    subst e; simp [dep] at hd
  | succ n ih =>
    intro A v u d hd hv hu hA
    by_cases ht : ∃ ds, d = .tuple ds
    · obtain ⟨ds, rfl⟩ := ht
      simp only [dep, List.all_eq_true] at hd
      cases hv with
      | @tuple a vs k _ ha hva =>
      cases hu with
      | @tuple b us k' _ hb hua =>
      by_cases hab : a = b
      · subst hab; exact EqAt.same _
      have l1 := hva.length
      have l2 := hua.length
      have ha' : s.heap.IsTuple a vs.toArray := ⟨_, N.get ha, rfl, k, rfl⟩
      have hb' : s.heap.IsTuple b us.toArray := ⟨_, N.get hb, rfl, k', rfl⟩
      have q := RcAt.tuples (A := A) (e := fun _ => true) ha' hb' (by omega) (fun j j1 j2 => by
        obtain ⟨d1, e1, q1⟩ := datAll_at hva (j := j) (by simpa using j1)
        obtain ⟨d2, e2, q2⟩ := datAll_at hua (j := j) (by simpa using j2)
        rw [e1] at e2; cases e2
        simpa using ih A.in1 _ _ d1 (hd _ (List.mem_of_getElem? e1)) q1 q2 (by rw [units_in1]; omega))
      rw [range_all _ _ (by simp [l1, l2])] at q
      exact EqAt.of_refs hab q
    · exact leaf (n + 1) A v u d (fun ds e => ht ⟨ds, e⟩) hd hv hu
theorem r_neTup {a b : Addr} {ds : List Dat} {Q : Value → Shared → Prop} (n : Nat) (N : News h₀ L s.heap news) (ha : DatIn news (.ref a) (.tuple ds)) (hb : DatIn news (.ref b) (.tuple ds)) (hd : ∀ d ∈ ds, dep n d = true) (hA : A.units + n + 1 < cLine)
    (h : Q (.bool false) s) : wpAny (model prog w) A (compareOp .NotEq (.ref a) (.ref b)) Q E s := by
  cases ha with
  | @tuple _ vs k _ ha hva =>
  cases hb with
  | @tuple _ us k' _ hb hua =>
  have l1 := hva.length
  have l2 := hua.length
  have ha' : s.heap.IsTuple a vs.toArray := ⟨_, N.get ha, rfl, k, rfl⟩
  have hb' : s.heap.IsTuple b us.toArray := ⟨_, N.get hb, rfl, k', rfl⟩
  have q := RcNeAt.tuples (A := A) (e := fun _ => true) ha' hb' (by omega) (fun j j1 j2 => by
    obtain ⟨d1, e1, q1⟩ := datAll_at hva (j := j) (by simpa using j1)
    obtain ⟨d2, e2, q2⟩ := datAll_at hua (j := j) (by simpa using j2)
    rw [e1] at e2; cases e2
    simpa using dat_eq N n A.in1 _ _ d1 (hd _ (List.mem_of_getElem? e1)) q1 q2 (by rw [units_in1]; omega))
  rw [range_all _ _ (by simp [l1, l2])] at q
  exact q prog w E Q h
theorem r_neList {a b : Addr} {vs us : List Value} {k k' : Nat} {ds : List Dat} {Q : Value → Shared → Prop} (n : Nat) (N : News h₀ L s.heap news) (ha : (a, lstO vs k) ∈ news) (hb : (b, lstO us k') ∈ news) (hva : DatAll news vs ds) (hua : DatAll news us ds) (hd : ∀ d ∈ ds, dep n d = true) (hA : A.units + n + 1 < cLine)
    (h : Q (.bool false) s) : wpAny (model prog w) A (compareOp .NotEq (.ref a) (.ref b)) Q E s := by
  have l1 := hva.length
  have l2 := hua.length
  have ha' : s.heap.IsList a vs.toArray := ⟨_, N.get ha, rfl, k, rfl⟩
  have hb' : s.heap.IsList b us.toArray := ⟨_, N.get hb, rfl, k', rfl⟩
  have q := RcNeAt.lists (A := A) (e := fun _ => true) ha' hb' (by simp [l1, l2]) (by omega) (fun j j1 j2 => by
    obtain ⟨d1, e1, q1⟩ := datAll_at hva (j := j) (by simpa using j1)
    obtain ⟨d2, e2, q2⟩ := datAll_at hua (j := j) (by simpa using j2)
    rw [e1] at e2; cases e2
    simpa using dat_eq N n A.in1 _ _ d1 (hd _ (List.mem_of_getElem? e1)) q1 q2 (by rw [units_in1]; omega))
  rw [show ((List.range vs.toArray.size).all fun _ => true) = true from by simp] at q
  exact q prog w E Q h
theorem r_eqList {a b : Addr} {vs us : List Value} {k k' : Nat} {ds : List Dat} {Q : Value → Shared → Prop} (n : Nat) (N : News h₀ L s.heap news) (ha : (a, lstO vs k) ∈ news) (hb : (b, lstO us k') ∈ news) (hva : DatAll news vs ds) (hua : DatAll news us ds) (hd : ∀ d ∈ ds, dep n d = true) (hA : A.units + n + 1 < cLine)
    (h : Q (.bool true) s) : wpAny (model prog w) A (compareOp .Eq (.ref a) (.ref b)) Q E s := by
  have l1 := hva.length
  have l2 := hua.length
  have ha' : s.heap.IsList a vs.toArray := ⟨_, N.get ha, rfl, k, rfl⟩
  have hb' : s.heap.IsList b us.toArray := ⟨_, N.get hb, rfl, k', rfl⟩
  have q := RcAt.lists (A := A) (e := fun _ => true) ha' hb' (by simp [l1, l2]) (by omega) (fun j j1 j2 => by
    obtain ⟨d1, e1, q1⟩ := datAll_at hva (j := j) (by simpa using j1)
    obtain ⟨d2, e2, q2⟩ := datAll_at hua (j := j) (by simpa using j2)
    rw [e1] at e2; cases e2
    simpa using dat_eq N n A.in1 _ _ d1 (hd _ (List.mem_of_getElem? e1)) q1 q2 (by rw [units_in1]; omega))
  rw [show ((List.range vs.toArray.size).all fun _ => true) = true from by simp] at q
  exact q prog w E Q h
end
end Mine

end
section
open PySem PySem.W PyProof.Rows PySem.Calls PySem.Spec
namespace Mine
abbrev quad (a b c d : Value) (n : Nat := 0) : Obj := { cls := .type "tuple", data := .seq [a, b, c, d].toArray n }
section
variable {prog : Program} {w : World} {A : Around} {E : Value → Shared → Prop} {s : Shared} {h₀ : Heap} {L : Addr} {m : Str → Option Value} {env : Env}
/-- a list of one tuple of four, and what the one turn makes -/
def Src4 (prog : Program) (w : World) (A : Around) (h₀ : Heap) (L : Addr) (m : Str → Option Value) (env : Env) (elt : Expr) (x1 x2 x3 x4 : Str) (scope : Scope) (cl : List (Str × Addr)) (Fin : Shared → List Value → List (Addr × Obj) → Prop) (xv : Value) (s₁ : Shared) : Prop :=
  ∃ (ax t : Addr) (k nt : Nat) (v1 v2 v3 v4 : Value) (news : List (Addr × Obj)), xv = .ref ax ∧ Fr h₀ L s₁.heap m ∧ News h₀ L s₁.heap news ∧ (ax, lstO [.ref t] k) ∈ news ∧ (t, quad v1 v2 v3 v4 nt) ∈ news ∧
    ∀ g I oI C oC D m₂ h tk (E' : Value → Shared → Prop), LCg.NsObj oC m₂ → m₂ x1 = some v1 → m₂ x2 = some v2 → m₂ x3 = some v3 → m₂ x4 = some v4 → Fr h₀ L h m → News h₀ L h ((I, oI) :: (C, oC) :: (D, LCg.lst []) :: news) → LCg.Off3 I C D news → Ne3 I C D →
      wpAny (model prog w) A (eval elt (compEnvC scope cl C env)) (EltEnd h₀ L m { s₁ with heap := h, toks := tk } I oI C oC D (LCg.lst []) (fun c => c) (fun y c => (ax, lstO [.ref t] k) ∈ c ∧ Fin { s₁ with heap := g } [y] c)) E' { s₁ with heap := h, toks := tk }
theorem block4 {elt iter : Expr} {x1 x2 x3 x4 : Str} {p1 p2 p3 p4 tp : Pos} {kk} {scope : Scope} {cl : List (Str × Addr)} {pos : Pos} {s₂ : Shared} {I ax t : Addr} {k nt : Nat} {v1 v2 v3 v4 : Value} {news : List (Addr × Obj)} {Fin : List Value → List (Addr × Obj) → Prop} {RR : Value → Addr → Result → Shared → Prop}
    (hh : A.handled = none) (hax : ax ≠ I) (hcell : ∀ y ∈ scope.names, y.2 ≠ .cell) (hkind : scope.kind = .function) (hx1 : scope.names.lookup x1 = some .local) (hx2 : scope.names.lookup x2 = some .local) (hx3 : scope.names.lookup x3 = some .local) (hx4 : scope.names.lookup x4 = some .local)
    (d12 : x1 ≠ x2) (d13 : x1 ≠ x3) (d14 : x1 ≠ x4) (d23 : x2 ≠ x3) (d24 : x2 ≠ x4) (d34 : x3 ≠ x4)
    (hst : s₂.heap.IsListIter I ax 0) (F : Fr h₀ L s₂.heap m) (N : News h₀ L s₂.heap news) (hIL : L ≠ I) (hI₀ : h₀.get? I = none) (off : ∀ p ∈ news, p.1 ≠ I) (hm1 : (ax, lstO [.ref t] k) ∈ news) (hm2 : (t, quad v1 v2 v3 v4 nt) ∈ news)
    (R : ∀ oI C oC D m₂ h tk (E' : Value → Shared → Prop), LCg.NsObj oC m₂ → m₂ x1 = some v1 → m₂ x2 = some v2 → m₂ x3 = some v3 → m₂ x4 = some v4 → Fr h₀ L h m → News h₀ L h ((I, oI) :: (C, oC) :: (D, LCg.lst []) :: news) → LCg.Off3 I C D news → Ne3 I C D →
      wpAny (model prog w) A (eval elt (compEnvC scope cl C env)) (EltEnd h₀ L m { s₂ with heap := h, toks := tk } I oI C oC D (LCg.lst []) (fun c => c) (fun y c => (ax, lstO [.ref t] k) ∈ c ∧ Fin [y] c)) E' { s₂ with heap := h, toks := tk })
    (hRR : ∀ D C h tk m' ys news', Fr h₀ L h m → News h₀ L h ((D, LCg.lst ys) :: news') → LCg.Off1 D news' → h.Ns C m' → h₀.get? C = none → h₀.get? D = none → C ≠ L → D ≠ L → C ≠ D → (∀ p ∈ news', p.1 ≠ C) → Fin ys news' → RR (.ref D) C (.ok .next) { s₂ with heap := h, toks := tk }) :
    wpAny (model prog w) A (newList []) (fun acc s₃ => wpAny (model prog w) A (newFunctionEnv scope env.globals cl [] env.qual none .none (some env)) (fun cenv s₄ =>
      codeAny (model prog w) A (.compStart (.ListComp elt [⟨.Tuple [.Name x1 p1, .Name x2 p2, .Name x3 p3, .Name x4 p4] kk tp, iter, [], 0⟩] scope pos) 0 (.ref I) acc { cenv with scope := relabel scope env }) (RR acc cenv.locals) s₄) E s₃) E s₂ := by
  have W := Walks.list (prog := prog) (w := w) (A := A) hh I ax hax #[Value.ref t]
  have hIlt : I < s₂.heap.objs.size := by obtain ⟨o, e, _⟩ := hst; exact Heap.lt_size e
  have haxlt : ax < s₂.heap.objs.size := Heap.lt_size (N _ hm1).1
  refine wpAny_newObj_type (wpAny_newFunctionEnv hcell (by intro y hy; simp at hy) (fun h₁ hns₁ hsb₁ => ?_) hkind)
  dsimp only at hns₁ hsb₁ ⊢
  generalize hH2 : s₂.heap.push { cls := .type "list", dict := none, data := .seq ([] : List Value).toArray } = H2 at hns₁ hsb₁ ⊢
  generalize hCe : H2.objs.size = C at *
  generalize hDe : s₂.heap.objs.size = D at *
  have hC : C = D + 1 := by rw [← hCe, ← hH2, Heap.size_push, hDe]
  have hDC : D ≠ C := by rw [hC]; exact Nat.ne_of_lt (Nat.lt_succ_self _)
  have below : ∀ b, b < D → b ≠ C ∧ b ≠ D := fun b hb => ⟨by rw [hC]; exact Nat.ne_of_lt (Nat.lt_succ_of_lt hb), Nat.ne_of_lt hb⟩
  have old : ∀ b o, s₂.heap.get? b = some o → h₁.get? b = some o := fun b o e => hsb₁.extBut b o (below b (hDe ▸ Heap.lt_size e)).1 (Heap.get?_push_of_some _ (hH2 ▸ Heap.get?_push_of_some _ e))
  have hacc : h₁.get? D = some (LCg.lst []) := hsb₁.extBut _ _ hDC (Heap.get?_push_of_some _ (by rw [← hH2, ← hDe]; exact Heap.get?_push_size _ rfl))
  have fresh₀ : ∀ a, D ≤ a → h₀.get? a = none := fun a ha => by
    cases e : h₀.get? a with
    | none => rfl
    | some o' => exact absurd (Heap.lt_size (F.keep a o' e)) (by rw [hDe]; exact Nat.not_lt.mpr ha)
  have hD₀ : h₀.get? D = none := fresh₀ _ (Nat.le_refl _)
  have hC₀ : h₀.get? C = none := fresh₀ _ (by rw [hC]; exact Nat.le_succ _)
  have hLlt : L < D := hDe ▸ F.ns.lt
  have hDL : D ≠ L := Ne.symm (below L hLlt).2
  have hCL : C ≠ L := Ne.symm (below L hLlt).1
  have hIC : I ≠ C := (below I hIlt).1
  have hID : I ≠ D := (below I hIlt).2
  have off₀ : LCg.Off3 I C D news := LCg.Off3.of fun p hp => ⟨off p hp, (below _ (hDe ▸ Heap.lt_size (N p hp).1)).1, (below _ (hDe ▸ Heap.lt_size (N p hp).1)).2⟩
  have hs1 : h₁.IsListIter I ax 0 ∧ h₁.IsList ax #[Value.ref t] := ⟨by obtain ⟨o, e, r⟩ := hst; exact ⟨o, old _ _ e, r⟩, ⟨_, old _ _ (N _ hm1).1, rfl, k, rfl⟩⟩
  have loop : ∀ s₃ : Shared, s₃ = { s₂ with heap := h₁, toks := s₂.toks + ([] : List (Str × Value)).length } →
      codeAny (model prog w) A (.compLoop (.ListComp elt [⟨.Tuple [.Name x1 p1, .Name x2 p2, .Name x3 p3, .Name x4 p4] kk tp, iter, [], 0⟩] scope pos) 0 (.ref I) (.ref D) (compEnvC scope cl C env)) (RR (.ref D) C) s₃ := by
    rintro s₃ rfl
    refine kcp_loop
      (fun n s' => (n = 1 ∧ s' = { s₂ with heap := h₁, toks := s₂.toks + ([] : List (Str × Value)).length }) ∨
        (n = 0 ∧ ∃ h' tk m' y news', s' = { s₂ with heap := h', toks := tk } ∧ (h'.IsListIter I ax 1 ∧ h'.IsList ax #[Value.ref t]) ∧ Fr h₀ L h' m ∧ h'.Ns C m' ∧ News h₀ L h' ((D, LCg.lst [y]) :: news') ∧ LCg.Off3 I C D news' ∧ Fin [y] news')) ?_ 1 (.inl ⟨rfl, rfl⟩)
    rintro n s' (⟨rfl, rfl⟩ | ⟨rfl, h', tk, m', y, news', rfl, hst', F', hn', N', off', hf⟩)
    · refine W.item 0 _ _ _ (by simp) hs1 fun v h₂ tk₂ hPv hst₂ hk₂ => ?_
      obtain rfl : Value.ref t = v := by simpa using hPv
      have off3 := off₀.mem
      have hkI : ∀ b o, b ≠ I → h₁.get? b = some o → h₂.get? b = some o := fun b o hb e => hk₂ b o (by simpa using hb) e
      have ht : IsTup h₂ t #[v1, v2, v3, v4] := ⟨_, hkI _ _ (off3 _ hm2).1 (old _ _ (N _ hm2).1), rfl, nt, rfl⟩
      obtain ⟨oL, eL, cL, dL⟩ := id hst₂.1
      refine wpAny_letOwnedTupleGo_listiter hst₂.1 ?_
      refine assign_Tuple_tuple hh ht rfl rfl fun h₅ he => ?_
      have he' : ∀ b o, h₂.get? b = some o → h₅.get? b = some o := fun b o e => he b o (Nat.ne_of_lt (Heap.lt_size e)) e
      have n5 : h₅.Ns C _ := (hns₁.at' fun o e => hkI _ o (Ne.symm hIC) e).at' fun o e => he' _ o e
      have kd : ((compEnvC scope cl C env).scope.kind == .class || ((compEnvC scope cl C env).scope.kind == .module && (compEnvC scope cl C env).locals != (compEnvC scope cl C env).globals)) = false := by simp [compEnvC, relabel, hkind]
      refine assignInOrder_cons (wpAny_assign_Name (wpAny_storeName_local (lookup_relabel_local hx1) n5 (fun a1 na1 sa1 => ?_) kd))
      refine assignInOrder_cons (wpAny_assign_Name (wpAny_storeName_local (lookup_relabel_local hx2) na1 (fun a2 na2 sa2 => ?_) kd))
      refine assignInOrder_cons (wpAny_assign_Name (wpAny_storeName_local (lookup_relabel_local hx3) na2 (fun a3 na3 sa3 => ?_) kd))
      refine assignInOrder_cons (wpAny_assign_Name (wpAny_storeName_local (lookup_relabel_local hx4) na3 (fun h₃ hn₃ sa4 => ?_) kd))
      refine assignInOrder_nil ?_
      have up : ∀ b o, b ≠ C → h₂.get? b = some o → h₃.get? b = some o := fun b o hb e => sa4.extBut b o hb (sa3.extBut b o hb (sa2.extBut b o hb (sa1.extBut b o hb (he' b o e))))
      obtain ⟨oC, heC, hoC⟩ := LCg.ns_obj hn₃
      have heI := up _ _ hIC eL
      have F₃ : Fr h₀ L h₃ m := (((((LCg.fr_but (F.keeps old) hk₂ hIL hI₀).keeps he').change sa1 hCL hC₀).change sa2 hCL hC₀).change sa3 hCL hC₀).change sa4 hCL hC₀
      have N₃ : News h₀ L h₃ ((I, oL) :: (C, oC) :: (D, LCg.lst []) :: news) := fun p hp => by
        rcases List.mem_cons.mp hp with rfl | hp
        · exact ⟨heI, Ne.symm hIL, hI₀⟩
        rcases List.mem_cons.mp hp with rfl | hp
        · exact ⟨heC, hCL, hC₀⟩
        rcases List.mem_cons.mp hp with rfl | hp
        · exact ⟨up _ _ hDC (hkI _ _ (Ne.symm hID) hacc), hDL, hD₀⟩
        · exact ⟨up _ _ (off3 p hp).2.1 (hkI _ _ (off3 p hp).1 (old _ _ (N p hp).1)), (N p hp).2⟩
      refine wpAny_mono (R oL C oC D _ h₃ _ _ hoC (by simp [d12, d13, d14]) (by simp [d23, d24]) (by simp [d34]) (by simp) F₃ N₃ off₀ ⟨hIC, hID, Ne.symm hDC⟩) (fun y s₄ h₄ => ?_) fun _ _ e => e
      obtain ⟨news₄, h₄, tk₄, rfl, F₄, N₄, off₄, ha₄, R₄⟩ := h₄
      have zI := (N₄ (I, oL) (.head _)).1
      have zC := (N₄ (C, oC) (.tail _ (.head _))).1
      have zD := (N₄ (D, LCg.lst []) (.tail _ (.tail _ (.head _)))).1
      have N₄' : News h₀ L h₄ news₄ := fun p hp => N₄ p (.tail _ (.tail _ (.tail _ hp)))
      refine append_at (hsz := by rw [sizeLine_eq]; simp) zD fun h₅ hs₅ hD₅ => ?_
      have off4 := off₄.mem
      refine ⟨0, Nat.zero_lt_one, .inr ⟨rfl, h₅, tk₄, _, y, news₄, rfl, ⟨⟨oL, hs₅.extBut _ _ hID zI, cL, dL⟩, ⟨_, hs₅.extBut _ _ (off4 _ ha₄).2.2 (N₄' _ ha₄).1, rfl, k, rfl⟩⟩, F₄.change hs₅ hDL hD₀, (hoC.ns zC).sameBut hs₅ (Ne.symm hDC), fun p hp => ?_, off₄, R₄⟩⟩
      rcases List.mem_cons.mp hp with rfl | hp
      · exact ⟨hD₅, hDL, hD₀⟩
      · exact ⟨hs₅.extBut _ _ (off4 p hp).2.2 (N₄' p hp).1, (N₄' p hp).2⟩
    · refine W.done _ _ _ hst' fun h₂ tk₂ hk₂ => ?_
      have off3 := off'.mem
      exact hRR _ _ h₂ tk₂ _ [y] news' (LCg.fr_but F' hk₂ hIL hI₀) (LCg.news_but N' hk₂ fun p hp => by
        rcases List.mem_cons.mp hp with rfl | hp
        · exact Ne.symm hID
        · exact (off3 p hp).1) off'.one (hn'.at' fun o e => hk₂ _ o (by simpa using Ne.symm hIC) e) hC₀ hD₀ hCL hDL (Ne.symm hDC) (fun p hp => (off3 p hp).2.1) hf
  exact codeAny_compStart_list (loop _ rfl) (W.self 0 _ _ _ hs1 (loop _ rfl))
theorem Assign_ListComp_4 {elt iter : Expr} {x1 x2 x3 x4 y : Str} {p1 p2 p3 p4 tp py : Pos} {kk} {scope : Scope} {cl : List (Str × Addr)} {pos spos : Pos} {Q : Flow → Shared → Prop} (_F₀ : Fr h₀ L s.heap m) (hLe : env.locals = L) (hh : A.handled = none)
    (hsw : swapsWith (.ListComp elt [⟨.Tuple [.Name x1 p1, .Name x2 p2, .Name x3 p3, .Name x4 p4] kk tp, iter, [], 0⟩] scope pos) (some (.Name y py)) spos.line env = pure true)
    (hclos : closureFor scope env = pure cl) (hcell : ∀ z ∈ scope.names, z.2 ≠ .cell) (hkind : scope.kind = .function)
    (hnames : ∀ z ∈ scope.names, z.2 = .local → scope.names.lookup z.1 = some .local) (hx1 : scope.names.lookup x1 = some .local) (hx2 : scope.names.lookup x2 = some .local) (hx3 : scope.names.lookup x3 = some .local) (hx4 : scope.names.lookup x4 = some .local)
    (hd : x1 ≠ x2 ∧ x1 ≠ x3 ∧ x1 ≠ x4 ∧ x2 ≠ x3 ∧ x2 ≠ x4 ∧ x3 ≠ x4)
    (hy : env.kindOf y = some .local) (hp : (env.scope.kind == .class || (env.scope.kind == .module && env.locals != env.globals)) = false)
    (h : wpAny (model prog w) A (eval iter env) (Src4 prog w A h₀ L m env elt x1 x2 x3 x4 scope cl (fun s₂ => LCg.FinA h₀ L m s₂ y Q)) E s)
    (hs : ∀ x, foldedSetIterable iter env x = pure x := by intro _; rfl) :
    wpAny (model prog w) A (exec (.Assign [.Name y py] (.ListComp elt [⟨.Tuple [.Name x1 p1, .Name x2 p2, .Name x3 p3, .Name x4 p4] kk tp, iter, [], 0⟩] scope pos) spos) env) Q E s := by
  subst hLe
  rw [exec_Assign_Name_used _ _ _ _ hsw]
  refine wpAny_bind (wpAny_standAt (wpAny_bind ?_))
  show wpAny _ A (do let _ ← comprehension (.ListComp elt [⟨.Tuple [.Name x1 p1, .Name x2 p2, .Name x3 p3, .Name x4 p4] kk tp, iter, [], 0⟩] scope pos) scope env _ (newList []) false (eval iter env) (some (assign (.Name y py) env))) _ _ s
  refine wpAny_bind (wpAny_mono (wpAny_comprehension_free (use := some (assign (.Name y py) env)) (Q := fun _ s' => Q .next s') rfl hs hclos hkind hnames
    (wpAny_mono h (fun xv s₁ h₁ => ?_) fun _ _ e => e)) (fun _ s' hq => wpAny_pure (wpAny_pure hq)) fun _ _ e => e)
  obtain ⟨ax, t, k, nt, v1, v2, v3, v4, news, rfl, F, N, hm1, hm2, R⟩ := h₁
  have hlt : ax < s₁.heap.objs.size := Heap.lt_size (N _ hm1).1
  refine wpAny_pyIter_list (items := #[Value.ref t]) ⟨_, (N _ hm1).1, rfl, k, rfl⟩ ?_
  have up : ∀ b o, s₁.heap.get? b = some o → (s₁.heap.push { cls := .type "list_iterator", data := .fields #[.ref ax, .int 0 0] }).get? b = some o := fun b o e => Heap.get?_push_of_some _ e
  refine block4 (I := s₁.heap.objs.size) (Fin := LCg.FinA h₀ env.locals m { s₁ with heap := s₁.heap } y Q) hh (Nat.ne_of_lt hlt) hcell hkind hx1 hx2 hx3 hx4 hd.1 hd.2.1 hd.2.2.1 hd.2.2.2.1 hd.2.2.2.2.1 hd.2.2.2.2.2 ⟨_, Heap.get?_push_size _ rfl, rfl, rfl⟩
    (F.keeps up) (N.grown up) (Nat.ne_of_lt F.ns.lt) (next_is_new F) N.apart hm1 hm2 (fun oI C oC D m₂ h tk E' => R s₁.heap _ oI C oC D m₂ h tk E')
    fun D C h tk m' ys nw F' N' o1 hn hC₀ _ hCL _ hCD offC fin => lc_endA (s₀ := s₁) hy hp F' N' o1 hn hC₀ hCL hCD offC fin
end
end Mine

end
section
open PySem PySem.W PyProof.Rows PySem.Calls PySem.Spec
namespace Mine
/-- a step's end: a value, the ledger as it was -/
def StillEnd {α : Type} (h₀ : Heap) (L : Addr) (m : Str → Option Value) (s : Shared) (all : List (Addr × Obj)) (P : α → Prop) (x : α) (s' : Shared) : Prop :=
  P x ∧ ∃ h' tk', s' = { s with heap := h', toks := tk' } ∧ Fr h₀ L h' m ∧ News h₀ L h' all
theorem hideG {T : Prop} (h : ∀ G : Prop, (T → G) → G) : T := h T id
theorem StillEnd.all {α : Type} {h₀ : Heap} {L : Addr} {m : Str → Option Value} {s : Shared} {all : List (Addr × Obj)} {P : α → Prop} {x : α} {mot : Shared → Prop} (k : ∀ h' tk', P x → Fr h₀ L h' m → News h₀ L h' all → mot { s with heap := h', toks := tk' }) : ∀ s', StillEnd h₀ L m s all P x s' → mot s' := by
  intro s' h
  obtain ⟨p, h', tk', rfl, F, N⟩ := h; exact k h' tk' p F N
theorem still_end {α : Type} {h₀ h' : Heap} {L : Addr} {m : Str → Option Value} {s : Shared} {tk' : Nat} {all : List (Addr × Obj)} {P : α → Prop} {x : α} (hp : P x) (F : Fr h₀ L h' m) (N : News h₀ L h' all) : StillEnd h₀ L m s all P x { s with heap := h', toks := tk' } := ⟨hp, h', tk', rfl, F, N⟩
section
variable {prog : Program} {w : World} {A : Around} {E : Value → Shared → Prop} {s : Shared} {h₀ : Heap} {L : Addr} {m : Str → Option Value} {env : Env}
/-- a dict of two keys, the first left out by the test -/
inductive Src2 (prog : Program) (w : World) (A : Around) (h₀ : Heap) (L : Addr) (m : Str → Option Value) (env : Env) (c kx vx : Expr) (x : Str) (scope : Scope) (cl : List (Str × Addr)) (Q : Value → Shared → Prop) (s₁ : Shared) : Value → Prop
  | mk (d : Addr) (o : Obj) (k1 k2 : Str) (V1 V2 : Value) (news : List (Addr × Obj)) : (d == sysModules) = false → Fr h₀ L s₁.heap m → News h₀ L s₁.heap news → (d, o) ∈ news → o.IsDictOf (PySem.strKind prog w) [(k1, V1), (k2, V2)] →
    (∀ k t I oI C oC D oD m₂ h tk (E' : Value → Shared → Prop), (k = k1 ∨ k = k2) → LCg.NsObj oC m₂ → m₂ x = some (.str k t) → Fr h₀ L h m → News h₀ L h ((I, oI) :: (C, oC) :: (D, oD) :: news) →
      wpAny (model prog w) A (isTrue c (compEnvC scope cl C env) (eval c (compEnvC scope cl C env))) (StillEnd h₀ L m { s₁ with heap := h, toks := tk } ((I, oI) :: (C, oC) :: (D, oD) :: news) (fun ok => ok = !decide (k = k1))) E' { s₁ with heap := h, toks := tk }) →
    (∀ t I oI C oC D oD m₂ h tk (E' : Value → Shared → Prop), LCg.NsObj oC m₂ → m₂ x = some (.str k2 t) → Fr h₀ L h m → News h₀ L h ((I, oI) :: (C, oC) :: (D, oD) :: news) →
      wpAny (model prog w) A (eval kx (compEnvC scope cl C env)) (StillEnd h₀ L m { s₁ with heap := h, toks := tk } ((I, oI) :: (C, oC) :: (D, oD) :: news) (fun kv => ∃ t', kv = .str k2 t')) E' { s₁ with heap := h, toks := tk }) →
    (∀ t I oI C oC D oD m₂ h tk (E' : Value → Shared → Prop), LCg.NsObj oC m₂ → m₂ x = some (.str k2 t) → Fr h₀ L h m → News h₀ L h ((I, oI) :: (C, oC) :: (D, oD) :: news) →
      wpAny (model prog w) A (eval vx (compEnvC scope cl C env)) (StillEnd h₀ L m { s₁ with heap := h, toks := tk } ((I, oI) :: (C, oC) :: (D, oD) :: news) (fun vv => vv = V2)) E' { s₁ with heap := h, toks := tk }) →
    (∀ D oD h tk, Fr h₀ L h m → News h₀ L h ((D, oD) :: news) → oD.IsDictOf (PySem.strKind prog w) [(k2, V2)] → (∀ p ∈ news, @LT.lt Nat _ p.1 D) → @LT.lt Nat _ L D → Q (.ref D) { s₁ with heap := h, toks := tk }) → Src2 prog w A h₀ L m env c kx vx x scope cl Q s₁ (.ref d)
/-- how the loop stands between two turns -/
inductive At2 (prog : Program) (w : World) (h₀ : Heap) (L : Addr) (m : Str → Option Value) (s₁ : Shared) (I d C D : Addr) (k1 k2 : Str) (V1 V2 : Value) (ep : Nat) (news : List (Addr × Obj)) : Nat → Shared → Prop
  | mk (h' : Heap) (tk : Nat) (m' : Str → Option Value) (oD : Obj) (i : Nat) : i ≤ 2 → (h'.IsKeyIter I d i ([(k1, V1), (k2, V2)] : List (Str × Value)).length ep ∧ h'.DictAt (PySem.strKind prog w) d [(k1, V1), (k2, V2)] ep) → Fr h₀ L h' m → h'.Ns C m' → News h₀ L h' ((D, oD) :: news) → oD.IsDictOf (PySem.strKind prog w) (if i = 2 then [(k2, V2)] else []) → At2 prog w h₀ L m s₁ I d C D k1 k2 V1 V2 ep news (3 - i) { s₁ with heap := h', toks := tk }
theorem DictComp_2 {kx vx iter c : Expr} {x : Str} {px : Pos} {scope : Scope} {cl : List (Str × Addr)} {pos : Pos} {Q : Value → Shared → Prop} (_F₀ : Fr h₀ L s.heap m) (hh : A.handled = none)
    (hclos : closureFor scope env = pure cl) (hcell : ∀ y ∈ scope.names, y.2 ≠ .cell) (hkind : scope.kind = .function)
    (hnames : ∀ y ∈ scope.names, y.2 = .local → scope.names.lookup y.1 = some .local) (hx : scope.names.lookup x = some .local)
    (h : wpAny (model prog w) A (eval iter env) (fun xv s₁ => Src2 prog w A h₀ L m env c kx vx x scope cl Q s₁ xv) E s)
    (hs : ∀ x, foldedSetIterable iter env x = pure x := by intro _; rfl) :
    wpAny (model prog w) A (eval (.DictComp kx vx [⟨.Name x px, iter, [c], 0⟩] scope pos) env) Q E s := by
  rw [arm_eval_DictComp]
  refine wpAny_comprehension_free (use := none) rfl hs hclos hkind hnames (wpAny_mono h (fun xv s₁ h₁ => ?_) fun _ _ e => e)
  refine hideG fun G hG => ?_
  obtain ⟨d, o, k1, k2, V1, V2, news, hmod, F, N, hm, hd, T, TK, TV, hQ⟩ := h₁
  obtain ⟨ep, hda⟩ := (Heap.dictOf_iff.mpr ⟨o, (N _ hm).1, hd⟩ : s₁.heap.DictOf _ d _).dictAt
  refine hG ?_
  clear hG G
  refine wpAny_pyIter_dict hmod hda ?_
  have hk12 : k1 ≠ k2 := by have := hda.nodup; simpa using this
  generalize hIe : s₁.heap.objs.size = I at *
  generalize hs2 : s₁.heap.push { cls := .type "dict_keyiterator", data := .fields #[.ref d, .int 0 0, .int ([(k1, V1), (k2, V2)] : List (Str × Value)).length 0, .int ep 0] } = H at *
  have upH : ∀ b o, s₁.heap.get? b = some o → H.get? b = some o := fun b o e => by rw [← hs2]; exact Heap.get?_push_of_some _ e
  have hHs : H.objs.size = I + 1 := by rw [← hs2, Heap.size_push, hIe]
  have hdI : d ≠ I := by rw [← hIe]; exact Nat.ne_of_lt (Heap.lt_size (N _ hm).1)
  have W := Walks.dictKeys (prog := prog) (w := w) (A := A) (knd := PySem.strKind prog w) hh I d hdI [(k1, V1), (k2, V2)] ep
  have hLI : L ≠ I := by rw [← hIe]; exact Nat.ne_of_lt F.ns.lt
  have hI₀ : h₀.get? I = none := by rw [← hIe]; exact next_is_new F
  have offI : ∀ p ∈ news, p.1 ≠ I := fun p hp => by rw [← hIe]; exact Nat.ne_of_lt (Heap.lt_size (N p hp).1)
  have hitI : H.IsKeyIter I d 0 ([(k1, V1), (k2, V2)] : List (Str × Value)).length ep := ⟨_, by rw [← hs2, ← hIe]; exact Heap.get?_push_size _ rfl, rfl, rfl⟩
  refine wpAny_newObj_type (wpAny_newFunctionEnv hcell (by intro y hy; simp at hy) (fun h₁ hns₁ hsb₁ => ?_) hkind)
  dsimp only at hns₁ hsb₁ ⊢
  generalize hH2 : H.push { cls := .type "dict", dict := none, data := .dict #[] } = H2 at hns₁ hsb₁ ⊢
  generalize hCe : H2.objs.size = C at *
  generalize hDe : H.objs.size = D at *
  have hC : C = D + 1 := by rw [← hCe, ← hH2, Heap.size_push, hDe]
  have hDC : D ≠ C := by rw [hC]; exact Nat.ne_of_lt (Nat.lt_succ_self _)
  have below : ∀ b, b < D → b ≠ C ∧ b ≠ D := fun b hb => ⟨by rw [hC]; exact Nat.ne_of_lt (Nat.lt_succ_of_lt hb), Nat.ne_of_lt hb⟩
  have old : ∀ b o, H.get? b = some o → h₁.get? b = some o := fun b o e => hsb₁.extBut b o (below b (hDe ▸ Heap.lt_size e)).1 (Heap.get?_push_of_some _ (hH2 ▸ Heap.get?_push_of_some _ e))
  obtain ⟨oD0, gD0, dD0⟩ := Heap.dictOf_iff.mp (Heap.DictOf.new (knd := PySem.strKind prog w) H)
  rw [hDe] at gD0
  have hacc : h₁.get? D = some oD0 := hsb₁.extBut _ _ hDC (Heap.get?_push_of_some _ (by rw [← hH2]; exact gD0))
  have F1 : Fr h₀ L H m := F.keeps upH
  have N1 : News h₀ L H news := fun p hp => ⟨upH _ _ (N p hp).1, (N p hp).2⟩
  have fresh₀ : ∀ a, D ≤ a → h₀.get? a = none := fun a ha => by
    cases e : h₀.get? a with
    | none => rfl
    | some o' => exact absurd (Heap.lt_size (F1.keep a o' e)) (by rw [hDe]; exact Nat.not_lt.mpr ha)
  have hD₀ : h₀.get? D = none := fresh₀ _ (Nat.le_refl _)
  have hC₀ : h₀.get? C = none := fresh₀ _ (by rw [hC]; exact Nat.le_succ _)
  have hLlt : L < D := hDe ▸ F1.ns.lt
  have hDL : D ≠ L := Ne.symm (below L hLlt).2
  have hCL : C ≠ L := Ne.symm (below L hLlt).1
  have hIlt : I < D := by rw [hHs]; exact Nat.lt_succ_self _
  have hIC : I ≠ C := (below I hIlt).1
  have hID : I ≠ D := (below I hIlt).2
  have newsLt : ∀ p ∈ news, @LT.lt Nat _ p.1 D := fun p hp => hDe ▸ Heap.lt_size (N1 p hp).1
  have offC : ∀ p ∈ news, p.1 ≠ C := fun p hp => (below _ (newsLt p hp)).1
  have offD : ∀ p ∈ news, p.1 ≠ D := fun p hp => (below _ (newsLt p hp)).2
  have hst₁ : h₁.IsKeyIter I d 0 ([(k1, V1), (k2, V2)] : List (Str × Value)).length ep ∧ h₁.DictAt (PySem.strKind prog w) d [(k1, V1), (k2, V2)] ep :=
    ⟨hitI.at fun o e => old _ o e, hda.keep fun b o e => old b o (upH b o e)⟩
  have kd : ((compEnvC scope cl C env).scope.kind == .class || ((compEnvC scope cl C env).scope.kind == .module && (compEnvC scope cl C env).locals != (compEnvC scope cl C env).globals)) = false := by simp [compEnvC, relabel, hkind]
  have loop : ∀ s₃ : Shared, s₃ = { s₁ with heap := h₁, toks := s₁.toks + ([] : List (Str × Value)).length } →
      codeAny (model prog w) A (.compLoop (.DictComp kx vx [⟨.Name x px, iter, [c], 0⟩] scope pos) 0 (.ref I) (.ref D) (compEnvC scope cl C env)) (compPost (model prog w) A E none Q (.ref D) C) s₃ := by
    rintro s₃ rfl
    refine codeAny_compLoop_testsD
      (At2 prog w h₀ L m s₁ I d C D k1 k2 V1 V2 ep news) ?_ 3 (.mk h₁ _ _ oD0 0 (Nat.zero_le _) hst₁ (F1.keeps old) hns₁ (fun p hp => ?_) dD0)
    · rintro _ _ ⟨h', tk, m', oD, i, hi, hst', F', hn', N', hdD⟩
      by_cases hlt : i < 2
      · refine W.item i _ _ _ hlt hst' fun v h₂ tk₂ hPv hst₂ hk₂ => ?_
        refine hideG fun G hG => ?_
        obtain ⟨k, V, hkv, hkey⟩ := hPv
        obtain ⟨t, rfl⟩ := Value.isStrOf_shape hkey
        refine hG ?_
        clear hG G
        have hk : k = k1 ∨ k = k2 := by
          rcases (by omega : i = 0 ∨ i = 1) with e | e
          · simp [e] at hkv; exact .inl hkv.1.symm
          · simp [e] at hkv; exact .inr hkv.1.symm
        have hki : (k = k1 ↔ i = 0) ∧ (i = 1 → k = k2) := by
          rcases (by omega : i = 0 ∨ i = 1) with e | e
          · simp [e] at hkv; exact ⟨⟨fun _ => e, fun _ => hkv.1.symm⟩, fun e => by omega⟩
          · simp [e] at hkv; exact ⟨⟨fun e => absurd (e.symm.trans hkv.1.symm) hk12, fun e => by omega⟩, fun _ => hkv.1.symm⟩
        have hkI : ∀ b o, b ≠ I → h'.get? b = some o → h₂.get? b = some o := fun b o hb e => hk₂ b o (by simpa using hb) e
        refine wpAny_assign_Name (wpAny_storeName_local (lookup_relabel_local hx) (hn'.at' fun o e => hkI _ o (Ne.symm hIC) e) (fun h₃ hn₃ hs₃ => ?_) kd)
        refine hideG fun G hG => ?_
        obtain ⟨oC, heC, hoC⟩ := LCg.ns_obj hn₃
        obtain ⟨oI, eI, cI, dI⟩ := id hst₂.1
        refine hG ?_
        clear hG G
        have F₃ : Fr h₀ L h₃ m := (LCg.fr_but F' hk₂ hLI hI₀).change hs₃ hCL hC₀
        have N₃ : News h₀ L h₃ ((I, oI) :: (C, oC) :: (D, oD) :: news) := fun p hp => by
          rcases List.mem_cons.mp hp with rfl | hp
          · exact ⟨hs₃.extBut _ _ hIC eI, Ne.symm hLI, hI₀⟩
          rcases List.mem_cons.mp hp with rfl | hp
          · exact ⟨heC, hCL, hC₀⟩
          have hp' := N' p hp
          rcases List.mem_cons.mp hp with rfl | hp
          · exact ⟨hs₃.extBut _ _ hDC (hkI _ _ (Ne.symm hID) hp'.1), hp'.2⟩
          · exact ⟨hs₃.extBut _ _ (offC p hp) (hkI _ _ (offI p hp) hp'.1), hp'.2⟩
        have fin : ∀ (h : Heap) (tk : Nat) (oD' : Obj), News h₀ L h ((I, oI) :: (C, oC) :: (D, oD') :: news) → Fr h₀ L h m → oD'.IsDictOf (PySem.strKind prog w) (if i + 1 = 2 then [(k2, V2)] else []) →
            ∃ n', n' < 3 - i ∧ At2 prog w h₀ L m s₁ I d C D k1 k2 V1 V2 ep news n' { s₁ with heap := h, toks := tk } := by
          intro h tk oD' N4 F4 d4
          refine ⟨3 - (i + 1), by omega, .mk h tk _ oD' (i + 1) (by omega) ⟨⟨oI, (N4 _ (.head _)).1, cI, dI⟩, ?_⟩ F4 (hoC.ns (N4 _ (.tail _ (.head _))).1) (fun p hp => N4 p (.tail _ (.tail _ hp))) d4⟩
          obtain ⟨o5, es5, g5, r5⟩ := hda
          have : o5 = o := Option.some.inj (g5.symm.trans (N _ hm).1)
          subst this
          exact ⟨_, es5, (N4 _ (.tail _ (.tail _ (.tail _ hm)))).1, r5⟩
        refine wpAny_tests_one ?_
        refine wpAny_mono (T k t I oI C oC D oD _ h₃ _ _ hk hoC (by simp) F₃ N₃) (fun ok => StillEnd.all fun h₄ tk₄ hok F₄ N₄ => ?_) fun _ _ e => e
        obtain rfl := hok
        by_cases hk1 : k = k1
        · have hi0 := hki.1.mp hk1
          rw [decide_eq_true hk1]
          simp only [Bool.not_true, Bool.false_eq_true, if_false]
          exact fin h₄ tk₄ oD N₄ F₄ (by simpa [hi0] using hdD)
        · have hi1 : i = 1 := by
            rcases (by omega : i = 0 ∨ i = 1) with e | e
            · exact absurd (hki.1.mpr e) hk1
            · exact e
          obtain rfl := hki.2 hi1
          rw [decide_eq_false hk1]
          simp only [Bool.not_false, if_true]
          have hdD' : oD.IsDictOf (PySem.strKind prog w) [] := by simpa [hi1] using hdD
          refine wpAny_mono (TK t I oI C oC D oD _ h₄ tk₄ _ hoC (by simp) F₄ N₄) (fun kv => StillEnd.all fun h₅ tk₅ hkv5 F₅ N₅ => ?_) fun _ _ e => e
          obtain ⟨t', rfl⟩ := hkv5
          refine wpAny_mono (TV t I oI C oC D oD _ h₅ tk₅ _ hoC (by simp) F₅ N₅) (fun vv => StillEnd.all fun h₆ tk₆ hvv F₆ N₆ => ?_) fun _ _ e => e
          obtain rfl := hvv
          refine wpAny_dictSet_pairs (knd := PySem.strKind prog w) (hsz := by rw [sizeLine_eq]; simp) (k := k) (kvs := []) (strKind_is _ _ _ _) (Heap.dictOf_iff.mpr ⟨oD, (N₆ _ (.tail _ (.tail _ (.head _)))).1, hdD'⟩) fun h₇ hl₇ hs₇ => ?_
          obtain ⟨oD', g7, d7⟩ := Heap.dictOf_iff.mp hl₇
          refine fin h₇ _ oD' (fun p hp => ?_) (F₆.change hs₇ hDL hD₀) (by simpa [stored, hi1] using d7)
          have z := N₆
          rcases List.mem_cons.mp hp with rfl | hp
          · have z := N₆ (I, oI) (.head _); exact ⟨hs₇.extBut _ _ hID z.1, z.2⟩
          rcases List.mem_cons.mp hp with rfl | hp
          · have z := N₆ (C, oC) (.tail _ (.head _)); exact ⟨hs₇.extBut _ _ (Ne.symm hDC) z.1, z.2⟩
          rcases List.mem_cons.mp hp with rfl | hp
          · exact ⟨g7, hDL, hD₀⟩
          · have z := N₆ p (.tail _ (.tail _ (.tail _ hp))); exact ⟨hs₇.extBut _ _ (offD p hp) z.1, z.2⟩
      · have hi2 : i = 2 := by omega
        subst hi2
        refine W.done _ _ _ hst' fun h₂ tk₂ hk₂ => ?_
        have hkI : ∀ b o, b ≠ I → h'.get? b = some o → h₂.get? b = some o := fun b o hb e => hk₂ b o (by simpa using hb) e
        refine ⟨m', hn'.at' fun o e => hkI _ o (Ne.symm hIC) e, fun h'' hs'' => hQ D oD h'' _ ((LCg.fr_but F' hk₂ hLI hI₀).change hs'' hCL hC₀) (fun p hp => ?_) (by simpa using hdD) newsLt hLlt⟩
        have z := N' p hp
        refine ⟨hs''.extBut _ _ ?_ (hkI _ _ ?_ z.1), z.2⟩
        · rcases List.mem_cons.mp hp with rfl | hp
          · exact hDC
          · exact offC p hp
        · rcases List.mem_cons.mp hp with rfl | hp
          · exact Ne.symm hID
          · exact offI p hp
    · rcases List.mem_cons.mp hp with rfl | hp
      · exact ⟨hacc, hDL, hD₀⟩
      · exact ⟨old _ _ (N1 p hp).1, (N p hp).2⟩
  exact codeAny_compStart_dict (loop _ rfl) (W.self 0 _ _ _ hst₁ (loop _ rfl))
end
end Mine

end
section
open PySem PySem.W PyProof.Rows PySem.Calls PySem.Spec
namespace Mine
theorem bytes_dunder : typeLookup (.type "bytes") "__bytes__" = pure (some (.builtin "bytes.__bytes__")) := by rw [typeLookup_type, builtinLookup_eq_fast]; kernel_rfl
section
variable {prog : Program} {w : World} {A : Around} {E : Value → Shared → Prop} {s : Shared}
theorem bytes_again {b : Array UInt8} {t : Tok} {Q : Value → Shared → Prop} (h : Q (.bytes b t) s) :
    codeAny (model prog w) A (.call (.builtin "bytes.__new__") ⟨[.type "bytes", .bytes b t], []⟩) (wants Q E) s := by
  refine codeAny_of_tree ?_
  show wpAny _ A.in1 (do checkBuiltinCall "bytes.__new__" ⟨[.type "bytes", .bytes b t], []⟩; again (.builtin "bytes.__new__" ⟨[.type "bytes", .bytes b t], []⟩)) _ _ s
  refine wpAny_bind (wpAny_of_eq (F.bm_newCall _) (wpAny_pure ⟨plainId_quiet F.bm_plain _, codeAny_builtin F.bm_entry ?_⟩))
  rw [Around.under_plainId F.bm_plain _]
  have hT : s.TypeIs (.bytes b t) "bytes" := PySem.W.typeIs_bytes _ _ _
  unfold Builtin.«bytes.__new__»
  refine wpAny_bind (wpAny_of_eq (a := true) rfl ?_)
  refine bm_if_false rfl ?_
  refine wpAny_bind (wpAny_of_eq F.bm_sub ?_)
  refine bm_if_false rfl ?_
  refine wpAny_bind (wpAny_of_eq (F.bm_bind _) ?_)
  refine wpAny_bind (wpAny_of_eq (a := ()) rfl ?_)
  refine wpAny_bind (wpAny_of_eq (a := ()) rfl ?_)
  refine bm_if_false rfl ?_
  refine wpAny_bind (wpAny_specialOf hT bytes_dunder ?_)
  show wpAny (model prog w) A.in1 (do
      rule "bytes.__new__.of-bytes"
      let ty ← typeOf (Value.bytes b t)
      if (ty == Value.type "bytes") = true then _ else _) _ _ s
  refine wpAny_bind (wpAny_rule ?_)
  refine wpAny_bind (wpAny_typeOf hT ?_)
  refine bm_if_true rfl ?_
  refine bm_if_true rfl ?_
  exact wpAny_pure h
theorem call_bytes_bytes {b : Array UInt8} {t : Tok} {Q : Value → Shared → Prop} (h : Q (.bytes b t) s) : wpAny (model prog w) A (call (.type "bytes") [.bytes b t]) Q E s := by
  refine callType_codes (Q₁ := fun obj s₁ => s₁.TypeIs obj "bytes" ∧ Q obj s₁) F.bm_called (F.bm_typeCall _) F.entry_object_init
    (bytes_again ⟨PySem.W.typeIs_bytes _ _ _, h⟩) fun obj s₁ h₁ => ?_
  exact ⟨h₁.1, F.args_object_init_2 obj _, object_init_meets F.bm_called.init.lookup F.bm_called.made (by decide) prog w A.in1 _ s₁ ⟨h₁.1, rfl, h₁.2⟩⟩
end
end Mine

end
section
open PySem PySem.W PyProof.Rows PySem.Calls PySem.Spec
namespace Mine
section
variable {prog : Program} {w : World} {A : Around} {E : Value → Shared → Prop} {s : Shared} {h₀ : Heap} {L : Addr} {m : Str → Option Value} {env : Env}
theorem lc_restTS {σ : Type} {ct elt : Expr} {x : Str} {scope : Scope} {cl : List (Str × Addr)} {n : Nat} {Pv : Nat → Value → Prop} {S : List (Addr × Obj) → Prop} {Fin : List Value → List (Addr × Obj) → Prop} (Led : σ → List (Addr × Obj)) (R : Nat → List Value → σ → Prop) (hS : ∀ c, S (Led c))
    (turn : ∀ i v ys c I oI C oC D m₂ h tk (E' : Value → Shared → Prop), i < n → Pv i v → R i ys c → LCg.NsObj oC m₂ → m₂ x = some v → Fr h₀ L h m → News h₀ L h ((I, oI) :: (C, oC) :: (D, LCg.lst ys) :: Led c) → LCg.Off3 I C D (Led c) → Ne3 I C D →
      wpAny (model prog w) A (isTrue ct (compEnvC scope cl C env) (eval ct (compEnvC scope cl C env))) (fun ok s' => if ok = true then
        wpAny (model prog w) A (eval elt (compEnvC scope cl C env)) (EltEnd h₀ L m { s with heap := h, toks := tk } I oI C oC D (LCg.lst ys) Led (fun y c' => R (i + 1) (ys ++ [y]) c')) E' s'
        else EltEnd h₀ L m { s with heap := h, toks := tk } I oI C oC D (LCg.lst ys) Led (fun _ c' => R (i + 1) ys c') Value.none s') E' { s with heap := h, toks := tk })
    (fin : ∀ ys c, R n ys c → Fin ys (Led c)) : ∀ k i ys c, i + k = n → R i ys c → LCt.CompRestT prog w A h₀ L m env ct elt x scope cl s S Pv Fin k i ys (Led c) := by
  intro k
  induction k with
  | zero => intro i ys c hi hr; obtain rfl : i = n := hi; exact LCt.CompRestT.zero (fin ys c hr)
  | succ k ih =>
    intro i ys c hi hr
    refine LCt.CompRestT.succ ?_
    intro v I oI C oC D m₂ h tk E' hv hC hx F N off ne
    refine wpAny_mono (turn i v ys c I oI C oC D m₂ h tk E' (by omega) hv hr hC hx F N off ne) (fun ok s₂ q => ?_) fun _ _ e => e
    cases ok with
    | true =>
      simp only [if_true] at q ⊢
      refine wpAny_mono q (fun y s₃ q => ?_) fun _ _ e => e
      obtain ⟨c', h', tk', rfl, F', N', off', hr'⟩ := q
      exact ⟨h', tk', Led c', rfl, F', N', off', hS c', ih (i + 1) _ c' (by omega) hr'⟩
    | false =>
      simp only [Bool.false_eq_true, if_false] at q ⊢
      obtain ⟨c', h', tk', rfl, F', N', off', hr'⟩ := q
      exact ⟨h', tk', Led c', rfl, F', N', off', hS c', ih (i + 1) _ c' (by omega) hr'⟩
theorem CompSrcT_of {σ : Type} {ct elt : Expr} {x : Str} {scope : Scope} {cl : List (Str × Addr)} {ax : Addr} {its : List Value} {k : Nat} {s₁ : Shared} {Fin : Shared → List Value → List (Addr × Obj) → Prop} (Led : σ → List (Addr × Obj)) (R : Nat → List Value → σ → Prop) (c₀ : σ)
    (hh : A.handled = none) (F : Fr h₀ L s₁.heap m) (N : News h₀ L s₁.heap (Led c₀)) (hm : ∀ c, (ax, lstO its k) ∈ Led c) (hsz : its.length ≤ 1000000) (hr : R 0 [] c₀)
    (turn : ∀ i v ys c I oI C oC D m₂ h tk (E' : Value → Shared → Prop), i < its.length → its[i]? = some v → R i ys c → LCg.NsObj oC m₂ → m₂ x = some v → Fr h₀ L h m → News h₀ L h ((I, oI) :: (C, oC) :: (D, LCg.lst ys) :: Led c) → LCg.Off3 I C D (Led c) → Ne3 I C D →
      wpAny (model prog w) A (isTrue ct (compEnvC scope cl C env) (eval ct (compEnvC scope cl C env))) (fun ok s' => if ok = true then
        wpAny (model prog w) A (eval elt (compEnvC scope cl C env)) (EltEnd h₀ L m { s₁ with heap := h, toks := tk } I oI C oC D (LCg.lst ys) Led (fun y c' => R (i + 1) (ys ++ [y]) c')) E' s'
        else EltEnd h₀ L m { s₁ with heap := h, toks := tk } I oI C oC D (LCg.lst ys) Led (fun _ c' => R (i + 1) ys c') Value.none s') E' { s₁ with heap := h, toks := tk })
    (fin : ∀ g ys c, R its.length ys c → Fin { s₁ with heap := g } ys (Led c)) : LCt.CompSrcT prog w A h₀ L m env ct elt x scope cl Fin (.ref ax) s₁ := by
  refine LCt.CompSrcT.ledger (k := k) hh F N (hm c₀) (by rw [sizeLine_eq]; simp; omega) fun g => ?_
  have e : its.toArray.size = its.length := by simp
  rw [e]
  exact lc_restTS (s := { s₁ with heap := g }) Led R (fun c => .inr ⟨_, hm c, rfl, k, rfl⟩) (fun i v ys c I oI C oC D m₂ h tk E' hi hv => turn i v ys c I oI C oC D m₂ h tk E' hi (by simpa using hv)) (fin g) its.length 0 [] c₀ (by omega) hr
theorem strsAre_of : ∀ (kvs : List (Str × Value)) (vs : List Value), vs.length = kvs.length → (∀ (j : Nat) (v : Value), vs[j]? = some v → ∃ k x, kvs[j]? = some (k, x) ∧ (PySem.strKind prog w).is k v = true) → StrsAre vs (kvs.map (·.1))
  | [], [], _, _ => .nil
  | [], _ :: _, h, _ => by simp at h
  | _ :: _, [], h, _ => by simp at h
  | (k, x) :: kvs, v :: vs, h, hv => by
    obtain ⟨k', x', e1, e2⟩ := hv 0 v rfl
    simp at e1
    obtain ⟨rfl, rfl⟩ := e1
    obtain ⟨t, rfl⟩ := Value.isStrOf_shape e2
    exact .cons _ _ (strsAre_of kvs vs (by simpa using h) fun j u hu => hv (j + 1) u (by simpa using hu))
theorem r_sortedD {d : Addr} {o : Obj} {kvs : List (Str × Value)} {news : List (Addr × Obj)} {Q : Value → Shared → Prop} (hh : A.handled = none) (F : Fr h₀ L s.heap m) (N : News h₀ L s.heap news) (hm : (d, o) ∈ news) (hd : o.IsDictOf (PySem.strKind prog w) kvs) (lo : (d == sysModules) = false) (hn : kvs.length < 64)
    (h : ∀ B h' tk vs ss c, Fr h₀ L h' m → News h₀ L h' ((B, lstO vs c) :: news) → (∀ q ∈ news, q.1 < B) → StrsAre vs ss → ss.Perm (kvs.map (·.1)) → sortedS ss = true → Q (.ref B) { s with heap := h', toks := tk }) :
    wpAny (model prog w) A (call (.builtin "sorted") [.ref d]) Q E s := by
  obtain ⟨ep, hat⟩ := (Heap.dictOf_iff.mpr ⟨o, (N _ hm).1, hd⟩ : s.heap.DictOf _ d _).dictAt
  refine kdu_sorted (kdl_dict (knd := PySem.strKind prog w) (kvs := kvs) (ep := ep) lo) hh F N hat (by rw [sizeLine_eq]; omega) fun B h' tk vs F' N' l1 hl hv => ?_
  have hS := strsAre_of kvs vs hl hv
  have z := N' _ (.head _)
  refine wpAny_call_entry PyProof.Rows.slot_list_sort ⟨_, z.1, rfl⟩ PyProof.Rows.entry_list_sort (list_sort_treeK strKind_oneLt (n := 0) z.1 hS.keysOf (fun v₁ v₂ rest e => keyKind_strs (by rw [← e]; exact hS)) (by omega) fun st' hp hs => ⟨.none, rfl, ?_⟩) (PyProof.Rows.args_list_sort _)
  obtain ⟨ss', h1, h2, h3⟩ := sorted_out_str hS hp hs
  obtain ⟨e, he⟩ := sortedHeap_at (out := (arrOf st').map (·.2)) z.1
  have keep : ∀ b o, b ≠ B → h'.get? b = some o → (sortedHeap h' B vs ((arrOf st').map (·.2))).get? b = some o := fun b o hb eb => by rw [sortedHeap_old hb (Heap.lt_size eb)]; exact eb
  refine h B _ tk _ ss' e ⟨F'.ns.at' fun o eo => keep _ o (Ne.symm z.2.1) eo, fun b o eb => keep b o (fun q => by rw [q, z.2.2] at eb; cases eb) (F'.keep b o eb), F'.above⟩ (fun p hp' => ?_) l1 h1 h2 h3
  rcases List.mem_cons.mp hp' with rfl | hp'
  · refine ⟨?_, z.2⟩
    rw [he]
  · have q := N' p (.tail _ hp')
    exact ⟨keep _ _ (Nat.ne_of_lt (l1 p hp')) q.1, q.2⟩
end
end Mine

end
open PySem PySem.W PyProof.Rows PySem.Calls PySem.Spec
namespace Mine
theorem fill : (PySem.Challenge.rw_nn0137_01 = PySem.Challenge.rw_nn0137_01) ∧ (frag.heap_1 = frag.heap_1) := by k_fill; exact ⟨rfl, rfl⟩
local macro_rules | `(tactic| k_all) => `(tactic| first | assumption | exact allLt_up (by assumption) (by (try dsimp only); omega))
local macro_rules | `(tactic| k_room) => `(tactic| ((try simp only [units_in1, units_deeper, Around.mark_units, depth_under_make, depth_under_kw, depth_in1, depth_deeper]); (try dsimp only [ktrTop]); first | (refine lt1 (by assumption) ?_; exact Nat.le_of_ble_eq_true rfl) | (refine lt2 (by assumption) ?_; exact Nat.le_of_ble_eq_true rfl) | exact lt0 (by assumption) | omega))
local macro_rules | `(tactic| units_room) => `(tactic| k_room)
local macro_rules | `(tactic| k_units) => `(tactic| k_room)
local macro_rules | `(tactic| ktr_room) => `(tactic| k_room)
local macro_rules | `(tactic| walk_at "MY BINDS") => `(tactic| first | exact BindsTo.of_eq (binds := [(_, _)]) rfl | exact BindsTo.of_eq (binds := [(_, _), (_, _)]) rfl | exact BindsTo.of_eq (binds := [(_, _), (_, _), (_, _)]) rfl | exact BindsTo.of_eq (binds := []) rfl | exact binds_K (by k_in) rfl (by k_is) rfl rfl rfl)
local macro_rules | `(tactic| walk_at "MY CODE") => `(tactic| (
  k_dflt (refine' code_def (K := frag.heap_1 _) ?k1 ?k2 ?k3 ?k4 ?k5 ?kA ?kF ?kK ?k6 ?k7 ?k8 ?k9 ?kB ?_ ?c2 ?c3 ?c4 ?c5; (case kA | kF => exact rfl); (case kK => first | assumption | exact rfl); (case k1 | k2 | k3 | k4 | k5 => k_asm); (case k6 | k7 => k_is); (case k8 => ktr_room); (case k9 => walk_at "MY BINDS"); (case c5 => decide); (case kB => exact locs rfl); (case c2 | c3 | c4 => exact rfl); k_whole; intro g' L' h' FG' F' N' B' X' T'; (try dsimp only); (try k_fold))))
local macro_rules | `(tactic| walk_at "MY ENTER") => `(tactic| (refine wpAny_call ?_; walk_at "MY CODE"))
local macro_rules | `(tactic| walk_at "MY STEP") => `(tactic| ((fail_if_success with_reducible first | show wpAny _ _ (call (Value.ref _) _) _ _ _ | show wpAny _ _ (exec (Stmt.Raise _ _ _) _) _ _ _ | show wpAny _ _ (exec (Stmt.While _ _ _ _) _) _ _ _ | show wpAny _ _ (exec (Stmt.For _ _ _ _ _) _) _ _ _ | show wpAny _ _ (eval (PySem.Expr.ListComp _ _ _ _) _) _ _ _ | show wpAny _ _ (exec (Stmt.Assign _ (PySem.Expr.ListComp _ _ _ _) _) _) _ _ _ | show wpAny _ _ (pyIter _) (fun it s₂ => LoopAtV _ _ _ _ _ _ _ _ _ it s₂) _ _); walk1))
local macro_rules | `(tactic| walk_at "eval Name") => `(tactic| (refine' name_B ?k0 ?k1 ?k2 ?k3 ?k4 ?k5 ?_; (case k0 => k_asm); (case k1 => k_asm); (case k2 => k_asm); (case k3 => k_is); (case k4 => boot_by_name); (case k5 => decide); k_whole))
local macro_rules | `(tactic| walk_at "eval Name") => `(tactic| (refine' ld ?k1 ?k2 ?_; (case k1 => with_reducible assumption); (case k2 => with_unfolding_all rfl); k_whole))
local macro_rules | `(tactic| walk_at "subscriptTail Name Constant ref int") => `(tactic| (refine' r_item ?k1 ?k2 ?k3 ?k4 ?k5 ?_ ?k6; (case k1 => k_asm); (case k2 => k_dflt k_mem); (case k3 => decide); (case k4 => decide); (case k5 => exact rfl); (case k6 => with_unfolding_all rfl); k_whole))
local macro_rules | `(tactic| walk_at "MY CODEC") => `(tactic| (
  k_dflt (refine' code_defC (K := frag.heap_1 _) ?k1 ?k2 ?k3 ?k4 ?k5 ?kA ?kF ?kK ?k6 ?k7 ?k8 ?k9 ?kB ?kD ?_ ?c2 ?c3 ?c4; (case kA | kF => exact rfl); (case kK => first | assumption | exact rfl); (case k1 | k2 | k3 | k4 | k5 => k_asm); (case k6 | k7 => k_is); (case k8 => ktr_room); (case k9 => walk_at "MY BINDS"); (case kB => exact rfl); (case kD => decide +kernel); (case c2 | c3 | c4 => exact rfl); k_whole; intro g' L' h' tk' cells' FG' F' N' Y' B' X' T' l1; (try k_lt l1); k_cells Y'; (try simp only [List.cons_append, List.nil_append] at N'); (try dsimp only); (try k_fold))))
local macro_rules | `(tactic| walk_at "MY ENTERC") => `(tactic| (refine wpAny_call ?_; walk_at "MY CODEC"))
local macro_rules | `(tactic| walk_at "MY DEC") => `(tactic| k_dflt ((try simp only [decide_eq_true_eq, decide_eq_false_iff_not, Bool.and_eq_true, Bool.not_eq_true', Bool.not_eq_false', bne_iff_ne, ne_eq, beq_iff_eq, Bool.not_eq_true]); omega))
local macro_rules | `(tactic| walk_at "ite") => `(tactic| (first
  | with_reducible refine ite_tt ?_ | with_reducible refine ite_ff ?_ | with_reducible refine ite_True_then ?_ | with_reducible refine ite_False_else ?_
  | (refine ite_pos (by with_reducible assumption) ?_) | (refine ite_neg (by with_reducible assumption) ?_) | (refine ite_isFalse (by with_reducible assumption) ?_)
  | (refine ite_pos (by walk_at "MY DEC") ?_)
  | (refine ite_neg (by walk_at "MY DEC") ?_)
  | (refine ite_pos (by decide) ?_) | (refine ite_neg (by decide) ?_)
  | (with_reducible refine split_ine ?_ ?_ <;> intro _) | (with_reducible refine split_ieq ?_ ?_ <;> intro _) | with_reducible refine split_not ?_
  | (refine split_dec ?_ ?_ <;> intro _) | (refine split_bool ?_ ?_ <;> intro _)))
local macro_rules | `(tactic| walk_at "execs cons") => `(tactic| (first | k_gentoks | refine seq_cons ?_))
local macro_rules | `(tactic| walk_at "execs nil") => `(tactic| (first | k_gentoks | refine wpAny_execs_nil ?_))
local macro_rules | `(tactic| walk_at "subscriptTail Name Constant bytes int") => `(tactic| (refine' KBw.item_K ?k1 ?k2 ?k3 ?k4 ?_ ?k5 ?k6; (case k1 => assumption); (case k2 => first | assumption | k_dflt omega); (case k3 => k_dflt (first | decide | omega)); (case k4 => first | assumption | k_dflt omega); (case k5 => with_unfolding_all rfl); (case k6 => intro _; with_unfolding_all rfl); intro t9 tk9 lo9 hi9; (try dsimp only)))
local macro_rules | `(tactic| walk_at "subscriptTail Name BinOp bytes int") => `(tactic| walk_at "subscriptTail Name Constant bytes int")
local macro_rules | `(tactic| walk_at "subscriptTail Name Name bytes int") => `(tactic| walk_at "subscriptTail Name Constant bytes int")
local macro_rules | `(tactic| walk_at "eval Constant int") => `(tactic| (refine wpAny_Constant_int ?_; (try dsimp only)))
local macro_rules | `(tactic| walk_at "eval Constant str") => `(tactic| (refine Calls.Constant_str ?_; (try dsimp only)))
local macro_rules | `(tactic| walk_at "MY NEWS") => `(tactic| (first | k_asm | exact news_nil | ((try dsimp only); refine' news_sub ?n1 ?n2; (case n1 => assumption); (case n2 => (intro p hp; (repeat (first | exact hp | refine List.Mem.tail _ ?_))))) | ((try dsimp only); refine' news_pick ?n1 ?n2 ?n3; (case n1 => assumption); (case n2 => k_dflt k_mem); (case n3 => walk_at "MY NEWS"))))
local macro_rules | `(tactic| walk_at "callWith ref") => `(tactic| ((try dsimp only); k_dflt (first
  | (refine' callWith_K ?k1 ?k2 ?_; (case k1 => k_asm); (case k2 => k_is); k_whole)
  | (refine' callWith_K0 ?k1 ?k2 ?_; (case k1 => k_in); (case k2 => k_is); k_whole))))
local macro_rules | `(tactic| walk_at "MY METH") => `(tactic| ((with_reducible show wpAny _ _ (call (Value.ref _) _) _ _ _); k_dflt (refine' call_meth ?k1 ?k2 ?_; (case k1 => k_asm); (case k2 => k_mem)); (try dsimp only [List.nil_append, List.cons_append])))
local macro_rules | `(tactic| walk_at "TurnEnd cons ret") => `(tactic| (refine turn_ret ?_; (try dsimp only)))
local macro_rules | `(tactic| walk_at "eval BinOp") => `(tactic| (k_fold; refine wpAny_BinOp ?_))
local macro_rules | `(tactic| k_ne) => `(tactic| first | with_reducible assumption | (dsimp only; with_reducible assumption) | (refine neN ?_; (try dsimp only); first | with_reducible first | exact Nat.ne_of_lt ‹_› | exact Nat.ne_of_gt ‹_› | exact ne_l0 ‹_› | exact ne_g0 ‹_› | exact ne_l1 ‹_› | exact ne_g1 ‹_› | exact ne_l2 ‹_› | exact ne_g2 ‹_› | exact ne_l3 ‹_› | exact ne_g3 ‹_› | exact ne_l4 ‹_› | exact ne_g4 ‹_› | exact ne_l5 ‹_› | exact ne_g5 ‹_› | exact ne_l6 ‹_› | exact ne_g6 ‹_› | exact ne_l7 ‹_› | exact ne_g7 ‹_› | exact ne_l8 ‹_› | exact ne_g8 ‹_› | omega))
section
section
theorem draw_ok {pv : Program} {w : World} {loose : List Str} {mean : ExcName → Option Value} {mg mb : Str → Option Value} {A₀ : Around} {dp un : Nat} {gd : Option (List Code)} {cn : Str} {cs : Scope} {a : Addr} {ccd : Value} {cl : List (Str × Addr)} {outer : List Env} {base h₀ : Heap} {L : Addr} {m : Str → Option Value} {s : Shared} {Q E : Value → Shared → Prop}
   {p q : Addr} {kq : Nat} {vs : List Value} {ns : List Int} {spot great many : Int} {t1 t2 tm : Tok} {rest : List (Addr × Obj)}
   (B : Below A₀ base outer h₀) (F : Fr h₀ L s.heap m) (X : (frag.heap_1 w.params).In h₀) (N : News h₀ L s.heap ((p, penO q spot great t1 t2) :: (q, lstO vs kq) :: rest)) (T : Top pv loose mean mg mb h₀)
   (hk : cs.kind = .function) (hdp : dp + 1 < recursionLimit) (hun : un + 400 < cLine)
   (hi : IntsAre vs ns) (hlen : ns.length ≤ 40) (hm : 1 ≤ many) (hm2 : many ≤ 100) (hs0 : 0 ≤ spot) (hs1 : spot ≤ 1000) (hpq : @Ne Nat q p) (off : ∀ x ∈ rest, x.1 ≠ p)
   (ret : ∀ (d : Int) t spot' great' t1' t2' h' tk', 0 ≤ d → d < many → 0 ≤ spot' → spot' ≤ spot + 1 → Fr h₀ L h' m → News h₀ L h' ((p, penO q spot' great' t1' t2') :: (q, lstO vs kq) :: rest) → Q (.int d t) {s with heap := h', toks := tk'}) :
   wpAny (model pr w) (ktrTop dp un gd cn cs L a ccd cl outer) (call (.ref 515) [.ref p, .int many tm]) Q E s := by
  walk_at "MY ENTER"
  ((skip; repeat' ((fail_if_success (with_reducible show wpAny _ _ (execs (Stmt.If (PySem.Expr.Compare (PySem.Expr.Subscript _ _ _) [CmpOp.NotEq] _ _) _ _ _ :: _) _) _ _ _)); (fail_if_success (with_reducible show wpAny _ _ (execs (Stmt.If (PySem.Expr.BoolOp _ _ _) _ _ _ :: _) _) _ _ _)); first | (k_unfold; (try dsimp only)) | (with_reducible refine gen3 ?_; intro _) | ((with_reducible show wpAny _ _ (exec (Stmt.Assign _ _ _) _) _ _ _); k_fold) | ((with_reducible show wpAny _ _ (exec (Stmt.Return _ _) _) _ _ _); k_fold) | ((with_reducible show wpAny _ _ (eval (PySem.Expr.Call _ _ _ _) _) _ _ _); k_fold) | with_reducible refine seq_next ?_ | with_reducible refine seq_ret ?_ | (first | ((with_reducible show wpAny _ _ (binaryOp Operator.Mult (Value.int _ _) (Value.int _ _)) _ _ _); with_reducible (((with_reducible show wpAny _ _ (binaryOp _ (Value.int (OfNat.ofNat _) _) _) _ _ _); refine PyProof.Rows.mul_int ?_ ?zzk1; rotate_left; (case zzk1 => k_dflt (exact IntMulOk.of_left (intBits_le_64 (by decide) (by decide))))))) | ((with_reducible show wpAny _ _ (binaryOp Operator.Mult (Value.int _ _) (Value.int _ _)) _ _ _); with_reducible (((fail_if_success (with_reducible show wpAny _ _ (binaryOp _ (Value.int (OfNat.ofNat _) _) _) _ _ _)); refine r_mul ?zzk1 ?zzk2 ?zzk3 ?zzk4 ?_; (case zzk1 => k_dflt omega); (case zzk2 => k_dflt omega); (case zzk3 => k_dflt omega); (case zzk4 => k_dflt omega); intro zzr9 zzhr9 zzhs9))) | ((with_reducible show wpAny _ _ (binaryOp Operator.Pow (Value.int _ _) (Value.int _ _)) _ _ _); with_reducible ((refine r_pow ?zzk1 ?zzk2 ?zzk3 ?_; (case zzk1 => k_dflt decide); (case zzk2 => k_dflt decide); (case zzk3 => k_dflt omega); intro zzr9))) | ((with_reducible show wpAny _ _ (binaryOp Operator.Mod (Value.int _ _) (Value.int _ _)) _ _ _); with_reducible ((refine r_mod ?zzk1 ?_; (case zzk1 => k_dflt (first | decide | omega | exact Int.ofNat_lt.mpr (List.length_pos_iff.mpr (of_decide_eq_false (by assumption))))); intro zzr9 zzhr9 zzhs9))) | ((with_reducible show wpAny _ _ (subscriptTail (PySem.Expr.Subscript _ _ _) (PySem.Expr.BinOp _ _ _ _) (Value.ref _) (Value.int _ _)) _ _ _); with_reducible ((refine' r_itemI ?zzk1 ?zzk2 ?zzk3 ?zzk4 ?zzk5 ?zzk6 ?_ ?zzk7; (case zzk1 => k_asm); (case zzk2 => k_dflt k_mem); (case zzk3 => assumption); (case zzk4 => assumption); (case zzk5 => assumption); (case zzk6 => omega); (case zzk7 => with_unfolding_all rfl); intro zzc9 zzt9 zzhc9))) | walk_at "MY STEP") | dsimp only | (leave1; (try dsimp only)))))
  all_goals (try k_data)
  rotate_left
  rename Fr _ _ _ _ => F4
  rename News _ _ _ _ => N4
  refine cut_set (Str.ofString "cell") (fun v => ∃ c t, v = Value.int c t) F4 (news_tail N4) ?cutA ?cutB
  case cutA =>
    (skip; repeat' (first | (k_unfold; (try dsimp only)) | (with_reducible refine gen3 ?_; intro _) | ((with_reducible show wpAny _ _ (exec (Stmt.Assign _ _ _) _) _ _ _); k_fold) | ((with_reducible show wpAny _ _ (exec (Stmt.Return _ _) _) _ _ _); k_fold) | ((with_reducible show wpAny _ _ (eval (PySem.Expr.Call _ _ _ _) _) _ _ _); k_fold) | with_reducible refine seq_next ?_ | with_reducible refine seq_ret ?_ | (first | ((with_reducible show wpAny _ _ (binaryOp Operator.Mult (Value.int _ _) (Value.int _ _)) _ _ _); with_reducible (((with_reducible show wpAny _ _ (binaryOp _ (Value.int (OfNat.ofNat _) _) _) _ _ _); refine PyProof.Rows.mul_int ?_ ?zzk1; rotate_left; (case zzk1 => k_dflt (exact IntMulOk.of_left (intBits_le_64 (by decide) (by decide))))))) | ((with_reducible show wpAny _ _ (binaryOp Operator.Mult (Value.int _ _) (Value.int _ _)) _ _ _); with_reducible (((fail_if_success (with_reducible show wpAny _ _ (binaryOp _ (Value.int (OfNat.ofNat _) _) _) _ _ _)); refine r_mul ?zzk1 ?zzk2 ?zzk3 ?zzk4 ?_; (case zzk1 => k_dflt omega); (case zzk2 => k_dflt omega); (case zzk3 => k_dflt omega); (case zzk4 => k_dflt omega); intro zzr9 zzhr9 zzhs9))) | ((with_reducible show wpAny _ _ (binaryOp Operator.Pow (Value.int _ _) (Value.int _ _)) _ _ _); with_reducible ((refine r_pow ?zzk1 ?zzk2 ?zzk3 ?_; (case zzk1 => k_dflt decide); (case zzk2 => k_dflt decide); (case zzk3 => k_dflt omega); intro zzr9))) | ((with_reducible show wpAny _ _ (binaryOp Operator.Mod (Value.int _ _) (Value.int _ _)) _ _ _); with_reducible ((refine r_mod ?zzk1 ?_; (case zzk1 => k_dflt (first | decide | omega | exact Int.ofNat_lt.mpr (List.length_pos_iff.mpr (of_decide_eq_false (by assumption))))); intro zzr9 zzhr9 zzhs9))) | ((with_reducible show wpAny _ _ (subscriptTail (PySem.Expr.Subscript _ _ _) (PySem.Expr.BinOp _ _ _ _) (Value.ref _) (Value.int _ _)) _ _ _); with_reducible ((refine' r_itemI ?zzk1 ?zzk2 ?zzk3 ?zzk4 ?zzk5 ?zzk6 ?_ ?zzk7; (case zzk1 => k_asm); (case zzk2 => k_dflt k_mem); (case zzk3 => assumption); (case zzk4 => assumption); (case zzk5 => assumption); (case zzk6 => omega); (case zzk7 => with_unfolding_all rfl); intro zzc9 zzt9 zzhc9))) | walk_at "MY STEP") | dsimp only | (leave1; (try dsimp only)) | fail "no step"))
    all_goals (try k_data)
    all_goals (exact ⟨_, _, _, ⟨_, _, rfl⟩, rfl, by first | exact fr_dup (by k_asm) | k_asm, by walk_at "MY NEWS"⟩)
  case cutB =>
    clear F4 N4
    rintro _ h5 tk5 ⟨c5, t5, rfl⟩ F5 N5
    replace F5 := fr_over F5
    refine cut_same F5 N5 ?cutC ?cutD
    case cutC =>
      (skip; repeat' (first | (k_unfold; (try dsimp only)) | (with_reducible refine gen3 ?_; intro _) | ((with_reducible show wpAny _ _ (exec (Stmt.Assign _ _ _) _) _ _ _); k_fold) | ((with_reducible show wpAny _ _ (exec (Stmt.Return _ _) _) _ _ _); k_fold) | ((with_reducible show wpAny _ _ (eval (PySem.Expr.Call _ _ _ _) _) _ _ _); k_fold) | with_reducible refine seq_next ?_ | with_reducible refine seq_ret ?_ | (first | ((with_reducible show wpAny _ _ (binaryOp Operator.Mult (Value.int _ _) (Value.int _ _)) _ _ _); with_reducible (((with_reducible show wpAny _ _ (binaryOp _ (Value.int (OfNat.ofNat _) _) _) _ _ _); refine PyProof.Rows.mul_int ?_ ?zzk1; rotate_left; (case zzk1 => k_dflt (exact IntMulOk.of_left (intBits_le_64 (by decide) (by decide))))))) | ((with_reducible show wpAny _ _ (binaryOp Operator.Mult (Value.int _ _) (Value.int _ _)) _ _ _); with_reducible (((fail_if_success (with_reducible show wpAny _ _ (binaryOp _ (Value.int (OfNat.ofNat _) _) _) _ _ _)); refine r_mul ?zzk1 ?zzk2 ?zzk3 ?zzk4 ?_; (case zzk1 => k_dflt omega); (case zzk2 => k_dflt omega); (case zzk3 => k_dflt omega); (case zzk4 => k_dflt omega); intro zzr9 zzhr9 zzhs9))) | ((with_reducible show wpAny _ _ (binaryOp Operator.Pow (Value.int _ _) (Value.int _ _)) _ _ _); with_reducible ((refine r_pow ?zzk1 ?zzk2 ?zzk3 ?_; (case zzk1 => k_dflt decide); (case zzk2 => k_dflt decide); (case zzk3 => k_dflt omega); intro zzr9))) | ((with_reducible show wpAny _ _ (binaryOp Operator.Mod (Value.int _ _) (Value.int _ _)) _ _ _); with_reducible ((refine r_mod ?zzk1 ?_; (case zzk1 => k_dflt (first | decide | omega | exact Int.ofNat_lt.mpr (List.length_pos_iff.mpr (of_decide_eq_false (by assumption))))); intro zzr9 zzhr9 zzhs9))) | ((with_reducible show wpAny _ _ (subscriptTail (PySem.Expr.Subscript _ _ _) (PySem.Expr.BinOp _ _ _ _) (Value.ref _) (Value.int _ _)) _ _ _); with_reducible ((refine' r_itemI ?zzk1 ?zzk2 ?zzk3 ?zzk4 ?zzk5 ?zzk6 ?_ ?zzk7; (case zzk1 => k_asm); (case zzk2 => k_dflt k_mem); (case zzk3 => assumption); (case zzk4 => assumption); (case zzk5 => assumption); (case zzk6 => omega); (case zzk7 => with_unfolding_all rfl); intro zzc9 zzt9 zzhc9))) | walk_at "MY STEP") | dsimp only | (leave1; (try dsimp only)) | fail "no step"))
      all_goals (try k_data)
      all_goals (try (exact ⟨_, _, rfl, by k_asm, by walk_at "MY NEWS"⟩))
      all_goals (refine' ret _ _ _ _ _ _ _ _ ?k1 ?k2 ?k3 ?k4 ?k5 ?k6; (case k6 => (first | k_asm | exact news_tail (by k_asm) | exact news_tail (news_tail (by k_asm)) | exact news_tail (news_tail (news_tail (by k_asm))) | exact news_tail (news_tail (news_tail (news_tail (by k_asm)))))); (case k5 => k_asm); (case k1 => assumption); (case k2 => assumption); (case k3 => omega); (case k4 => omega))
    case cutD =>
      clear F5 N5
      intro h6 tk6 F6 N6
      (skip; repeat' (first | (k_unfold; (try dsimp only)) | (with_reducible refine gen3 ?_; intro _) | ((with_reducible show wpAny _ _ (exec (Stmt.Assign _ _ _) _) _ _ _); k_fold) | ((with_reducible show wpAny _ _ (exec (Stmt.Return _ _) _) _ _ _); k_fold) | ((with_reducible show wpAny _ _ (eval (PySem.Expr.Call _ _ _ _) _) _ _ _); k_fold) | with_reducible refine seq_next ?_ | with_reducible refine seq_ret ?_ | (first | ((with_reducible show wpAny _ _ (binaryOp Operator.Mult (Value.int _ _) (Value.int _ _)) _ _ _); with_reducible (((with_reducible show wpAny _ _ (binaryOp _ (Value.int (OfNat.ofNat _) _) _) _ _ _); refine PyProof.Rows.mul_int ?_ ?zzk1; rotate_left; (case zzk1 => k_dflt (exact IntMulOk.of_left (intBits_le_64 (by decide) (by decide))))))) | ((with_reducible show wpAny _ _ (binaryOp Operator.Mult (Value.int _ _) (Value.int _ _)) _ _ _); with_reducible (((fail_if_success (with_reducible show wpAny _ _ (binaryOp _ (Value.int (OfNat.ofNat _) _) _) _ _ _)); refine r_mul ?zzk1 ?zzk2 ?zzk3 ?zzk4 ?_; (case zzk1 => k_dflt omega); (case zzk2 => k_dflt omega); (case zzk3 => k_dflt omega); (case zzk4 => k_dflt omega); intro zzr9 zzhr9 zzhs9))) | ((with_reducible show wpAny _ _ (binaryOp Operator.Pow (Value.int _ _) (Value.int _ _)) _ _ _); with_reducible ((refine r_pow ?zzk1 ?zzk2 ?zzk3 ?_; (case zzk1 => k_dflt decide); (case zzk2 => k_dflt decide); (case zzk3 => k_dflt omega); intro zzr9))) | ((with_reducible show wpAny _ _ (binaryOp Operator.Mod (Value.int _ _) (Value.int _ _)) _ _ _); with_reducible ((refine r_mod ?zzk1 ?_; (case zzk1 => k_dflt (first | decide | omega | exact Int.ofNat_lt.mpr (List.length_pos_iff.mpr (of_decide_eq_false (by assumption))))); intro zzr9 zzhr9 zzhs9))) | ((with_reducible show wpAny _ _ (subscriptTail (PySem.Expr.Subscript _ _ _) (PySem.Expr.BinOp _ _ _ _) (Value.ref _) (Value.int _ _)) _ _ _); with_reducible ((refine' r_itemI ?zzk1 ?zzk2 ?zzk3 ?zzk4 ?zzk5 ?zzk6 ?_ ?zzk7; (case zzk1 => k_asm); (case zzk2 => k_dflt k_mem); (case zzk3 => assumption); (case zzk4 => assumption); (case zzk5 => assumption); (case zzk6 => omega); (case zzk7 => with_unfolding_all rfl); intro zzc9 zzt9 zzhc9))) | walk_at "MY STEP") | dsimp only | (leave1; (try dsimp only)) | fail "no step"))
      all_goals (try k_data)
      all_goals (refine' ret _ _ _ _ _ _ _ _ ?k1 ?k2 ?k3 ?k4 ?k5 ?k6; (case k6 => (first | k_asm | exact news_tail (by k_asm) | exact news_tail (news_tail (by k_asm)) | exact news_tail (news_tail (news_tail (by k_asm))) | exact news_tail (news_tail (news_tail (news_tail (by k_asm)))))); (case k5 => k_asm); (case k1 => assumption); (case k2 => assumption); (case k3 => omega); (case k4 => omega))
  all_goals (refine' ret _ _ _ _ _ _ _ _ ?k1 ?k2 ?k3 ?k4 ?k5 ?k6; (case k6 => (first | k_asm | exact news_tail (by k_asm) | exact news_tail (news_tail (by k_asm)) | exact news_tail (news_tail (news_tail (by k_asm))) | exact news_tail (news_tail (news_tail (news_tail (by k_asm)))))); (case k5 => k_asm); (case k1 => assumption); (case k2 => assumption); (case k3 => omega); (case k4 => omega))
end
structure PenV where
  spot : Int
  great : Int
  t1 : Tok
  t2 : Tok
abbrev penV (q : Addr) (v : PenV) : Obj := penO q v.spot v.great v.t1 v.t2
/-- one object of the ledger turned, whatever it turns to -/
inductive UpdF {α : Type} (d : Addr) (o : Obj) (O : α → Obj) : List (Addr × Obj) → (α → List (Addr × Obj)) → Prop
  | head {r : List (Addr × Obj)} : (∀ p ∈ r, p.1 ≠ d) → UpdF d o O ((d, o) :: r) (fun a => (d, O a) :: r)
  | tail {p : Addr × Obj} {r : List (Addr × Obj)} {r' : α → List (Addr × Obj)} : p.1 ≠ d → UpdF d o O r r' → UpdF d o O (p :: r) (fun a => p :: r' a)
theorem UpdF.mem {α : Type} {d : Addr} {o : Obj} {O : α → Obj} : ∀ {l : List (Addr × Obj)} {l' : α → List (Addr × Obj)}, UpdF d o O l l' → (d, o) ∈ l ∧ ∀ a, ∀ p ∈ l' a, p = (d, O a) ∨ (p ∈ l ∧ p.1 ≠ d) := by
  intro l l' U
  induction U with
  | head h =>
    refine ⟨.head _, fun a p hp => ?_⟩
    rcases List.mem_cons.mp hp with e | hp
    · exact .inl e
    · exact .inr ⟨.tail _ hp, h p hp⟩
  | tail h r ih =>
    refine ⟨.tail _ ih.1, fun a p hp => ?_⟩
    rcases List.mem_cons.mp hp with rfl | hp
    · exact .inr ⟨.head _, h⟩
    · exact (ih.2 a p hp).imp id fun z => ⟨.tail _ z.1, z.2⟩
theorem ints_no_ref {vs : List Value} {ns : List Int} (hi : IntsAre vs ns) {q : Addr} (h : Value.ref q ∈ vs) : False := by
  induction hi with
  | nil => cases h
  | cons n t r ih => rcases List.mem_cons.mp h with e | h
                     · cases e
                     · exact ih h
theorem draw2 {pv : Program} {w : World} {loose : List Str} {mean : ExcName → Option Value} {mg mb : Str → Option Value} {A₀ : Around} {dp un : Nat} {gd : Option (List Code)} {cn : Str} {cs : Scope} {a : Addr} {ccd : Value} {cl : List (Str × Addr)} {outer : List Env} {base h₀ : Heap} {L : Addr} {m : Str → Option Value} {s : Shared} {Q E : Value → Shared → Prop}
   {p q : Addr} {kq : Nat} {vs : List Value} {ns : List Int} {many : Int} {tm : Tok} {v : PenV} {news : List (Addr × Obj)} {news' : PenV → List (Addr × Obj)}
   (B : Below A₀ base outer h₀) (F : Fr h₀ L s.heap m) (X : (frag.heap_1 w.params).In h₀) (N : News h₀ L s.heap news) (T : Top pv loose mean mg mb h₀)
   (hk : cs.kind = .function) (hdp : dp + 1 < recursionLimit) (hun : un + 400 < cLine)
   (hq : (q, lstO vs kq) ∈ news) (U : UpdF p (penV q v) (penV q) news news')
   (hi : IntsAre vs ns) (hlen : ns.length ≤ 40) (hm : 1 ≤ many) (hm2 : many ≤ 100) (hs0 : 0 ≤ v.spot) (hs1 : v.spot ≤ 1000)
   (ret : ∀ (d : Int) t v' h' tk', 0 ≤ d → d < many → 0 ≤ v'.spot → v'.spot ≤ v.spot + 1 → Fr h₀ L h' m → News h₀ L h' (news' v') → Q (.int d t) {s with heap := h', toks := tk'}) :
   wpAny (model pr w) (ktrTop dp un gd cn cs L a ccd cl outer) (call (.ref 515) [.ref p, .int many tm]) Q E s := by
  have hpq : @Ne Nat q p := by
    intro e
    have e1 := (N _ hq).1
    have e2 := (N _ U.mem.1).1
    have e : q = p := e
    subst e
    rw [e1] at e2
    injection e2 with e2
    injection e2 with _ _ e2 _
    injection e2 with e2 _
    have e3 : vs = [Value.ref q, .int v.spot v.t1, .int v.great v.t2] := by simpa using congrArg Array.toList e2
    exact ints_no_ref hi (q := q) (by rw [e3]; simp)
  refine draw_ok (kq := kq) (spot := v.spot) (great := v.great) (t1 := v.t1) (t2 := v.t2) (rest := news.filter fun x => decide (x.1 ≠ p)) B F X ?_ T hk hdp hun hi hlen hm hm2 hs0 hs1 hpq ?_ ?_
  · intro x hx
    rcases List.mem_cons.mp hx with rfl | hx
    · exact N _ U.mem.1
    rcases List.mem_cons.mp hx with rfl | hx
    · exact N _ hq
    · exact N _ (List.mem_filter.mp hx).1
  · intro x hx
    exact of_decide_eq_true (List.mem_filter.mp hx).2
  · intro d t spot' great' t1' t2' h' tk' h1 h2 h3 h4 F' N'
    refine ret d t ⟨spot', great', t1', t2'⟩ h' tk' h1 h2 h3 h4 F' fun x hx => ?_
    rcases U.mem.2 _ x hx with rfl | ⟨e, f⟩
    · exact N' _ (.head _)
    · exact N' _ (.tail _ (.tail _ (List.mem_filter.mpr ⟨e, decide_eq_true f⟩)))

end
local macro_rules | `(tactic| walk_at "MY UPDF") => `(tactic| first | (refine' UpdF.head ?a; (case a => k_all)) | (refine' UpdF.tail ?a ?b; (case a => k_ne); (case b => walk_at "MY UPDF")))
section
theorem drop_at {us : List Int} {i : Nat} (h : i < us.length) : us.drop i = us.getD i 0 :: us.drop (i + 1) := by
  rw [List.drop_eq_getElem_cons h]; simp [h]
theorem tu_skip {us : List Int} {i : Nat} (hlt : i < us.length) (h : (55296 ≤ us.getD ((i : Int)).toNat 0 ∧ us.getD ((i : Int)).toNat 0 < 56320 ∧ (us.length ≤ i + 1 ∨ ¬ (56320 ≤ us.getD ((i : Int) + 1).toNat 0 ∧ us.getD ((i : Int) + 1).toNat 0 < 57344))) ∨ (56320 ≤ us.getD ((i : Int)).toNat 0 ∧ us.getD ((i : Int)).toNat 0 < 57344)) :
    tu (us.drop i) = tu (us.drop (i + 1)) := by
  have e1 : ((i : Int)).toNat = i := by omega
  have e2 : ((i : Int) + 1).toNat = i + 1 := by omega
  rw [e1, e2] at h
  rw [drop_at hlt]
  generalize us.getD i 0 = u at h ⊢
  by_cases h2 : i + 1 < us.length
  · rw [drop_at h2]
    generalize us.getD (i + 1) 0 = v at h ⊢
    conv => lhs; unfold tu
    rcases h with ⟨h3, h4, h5⟩ | ⟨h3, h4⟩
    · rcases h5 with h5 | h5
      · omega
      · rw [if_pos ⟨h3, h4⟩, if_neg h5]
    · rw [if_neg (by omega), if_pos ⟨h3, h4⟩]
  · have : us.drop (i + 1) = [] := List.drop_eq_nil_of_le (by omega)
    rw [this]
    show (if 55296 ≤ u ∧ u < 56320 then [] else if 56320 ≤ u ∧ u < 57344 then [] else [u]) = []
    rcases h with ⟨h3, h4, _⟩ | ⟨h3, h4⟩
    · rw [if_pos ⟨h3, h4⟩]
    · rw [if_neg (by omega), if_pos ⟨h3, h4⟩]
theorem tu_one {us : List Int} {i : Nat} (hlt : i < us.length) (h : ¬ (55296 ≤ us.getD ((i : Int)).toNat 0 ∧ us.getD ((i : Int)).toNat 0 < 57344)) :
    tu (us.drop i) = us.getD ((i : Int)).toNat 0 :: tu (us.drop (i + 1)) := by
  have e1 : ((i : Int)).toNat = i := by omega
  rw [e1] at h ⊢
  rw [drop_at hlt]
  generalize us.getD i 0 = u at h ⊢
  by_cases h2 : i + 1 < us.length
  · rw [drop_at h2]
    generalize us.getD (i + 1) 0 = v at h ⊢
    conv => lhs; unfold tu
    rw [if_neg (by omega), if_neg (by omega)]
  · have : us.drop (i + 1) = [] := List.drop_eq_nil_of_le (by omega)
    rw [this]
    show (if 55296 ≤ u ∧ u < 56320 then [] else if 56320 ≤ u ∧ u < 57344 then [] else [u]) = [u]
    rw [if_neg (by omega), if_neg (by omega)]
theorem tu_pair {us : List Int} {i : Nat} (hlt : i + 1 < us.length) (h : 55296 ≤ us.getD ((i : Int)).toNat 0 ∧ us.getD ((i : Int)).toNat 0 < 56320 ∧ 56320 ≤ us.getD ((i : Int) + 1).toNat 0 ∧ us.getD ((i : Int) + 1).toNat 0 < 57344) :
    tu (us.drop i) = (65536 + (us.getD ((i : Int)).toNat 0 - 55296) * 1024 + us.getD ((i : Int) + 1).toNat 0 - 56320) :: tu (us.drop (i + 2)) := by
  have e1 : ((i : Int)).toNat = i := by omega
  have e2 : ((i : Int) + 1).toNat = i + 1 := by omega
  rw [e1, e2] at h ⊢
  rw [drop_at (by omega : i < us.length), drop_at hlt]
  generalize us.getD i 0 = u at h ⊢
  generalize us.getD (i + 1) 0 = v at h ⊢
  conv => lhs; unfold tu
  rw [if_pos ⟨h.1, h.2.1⟩, if_pos h.2.2]
theorem tu_end {us : List Int} {i : Nat} {cs : List Int} (h : ¬ ((i : Int) < us.length)) (e : cs ++ tu (us.drop i) = tu us) : cs = tu us := by
  have : us.drop i = [] := List.drop_eq_nil_of_le (by omega)
  rw [this] at e
  simpa [tu] using e
theorem getD_in {us : List Int} (hb : ∀ u ∈ us, 0 ≤ u ∧ u < 65536) {i : Nat} : 0 ≤ us.getD i 0 ∧ us.getD i 0 < 65536 := by
  by_cases h : i < us.length
  · have e : us.getD i 0 = us[i] := by simp [h]
    rw [e]; exact hb _ (List.getElem_mem h)
  · have e : us.getD i 0 = 0 := by simp [Nat.not_lt.mp h]
    rw [e]; decide
structure TouS where
  ys : List Value
  n : Nat
  i : Nat
  t : Tok
  u : Option Value
theorem tou_ok {pv : Program} {w : World} {loose : List Str} {mean : ExcName → Option Value} {mg mb : Str → Option Value} {A₀ : Around} {dp un : Nat} {gd : Option (List Code)} {cn : Str} {cs : Scope} {a : Addr} {ccd : Value} {cl : List (Str × Addr)} {outer : List Env} {base h₀ : Heap} {L : Addr} {m : Str → Option Value} {s : Shared} {Q E : Value → Shared → Prop}
   {l : Addr} {vs : List Value} {us : List Int} {k : Nat} {rest : List (Addr × Obj)}
   (B : Below A₀ base outer h₀) (F : Fr h₀ L s.heap m) (X : (frag.heap_1 w.params).In h₀) (N : News h₀ L s.heap ((l, lstO vs k) :: rest)) (T : Top pv loose mean mg mb h₀)
   (hk : cs.kind = .function) (hdp : dp + 1 < recursionLimit) (hun : un + 400 < cLine)
   (hi : IntsAre vs us) (hb : ∀ u ∈ us, 0 ≤ u ∧ u < 65536) (hlen : us.length ≤ 1000)
   (ret : ∀ t h' tk', Fr h₀ L h' m → News h₀ L h' ((l, lstO vs k) :: rest) → Q (.str (KStt.txt (tu us)) t) {s with heap := h', toks := tk'}) :
   wpAny (model pr w) (ktrTop dp un gd cn cs L a ccd cl outer) (call (.ref 473) [.ref l]) Q E s := by
  walk_at "MY ENTER"
  (skip; repeat' (first | (k_unfold; (try dsimp only)) | (with_reducible refine gen3 ?_; intro _) | ((with_reducible show wpAny _ _ (exec (Stmt.Assign _ _ _) _) _ _ _); k_fold) | ((with_reducible show wpAny _ _ (exec (Stmt.Return _ _) _) _ _ _); k_fold) | ((with_reducible show wpAny _ _ (eval (PySem.Expr.Call _ _ _ _) _) _ _ _); k_fold) | with_reducible refine seq_next ?_ | with_reducible refine seq_ret ?_ | (first | ((with_reducible show wpAny _ _ (subscriptTail (PySem.Expr.Name _ _) (PySem.Expr.BinOp _ _ _ _) (Value.ref _) (Value.int _ _)) _ _ _); with_reducible ((refine' r_itemN ?zzk1 ?zzk2 ?zzk3 ?zzk4 ?zzk5 ?zzk6 ?_ ?zzk7; (case zzk1 => k_asm); (case zzk2 => k_dflt k_mem); (case zzk3 => assumption); (case zzk4 => omega); (case zzk5 => omega); (case zzk6 => omega); (case zzk7 => with_unfolding_all rfl); intro zzt9))) | ((with_reducible show wpAny _ _ (subscriptTail (PySem.Expr.Name _ _) (PySem.Expr.Name _ _) (Value.ref _) (Value.int _ _)) _ _ _); with_reducible ((refine' r_itemN ?zzk1 ?zzk2 ?zzk3 ?zzk4 ?zzk5 ?zzk6 ?_ ?zzk7; (case zzk1 => k_asm); (case zzk2 => k_dflt k_mem); (case zzk3 => assumption); (case zzk4 => omega); (case zzk5 => omega); (case zzk6 => omega); (case zzk7 => with_unfolding_all rfl); intro zzt9))) | ((with_reducible show wpAny _ _ (call (Value.builtin "str.join") _ _) _ _ _); with_reducible ((refine' r_join ?zzk1 ?zzk2 ?zzk3 ?zzk4 ?_; (case zzk1 => k_asm); (case zzk2 => k_dflt k_mem); (case zzk3 => assumption); (case zzk4 => omega); intro zzt9 zztk9))) | ((with_reducible show wpAny _ _ (call (Value.builtin "list.append") _ _) _ _ _); with_reducible ((refine' r_append ?zzk1 ?zzk2 ?zzk3 ?zzk4 ?_; (case zzk1 => k_asm); (case zzk2 => k_asm); (case zzk3 => k_dflt k_upd); (case zzk4 => k_dflt (first | assumption | omega)); intro zzh' zzF' zzN'))) | ((with_reducible show wpAny _ _ (call (Value.builtin "chr") _ _) _ _ _); with_reducible ((refine chr_of_range ?zzk1 ?zzk2 ?_; (case zzk1 => k_dflt omega); (case zzk2 => k_dflt omega)))) | walk_at "MY STEP") | dsimp only | (leave1; (try dsimp only)) | fail "no step"))
  rename_i D hA hlt hB tkA hC F1 N1
  obtain ⟨hlD, hrD⟩ := hlt
  have hoff := allLt_ne hrD
  have hil := hi.length
  refine' r_while (σ := TouS) (fun c y => if y = "at" then some (.int (c.i : Int) c.t) else if y = "is_high" then c.u else if y = "signs" then some (.ref D) else List.lookup y [(Str.ofString "units", Value.ref l)])
    (fun c => (D, lstO c.ys c.n) :: (l, lstO vs k) :: rest) (fun c => c.i ≤ us.length ∧ ∃ cs, StrsAre c.ys (sg cs) ∧ cs.length ≤ c.i ∧ cs ++ tu (us.drop c.i) = tu us) (fun c => us.length - c.i) ⟨[], 0, 0, _, none⟩
    ?kF N1 ?kP ?turn ?kE
  case kF =>
    refine fr_cast F1 ?_
    intro y
    dsimp only
    split
    · rfl
    · by_cases h2 : y = "is_high"
      · subst h2; rfl
      · rw [if_neg h2]; rfl
  case kP => exact ⟨Nat.zero_le _, [], .nil, Nat.le_refl _, rfl⟩
  case kE => passes_own
  case turn =>
    rintro ⟨ys, n, i, t, u⟩ h tk ⟨hle, cs0, hys, hcl, hcs⟩ F2 N2
    clear F1 N1
    dsimp only at hle hys hcl hcs F2 N2 ⊢
    have hyl : ys.length ≤ 1000 := by rw [strs_len hys, sg_length]; omega
    have hu0 := getD_in hb (i := ((i : Int)).toNat)
    have hu1 := getD_in hb (i := ((i : Int) + 1).toNat)
    (skip; repeat' (first | (k_unfold; (try dsimp only)) | (with_reducible refine gen3 ?_; intro _) | ((with_reducible show wpAny _ _ (exec (Stmt.Assign _ _ _) _) _ _ _); k_fold) | ((with_reducible show wpAny _ _ (exec (Stmt.Return _ _) _) _ _ _); k_fold) | ((with_reducible show wpAny _ _ (eval (PySem.Expr.Call _ _ _ _) _) _ _ _); k_fold) | with_reducible refine seq_next ?_ | with_reducible refine seq_ret ?_ | (first | ((with_reducible show wpAny _ _ (subscriptTail (PySem.Expr.Name _ _) (PySem.Expr.BinOp _ _ _ _) (Value.ref _) (Value.int _ _)) _ _ _); with_reducible ((refine' r_itemN ?zzk1 ?zzk2 ?zzk3 ?zzk4 ?zzk5 ?zzk6 ?_ ?zzk7; (case zzk1 => k_asm); (case zzk2 => k_dflt k_mem); (case zzk3 => assumption); (case zzk4 => omega); (case zzk5 => omega); (case zzk6 => omega); (case zzk7 => with_unfolding_all rfl); intro zzt9))) | ((with_reducible show wpAny _ _ (subscriptTail (PySem.Expr.Name _ _) (PySem.Expr.Name _ _) (Value.ref _) (Value.int _ _)) _ _ _); with_reducible ((refine' r_itemN ?zzk1 ?zzk2 ?zzk3 ?zzk4 ?zzk5 ?zzk6 ?_ ?zzk7; (case zzk1 => k_asm); (case zzk2 => k_dflt k_mem); (case zzk3 => assumption); (case zzk4 => omega); (case zzk5 => omega); (case zzk6 => omega); (case zzk7 => with_unfolding_all rfl); intro zzt9))) | ((with_reducible show wpAny _ _ (call (Value.builtin "str.join") _ _) _ _ _); with_reducible ((refine' r_join ?zzk1 ?zzk2 ?zzk3 ?zzk4 ?_; (case zzk1 => k_asm); (case zzk2 => k_dflt k_mem); (case zzk3 => assumption); (case zzk4 => omega); intro zzt9 zztk9))) | ((with_reducible show wpAny _ _ (call (Value.builtin "list.append") _ _) _ _ _); with_reducible ((refine' r_append ?zzk1 ?zzk2 ?zzk3 ?zzk4 ?_; (case zzk1 => k_asm); (case zzk2 => k_asm); (case zzk3 => k_dflt k_upd); (case zzk4 => k_dflt (first | assumption | omega)); intro zzh' zzF' zzN'))) | ((with_reducible show wpAny _ _ (call (Value.builtin "chr") _ _) _ _ _); with_reducible ((refine chr_of_range ?zzk1 ?zzk2 ?_; (case zzk1 => k_dflt omega); (case zzk2 => k_dflt omega)))) | walk_at "MY STEP") | dsimp only | (leave1; (try dsimp only)) | fail "no step"))
    all_goals (try k_data)
    all_goals (first
      | (refine' ⟨⟨_, _, i + 1, _, _⟩, _, _, rfl, fr_cast (by k_asm) ?f, ?N, ⟨?a, cs0, ?s, ?c, ?d⟩, ?e⟩
         case N => k_asm
         case f => (intro y; dsimp only; by_cases h1 : y = "at"; (subst h1; rfl); by_cases h2 : y = "is_high"; (subst h2; rfl); simp only [if_neg h1, if_neg h2])
         case s => exact hys
         case a => (dsimp only; omega)
         case c => (dsimp only; omega)
         case d => (rw [← hcs]; exact congrArg _ (tu_skip (us := us) (i := i) (by omega) (by omega)).symm)
         case e => (dsimp only; omega))
      | (rw [tu_end (by assumption) hcs]; exact ret _ _ _ (by k_asm) (news_tail (by k_asm)))
      | (refine' ⟨⟨_, _, i + 2, _, _⟩, _, _, rfl, fr_cast (by k_asm) ?f, ?N, ⟨?a, cs0 ++ [_], ?s, ?c, ?d⟩, ?e⟩
         case N => k_asm
         case f => (intro y; dsimp only; by_cases h1 : y = "at"; (subst h1; rfl); by_cases h2 : y = "is_high"; (subst h2; rfl); simp only [if_neg h1, if_neg h2])
         case s => (rw [← sg_snoc]; exact strs_snoc hys)
         case a => (dsimp only; omega)
         case c => (simp only [List.length_append, List.length_singleton]; omega)
         case d => (rw [← hcs, tu_pair (us := us) (i := i) (by omega) (by omega), List.append_assoc]; rfl)
         case e => (dsimp only; omega))
      | (refine' ⟨⟨_, _, i + 1, _, _⟩, _, _, rfl, fr_cast (by k_asm) ?f, ?N, ⟨?a, cs0 ++ [_], ?s, ?c, ?d⟩, ?e⟩
         case N => k_asm
         case f => (intro y; dsimp only; by_cases h1 : y = "at"; (subst h1; rfl); by_cases h2 : y = "is_high"; (subst h2; rfl); simp only [if_neg h1, if_neg h2])
         case s => (rw [← sg_snoc]; exact strs_snoc hys)
         case a => (dsimp only; omega)
         case c => (simp only [List.length_append, List.length_singleton]; omega)
         case d => (rw [← hcs, tu_one (us := us) (i := i) (by omega) (by omega), List.append_assoc]; rfl)
         case e => (dsimp only; omega)))

end
section
/-- the units of octets, two by two, an odd last one left out -/
def un2 : List Int → List Int
  | x :: y :: r => (256 * x + y) :: un2 r
  | _ => []
/-- what prefix_text reads -/
def rdT (ks : List Int) : List Int := if ks.take 2 = [254, 255] then tu (un2 (ks.drop 2)) else ks
theorem un2_length : ∀ l : List Int, (un2 l).length = l.length / 2
  | [] => rfl
  | [_] => by simp [un2]
  | _ :: _ :: r => by
    have ih := un2_length r
    simp only [un2, List.length_cons, ih]; omega
theorem un2_get : ∀ (l : List Int) (i : Nat), i < l.length / 2 → (un2 l)[i]? = some (256 * l.getD (2 * i) 0 + l.getD (2 * i + 1) 0)
  | [], i, h => by simp at h
  | [_], i, h => by simp at h
  | x :: y :: r, 0, _ => by simp [un2]
  | x :: y :: r, i + 1, h => by
    have ih := un2_get r i (by simp only [List.length_cons] at h; omega)
    have e1 : 2 * (i + 1) = 2 * i + 1 + 1 := by omega
    simp only [un2, List.getElem?_cons_succ, ih, e1, List.getD_cons_succ]
theorem getD_drop (l : List Int) (k i : Nat) : (l.drop k).getD i 0 = l.getD (k + i) 0 := by
  simp [List.getD_eq_getElem?_getD]
theorem un2_in {l : List Int} (hb : ∀ u ∈ l, 0 ≤ u ∧ u < 256) : ∀ u ∈ un2 l, 0 ≤ u ∧ u < 65536 := by
  have : ∀ n, ∀ l : List Int, l.length ≤ n → (∀ u ∈ l, 0 ≤ u ∧ u < 256) → ∀ u ∈ un2 l, 0 ≤ u ∧ u < 65536 := by
    intro n
    induction n with
    | zero => intro l hl _ u hu; have : l = [] := List.length_eq_zero_iff.mp (by omega); subst this; simp [un2] at hu
    | succ n ih =>
      intro l hl hb u hu
      match l, hl, hb, hu with
      | [], _, _, hu => simp [un2] at hu
      | [_], _, _, hu => simp [un2] at hu
      | x :: y :: r, hl, hb, hu =>
        rcases List.mem_cons.mp hu with rfl | hu
        · have h1 := hb x (by simp); have h2 := hb y (by simp); omega
        · exact ih r (by simp only [List.length_cons] at hl; omega) (fun v hv => hb v (by simp [hv])) u hu
  exact this l.length l (Nat.le_refl _) hb
theorem mark_iff {p : Array UInt8} {ks : List Int} (h : KBw.bInts p = List.take (clipAt ks.length 2) ks) : p.toList = #[254, 255].toList ↔ ks.take 2 = [254, 255] := by
  have e : clipAt ks.length 2 = min 2 ks.length := KBc.clip_lit ks.length 2
  rw [e] at h
  have e2 : List.take (min 2 ks.length) ks = ks.take 2 := by
    rcases Nat.le_total 2 ks.length with h1 | h1
    · rw [Nat.min_eq_left h1]
    · rw [Nat.min_eq_right h1, List.take_of_length_le (Nat.le_refl _), List.take_of_length_le h1]
  rw [e2] at h
  rw [← h]
  unfold KBw.bInts
  constructor
  · intro q; rw [q]; rfl
  · intro q
    have inj : ∀ (l r : List UInt8), l.map (fun c => (c.toNat : Int)) = r.map (fun c => (c.toNat : Int)) → l = r := by
      intro l
      induction l with
      | nil => intro r hr; cases r with | nil => rfl | cons _ _ => simp at hr
      | cons x l ih =>
        intro r hr
        cases r with
        | nil => simp at hr
        | cons y r =>
          simp only [List.map_cons, List.cons.injEq] at hr
          rw [ih r hr.2, UInt8.toNat_inj.mp (by omega : x.toNat = y.toNat)]
    exact inj _ [254, 255] q
theorem mark_no {p : Array UInt8} {ks : List Int} (h : KBw.bInts p = List.take (clipAt ks.length 2) ks) (e : (p.toList != #[254, 255].toList) = true) : rdT ks = ks := by
  unfold rdT
  rw [if_neg fun q => ?_]
  have := (mark_iff h).mpr q
  rw [this] at e; simp at e
theorem mark_yes {p : Array UInt8} {ks : List Int} (h : KBw.bInts p = List.take (clipAt ks.length 2) ks) (e : (p.toList != #[254, 255].toList) = false) : rdT ks = tu (un2 (ks.drop 2)) ∧ 2 ≤ ks.length := by
  have q : ks.take 2 = [254, 255] := (mark_iff h).mp (by simpa using e)
  refine ⟨by unfold rdT; rw [if_pos q], ?_⟩
  have := congrArg List.length q
  simp at this; omega
theorem range2 (n : Nat) (h : 2 ≤ n) : Builtin.Range.rangeSize 2 ((n : Int) - 1) 2 = (((n - 2) / 2 : Nat) : Int) := by
  unfold Builtin.Range.rangeSize
  rw [if_pos (by decide)]
  split <;> omega
theorem tn2 (i : Nat) : (2 + (i : Int) * 2).toNat = 2 + 2 * i := by omega
theorem tn3 (i : Nat) : (2 + (i : Int) * 2 + 1).toNat = 2 + (2 * i + 1) := by omega
theorem i2 {i n : Nat} (h : i < (n - 2) / 2) : (0 : Int) ≤ 2 + ↑i * 2 ∧ (2 : Int) + ↑i * 2 < ↑n ∧ (2 : Int) + ↑i * 2 + 1 < ↑n := by omega
theorem small2 (n : Nat) (h : n ≤ 1000) : Builtin.Range.small 2 ((n : Int) - 1) 2 = true := sm2 _ _ (by decide) (by decide) (by omega) (by omega)
theorem pt_ok {pv : Program} {w : World} {loose : List Str} {mean : ExcName → Option Value} {mg mb : Str → Option Value} {A₀ : Around} {dp un : Nat} {gd : Option (List Code)} {cn : Str} {cs : Scope} {a : Addr} {ccd : Value} {cl : List (Str × Addr)} {outer : List Env} {base h₀ : Heap} {L : Addr} {m : Str → Option Value} {s : Shared} {Q E : Value → Shared → Prop}
   {b : Array UInt8} {t : Tok} {ks : List Int} {news : List (Addr × Obj)}
   (B : Below A₀ base outer h₀) (F : Fr h₀ L s.heap m) (X : (frag.heap_1 w.params).In h₀) (N : News h₀ L s.heap news) (T : Top pv loose mean mg mb h₀)
   (hk : cs.kind = .function) (hdp : dp + 2 < recursionLimit) (hun : un + 500 < cLine)
   (hks : KBw.bInts b = ks) (hlen : ks.length ≤ 1000)
   (ret : ∀ t h' tk', Fr h₀ L h' m → News h₀ L h' news → Q (.str (KStt.txt (rdT ks)) t) {s with heap := h', toks := tk'}) :
   wpAny (model pr w) (ktrTop dp un gd cn cs L a ccd cl outer) (call (.ref 478) [.bytes b t]) Q E s := by
  have hbl : b.size = ks.length := by rw [← hks, KBw.ints_length]
  have hkb : ∀ u ∈ ks, 0 ≤ u ∧ u < 256 := by rw [← hks]; exact fun u hu => KBw.ints_in hu
  walk_at "MY ENTERC"
  (skip; repeat' (first | (k_unfold; (try dsimp only)) | (with_reducible refine gen3 ?_; intro _) | ((with_reducible show wpAny _ _ (exec (Stmt.Assign _ _ _) _) _ _ _); k_fold) | ((with_reducible show wpAny _ _ (exec (Stmt.Return _ _) _) _ _ _); k_fold) | ((with_reducible show wpAny _ _ (eval (PySem.Expr.Call _ _ _ _) _) _ _ _); k_fold) | with_reducible refine seq_next ?_ | with_reducible refine seq_ret ?_ | (first | ((with_reducible show wpAny _ _ (call (Value.builtin "str.join") _ _) _ _ _); with_reducible ((refine' r_join ?zzk1 ?zzk2 ?zzk3 ?zzk4 ?_; (case zzk1 => k_asm); (case zzk2 => k_dflt k_mem); (case zzk3 => assumption); (case zzk4 => first | omega | ((try simp only [List.length_take]); omega)); intro zzt9 zztk9))) | ((with_reducible show wpAny _ _ (call (Value.builtin "chr") _ _) _ _ _); with_reducible ((refine chr_of_range ?zzk1 ?zzk2 ?_; (case zzk1 => k_dflt omega); (case zzk2 => k_dflt omega)))) | walk_at "MY STEP") | (((with_reducible show wpAny _ _ (call (Value.ref 473) _) _ _ _); k_dflt (refine' tou_ok ?zzB ?zzF ?zzX ?zzN ?zzT ?zzhk ?zzhdp ?zzhun ?zzhi ?zzhb ?zzhlen ?_; (case zzB => k_asm); (case zzF => k_asm); (case zzX => k_asm); (case zzN => k_asm); (case zzT => k_asm); (case zzhk => first | assumption | rfl); (case zzhdp => ktr_room); (case zzhun => units_room); (case zzhi => assumption); (case zzhb => assumption); (case zzhlen => omega)); intro zzt9 zzh9 zztk9 zzF9 zzN9; (try dsimp only))) | dsimp only | (leave1; (try dsimp only)) | fail "no step"))
  all_goals (try k_data)
  · refine ListComp_src (by k_asm) (by with_unfolding_all rfl) (by decide) (by rfl) (by decide) (by rfl) ?_
    (skip; repeat' (first | (k_unfold; (try dsimp only)) | (with_reducible refine gen3 ?_; intro _) | ((with_reducible show wpAny _ _ (exec (Stmt.Assign _ _ _) _) _ _ _); k_fold) | ((with_reducible show wpAny _ _ (exec (Stmt.Return _ _) _) _ _ _); k_fold) | ((with_reducible show wpAny _ _ (eval (PySem.Expr.Call _ _ _ _) _) _ _ _); k_fold) | with_reducible refine seq_next ?_ | with_reducible refine seq_ret ?_ | (first | ((with_reducible show wpAny _ _ (call (Value.builtin "str.join") _ _) _ _ _); with_reducible ((refine' r_join ?zzk1 ?zzk2 ?zzk3 ?zzk4 ?_; (case zzk1 => k_asm); (case zzk2 => k_dflt k_mem); (case zzk3 => assumption); (case zzk4 => first | omega | ((try simp only [List.length_take]); omega)); intro zzt9 zztk9))) | ((with_reducible show wpAny _ _ (call (Value.builtin "chr") _ _) _ _ _); with_reducible ((refine chr_of_range ?zzk1 ?zzk2 ?_; (case zzk1 => k_dflt omega); (case zzk2 => k_dflt omega)))) | walk_at "MY STEP") | (((with_reducible show wpAny _ _ (call (Value.ref 473) _) _ _ _); k_dflt (refine' tou_ok ?zzB ?zzF ?zzX ?zzN ?zzT ?zzhk ?zzhdp ?zzhun ?zzhi ?zzhb ?zzhlen ?_; (case zzB => k_asm); (case zzF => k_asm); (case zzX => k_asm); (case zzN => k_asm); (case zzT => k_asm); (case zzhk => first | assumption | rfl); (case zzhdp => ktr_room); (case zzhun => units_room); (case zzhi => assumption); (case zzhb => assumption); (case zzhlen => omega)); intro zzt9 zzh9 zztk9 zzF9 zzN9; (try dsimp only))) | dsimp only | (leave1; (try dsimp only)) | fail "no step"))
    all_goals (try k_data)
    refine' LcAt.of (σ := Unit) (fun _ => _) (fun i ys _ => StrsAre ys (sg (ks.take i))) () (src_bytes (by rfl)) ?hz ?F ?N ?r ?turn ?fin
    case F => k_asm
    case N => k_asm
    case hz => (rw [sizeLine_eq]; omega)
    case r => exact .nil
    case turn =>
      rintro i v ys c I oI C oC D m₂ h tk E' hi ⟨c9, u9, hc9, rfl⟩ hR hC hx F9 N9 off ne
      have hb9 : c9.toNat < 256 := c9.toNat_lt
      have hki : ks[i]? = some (c9.toNat : Int) := by rw [← hks]; exact KBw.ints_get hc9
      (skip; repeat' (first | (k_unfold; (try dsimp only)) | (with_reducible refine gen3 ?_; intro _) | ((with_reducible show wpAny _ _ (exec (Stmt.Assign _ _ _) _) _ _ _); k_fold) | ((with_reducible show wpAny _ _ (exec (Stmt.Return _ _) _) _ _ _); k_fold) | ((with_reducible show wpAny _ _ (eval (PySem.Expr.Call _ _ _ _) _) _ _ _); k_fold) | with_reducible refine seq_next ?_ | with_reducible refine seq_ret ?_ | (first | ((with_reducible show wpAny _ _ (call (Value.builtin "str.join") _ _) _ _ _); with_reducible ((refine' r_join ?zzk1 ?zzk2 ?zzk3 ?zzk4 ?_; (case zzk1 => k_asm); (case zzk2 => k_dflt k_mem); (case zzk3 => assumption); (case zzk4 => first | omega | ((try simp only [List.length_take]); omega)); intro zzt9 zztk9))) | ((with_reducible show wpAny _ _ (call (Value.builtin "chr") _ _) _ _ _); with_reducible ((refine chr_of_range ?zzk1 ?zzk2 ?_; (case zzk1 => k_dflt omega); (case zzk2 => k_dflt omega)))) | walk_at "MY STEP") | (((with_reducible show wpAny _ _ (call (Value.ref 473) _) _ _ _); k_dflt (refine' tou_ok ?zzB ?zzF ?zzX ?zzN ?zzT ?zzhk ?zzhdp ?zzhun ?zzhi ?zzhb ?zzhlen ?_; (case zzB => k_asm); (case zzF => k_asm); (case zzX => k_asm); (case zzN => k_asm); (case zzT => k_asm); (case zzhk => first | assumption | rfl); (case zzhdp => ktr_room); (case zzhun => units_room); (case zzhi => assumption); (case zzhb => assumption); (case zzhlen => omega)); intro zzt9 zzh9 zztk9 zzF9 zzN9; (try dsimp only))) | dsimp only | (leave1; (try dsimp only)) | fail "no step"))
      all_goals (try k_data)
      refine ⟨(), _, _, rfl, by k_asm, by k_asm, off, ?_⟩
      rw [List.take_add_one, hki, Option.toList_some, ← sg_snoc]
      exact strs_snoc hR
    case fin =>
      intro g ys c hR D h tk F9 N9 o9
      (skip; repeat' (first | (k_unfold; (try dsimp only)) | (with_reducible refine gen3 ?_; intro _) | ((with_reducible show wpAny _ _ (exec (Stmt.Assign _ _ _) _) _ _ _); k_fold) | ((with_reducible show wpAny _ _ (exec (Stmt.Return _ _) _) _ _ _); k_fold) | ((with_reducible show wpAny _ _ (eval (PySem.Expr.Call _ _ _ _) _) _ _ _); k_fold) | with_reducible refine seq_next ?_ | with_reducible refine seq_ret ?_ | (first | ((with_reducible show wpAny _ _ (call (Value.builtin "str.join") _ _) _ _ _); with_reducible ((refine' r_join ?zzk1 ?zzk2 ?zzk3 ?zzk4 ?_; (case zzk1 => k_asm); (case zzk2 => k_dflt k_mem); (case zzk3 => assumption); (case zzk4 => first | omega | ((try simp only [List.length_take]); omega)); intro zzt9 zztk9))) | ((with_reducible show wpAny _ _ (call (Value.builtin "chr") _ _) _ _ _); with_reducible ((refine chr_of_range ?zzk1 ?zzk2 ?_; (case zzk1 => k_dflt omega); (case zzk2 => k_dflt omega)))) | walk_at "MY STEP") | (((with_reducible show wpAny _ _ (call (Value.ref 473) _) _ _ _); k_dflt (refine' tou_ok ?zzB ?zzF ?zzX ?zzN ?zzT ?zzhk ?zzhdp ?zzhun ?zzhi ?zzhb ?zzhlen ?_; (case zzB => k_asm); (case zzF => k_asm); (case zzX => k_asm); (case zzN => k_asm); (case zzT => k_asm); (case zzhk => first | assumption | rfl); (case zzhdp => ktr_room); (case zzhun => units_room); (case zzhi => assumption); (case zzhb => assumption); (case zzhlen => omega)); intro zzt9 zzh9 zztk9 zzF9 zzN9; (try dsimp only))) | dsimp only | (leave1; (try dsimp only)) | fail "no step"))
      all_goals (try k_data)
      rw [hbl, List.take_of_length_le (Nat.le_refl _)]
      have e9 := mark_no (ks := ks) (by assumption) (by assumption)
      rw [show KStt.txt ks = KStt.txt (rdT ks) from by rw [e9]]
      exact ret _ _ _ (by k_asm) (news_tail (news_tail (by k_asm)))
  · have hmk := mark_yes (ks := ks) (by assumption) (by assumption)
    refine ListComp_src (by k_asm) (by with_unfolding_all rfl) (by decide) (by rfl) (by decide) (by rfl) ?_
    (skip; repeat' (first | (k_unfold; (try dsimp only)) | (with_reducible refine gen3 ?_; intro _) | ((with_reducible show wpAny _ _ (exec (Stmt.Assign _ _ _) _) _ _ _); k_fold) | ((with_reducible show wpAny _ _ (exec (Stmt.Return _ _) _) _ _ _); k_fold) | ((with_reducible show wpAny _ _ (eval (PySem.Expr.Call _ _ _ _) _) _ _ _); k_fold) | with_reducible refine seq_next ?_ | with_reducible refine seq_ret ?_ | (first | ((with_reducible show wpAny _ _ (call (Value.builtin "str.join") _ _) _ _ _); with_reducible ((refine' r_join ?zzk1 ?zzk2 ?zzk3 ?zzk4 ?_; (case zzk1 => k_asm); (case zzk2 => k_dflt k_mem); (case zzk3 => assumption); (case zzk4 => first | omega | ((try simp only [List.length_take]); omega)); intro zzt9 zztk9))) | ((with_reducible show wpAny _ _ (call (Value.builtin "chr") _ _) _ _ _); with_reducible ((refine chr_of_range ?zzk1 ?zzk2 ?_; (case zzk1 => k_dflt omega); (case zzk2 => k_dflt omega)))) | walk_at "MY STEP") | (((with_reducible show wpAny _ _ (call (Value.ref 473) _) _ _ _); k_dflt (refine' tou_ok ?zzB ?zzF ?zzX ?zzN ?zzT ?zzhk ?zzhdp ?zzhun ?zzhi ?zzhb ?zzhlen ?_; (case zzB => k_asm); (case zzF => k_asm); (case zzX => k_asm); (case zzN => k_asm); (case zzT => k_asm); (case zzhk => first | assumption | rfl); (case zzhdp => ktr_room); (case zzhun => units_room); (case zzhi => assumption); (case zzhb => assumption); (case zzhlen => omega)); intro zzt9 zzh9 zztk9 zzF9 zzN9; (try dsimp only))) | dsimp only | (leave1; (try dsimp only)) | fail "no step"))
    all_goals (try k_data)
    refine' LcAt.of (σ := Unit) (n := (ks.length - 2) / 2) (fun _ => _) (fun i ys _ => IntsAre ys ((un2 (ks.drop 2)).take i)) () (src_range (by rfl) (by assumption) (small2 _ hlen) (range2 _ hmk.2)) ?hz ?F ?N ?r ?turn ?fin
    case F => k_asm
    case N => k_asm
    case hz => (rw [sizeLine_eq]; omega)
    case r => exact .nil
    case turn =>
      rintro i v ys c I oI C oC D m₂ h tk E' hi ⟨t9, rfl⟩ hR hC hx F9 N9
      obtain ⟨hi2, hi3, hi4⟩ := i2 hi
      intro off ne
      (skip; repeat' (first | (k_unfold; (try dsimp only)) | (with_reducible refine gen3 ?_; intro _) | ((with_reducible show wpAny _ _ (exec (Stmt.Assign _ _ _) _) _ _ _); k_fold) | ((with_reducible show wpAny _ _ (exec (Stmt.Return _ _) _) _ _ _); k_fold) | ((with_reducible show wpAny _ _ (eval (PySem.Expr.Call _ _ _ _) _) _ _ _); k_fold) | with_reducible refine seq_next ?_ | with_reducible refine seq_ret ?_ | (first | ((with_reducible show wpAny _ _ (call (Value.builtin "str.join") _ _) _ _ _); with_reducible ((refine' r_join ?zzk1 ?zzk2 ?zzk3 ?zzk4 ?_; (case zzk1 => k_asm); (case zzk2 => k_dflt k_mem); (case zzk3 => assumption); (case zzk4 => first | omega | ((try simp only [List.length_take]); omega)); intro zzt9 zztk9))) | ((with_reducible show wpAny _ _ (call (Value.builtin "chr") _ _) _ _ _); with_reducible ((refine chr_of_range ?zzk1 ?zzk2 ?_; (case zzk1 => k_dflt omega); (case zzk2 => k_dflt omega)))) | walk_at "MY STEP") | (((with_reducible show wpAny _ _ (call (Value.ref 473) _) _ _ _); k_dflt (refine' tou_ok ?zzB ?zzF ?zzX ?zzN ?zzT ?zzhk ?zzhdp ?zzhun ?zzhi ?zzhb ?zzhlen ?_; (case zzB => k_asm); (case zzF => k_asm); (case zzX => k_asm); (case zzN => k_asm); (case zzT => k_asm); (case zzhk => first | assumption | rfl); (case zzhdp => ktr_room); (case zzhun => units_room); (case zzhi => assumption); (case zzhb => assumption); (case zzhlen => omega)); intro zzt9 zzh9 zztk9 zzF9 zzN9; (try dsimp only))) | dsimp only | (leave1; (try dsimp only)) | fail "no step"))
      all_goals (try k_data)
      refine ⟨(), _, _, rfl, by k_asm, by k_asm, off, ?_⟩
      have h1 := un2_get (ks.drop 2) i (by rw [List.length_drop]; omega)
      rw [getD_drop, getD_drop] at h1
      rw [List.take_add_one, h1, Option.toList_some, tn2 i, tn3 i]
      exact IntsAre.append hR (.cons _ _ .nil)
    case fin =>
      intro g ys c hR D h tk F9 N9 o9
      rw [List.take_of_length_le (by rw [un2_length, List.length_drop]; omega)] at hR
      have hu2 := un2_in (l := ks.drop 2) (fun u hu => hkb u (List.mem_of_mem_drop hu))
      have hl2 : (un2 (ks.drop 2)).length ≤ 1000 := by rw [un2_length, List.length_drop]; omega
      (skip; repeat' (first | (k_unfold; (try dsimp only)) | (with_reducible refine gen3 ?_; intro _) | ((with_reducible show wpAny _ _ (exec (Stmt.Assign _ _ _) _) _ _ _); k_fold) | ((with_reducible show wpAny _ _ (exec (Stmt.Return _ _) _) _ _ _); k_fold) | ((with_reducible show wpAny _ _ (eval (PySem.Expr.Call _ _ _ _) _) _ _ _); k_fold) | with_reducible refine seq_next ?_ | with_reducible refine seq_ret ?_ | (first | ((with_reducible show wpAny _ _ (call (Value.builtin "str.join") _ _) _ _ _); with_reducible ((refine' r_join ?zzk1 ?zzk2 ?zzk3 ?zzk4 ?_; (case zzk1 => k_asm); (case zzk2 => k_dflt k_mem); (case zzk3 => assumption); (case zzk4 => first | omega | ((try simp only [List.length_take]); omega)); intro zzt9 zztk9))) | ((with_reducible show wpAny _ _ (call (Value.builtin "chr") _ _) _ _ _); with_reducible ((refine chr_of_range ?zzk1 ?zzk2 ?_; (case zzk1 => k_dflt omega); (case zzk2 => k_dflt omega)))) | walk_at "MY STEP") | (((with_reducible show wpAny _ _ (call (Value.ref 473) _) _ _ _); k_dflt (refine' tou_ok ?zzB ?zzF ?zzX ?zzN ?zzT ?zzhk ?zzhdp ?zzhun ?zzhi ?zzhb ?zzhlen ?_; (case zzB => k_asm); (case zzF => k_asm); (case zzX => k_asm); (case zzN => k_asm); (case zzT => k_asm); (case zzhk => first | assumption | rfl); (case zzhdp => ktr_room); (case zzhun => units_room); (case zzhi => assumption); (case zzhb => assumption); (case zzhlen => omega)); intro zzt9 zzh9 zztk9 zzF9 zzN9; (try dsimp only))) | dsimp only | (leave1; (try dsimp only)) | fail "no step"))
      all_goals (try k_data)
      rw [← hmk.1]
      exact ret _ _ _ (by k_asm) (news_tail (news_tail (by k_asm)))

end
section
def lr : Int → List Int → List Int
  | _, [] => []
  | h, u :: r => (if 56320 ≤ u ∧ u < 57344 then (if 0 < h then [65536 + (h - 55296) * 1024 + u - 56320] else []) else if 55296 ≤ u ∧ u < 56320 then [] else [u]) ++ lr (if 55296 ≤ u ∧ u < 56320 then u else 0) r
theorem tu_lo {u : Int} (h : 56320 ≤ u ∧ u < 57344) : ∀ r, tu (u :: r) = tu r
  | [] => by unfold tu; rw [if_neg (by omega), if_pos h]
  | v :: r => by conv => lhs; unfold tu
                 rw [if_neg (by omega), if_pos h]
theorem tu_pl {u : Int} (h : ¬ (55296 ≤ u ∧ u < 57344)) : ∀ r, tu (u :: r) = u :: tu r
  | [] => by unfold tu; rw [if_neg (by omega), if_neg (by omega)]
  | v :: r => by conv => lhs; unfold tu
                 rw [if_neg (by omega), if_neg (by omega)]
theorem tu_hi {u : Int} (h : 55296 ≤ u ∧ u < 56320) {v : Int} (hv : ¬ (56320 ≤ v ∧ v < 57344)) (r : List Int) : tu (u :: v :: r) = tu (v :: r) := by
  conv => lhs; unfold tu
  rw [if_pos h, if_neg hv]
theorem tu_hl {u : Int} (h : 55296 ≤ u ∧ u < 56320) {v : Int} (hv : 56320 ≤ v ∧ v < 57344) (r : List Int) : tu (u :: v :: r) = (65536 + (u - 55296) * 1024 + v - 56320) :: tu r := by
  conv => lhs; unfold tu
  rw [if_pos h, if_pos hv]
theorem lr_tu : ∀ l : List Int, lr 0 l = tu l ∧ ∀ h, 55296 ≤ h ∧ h < 56320 → lr h l = tu (h :: l)
  | [] => ⟨rfl, fun h hh => by show [] = _; unfold tu; rw [if_pos hh]⟩
  | v :: r => by
    obtain ⟨h0, h1⟩ := lr_tu r
    have hz : ¬ (0 : Int) < 0 := by omega
    refine ⟨?_, fun h hh => ?_⟩
    · unfold lr
      by_cases a : 56320 ≤ v ∧ v < 57344
      · rw [if_pos a, if_neg hz, if_neg (by omega), h0, tu_lo a]; rfl
      · rw [if_neg a]
        by_cases b : 55296 ≤ v ∧ v < 56320
        · rw [if_pos b, if_pos b, h1 v b]; rfl
        · rw [if_neg b, if_neg b, h0, tu_pl (by omega)]; rfl
    · unfold lr
      by_cases a : 56320 ≤ v ∧ v < 57344
      · rw [if_pos a, if_pos (by omega), if_neg (by omega), h0, tu_hl hh a]; rfl
      · rw [if_neg a, tu_hi hh a]
        by_cases b : 55296 ≤ v ∧ v < 56320
        · rw [if_pos b, if_pos b, h1 v b]; rfl
        · rw [if_neg b, if_neg b, h0, tu_pl (by omega)]; rfl
theorem range3 (n : Nat) (h : 2 ≤ n) : Builtin.Range.rangeSize 3 (n : Int) 2 = (((n - 2) / 2 : Nat) : Int) := by
  rw [← range2 n h]
  unfold Builtin.Range.rangeSize
  rw [if_pos (show (2 : Int) > 0 by decide), if_pos (show (2 : Int) > 0 by decide), show (n : Int) - 3 - 1 = (n : Int) - 1 - 2 - 1 from by omega]
  by_cases h3 : (3 : Int) < n
  · rw [if_pos h3, if_pos (by omega : (2 : Int) < (n : Int) - 1)]
  · rw [if_neg h3, if_neg (by omega : ¬ (2 : Int) < (n : Int) - 1)]
theorem small3 (n : Nat) (h : n ≤ 1000) : Builtin.Range.small 3 (n : Int) 2 = true := sm2 _ _ (by decide) (by decide) (by omega) (by omega)
theorem rd_no {ks : List Int} (h : ((ks.length : Nat) : Int) < 2 ∨ ks.getD (0 : Int).toNat 0 ≠ 254 ∨ ks.getD (1 : Int).toNat 0 ≠ 255) : rdT ks = ks := by
  unfold rdT
  rw [if_neg fun q => ?_]
  match ks, h, q with
  | [], _, q => simp at q
  | [_], _, q => simp at q
  | x :: y :: r, h, q =>
    simp at q
    rcases h with h | h | h
    · simp only [List.length_cons] at h; omega
    · exact h q.1
    · exact h q.2
theorem rd_yes {ks : List Int} (h0 : ¬ ((ks.length : Nat) : Int) < 2) (h : ks.getD (0 : Int).toNat 0 = 254) (h' : ks.getD (1 : Int).toNat 0 = 255) : rdT ks = tu (un2 (ks.drop 2)) := by
  unfold rdT
  rw [if_pos]
  match ks, h0, h, h' with
  | [], h0, _, _ => simp at h0
  | [_], h0, _, _ => simp at h0
  | x :: y :: r, _, h, h' =>
    have h1 : x = 254 := h
    have h2 : y = 255 := h'
    simp [h1, h2]
theorem lr_a {h u : Int} (a : 56320 ≤ u ∧ u < 57344) (b : 0 < h) (r : List Int) : lr h (u :: r) = (65536 + (h - 55296) * 1024 + u - 56320) :: lr 0 r := by
  conv => lhs; unfold lr
  rw [if_pos a, if_pos b, if_neg (by omega)]; rfl
theorem lr_b {h u : Int} (a : 56320 ≤ u ∧ u < 57344) (b : ¬ 0 < h) (r : List Int) : lr h (u :: r) = lr 0 r := by
  conv => lhs; unfold lr
  rw [if_pos a, if_neg b, if_neg (by omega)]; rfl
theorem lr_c {h u : Int} (a : 55296 ≤ u ∧ u < 56320) (r : List Int) : lr h (u :: r) = lr u r := by
  conv => lhs; unfold lr
  rw [if_neg (by omega), if_pos a, if_pos a]; rfl
theorem lr_d {h u : Int} (a : ¬ (55296 ≤ u ∧ u < 57344)) (r : List Int) : lr h (u :: r) = u :: lr 0 r := by
  conv => lhs; unfold lr
  rw [if_neg (by omega), if_neg (by omega), if_neg (by omega)]; rfl
theorem r_forstmt {prog : Program} {w : World} {A : Around} {s : Shared} {env : Env} {h₀ : Heap} {m : Str → Option Value} {E : Value → Shared → Prop} {Q : Flow → Shared → Prop} {x : Str} {px pos : Pos} {iter : Expr} {body : List Stmt} (_F : Fr h₀ env.locals s.heap m) (hx : env.kindOf x = some .local)
    (hp : (env.scope.kind == .class || (env.scope.kind == .module && env.locals != env.globals)) = false)
    (hs : ∀ x, foldedSetIterable iter env x = pure x) (hE : PassesOwn (model prog w) A env E)
    (h : wpAny (model prog w) A (eval iter env) (fun xv s₁ => wpAny (model prog w) A (pyIter xv) (fun it s₂ => LoopAtV prog w A h₀ env x body Q E it s₂) E s₁) E s) :
    wpAny (model prog w) A (exec (.For (.Name x px) iter body [] pos) env) Q E s := For_invV h₀ hx hp h hs hE
theorem un2_drop {ks : List Int} {i : Nat} (h2 : ¬ ((ks.length : Nat) : Int) < 2) (hi : i < (ks.length - 2) / 2) :
    (un2 (ks.drop 2)).drop i = (ks.getD (3 + (i : Int) * 2 - 1).toNat 0 * 256 + ks.getD (3 + (i : Int) * 2).toNat 0) :: (un2 (ks.drop 2)).drop (i + 1) := by
  have h1 := un2_get (ks.drop 2) i (by rw [List.length_drop]; omega)
  rw [getD_drop, getD_drop] at h1
  have hl : i < (un2 (ks.drop 2)).length := by rw [un2_length, List.length_drop]; omega
  rw [List.drop_eq_getElem_cons hl]
  rw [List.getElem?_eq_getElem hl] at h1
  rw [Option.some.inj h1, show (3 + (i : Int) * 2 - 1).toNat = 2 + 2 * i from by omega, show (3 + (i : Int) * 2).toNat = 2 + (2 * i + 1) from by omega, Int.mul_comm]
theorem r_pow216 {prog : Program} {w : World} {A : Around} {E : Value → Shared → Prop} {s : Shared} {Q : Value → Shared → Prop} {t u : Tok} (h : Q (.int 65536 s.toks) { s with toks := s.toks + 1 }) : wpAny (model prog w) A (binaryOp .Pow (.int 2 t) (.int 16 u)) Q E s :=
  pow_int_small (by decide) (by decide) (by decide) h
structure LrS where
  cs : List Int
  hi : Int
  tf : Tok
  th : Tok
  u : Option Value
  x : Option Value
theorem txt_len (cs : List Int) : (KStt.txt cs).length = cs.length := KStt.txt_length cs
theorem r_addtxt {prog : Program} {w : World} {A : Around} {E : Value → Shared → Prop} {s : Shared} {Q : Value → Shared → Prop} {t u : Tok} {cs : List Int} {c : Int} (hn : cs.length ≤ 1000)
    (h : ∀ t' k, Q (.str (KStt.txt (cs ++ [c])) t') { s with toks := k }) : wpAny (model prog w) A (binaryOp .Add (.str (KStt.txt cs) t) (.str ⟨#[c.toNat]⟩ u)) Q E s := by
  have e : KStt.txt cs ++ (⟨#[c.toNat]⟩ : Str) = KStt.txt (cs ++ [c]) := by
    refine PySem.Str.ext' (Array.toList_inj.mp ?_)
    simp [PySem.Str.cps_append, KStt.txt]
  refine PyProof.Rows.add_str (fun t' k => ?_) ?_
  · rw [e]; exact h t' k
  · rw [txt_len, sizeLine_eq]; show cs.length + 1 ≤ _; omega
theorem r_addnil {prog : Program} {w : World} {A : Around} {E : Value → Shared → Prop} {s : Shared} {Q : Value → Shared → Prop} {t u : Tok} {cs : List Int} (hn : cs.length ≤ 1000)
    (h : ∀ t' k, Q (.str (KStt.txt cs) t') { s with toks := k }) : wpAny (model prog w) A (binaryOp .Add (.str (KStt.txt cs) t) (.str (Str.ofString "") u)) Q E s := by
  have e : KStt.txt cs ++ (Str.ofString "") = KStt.txt cs := by
    refine PySem.Str.ext' (Array.toList_inj.mp ?_)
    rw [PySem.Str.cps_append, Array.toList_append]
    show (KStt.txt cs).cps.toList ++ [] = _
    simp
  refine PyProof.Rows.add_str (fun t' k => ?_) ?_
  · rw [e]; exact h t' k
  · rw [txt_len, sizeLine_eq]; show cs.length + 0 ≤ _; omega
theorem lread_ok {pv : Program} {w : World} {loose : List Str} {mean : ExcName → Option Value} {mg mb : Str → Option Value} {A₀ : Around} {dp un : Nat} {gd : Option (List Code)} {cn : Str} {cs : Scope} {a : Addr} {ccd : Value} {cl : List (Str × Addr)} {outer : List Env} {base h₀ : Heap} {L : Addr} {m : Str → Option Value} {s : Shared} {Q E : Value → Shared → Prop}
   {b : Array UInt8} {t : Tok} {ks : List Int} {news : List (Addr × Obj)}
   (B : Below A₀ base outer h₀) (F : Fr h₀ L s.heap m) (X : (frag.heap_1 w.params).In h₀) (N : News h₀ L s.heap news) (T : Top pv loose mean mg mb h₀)
   (hk : cs.kind = .function) (hdp : dp + 2 < recursionLimit) (hun : un + 500 < cLine)
   (hks : KBw.bInts b = ks) (hlen : ks.length ≤ 1000)
   (ret : ∀ t h' tk', Fr h₀ L h' m → News h₀ L h' news → Q (.str (KStt.txt (rdT ks)) t) {s with heap := h', toks := tk'}) :
   wpAny (model pr w) (ktrTop dp un gd cn cs L a ccd cl outer) (call (.ref 539) [.bytes b t]) Q E s := by
  have hbl : b.size = ks.length := by rw [← hks, KBw.ints_length]
  have hkb : ∀ u ∈ ks, 0 ≤ u ∧ u < 256 := by rw [← hks]; exact fun u hu => KBw.ints_in hu
  walk_at "MY ENTER"
  (skip; repeat' (first | (k_unfold; (try dsimp only)) | (with_reducible refine gen3 ?_; intro _) | ((with_reducible show wpAny _ _ (exec (Stmt.Assign _ _ _) _) _ _ _); k_fold) | ((with_reducible show wpAny _ _ (exec (Stmt.Return _ _) _) _ _ _); k_fold) | ((with_reducible show wpAny _ _ (eval (PySem.Expr.Call _ _ _ _) _) _ _ _); k_fold) | with_reducible refine seq_next ?_ | with_reducible refine seq_ret ?_ | (first | ((with_reducible show wpAny _ _ (binaryOp Operator.Add (Value.str _ _) (Value.str _ _)) _ _ _); with_reducible ((first | (refine r_addtxt ?zzk1 ?_; (case zzk1 => k_dflt omega); intro zzt9 zztk9; (try dsimp only)) | (refine r_addnil ?zzk1 ?_; (case zzk1 => k_dflt omega); intro zzt9 zztk9; (try dsimp only))))) | ((with_reducible show wpAny _ _ (binaryOp Operator.Pow (Value.int _ _) (Value.int _ _)) _ _ _); with_reducible ((refine r_pow216 ?_; (try dsimp only)))) | ((with_reducible show wpAny _ _ (call (Value.builtin "str.join") _ _) _ _ _); with_reducible ((refine' r_join ?zzk1 ?zzk2 ?zzk3 ?zzk4 ?_; (case zzk1 => k_asm); (case zzk2 => k_dflt k_mem); (case zzk3 => assumption); (case zzk4 => first | omega | ((try simp only [List.length_take]); omega)); intro zzt9 zztk9))) | ((with_reducible show wpAny _ _ (call (Value.builtin "chr") _ _) _ _ _); with_reducible ((refine chr_of_range ?zzk1 ?zzk2 ?_; (case zzk1 => k_dflt omega); (case zzk2 => k_dflt omega)))) | walk_at "MY STEP") | dsimp only | (leave1; (try dsimp only)) | fail "no step"))
  all_goals (try k_data)
  all_goals (first
    | (refine ListComp_src (by k_asm) (by with_unfolding_all rfl) (by decide) (by rfl) (by decide) (by rfl) ?_
       (skip; repeat' (first | (k_unfold; (try dsimp only)) | (with_reducible refine gen3 ?_; intro _) | ((with_reducible show wpAny _ _ (exec (Stmt.Assign _ _ _) _) _ _ _); k_fold) | ((with_reducible show wpAny _ _ (exec (Stmt.Return _ _) _) _ _ _); k_fold) | ((with_reducible show wpAny _ _ (eval (PySem.Expr.Call _ _ _ _) _) _ _ _); k_fold) | with_reducible refine seq_next ?_ | with_reducible refine seq_ret ?_ | (first | ((with_reducible show wpAny _ _ (binaryOp Operator.Add (Value.str _ _) (Value.str _ _)) _ _ _); with_reducible ((first | (refine r_addtxt ?zzk1 ?_; (case zzk1 => k_dflt omega); intro zzt9 zztk9; (try dsimp only)) | (refine r_addnil ?zzk1 ?_; (case zzk1 => k_dflt omega); intro zzt9 zztk9; (try dsimp only))))) | ((with_reducible show wpAny _ _ (binaryOp Operator.Pow (Value.int _ _) (Value.int _ _)) _ _ _); with_reducible ((refine r_pow216 ?_; (try dsimp only)))) | ((with_reducible show wpAny _ _ (call (Value.builtin "str.join") _ _) _ _ _); with_reducible ((refine' r_join ?zzk1 ?zzk2 ?zzk3 ?zzk4 ?_; (case zzk1 => k_asm); (case zzk2 => k_dflt k_mem); (case zzk3 => assumption); (case zzk4 => first | omega | ((try simp only [List.length_take]); omega)); intro zzt9 zztk9))) | ((with_reducible show wpAny _ _ (call (Value.builtin "chr") _ _) _ _ _); with_reducible ((refine chr_of_range ?zzk1 ?zzk2 ?_; (case zzk1 => k_dflt omega); (case zzk2 => k_dflt omega)))) | walk_at "MY STEP") | dsimp only | (leave1; (try dsimp only)) | fail "no step"))
       all_goals (try k_data)
       refine' LcAt.of (σ := Unit) (fun _ => _) (fun i ys _ => StrsAre ys (sg (ks.take i))) () (src_bytes (by rfl)) ?hz ?F ?N ?r ?turn ?fin
       case F => k_asm
       case N => k_asm
       case hz => (rw [sizeLine_eq]; omega)
       case r => exact .nil
       case turn =>
         rintro i v ys c I oI C oC D m₂ h tk E' hi ⟨c9, u9, hc9, rfl⟩ hR hC hx F9 N9 off ne
         have hb9 : c9.toNat < 256 := c9.toNat_lt
         have hki : ks[i]? = some (c9.toNat : Int) := by rw [← hks]; exact KBw.ints_get hc9
         (skip; repeat' (first | (k_unfold; (try dsimp only)) | (with_reducible refine gen3 ?_; intro _) | ((with_reducible show wpAny _ _ (exec (Stmt.Assign _ _ _) _) _ _ _); k_fold) | ((with_reducible show wpAny _ _ (exec (Stmt.Return _ _) _) _ _ _); k_fold) | ((with_reducible show wpAny _ _ (eval (PySem.Expr.Call _ _ _ _) _) _ _ _); k_fold) | with_reducible refine seq_next ?_ | with_reducible refine seq_ret ?_ | (first | ((with_reducible show wpAny _ _ (binaryOp Operator.Add (Value.str _ _) (Value.str _ _)) _ _ _); with_reducible ((first | (refine r_addtxt ?zzk1 ?_; (case zzk1 => k_dflt omega); intro zzt9 zztk9; (try dsimp only)) | (refine r_addnil ?zzk1 ?_; (case zzk1 => k_dflt omega); intro zzt9 zztk9; (try dsimp only))))) | ((with_reducible show wpAny _ _ (binaryOp Operator.Pow (Value.int _ _) (Value.int _ _)) _ _ _); with_reducible ((refine r_pow216 ?_; (try dsimp only)))) | ((with_reducible show wpAny _ _ (call (Value.builtin "str.join") _ _) _ _ _); with_reducible ((refine' r_join ?zzk1 ?zzk2 ?zzk3 ?zzk4 ?_; (case zzk1 => k_asm); (case zzk2 => k_dflt k_mem); (case zzk3 => assumption); (case zzk4 => first | omega | ((try simp only [List.length_take]); omega)); intro zzt9 zztk9))) | ((with_reducible show wpAny _ _ (call (Value.builtin "chr") _ _) _ _ _); with_reducible ((refine chr_of_range ?zzk1 ?zzk2 ?_; (case zzk1 => k_dflt omega); (case zzk2 => k_dflt omega)))) | walk_at "MY STEP") | dsimp only | (leave1; (try dsimp only)) | fail "no step"))
         all_goals (try k_data)
         refine ⟨(), _, _, rfl, by k_asm, by k_asm, off, ?_⟩
         rw [List.take_add_one, hki, Option.toList_some, ← sg_snoc]
         exact strs_snoc hR
       case fin =>
         intro g ys c hR D h tk F9 N9 o9
         (skip; repeat' (first | (k_unfold; (try dsimp only)) | (with_reducible refine gen3 ?_; intro _) | ((with_reducible show wpAny _ _ (exec (Stmt.Assign _ _ _) _) _ _ _); k_fold) | ((with_reducible show wpAny _ _ (exec (Stmt.Return _ _) _) _ _ _); k_fold) | ((with_reducible show wpAny _ _ (eval (PySem.Expr.Call _ _ _ _) _) _ _ _); k_fold) | with_reducible refine seq_next ?_ | with_reducible refine seq_ret ?_ | (first | ((with_reducible show wpAny _ _ (binaryOp Operator.Add (Value.str _ _) (Value.str _ _)) _ _ _); with_reducible ((first | (refine r_addtxt ?zzk1 ?_; (case zzk1 => k_dflt omega); intro zzt9 zztk9; (try dsimp only)) | (refine r_addnil ?zzk1 ?_; (case zzk1 => k_dflt omega); intro zzt9 zztk9; (try dsimp only))))) | ((with_reducible show wpAny _ _ (binaryOp Operator.Pow (Value.int _ _) (Value.int _ _)) _ _ _); with_reducible ((refine r_pow216 ?_; (try dsimp only)))) | ((with_reducible show wpAny _ _ (call (Value.builtin "str.join") _ _) _ _ _); with_reducible ((refine' r_join ?zzk1 ?zzk2 ?zzk3 ?zzk4 ?_; (case zzk1 => k_asm); (case zzk2 => k_dflt k_mem); (case zzk3 => assumption); (case zzk4 => first | omega | ((try simp only [List.length_take]); omega)); intro zzt9 zztk9))) | ((with_reducible show wpAny _ _ (call (Value.builtin "chr") _ _) _ _ _); with_reducible ((refine chr_of_range ?zzk1 ?zzk2 ?_; (case zzk1 => k_dflt omega); (case zzk2 => k_dflt omega)))) | walk_at "MY STEP") | dsimp only | (leave1; (try dsimp only)) | fail "no step"))
         all_goals (try k_data)
         rw [hbl, List.take_of_length_le (Nat.le_refl _)]
         have e9 := rd_no (ks := ks) (by omega)
         rw [show KStt.txt ks = KStt.txt (rdT ks) from by rw [e9]]
         exact ret _ _ _ (by k_asm) (news_tail (by k_asm)))
    | skip)
  have hrd := rd_yes (ks := ks) (by assumption) (by assumption) (by assumption)
  refine' r_forstmt ?kF (by rfl) (by rfl) (by intro _; rfl) ?kE ?_
  case kF => k_asm
  case kE => passes_own
  (skip; repeat' (first | (k_unfold; (try dsimp only)) | (with_reducible refine gen3 ?_; intro _) | ((with_reducible show wpAny _ _ (exec (Stmt.Assign _ _ _) _) _ _ _); k_fold) | ((with_reducible show wpAny _ _ (exec (Stmt.Return _ _) _) _ _ _); k_fold) | ((with_reducible show wpAny _ _ (eval (PySem.Expr.Call _ _ _ _) _) _ _ _); k_fold) | with_reducible refine seq_next ?_ | with_reducible refine seq_ret ?_ | (first | ((with_reducible show wpAny _ _ (binaryOp Operator.Add (Value.str _ _) (Value.str _ _)) _ _ _); with_reducible ((first | (refine r_addtxt ?zzk1 ?_; (case zzk1 => k_dflt omega); intro zzt9 zztk9; (try dsimp only)) | (refine r_addnil ?zzk1 ?_; (case zzk1 => k_dflt omega); intro zzt9 zztk9; (try dsimp only))))) | ((with_reducible show wpAny _ _ (binaryOp Operator.Pow (Value.int _ _) (Value.int _ _)) _ _ _); with_reducible ((refine r_pow216 ?_; (try dsimp only)))) | ((with_reducible show wpAny _ _ (call (Value.builtin "str.join") _ _) _ _ _); with_reducible ((refine' r_join ?zzk1 ?zzk2 ?zzk3 ?zzk4 ?_; (case zzk1 => k_asm); (case zzk2 => k_dflt k_mem); (case zzk3 => assumption); (case zzk4 => first | omega | ((try simp only [List.length_take]); omega)); intro zzt9 zztk9))) | ((with_reducible show wpAny _ _ (call (Value.builtin "chr") _ _) _ _ _); with_reducible ((refine chr_of_range ?zzk1 ?zzk2 ?_; (case zzk1 => k_dflt omega); (case zzk2 => k_dflt omega)))) | walk_at "MY STEP") | dsimp only | (leave1; (try dsimp only)) | fail "no step"))
  all_goals (try k_data)
  refine' for_src (σ := LrS) (n := (ks.length - 2) / 2) (fun c y => if y = "high" then some (.int c.hi c.th) else if y = "found" then some (.str (KStt.txt c.cs) c.tf) else if y = "unit" then c.u else if y = "at" then c.x else List.lookup y [(Str.ofString "data", Value.bytes b t)])
    (fun _ => _) (fun i c => c.cs.length ≤ i ∧ (c.hi = 0 ∨ (55296 ≤ c.hi ∧ c.hi < 56320)) ∧ c.cs ++ lr c.hi ((un2 (ks.drop 2)).drop i) = lr 0 (un2 (ks.drop 2))) ⟨[], 0, _, _, none, none⟩
    (src_range (by rfl) (by assumption) (small3 _ hlen) (range3 _ (by omega))) ?qF ?qN ?qp ?qturn ?qdone
  case qN => k_asm
  case qF =>
    refine fr_cast (by k_asm) ?_
    intro y
    dsimp only
    by_cases h1 : y = "high"
    · subst h1; rfl
    by_cases h2 : y = "found"
    · subst h2; rfl
    by_cases h3 : y = "unit"
    · subst h3; rfl
    by_cases h4 : y = "at"
    · subst h4; rfl
    simp only [if_neg h1, if_neg h2, if_neg h3, if_neg h4]
    rfl
  case qp => exact ⟨Nat.zero_le _, .inl rfl, rfl⟩
  case qdone =>
    rintro ⟨cs0, hi0, tf, th, u0, x0⟩ h tk ⟨hcl, hh, hce⟩ F9 N9
    rw [List.drop_of_length_le (by rw [un2_length, List.length_drop]; omega)] at hce
    dsimp only at hcl hh hce F9 N9 ⊢
    have hce' : cs0 = tu (un2 (ks.drop 2)) := by rw [← (lr_tu _).1, ← hce]; show cs0 = cs0 ++ lr hi0 []; cases hi0 <;> simp [lr]
    (skip; repeat' (first | (k_unfold; (try dsimp only)) | (with_reducible refine gen3 ?_; intro _) | ((with_reducible show wpAny _ _ (exec (Stmt.Assign _ _ _) _) _ _ _); k_fold) | ((with_reducible show wpAny _ _ (exec (Stmt.Return _ _) _) _ _ _); k_fold) | ((with_reducible show wpAny _ _ (eval (PySem.Expr.Call _ _ _ _) _) _ _ _); k_fold) | with_reducible refine seq_next ?_ | with_reducible refine seq_ret ?_ | (first | ((with_reducible show wpAny _ _ (binaryOp Operator.Add (Value.str _ _) (Value.str _ _)) _ _ _); with_reducible ((first | (refine r_addtxt ?zzk1 ?_; (case zzk1 => k_dflt omega); intro zzt9 zztk9; (try dsimp only)) | (refine r_addnil ?zzk1 ?_; (case zzk1 => k_dflt omega); intro zzt9 zztk9; (try dsimp only))))) | ((with_reducible show wpAny _ _ (binaryOp Operator.Pow (Value.int _ _) (Value.int _ _)) _ _ _); with_reducible ((refine r_pow216 ?_; (try dsimp only)))) | ((with_reducible show wpAny _ _ (call (Value.builtin "str.join") _ _) _ _ _); with_reducible ((refine' r_join ?zzk1 ?zzk2 ?zzk3 ?zzk4 ?_; (case zzk1 => k_asm); (case zzk2 => k_dflt k_mem); (case zzk3 => assumption); (case zzk4 => first | omega | ((try simp only [List.length_take]); omega)); intro zzt9 zztk9))) | ((with_reducible show wpAny _ _ (call (Value.builtin "chr") _ _) _ _ _); with_reducible ((refine chr_of_range ?zzk1 ?zzk2 ?_; (case zzk1 => k_dflt omega); (case zzk2 => k_dflt omega)))) | walk_at "MY STEP") | dsimp only | (leave1; (try dsimp only)) | fail "no step"))
    all_goals (try k_data)
    rw [hce', ← hrd]
    exact ret _ _ _ (by k_asm) (news_tail (by k_asm))
  case qturn =>
    rintro I i v ⟨cs0, hi0, tf, th, u0, x0⟩ oI h tk hi ⟨t9, rfl⟩ ⟨hcl, hh, hce⟩ hoff F9 N9
    rw [un2_drop (by assumption) hi] at hce
    dsimp only at hcl hh hce hoff F9 N9 ⊢
    (skip; repeat' (first | (k_unfold; (try dsimp only)) | (with_reducible refine gen3 ?_; intro _) | ((with_reducible show wpAny _ _ (exec (Stmt.Assign _ _ _) _) _ _ _); k_fold) | ((with_reducible show wpAny _ _ (exec (Stmt.Return _ _) _) _ _ _); k_fold) | ((with_reducible show wpAny _ _ (eval (PySem.Expr.Call _ _ _ _) _) _ _ _); k_fold) | with_reducible refine seq_next ?_ | with_reducible refine seq_ret ?_ | (first | ((with_reducible show wpAny _ _ (binaryOp Operator.Add (Value.str _ _) (Value.str _ _)) _ _ _); with_reducible ((first | (refine r_addtxt ?zzk1 ?_; (case zzk1 => k_dflt omega); intro zzt9 zztk9; (try dsimp only)) | (refine r_addnil ?zzk1 ?_; (case zzk1 => k_dflt omega); intro zzt9 zztk9; (try dsimp only))))) | ((with_reducible show wpAny _ _ (binaryOp Operator.Pow (Value.int _ _) (Value.int _ _)) _ _ _); with_reducible ((refine r_pow216 ?_; (try dsimp only)))) | ((with_reducible show wpAny _ _ (call (Value.builtin "str.join") _ _) _ _ _); with_reducible ((refine' r_join ?zzk1 ?zzk2 ?zzk3 ?zzk4 ?_; (case zzk1 => k_asm); (case zzk2 => k_dflt k_mem); (case zzk3 => assumption); (case zzk4 => first | omega | ((try simp only [List.length_take]); omega)); intro zzt9 zztk9))) | ((with_reducible show wpAny _ _ (call (Value.builtin "chr") _ _) _ _ _); with_reducible ((refine chr_of_range ?zzk1 ?zzk2 ?_; (case zzk1 => k_dflt omega); (case zzk2 => k_dflt omega)))) | walk_at "MY STEP") | dsimp only | (leave1; (try dsimp only)) | fail "no step"))
    all_goals (try k_data)
    all_goals (first
      | (refine' ⟨⟨cs0, 0, _, _, _, _⟩, _, _, rfl, fr_cast (by k_asm) ?qf, ?qN2, hoff, ?qc, .inl rfl, ?qd⟩
         case qN2 => k_asm
         case qf => (intro y; dsimp only; by_cases h1 : y = "high"; (subst h1; rfl); by_cases h2 : y = "found"; (subst h2; rfl); by_cases h3 : y = "unit"; (subst h3; rfl); by_cases h4 : y = "at"; (subst h4; rfl); simp only [if_neg h1, if_neg h2, if_neg h3, if_neg h4])
         case qc => (dsimp only; omega)
         case qd => (dsimp only; rw [← hce, lr_b (by omega) (by assumption)]))
      | (refine' ⟨⟨cs0, _, _, _, _, _⟩, _, _, rfl, fr_cast (by k_asm) ?qf, ?qN2, hoff, ?qc, .inr ?qh, ?qd⟩
         case qN2 => k_asm
         case qf => (intro y; dsimp only; by_cases h1 : y = "high"; (subst h1; rfl); by_cases h2 : y = "found"; (subst h2; rfl); by_cases h3 : y = "unit"; (subst h3; rfl); by_cases h4 : y = "at"; (subst h4; rfl); simp only [if_neg h1, if_neg h2, if_neg h3, if_neg h4])
         case qc => (dsimp only; omega)
         case qh => (dsimp only; omega)
         case qd => (dsimp only; rw [← hce, lr_c (by omega)]))
      | (refine' ⟨⟨cs0 ++ [_], 0, _, _, _, _⟩, _, _, rfl, fr_cast (by k_asm) ?qf, ?qN2, hoff, ?qc, .inl rfl, ?qd⟩
         case qN2 => k_asm
         case qf => (intro y; dsimp only; by_cases h1 : y = "high"; (subst h1; rfl); by_cases h2 : y = "found"; (subst h2; rfl); by_cases h3 : y = "unit"; (subst h3; rfl); by_cases h4 : y = "at"; (subst h4; rfl); simp only [if_neg h1, if_neg h2, if_neg h3, if_neg h4])
         case qc => (simp only [List.length_append, List.length_singleton]; omega)
         case qd => (dsimp only; rw [← hce, List.append_assoc]; first | (rw [lr_a (by omega) (by assumption)]; rfl) | (rw [lr_d (by omega)]; rfl))))

end
section
theorem r_extend {prog : Program} {w : World} {A : Around} {E : Value → Shared → Prop} {s : Shared} {Q : Value → Shared → Prop} {h₀ : Heap} {L : Addr} {news news' : List (Addr × Obj)} {m : Str → Option Value} {D b : Addr} {ys : List Value} {n n2 : Nat} {x : Value} {xs : List Value} (F : Fr h₀ L s.heap m) (N : News h₀ L s.heap news)
    (hb : (b, ({ cls := .type "list", data := .seq (x :: xs).toArray n2 } : Obj)) ∈ news) (U : Upd D ({ cls := .type "list", data := .seq ys.toArray n } : Obj) ({ cls := .type "list", data := .seq (ys ++ x :: xs).toArray (n + 1) } : Obj) news news')
    (hsz : ys.length + (x :: xs).length ≤ 1000000) (h : ∀ h', Fr h₀ L h' m → News h₀ L h' news' → Q .none { s with heap := h' }) : wpAny (model prog w) A (call (.builtin "list.extend") [.ref D, .ref b]) Q E s := by
  have hz : sizeLine = 16777216 := sizeLine_eq
  refine kl_extend F N hb (its := ys.toArray) (l := ys ++ x :: xs) (by simp) (by simp) U (extend_door (by simp only [List.size_toArray]; omega)) (by simp only [] ; omega) (by simp only [List.size_toArray]; omega) h
def un1 (c : Int) : List Int := if 65536 ≤ c then [55296 + (c - 65536).fdiv 1024, 56320 + (c - 65536).fmod 1024] else [c]
def unT (cs : List Int) : List Int := cs.flatMap un1
theorem unT_snoc (l : List Int) (c : Int) : unT (l ++ [c]) = unT l ++ un1 c := by simp [unT]
theorem un_snoc2 {ks : List Int} {i : Nat} {c : Int} {vs : List Value} {t u : Tok} (hk : ks[i]? = some c) (h : 65536 ≤ c) (hP : IntsAre vs (unT (ks.take i))) :
    IntsAre (vs ++ [.int (55296 + (c - 65536).fdiv 1024) t, .int (56320 + (c - 65536).fmod 1024) u]) (unT (ks.take (i + 1))) := by
  rw [List.take_add_one, hk, Option.toList_some, unT_snoc, un1, if_pos h]
  exact IntsAre.append hP (.cons _ _ (.cons _ _ .nil))
theorem un_snoc1 {ks : List Int} {i : Nat} {c : Int} {vs : List Value} {t : Tok} (hk : ks[i]? = some c) (h : ¬ 65536 ≤ c) (hP : IntsAre vs (unT (ks.take i))) :
    IntsAre (vs ++ [.int c t]) (unT (ks.take (i + 1))) := by
  rw [List.take_add_one, hk, Option.toList_some, unT_snoc, un1, if_neg h]
  exact IntsAre.append hP (.cons _ _ .nil)
structure UoS where
  vs : List Value
  k : Nat
  u : Option Value
  x : Option Value
theorem uof_ok {pv : Program} {w : World} {loose : List Str} {mean : ExcName → Option Value} {mg mb : Str → Option Value} {A₀ : Around} {dp un : Nat} {gd : Option (List Code)} {cn : Str} {cs : Scope} {a : Addr} {ccd : Value} {cl : List (Str × Addr)} {outer : List Env} {base h₀ : Heap} {L : Addr} {m : Str → Option Value} {s : Shared} {Q E : Value → Shared → Prop}
   {x : Str} {t : Tok} {ks : List Int} {news : List (Addr × Obj)}
   (B : Below A₀ base outer h₀) (F : Fr h₀ L s.heap m) (X : (frag.heap_1 w.params).In h₀) (N : News h₀ L s.heap news) (T : Top pv loose mean mg mb h₀)
   (hk : cs.kind = .function) (hdp : dp + 1 < recursionLimit) (hun : un + 400 < cLine)
   (hks : KStt.codes x = ks) (hlen : ks.length ≤ 1000) (hb : ∀ c ∈ ks, 0 ≤ c ∧ c < 1114112)
   (ret : ∀ D vs k h' tk', Fr h₀ L h' m → News h₀ L h' ((D, lstO vs k) :: news) → (∀ p ∈ news, p.1 < D) → IntsAre vs (unT ks) → Q (.ref D) {s with heap := h', toks := tk'}) :
   wpAny (model pr w) (ktrTop dp un gd cn cs L a ccd cl outer) (call (.ref 461) [.str x t]) Q E s := by
  have hxl : x.cps.size = ks.length := by rw [← hks, KStt.codes_length]; rfl
  walk_at "MY ENTER"
  (skip; repeat' (first | (k_unfold; (try dsimp only)) | (with_reducible refine gen3 ?_; intro _) | ((with_reducible show wpAny _ _ (exec (Stmt.Assign _ _ _) _) _ _ _); k_fold) | ((with_reducible show wpAny _ _ (exec (Stmt.Return _ _) _) _ _ _); k_fold) | ((with_reducible show wpAny _ _ (eval (PySem.Expr.Call _ _ _ _) _) _ _ _); k_fold) | with_reducible refine seq_next ?_ | with_reducible refine seq_ret ?_ | (first | ((with_reducible show wpAny _ _ (call (Value.builtin "list.append") _ _) _ _ _); with_reducible ((refine' r_append ?zzk1 ?zzk2 ?zzk3 ?zzk4 ?_; (case zzk1 => k_asm); (case zzk2 => k_asm); (case zzk3 => k_dflt k_upd); (case zzk4 => k_dflt (first | assumption | omega)); intro zzh' zzF' zzN'))) | ((with_reducible show wpAny _ _ (call (Value.builtin "list.extend") _ _) _ _ _); with_reducible ((refine' r_extend ?zzk1 ?zzk2 ?zzk3 ?zzk4 ?zzk5 ?_; (case zzk1 => k_asm); (case zzk2 => k_asm); (case zzk3 => k_dflt k_mem); (case zzk4 => k_dflt k_upd); (case zzk5 => (simp only [List.length_cons, List.length_nil]; omega)); intro zzh' zzF' zzN'))) | walk_at "MY STEP") | dsimp only | (leave1; (try dsimp only)) | fail "no step"))
  rename_i D hA hlt hB F1 N1
  have hoffD : ∀ p ∈ news, p.1 ≠ D := fun p hp => Nat.ne_of_lt (hlt p hp)
  refine' r_forstmt ?kF (by rfl) (by rfl) (by intro _; rfl) ?kE ?_
  case kF => k_asm
  case kE => passes_own
  (skip; repeat' (first | (k_unfold; (try dsimp only)) | (with_reducible refine gen3 ?_; intro _) | ((with_reducible show wpAny _ _ (exec (Stmt.Assign _ _ _) _) _ _ _); k_fold) | ((with_reducible show wpAny _ _ (exec (Stmt.Return _ _) _) _ _ _); k_fold) | ((with_reducible show wpAny _ _ (eval (PySem.Expr.Call _ _ _ _) _) _ _ _); k_fold) | with_reducible refine seq_next ?_ | with_reducible refine seq_ret ?_ | (first | ((with_reducible show wpAny _ _ (call (Value.builtin "list.append") _ _) _ _ _); with_reducible ((refine' r_append ?zzk1 ?zzk2 ?zzk3 ?zzk4 ?_; (case zzk1 => k_asm); (case zzk2 => k_asm); (case zzk3 => k_dflt k_upd); (case zzk4 => k_dflt (first | assumption | omega)); intro zzh' zzF' zzN'))) | ((with_reducible show wpAny _ _ (call (Value.builtin "list.extend") _ _) _ _ _); with_reducible ((refine' r_extend ?zzk1 ?zzk2 ?zzk3 ?zzk4 ?zzk5 ?_; (case zzk1 => k_asm); (case zzk2 => k_asm); (case zzk3 => k_dflt k_mem); (case zzk4 => k_dflt k_upd); (case zzk5 => (simp only [List.length_cons, List.length_nil]; omega)); intro zzh' zzF' zzN'))) | walk_at "MY STEP") | dsimp only | (leave1; (try dsimp only)) | fail "no step"))
  refine' for_src (σ := UoS) (fun c y => if y = "code" then c.u else if y = "sign" then c.x else if y = "units" then some (.ref D) else List.lookup y [(Str.ofString "text", Value.str x t)])
    (fun c => (D, lstO c.vs c.k) :: news) (fun i c => c.vs.length ≤ 2 * i ∧ IntsAre c.vs (unT (ks.take i))) ⟨[], 0, none, none⟩ (src_str (by rfl)) ?qF ?qN ?qp ?qturn ?qdone
  case qN => k_asm
  case qF =>
    refine fr_cast (by k_asm) ?_
    intro y
    dsimp only
    by_cases h1 : y = "code"
    · subst h1; rfl
    by_cases h2 : y = "sign"
    · subst h2; rfl
    simp only [if_neg h1, if_neg h2]
    rfl
  case qp => exact ⟨Nat.zero_le _, .nil⟩
  case qturn =>
    rintro I i v ⟨vs, k, u0, x0⟩ oI h tk hi ⟨c9, u9, hc9, rfl⟩ ⟨hl9, hP⟩ hoff F9 N9
    have hki := KStt.code_at hc9
    rw [hks] at hki
    have hcb := hb _ (List.mem_of_getElem? hki)
    have hvl : vs.length ≤ 2000 := by rw [hxl] at hi; dsimp only at hl9; omega
    dsimp only at hl9 hP hoff F9 N9 ⊢
    have hDI : @Ne Nat D I := hoff _ (.head _)
    have hoff' : ∀ (o : Obj), ∀ p ∈ ((D, o) :: news), p.1 ≠ I := fun o p hp => by
      rcases List.mem_cons.mp hp with rfl | hp
      · exact hDI
      · exact hoff p (.tail _ hp)
    (skip; repeat' (first | (k_unfold; (try dsimp only)) | (with_reducible refine gen3 ?_; intro _) | ((with_reducible show wpAny _ _ (exec (Stmt.Assign _ _ _) _) _ _ _); k_fold) | ((with_reducible show wpAny _ _ (exec (Stmt.Return _ _) _) _ _ _); k_fold) | ((with_reducible show wpAny _ _ (eval (PySem.Expr.Call _ _ _ _) _) _ _ _); k_fold) | with_reducible refine seq_next ?_ | with_reducible refine seq_ret ?_ | (first | ((with_reducible show wpAny _ _ (call (Value.builtin "list.append") _ _) _ _ _); with_reducible ((refine' r_append ?zzk1 ?zzk2 ?zzk3 ?zzk4 ?_; (case zzk1 => k_asm); (case zzk2 => k_asm); (case zzk3 => k_dflt k_upd); (case zzk4 => k_dflt (first | assumption | omega)); intro zzh' zzF' zzN'))) | ((with_reducible show wpAny _ _ (call (Value.builtin "list.extend") _ _) _ _ _); with_reducible ((refine' r_extend ?zzk1 ?zzk2 ?zzk3 ?zzk4 ?zzk5 ?_; (case zzk1 => k_asm); (case zzk2 => k_asm); (case zzk3 => k_dflt k_mem); (case zzk4 => k_dflt k_upd); (case zzk5 => (simp only [List.length_cons, List.length_nil]; omega)); intro zzh' zzF' zzN'))) | walk_at "MY STEP") | dsimp only | (leave1; (try dsimp only)) | fail "no step"))
    all_goals (try k_data)
    all_goals (first
      | (refine' ⟨⟨_, _, _, _⟩, _, _, rfl, fr_cast (by k_asm) ?qf, ?qN2, hoff' _, ?qc, ?qd⟩
         case qN2 => k_asm
         case qf => (intro y; dsimp only; by_cases h1 : y = "code"; (subst h1; rfl); by_cases h2 : y = "sign"; (subst h2; rfl); simp only [if_neg h1, if_neg h2])
         case qc => (simp only [List.length_append, List.length_singleton, List.length_cons, List.length_nil]; omega)
         case qd => exact un_snoc1 hki (by omega) hP)
      | (refine' ⟨⟨_, _, _, _⟩, _, _, rfl, fr_cast (by k_asm) ?qf, ?qN2, hoff' _, ?qc, ?qd⟩
         case qN2 => exact news_tail (by k_asm)
         case qf => (intro y; dsimp only; by_cases h1 : y = "code"; (subst h1; rfl); by_cases h2 : y = "sign"; (subst h2; rfl); simp only [if_neg h1, if_neg h2])
         case qc => (simp only [List.length_append, List.length_singleton, List.length_cons, List.length_nil]; omega)
         case qd => exact un_snoc2 hki (by omega) hP))
  case qdone =>
    rintro ⟨vs, k, u0, x0⟩ h tk ⟨_, hP⟩ F9 N9
    dsimp only at hP F9 N9 ⊢
    (skip; repeat' (first | (k_unfold; (try dsimp only)) | (with_reducible refine gen3 ?_; intro _) | ((with_reducible show wpAny _ _ (exec (Stmt.Assign _ _ _) _) _ _ _); k_fold) | ((with_reducible show wpAny _ _ (exec (Stmt.Return _ _) _) _ _ _); k_fold) | ((with_reducible show wpAny _ _ (eval (PySem.Expr.Call _ _ _ _) _) _ _ _); k_fold) | with_reducible refine seq_next ?_ | with_reducible refine seq_ret ?_ | (first | ((with_reducible show wpAny _ _ (call (Value.builtin "list.append") _ _) _ _ _); with_reducible ((refine' r_append ?zzk1 ?zzk2 ?zzk3 ?zzk4 ?_; (case zzk1 => k_asm); (case zzk2 => k_asm); (case zzk3 => k_dflt k_upd); (case zzk4 => k_dflt (first | assumption | omega)); intro zzh' zzF' zzN'))) | ((with_reducible show wpAny _ _ (call (Value.builtin "list.extend") _ _) _ _ _); with_reducible ((refine' r_extend ?zzk1 ?zzk2 ?zzk3 ?zzk4 ?zzk5 ?_; (case zzk1 => k_asm); (case zzk2 => k_asm); (case zzk3 => k_dflt k_mem); (case zzk4 => k_dflt k_upd); (case zzk5 => (simp only [List.length_cons, List.length_nil]; omega)); intro zzh' zzF' zzN'))) | walk_at "MY STEP") | dsimp only | (leave1; (try dsimp only)) | fail "no step"))
    all_goals (try k_data)
    rw [hxl, List.take_of_length_le (Nat.le_refl _)] at hP
    exact ret _ _ _ _ _ (by k_asm) (by k_asm) hlt hP

end
section
/-- two octets a unit -/
def oct2 (u : Int) : List Int := [u.fdiv 256, u.fmod 256]
def octT (us : List Int) : List Int := us.flatMap oct2
/-- the octets that prefix_octets keeps -/
def po (ks : List Int) : List Int := if ks.filter (fun c => decide (c > 127)) = [] then ks else 254 :: 255 :: octT (unT ks)
theorem octT_snoc (l : List Int) (c : Int) : octT (l ++ [c]) = octT l ++ oct2 c := by simp [octT]
theorem octT_length : ∀ l : List Int, (octT l).length = 2 * l.length
  | [] => rfl
  | _ :: r => by have := octT_length r; simp only [octT, oct2, List.flatMap_cons, List.length_append, List.length_cons, List.length_nil] at this ⊢; omega
theorem octT_in {us : List Int} (hb : ∀ u ∈ us, 0 ≤ u ∧ u < 65536) : KBa.In (octT us) := by
  intro n hn
  obtain ⟨u, hu, hn⟩ := List.mem_flatMap.mp hn
  have h := hb u hu
  have h1 : u.fdiv 256 = u / 256 := Int.fdiv_eq_ediv_of_nonneg _ (by decide)
  have h2 : u.fmod 256 = u % 256 := Int.fmod_eq_emod_of_nonneg _ (by decide)
  simp only [oct2, List.mem_cons, List.not_mem_nil, or_false] at hn
  rw [h1, h2] at hn
  rcases hn with rfl | rfl <;> omega
theorem un1_in {c : Int} (h : 0 ≤ c ∧ c < 1114112) : ∀ u ∈ un1 c, 0 ≤ u ∧ u < 65536 := by
  intro u hu
  unfold un1 at hu
  have h1 : (c - 65536).fdiv 1024 = (c - 65536) / 1024 := Int.fdiv_eq_ediv_of_nonneg _ (by decide)
  have h2 : (c - 65536).fmod 1024 = (c - 65536) % 1024 := Int.fmod_eq_emod_of_nonneg _ (by decide)
  rw [h1, h2] at hu
  split at hu
  · simp only [List.mem_cons, List.not_mem_nil, or_false] at hu
    rcases hu with rfl | rfl <;> omega
  · simp only [List.mem_cons, List.not_mem_nil, or_false] at hu
    subst hu; omega
theorem unT_in {ks : List Int} (hb : ∀ c ∈ ks, 0 ≤ c ∧ c < 1114112) : ∀ u ∈ unT ks, 0 ≤ u ∧ u < 65536 := by
  intro u hu
  obtain ⟨c, hc, hu⟩ := List.mem_flatMap.mp hu
  exact un1_in (hb c hc) u hu
theorem unT_length : ∀ l : List Int, (unT l).length ≤ 2 * l.length
  | [] => Nat.le_refl _
  | c :: r => by
    have ih := unT_length r
    have : (un1 c).length ≤ 2 := by unfold un1; split <;> simp
    simp only [unT, List.flatMap_cons, List.length_append, List.length_cons] at ih ⊢; omega
theorem filt_snoc1 {ks : List Int} {i : Nat} {c : Int} {vs : List Value} {t : Tok} (hk : ks[i]? = some c) (h : c > 127) (hP : StrsAre vs (sg ((ks.take i).filter fun c => decide (c > 127)))) :
    StrsAre (vs ++ [.str ⟨#[c.toNat]⟩ t]) (sg ((ks.take (i + 1)).filter fun c => decide (c > 127))) := by
  rw [List.take_add_one, hk, Option.toList_some, List.filter_append, show [c].filter (fun c => decide (c > 127)) = [c] from by simp; omega, ← sg_snoc]
  exact strs_snoc hP
theorem filt_snoc0 {ks : List Int} {i : Nat} {c : Int} {vs : List Value} (hk : ks[i]? = some c) (h : ¬ c > 127) (hP : StrsAre vs (sg ((ks.take i).filter fun c => decide (c > 127)))) :
    StrsAre vs (sg ((ks.take (i + 1)).filter fun c => decide (c > 127))) := by
  rw [List.take_add_one, hk, Option.toList_some, List.filter_append, show [c].filter (fun c => decide (c > 127)) = [] from by simp; omega, List.append_nil]
  exact hP
theorem ints_snoc {ks : List Int} {i : Nat} {c : Int} {vs : List Value} {t : Tok} (hk : ks[i]? = some c) (hP : IntsAre vs (ks.take i)) : IntsAre (vs ++ [.int c t]) (ks.take (i + 1)) := by
  rw [List.take_add_one, hk, Option.toList_some]
  exact IntsAre.append hP (.cons _ _ .nil)
theorem oct_snoc {ks : List Int} {i : Nat} {c : Int} {vs : List Value} {t u : Tok} (hk : ks[i]? = some c) (hP : IntsAre vs (octT (ks.take i))) : IntsAre (vs ++ [.int (c.fdiv 256) t, .int (c.fmod 256) u]) (octT (ks.take (i + 1))) := by
  rw [List.take_add_one, hk, Option.toList_some, octT_snoc]
  exact IntsAre.append hP (.cons _ _ (.cons _ _ .nil))
theorem po_asc {ks : List Int} (h : ks.filter (fun c => decide (c > 127)) = []) : po ks = ks := by unfold po; rw [if_pos h]
theorem po_wide {ks : List Int} (h : ¬ ks.filter (fun c => decide (c > 127)) = []) : po ks = 254 :: 255 :: octT (unT ks) := by unfold po; rw [if_neg h]
theorem asc_in {ks : List Int} (hb : ∀ c ∈ ks, 0 ≤ c ∧ c < 1114112) (h : ks.filter (fun c => decide (c > 127)) = []) : KBa.In ks := by
  intro n hn
  have h1 := hb n hn
  have h2 : ¬ n > 127 := fun q => by
    have : n ∈ ks.filter (fun c => decide (c > 127)) := List.mem_filter.mpr ⟨hn, decide_eq_true q⟩
    rw [h] at this; cases this
  omega
theorem po_in {ks : List Int} (hb : ∀ c ∈ ks, 0 ≤ c ∧ c < 1114112) : KBa.In (po ks) := by
  by_cases h : ks.filter (fun c => decide (c > 127)) = []
  · rw [po_asc h]; exact asc_in hb h
  · rw [po_wide h]
    intro n hn
    rcases List.mem_cons.mp hn with rfl | hn
    · decide
    rcases List.mem_cons.mp hn with rfl | hn
    · decide
    exact octT_in (unT_in hb) n hn
theorem po_length (ks : List Int) : (po ks).length ≤ 4 * ks.length + 2 := by
  unfold po
  split
  · omega
  · have := unT_length ks; have := octT_length (unT ks); simp only [List.length_cons]; omega
section
variable {prog : Program} {w : World} {A : Around} {E : Value → Shared → Prop} {s : Shared} {Q : Value → Shared → Prop} {t u : Tok} {h₀ : Heap} {L : Addr} {news : List (Addr × Obj)} {m : Str → Option Value}
theorem r_bytes {D : Addr} {vs : List Value} {ns : List Int} {n : Nat} (F : Fr h₀ L s.heap m) (N : News h₀ L s.heap news) (hm : (D, ({ cls := .type "list", data := .seq vs.toArray n } : Obj)) ∈ news) (hh : A.handled = none) (hi : IntsAre vs ns) (hr : KBa.In ns) (hn : ns.length ≤ 100000)
    (h : ∀ h' t' k, Fr h₀ L h' m → News h₀ L h' news → Q (.bytes (byteArr ns) t') { s with heap := h', toks := k }) : wpAny (model prog w) A (call (.type "bytes") [.ref D]) Q E s :=
  KBa.make_K F N hh ⟨_, N.get hm, rfl, n, rfl⟩ hi hr (by omega) fun h' t' k F' N' _ => h h' t' k F' N'
theorem r_mark {ns : List Int} (hn : ns.length ≤ 100000) (h : ∀ t' k, Q (.bytes (byteArr (254 :: 255 :: ns)) t') { s with toks := k }) : wpAny (model prog w) A (binaryOp .Add (.bytes #[254, 255] t) (.bytes (byteArr ns) u)) Q E s := by
  refine KBy.add_bytes (by rw [byteArr_size]; show 2 + _ ≤ _; omega) fun t' k => ?_
  have e : (#[254, 255] : Array UInt8) ++ byteArr ns = byteArr (254 :: 255 :: ns) := by
    refine Array.toList_inj.mp ?_
    rw [Array.toList_append]
    rfl
  rw [e]; exact h t' k
end
theorem r_nenil {prog : Program} {w : World} {A : Around} {E : Value → Shared → Prop} {s : Shared} {Q : Value → Shared → Prop} {h₀ : Heap} {L : Addr} {news : List (Addr × Obj)} {D b : Addr} {ys : List Value} {n k : Nat} {cs : List Int} (N : News h₀ L s.heap news)
    (hm : (D, ({ cls := .type "list", data := .seq ys.toArray n } : Obj)) ∈ news) (hb : (b, ({ cls := .type "list", data := .seq #[] k } : Obj)) ∈ news) (hs : StrsAre ys (sg cs)) (hc : ∀ c ∈ cs, 0 ≤ c ∧ c < 1114112) (hne : ¬ cs = []) (hu : A.units + 64 < cLine)
    (h : Q (.bool false) s) : wpAny (model prog w) A (compareOp .Eq (.ref D) (.ref b)) Q E s := by
  have r1 : Reads s.heap (.ref D) (.list ((sg cs).map PyData.str)) [D] := Reads.list (N.get hm) rfl rfl (by simpa using StrsAre.reads s.heap hs)
  have r2 : Reads s.heap (.ref b) (.list []) [b] := Reads.list (N.get hb) rfl rfl ReadsAll.nil
  have all : ∀ cs : List Int, (∀ c ∈ cs, 0 ≤ c ∧ c < 1114112) → PyData.canLayAll0 ((sg cs).map PyData.str) = true ∧ PyData.depthAll ((sg cs).map PyData.str) = 0 := by
    intro cs
    induction cs with
    | nil => intro _; exact ⟨rfl, rfl⟩
    | cons c r ih =>
      intro hc
      have h1 := ih fun d hd => hc d (.tail _ hd)
      have h2 := hc c (.head _)
      have h3 : PyData.strOk ⟨#[c.toNat]⟩ = true := by simp [PyData.strOk]; omega
      simp only [sg, List.map_cons, PyData.canLayAll0, PyData.depthAll, PyData.canLay0, PyData.depth] at h1 ⊢
      rw [h3, h1.1, h1.2]; exact ⟨rfl, rfl⟩
  have ha := all cs hc
  refine eq_dataH r1 r2 ?_ (by decide) hu ?_
  · simp [SeqAt.shaped, PyData.canLay0, PyData.depth, ha.1, ha.2]
  · cases cs with
    | nil => exact absurd rfl hne
    | cons c r => simpa [sg, PyData.eqv, PyData.eqvAll] using h
structure PoS where
  vs : List Value
  k : Nat
  x : Option Value
theorem po_ok {pv : Program} {w : World} {loose : List Str} {mean : ExcName → Option Value} {mg mb : Str → Option Value} {A₀ : Around} {dp un : Nat} {gd : Option (List Code)} {cn : Str} {cs : Scope} {a : Addr} {ccd : Value} {cl : List (Str × Addr)} {outer : List Env} {base h₀ : Heap} {L : Addr} {m : Str → Option Value} {s : Shared} {Q E : Value → Shared → Prop}
   {x : Str} {t : Tok} {ks : List Int} {news : List (Addr × Obj)}
   (B : Below A₀ base outer h₀) (F : Fr h₀ L s.heap m) (X : (frag.heap_1 w.params).In h₀) (N : News h₀ L s.heap news) (T : Top pv loose mean mg mb h₀)
   (hk : cs.kind = .function) (hdp : dp + 2 < recursionLimit) (hun : un + 500 < cLine)
   (hks : KStt.codes x = ks) (hlen : ks.length ≤ 1000) (hb : ∀ c ∈ ks, 0 ≤ c ∧ c < 1114112)
   (ret : ∀ t h' tk', Fr h₀ L h' m → News h₀ L h' news → Q (.bytes (byteArr (po ks)) t) {s with heap := h', toks := tk'}) :
   wpAny (model pr w) (ktrTop dp un gd cn cs L a ccd cl outer) (call (.ref 466) [.str x t]) Q E s := by
  have hxl : x.cps.size = ks.length := by rw [← hks, KStt.codes_length]; rfl
  walk_at "MY ENTER"
  (skip; repeat' (first | (k_unfold; (try dsimp only)) | (with_reducible refine gen3 ?_; intro _) | ((with_reducible show wpAny _ _ (exec (Stmt.Assign _ _ _) _) _ _ _); k_fold) | ((with_reducible show wpAny _ _ (exec (Stmt.Return _ _) _) _ _ _); k_fold) | ((with_reducible show wpAny _ _ (eval (PySem.Expr.Call _ _ _ _) _) _ _ _); k_fold) | with_reducible refine seq_next ?_ | with_reducible refine seq_ret ?_ | (first | ((with_reducible show wpAny _ _ (compareOp CmpOp.Eq (Value.ref _) (Value.ref _)) _ _ _); with_reducible ((refine' r_nenil ?zzk1 ?zzk2 ?zzk3 ?zzk4 ?zzk5 ?zzk6 ?zzk7 ?_; (case zzk1 => k_asm); (case zzk2 => k_dflt k_mem); (case zzk3 => k_dflt k_mem); (case zzk4 => assumption); (case zzk5 => assumption); (case zzk6 => assumption); (case zzk7 => units_room)))) | ((with_reducible show wpAny _ _ (binaryOp Operator.Add (Value.bytes _ _) (Value.bytes _ _)) _ _ _); with_reducible ((refine r_mark ?zzk1 ?_; (case zzk1 => omega); intro zzt' zzk'))) | ((with_reducible show wpAny _ _ (call (Value.type "bytes") _ _) _ _ _); with_reducible ((refine' r_bytes ?zzk1 ?zzk2 ?zzk3 ?zzk4 ?zzk5 ?zzk6 ?zzk7 ?_; (case zzk1 => k_asm); (case zzk2 => k_asm); (case zzk3 => k_dflt k_mem); (case zzk4 => rfl); (case zzk5 => assumption); (case zzk6 => assumption); (case zzk7 => omega); intro zzh' zzt' zzk' zzF' zzN'))) | ((with_reducible show wpAny _ _ (call (Value.builtin "list.extend") _ _) _ _ _); with_reducible ((refine' r_extend ?zzk1 ?zzk2 ?zzk3 ?zzk4 ?zzk5 ?_; (case zzk1 => k_asm); (case zzk2 => k_asm); (case zzk3 => k_dflt k_mem); (case zzk4 => k_dflt k_upd); (case zzk5 => (simp only [List.length_cons, List.length_nil]; omega)); intro zzh' zzF' zzN'))) | walk_at "MY STEP") | (((with_reducible show wpAny _ _ (call (Value.ref 461) _) _ _ _); k_dflt (refine' uof_ok ?zzB ?zzF ?zzX ?zzN ?zzT ?zzhk ?zzhdp ?zzhun ?zzhi ?zzhlen ?zzhb ?_; (case zzB => k_asm); (case zzF => k_asm); (case zzX => k_asm); (case zzN => k_asm); (case zzT => k_asm); (case zzhk => first | assumption | rfl); (case zzhdp => ktr_room); (case zzhun => units_room); (case zzhi => assumption); (case zzhb => assumption); (case zzhlen => omega)); intro zzD9 zzvs9 zzk9 zzh9 zztk9 zzF9 zzN9 zzhlt9 zzhi9; (try dsimp only))) | dsimp only | (leave1; (try dsimp only)) | fail "no step"))
  all_goals (try k_data)
  refine ListComp_srcT (by k_asm) (by with_unfolding_all rfl) (by decide) (by rfl) (by decide) (by rfl) ?_
  (skip; repeat' (first | (k_unfold; (try dsimp only)) | (with_reducible refine gen3 ?_; intro _) | ((with_reducible show wpAny _ _ (exec (Stmt.Assign _ _ _) _) _ _ _); k_fold) | ((with_reducible show wpAny _ _ (exec (Stmt.Return _ _) _) _ _ _); k_fold) | ((with_reducible show wpAny _ _ (eval (PySem.Expr.Call _ _ _ _) _) _ _ _); k_fold) | with_reducible refine seq_next ?_ | with_reducible refine seq_ret ?_ | (first | ((with_reducible show wpAny _ _ (compareOp CmpOp.Eq (Value.ref _) (Value.ref _)) _ _ _); with_reducible ((refine' r_nenil ?zzk1 ?zzk2 ?zzk3 ?zzk4 ?zzk5 ?zzk6 ?zzk7 ?_; (case zzk1 => k_asm); (case zzk2 => k_dflt k_mem); (case zzk3 => k_dflt k_mem); (case zzk4 => assumption); (case zzk5 => assumption); (case zzk6 => assumption); (case zzk7 => units_room)))) | ((with_reducible show wpAny _ _ (binaryOp Operator.Add (Value.bytes _ _) (Value.bytes _ _)) _ _ _); with_reducible ((refine r_mark ?zzk1 ?_; (case zzk1 => omega); intro zzt' zzk'))) | ((with_reducible show wpAny _ _ (call (Value.type "bytes") _ _) _ _ _); with_reducible ((refine' r_bytes ?zzk1 ?zzk2 ?zzk3 ?zzk4 ?zzk5 ?zzk6 ?zzk7 ?_; (case zzk1 => k_asm); (case zzk2 => k_asm); (case zzk3 => k_dflt k_mem); (case zzk4 => rfl); (case zzk5 => assumption); (case zzk6 => assumption); (case zzk7 => omega); intro zzh' zzt' zzk' zzF' zzN'))) | ((with_reducible show wpAny _ _ (call (Value.builtin "list.extend") _ _) _ _ _); with_reducible ((refine' r_extend ?zzk1 ?zzk2 ?zzk3 ?zzk4 ?zzk5 ?_; (case zzk1 => k_asm); (case zzk2 => k_asm); (case zzk3 => k_dflt k_mem); (case zzk4 => k_dflt k_upd); (case zzk5 => (simp only [List.length_cons, List.length_nil]; omega)); intro zzh' zzF' zzN'))) | walk_at "MY STEP") | (((with_reducible show wpAny _ _ (call (Value.ref 461) _) _ _ _); k_dflt (refine' uof_ok ?zzB ?zzF ?zzX ?zzN ?zzT ?zzhk ?zzhdp ?zzhun ?zzhi ?zzhlen ?zzhb ?_; (case zzB => k_asm); (case zzF => k_asm); (case zzX => k_asm); (case zzN => k_asm); (case zzT => k_asm); (case zzhk => first | assumption | rfl); (case zzhdp => ktr_room); (case zzhun => units_room); (case zzhi => assumption); (case zzhb => assumption); (case zzhlen => omega)); intro zzD9 zzvs9 zzk9 zzh9 zztk9 zzF9 zzN9 zzhlt9 zzhi9; (try dsimp only))) | dsimp only | (leave1; (try dsimp only)) | fail "no step"))
  all_goals (try k_data)
  refine' LcAtT.of (σ := Unit) (fun _ => _) (fun i ys _ => StrsAre ys (sg ((ks.take i).filter fun c => decide (c > 127)))) () (src_str (by rfl)) ?hz ?F ?N ?r ?turn ?fin
  case F => k_asm
  case N => k_asm
  case hz => (rw [sizeLine_eq]; omega)
  case r => exact .nil
  case turn =>
    rintro i v ys c I oI C oC D m₂ h tk E' hi ⟨c9, u9, hc9, rfl⟩ hR hC hx F9 N9 off ne
    have hki := KStt.code_at hc9
    rw [hks] at hki
    (skip; repeat' (first | (k_unfold; (try dsimp only)) | (with_reducible refine gen3 ?_; intro _) | ((with_reducible show wpAny _ _ (exec (Stmt.Assign _ _ _) _) _ _ _); k_fold) | ((with_reducible show wpAny _ _ (exec (Stmt.Return _ _) _) _ _ _); k_fold) | ((with_reducible show wpAny _ _ (eval (PySem.Expr.Call _ _ _ _) _) _ _ _); k_fold) | with_reducible refine seq_next ?_ | with_reducible refine seq_ret ?_ | (first | ((with_reducible show wpAny _ _ (compareOp CmpOp.Eq (Value.ref _) (Value.ref _)) _ _ _); with_reducible ((refine' r_nenil ?zzk1 ?zzk2 ?zzk3 ?zzk4 ?zzk5 ?zzk6 ?zzk7 ?_; (case zzk1 => k_asm); (case zzk2 => k_dflt k_mem); (case zzk3 => k_dflt k_mem); (case zzk4 => assumption); (case zzk5 => assumption); (case zzk6 => assumption); (case zzk7 => units_room)))) | ((with_reducible show wpAny _ _ (binaryOp Operator.Add (Value.bytes _ _) (Value.bytes _ _)) _ _ _); with_reducible ((refine r_mark ?zzk1 ?_; (case zzk1 => omega); intro zzt' zzk'))) | ((with_reducible show wpAny _ _ (call (Value.type "bytes") _ _) _ _ _); with_reducible ((refine' r_bytes ?zzk1 ?zzk2 ?zzk3 ?zzk4 ?zzk5 ?zzk6 ?zzk7 ?_; (case zzk1 => k_asm); (case zzk2 => k_asm); (case zzk3 => k_dflt k_mem); (case zzk4 => rfl); (case zzk5 => assumption); (case zzk6 => assumption); (case zzk7 => omega); intro zzh' zzt' zzk' zzF' zzN'))) | ((with_reducible show wpAny _ _ (call (Value.builtin "list.extend") _ _) _ _ _); with_reducible ((refine' r_extend ?zzk1 ?zzk2 ?zzk3 ?zzk4 ?zzk5 ?_; (case zzk1 => k_asm); (case zzk2 => k_asm); (case zzk3 => k_dflt k_mem); (case zzk4 => k_dflt k_upd); (case zzk5 => (simp only [List.length_cons, List.length_nil]; omega)); intro zzh' zzF' zzN'))) | walk_at "MY STEP") | (((with_reducible show wpAny _ _ (call (Value.ref 461) _) _ _ _); k_dflt (refine' uof_ok ?zzB ?zzF ?zzX ?zzN ?zzT ?zzhk ?zzhdp ?zzhun ?zzhi ?zzhlen ?zzhb ?_; (case zzB => k_asm); (case zzF => k_asm); (case zzX => k_asm); (case zzN => k_asm); (case zzT => k_asm); (case zzhk => first | assumption | rfl); (case zzhdp => ktr_room); (case zzhun => units_room); (case zzhi => assumption); (case zzhb => assumption); (case zzhlen => omega)); intro zzD9 zzvs9 zzk9 zzh9 zztk9 zzF9 zzN9 zzhlt9 zzhi9; (try dsimp only))) | dsimp only | (leave1; (try dsimp only)) | fail "no step"))
    all_goals (try k_data)
    all_goals (first
      | exact ⟨(), _, _, rfl, by k_asm, by k_asm, off, filt_snoc1 hki (by omega) hR⟩
      | exact ⟨(), _, _, rfl, by k_asm, by k_asm, off, filt_snoc0 hki (by omega) hR⟩)
  case fin =>
    intro g ys c hR D h tk F9 N9 o9
    rw [hxl, List.take_of_length_le (Nat.le_refl _)] at hR
    by_cases hasc : ks.filter (fun c => decide (c > 127)) = []
    · rw [hasc] at hR
      have hin := asc_in hb hasc
      rw [po_asc hasc] at ret
      cases hR
      (skip; repeat' (first | (k_unfold; (try dsimp only)) | (with_reducible refine gen3 ?_; intro _) | ((with_reducible show wpAny _ _ (exec (Stmt.Assign _ _ _) _) _ _ _); k_fold) | ((with_reducible show wpAny _ _ (exec (Stmt.Return _ _) _) _ _ _); k_fold) | ((with_reducible show wpAny _ _ (eval (PySem.Expr.Call _ _ _ _) _) _ _ _); k_fold) | with_reducible refine seq_next ?_ | with_reducible refine seq_ret ?_ | (first | ((with_reducible show wpAny _ _ (compareOp CmpOp.Eq (Value.ref _) (Value.ref _)) _ _ _); with_reducible ((refine' r_nenil ?zzk1 ?zzk2 ?zzk3 ?zzk4 ?zzk5 ?zzk6 ?zzk7 ?_; (case zzk1 => k_asm); (case zzk2 => k_dflt k_mem); (case zzk3 => k_dflt k_mem); (case zzk4 => assumption); (case zzk5 => assumption); (case zzk6 => assumption); (case zzk7 => units_room)))) | ((with_reducible show wpAny _ _ (binaryOp Operator.Add (Value.bytes _ _) (Value.bytes _ _)) _ _ _); with_reducible ((refine r_mark ?zzk1 ?_; (case zzk1 => omega); intro zzt' zzk'))) | ((with_reducible show wpAny _ _ (call (Value.type "bytes") _ _) _ _ _); with_reducible ((refine' r_bytes ?zzk1 ?zzk2 ?zzk3 ?zzk4 ?zzk5 ?zzk6 ?zzk7 ?_; (case zzk1 => k_asm); (case zzk2 => k_asm); (case zzk3 => k_dflt k_mem); (case zzk4 => rfl); (case zzk5 => assumption); (case zzk6 => assumption); (case zzk7 => omega); intro zzh' zzt' zzk' zzF' zzN'))) | ((with_reducible show wpAny _ _ (call (Value.builtin "list.extend") _ _) _ _ _); with_reducible ((refine' r_extend ?zzk1 ?zzk2 ?zzk3 ?zzk4 ?zzk5 ?_; (case zzk1 => k_asm); (case zzk2 => k_asm); (case zzk3 => k_dflt k_mem); (case zzk4 => k_dflt k_upd); (case zzk5 => (simp only [List.length_cons, List.length_nil]; omega)); intro zzh' zzF' zzN'))) | walk_at "MY STEP") | (((with_reducible show wpAny _ _ (call (Value.ref 461) _) _ _ _); k_dflt (refine' uof_ok ?zzB ?zzF ?zzX ?zzN ?zzT ?zzhk ?zzhdp ?zzhun ?zzhi ?zzhlen ?zzhb ?_; (case zzB => k_asm); (case zzF => k_asm); (case zzX => k_asm); (case zzN => k_asm); (case zzT => k_asm); (case zzhk => first | assumption | rfl); (case zzhdp => ktr_room); (case zzhun => units_room); (case zzhi => assumption); (case zzhb => assumption); (case zzhlen => omega)); intro zzD9 zzvs9 zzk9 zzh9 zztk9 zzF9 zzN9 zzhlt9 zzhi9; (try dsimp only))) | dsimp only | (leave1; (try dsimp only)) | fail "no step"))
      all_goals (try k_data)
      refine ListComp_src (by k_asm) (by with_unfolding_all rfl) (by decide) (by rfl) (by decide) (by rfl) ?_
      (skip; repeat' (first | (k_unfold; (try dsimp only)) | (with_reducible refine gen3 ?_; intro _) | ((with_reducible show wpAny _ _ (exec (Stmt.Assign _ _ _) _) _ _ _); k_fold) | ((with_reducible show wpAny _ _ (exec (Stmt.Return _ _) _) _ _ _); k_fold) | ((with_reducible show wpAny _ _ (eval (PySem.Expr.Call _ _ _ _) _) _ _ _); k_fold) | with_reducible refine seq_next ?_ | with_reducible refine seq_ret ?_ | (first | ((with_reducible show wpAny _ _ (compareOp CmpOp.Eq (Value.ref _) (Value.ref _)) _ _ _); with_reducible ((refine' r_nenil ?zzk1 ?zzk2 ?zzk3 ?zzk4 ?zzk5 ?zzk6 ?zzk7 ?_; (case zzk1 => k_asm); (case zzk2 => k_dflt k_mem); (case zzk3 => k_dflt k_mem); (case zzk4 => assumption); (case zzk5 => assumption); (case zzk6 => assumption); (case zzk7 => units_room)))) | ((with_reducible show wpAny _ _ (binaryOp Operator.Add (Value.bytes _ _) (Value.bytes _ _)) _ _ _); with_reducible ((refine r_mark ?zzk1 ?_; (case zzk1 => omega); intro zzt' zzk'))) | ((with_reducible show wpAny _ _ (call (Value.type "bytes") _ _) _ _ _); with_reducible ((refine' r_bytes ?zzk1 ?zzk2 ?zzk3 ?zzk4 ?zzk5 ?zzk6 ?zzk7 ?_; (case zzk1 => k_asm); (case zzk2 => k_asm); (case zzk3 => k_dflt k_mem); (case zzk4 => rfl); (case zzk5 => assumption); (case zzk6 => assumption); (case zzk7 => omega); intro zzh' zzt' zzk' zzF' zzN'))) | ((with_reducible show wpAny _ _ (call (Value.builtin "list.extend") _ _) _ _ _); with_reducible ((refine' r_extend ?zzk1 ?zzk2 ?zzk3 ?zzk4 ?zzk5 ?_; (case zzk1 => k_asm); (case zzk2 => k_asm); (case zzk3 => k_dflt k_mem); (case zzk4 => k_dflt k_upd); (case zzk5 => (simp only [List.length_cons, List.length_nil]; omega)); intro zzh' zzF' zzN'))) | walk_at "MY STEP") | (((with_reducible show wpAny _ _ (call (Value.ref 461) _) _ _ _); k_dflt (refine' uof_ok ?zzB ?zzF ?zzX ?zzN ?zzT ?zzhk ?zzhdp ?zzhun ?zzhi ?zzhlen ?zzhb ?_; (case zzB => k_asm); (case zzF => k_asm); (case zzX => k_asm); (case zzN => k_asm); (case zzT => k_asm); (case zzhk => first | assumption | rfl); (case zzhdp => ktr_room); (case zzhun => units_room); (case zzhi => assumption); (case zzhb => assumption); (case zzhlen => omega)); intro zzD9 zzvs9 zzk9 zzh9 zztk9 zzF9 zzN9 zzhlt9 zzhi9; (try dsimp only))) | dsimp only | (leave1; (try dsimp only)) | fail "no step"))
      all_goals (try k_data)
      refine' LcAt.of (σ := Unit) (fun _ => _) (fun i ys _ => IntsAre ys (ks.take i)) () (src_str (by rfl)) ?hz ?F ?N ?r ?turn ?fin
      case F => k_asm
      case N => k_asm
      case hz => (rw [sizeLine_eq]; omega)
      case r => exact .nil
      case turn =>
        rintro i v ys c I oI C oC D m₂ h tk E' hi ⟨c9, u9, hc9, rfl⟩ hR hC hx F9 N9 off ne
        have hki := KStt.code_at hc9
        rw [hks] at hki
        (skip; repeat' (first | (k_unfold; (try dsimp only)) | (with_reducible refine gen3 ?_; intro _) | ((with_reducible show wpAny _ _ (exec (Stmt.Assign _ _ _) _) _ _ _); k_fold) | ((with_reducible show wpAny _ _ (exec (Stmt.Return _ _) _) _ _ _); k_fold) | ((with_reducible show wpAny _ _ (eval (PySem.Expr.Call _ _ _ _) _) _ _ _); k_fold) | with_reducible refine seq_next ?_ | with_reducible refine seq_ret ?_ | (first | ((with_reducible show wpAny _ _ (compareOp CmpOp.Eq (Value.ref _) (Value.ref _)) _ _ _); with_reducible ((refine' r_nenil ?zzk1 ?zzk2 ?zzk3 ?zzk4 ?zzk5 ?zzk6 ?zzk7 ?_; (case zzk1 => k_asm); (case zzk2 => k_dflt k_mem); (case zzk3 => k_dflt k_mem); (case zzk4 => assumption); (case zzk5 => assumption); (case zzk6 => assumption); (case zzk7 => units_room)))) | ((with_reducible show wpAny _ _ (binaryOp Operator.Add (Value.bytes _ _) (Value.bytes _ _)) _ _ _); with_reducible ((refine r_mark ?zzk1 ?_; (case zzk1 => omega); intro zzt' zzk'))) | ((with_reducible show wpAny _ _ (call (Value.type "bytes") _ _) _ _ _); with_reducible ((refine' r_bytes ?zzk1 ?zzk2 ?zzk3 ?zzk4 ?zzk5 ?zzk6 ?zzk7 ?_; (case zzk1 => k_asm); (case zzk2 => k_asm); (case zzk3 => k_dflt k_mem); (case zzk4 => rfl); (case zzk5 => assumption); (case zzk6 => assumption); (case zzk7 => omega); intro zzh' zzt' zzk' zzF' zzN'))) | ((with_reducible show wpAny _ _ (call (Value.builtin "list.extend") _ _) _ _ _); with_reducible ((refine' r_extend ?zzk1 ?zzk2 ?zzk3 ?zzk4 ?zzk5 ?_; (case zzk1 => k_asm); (case zzk2 => k_asm); (case zzk3 => k_dflt k_mem); (case zzk4 => k_dflt k_upd); (case zzk5 => (simp only [List.length_cons, List.length_nil]; omega)); intro zzh' zzF' zzN'))) | walk_at "MY STEP") | (((with_reducible show wpAny _ _ (call (Value.ref 461) _) _ _ _); k_dflt (refine' uof_ok ?zzB ?zzF ?zzX ?zzN ?zzT ?zzhk ?zzhdp ?zzhun ?zzhi ?zzhlen ?zzhb ?_; (case zzB => k_asm); (case zzF => k_asm); (case zzX => k_asm); (case zzN => k_asm); (case zzT => k_asm); (case zzhk => first | assumption | rfl); (case zzhdp => ktr_room); (case zzhun => units_room); (case zzhi => assumption); (case zzhb => assumption); (case zzhlen => omega)); intro zzD9 zzvs9 zzk9 zzh9 zztk9 zzF9 zzN9 zzhlt9 zzhi9; (try dsimp only))) | dsimp only | (leave1; (try dsimp only)) | fail "no step"))
        all_goals (try k_data)
        exact ⟨(), _, _, rfl, by k_asm, by k_asm, off, ints_snoc hki hR⟩
      case fin =>
        intro g ys c hR D h tk F9 N9 o9
        rw [hxl, List.take_of_length_le (Nat.le_refl _)] at hR
        (skip; repeat' (first | (k_unfold; (try dsimp only)) | (with_reducible refine gen3 ?_; intro _) | ((with_reducible show wpAny _ _ (exec (Stmt.Assign _ _ _) _) _ _ _); k_fold) | ((with_reducible show wpAny _ _ (exec (Stmt.Return _ _) _) _ _ _); k_fold) | ((with_reducible show wpAny _ _ (eval (PySem.Expr.Call _ _ _ _) _) _ _ _); k_fold) | with_reducible refine seq_next ?_ | with_reducible refine seq_ret ?_ | (first | ((with_reducible show wpAny _ _ (compareOp CmpOp.Eq (Value.ref _) (Value.ref _)) _ _ _); with_reducible ((refine' r_nenil ?zzk1 ?zzk2 ?zzk3 ?zzk4 ?zzk5 ?zzk6 ?zzk7 ?_; (case zzk1 => k_asm); (case zzk2 => k_dflt k_mem); (case zzk3 => k_dflt k_mem); (case zzk4 => assumption); (case zzk5 => assumption); (case zzk6 => assumption); (case zzk7 => units_room)))) | ((with_reducible show wpAny _ _ (binaryOp Operator.Add (Value.bytes _ _) (Value.bytes _ _)) _ _ _); with_reducible ((refine r_mark ?zzk1 ?_; (case zzk1 => omega); intro zzt' zzk'))) | ((with_reducible show wpAny _ _ (call (Value.type "bytes") _ _) _ _ _); with_reducible ((refine' r_bytes ?zzk1 ?zzk2 ?zzk3 ?zzk4 ?zzk5 ?zzk6 ?zzk7 ?_; (case zzk1 => k_asm); (case zzk2 => k_asm); (case zzk3 => k_dflt k_mem); (case zzk4 => rfl); (case zzk5 => assumption); (case zzk6 => assumption); (case zzk7 => omega); intro zzh' zzt' zzk' zzF' zzN'))) | ((with_reducible show wpAny _ _ (call (Value.builtin "list.extend") _ _) _ _ _); with_reducible ((refine' r_extend ?zzk1 ?zzk2 ?zzk3 ?zzk4 ?zzk5 ?_; (case zzk1 => k_asm); (case zzk2 => k_asm); (case zzk3 => k_dflt k_mem); (case zzk4 => k_dflt k_upd); (case zzk5 => (simp only [List.length_cons, List.length_nil]; omega)); intro zzh' zzF' zzN'))) | walk_at "MY STEP") | (((with_reducible show wpAny _ _ (call (Value.ref 461) _) _ _ _); k_dflt (refine' uof_ok ?zzB ?zzF ?zzX ?zzN ?zzT ?zzhk ?zzhdp ?zzhun ?zzhi ?zzhlen ?zzhb ?_; (case zzB => k_asm); (case zzF => k_asm); (case zzX => k_asm); (case zzN => k_asm); (case zzT => k_asm); (case zzhk => first | assumption | rfl); (case zzhdp => ktr_room); (case zzhun => units_room); (case zzhi => assumption); (case zzhb => assumption); (case zzhlen => omega)); intro zzD9 zzvs9 zzk9 zzh9 zztk9 zzF9 zzN9 zzhlt9 zzhi9; (try dsimp only))) | dsimp only | (leave1; (try dsimp only)) | fail "no step"))
        all_goals (try k_data)
        exact ret _ _ _ (by k_asm) (by walk_at "MY NEWS")
    · rw [po_wide hasc] at ret
      have hfin : ∀ c ∈ ks.filter (fun c => decide (c > 127)), 0 ≤ c ∧ c < 1114112 := fun c hc => hb c ((List.mem_filter.mp hc).1)
      have hus := unT_in hb
      have hul := unT_length ks
      (skip; repeat' (first | (k_unfold; (try dsimp only)) | (with_reducible refine gen3 ?_; intro _) | ((with_reducible show wpAny _ _ (exec (Stmt.Assign _ _ _) _) _ _ _); k_fold) | ((with_reducible show wpAny _ _ (exec (Stmt.Return _ _) _) _ _ _); k_fold) | ((with_reducible show wpAny _ _ (eval (PySem.Expr.Call _ _ _ _) _) _ _ _); k_fold) | with_reducible refine seq_next ?_ | with_reducible refine seq_ret ?_ | (first | ((with_reducible show wpAny _ _ (compareOp CmpOp.Eq (Value.ref _) (Value.ref _)) _ _ _); with_reducible ((refine' r_nenil ?zzk1 ?zzk2 ?zzk3 ?zzk4 ?zzk5 ?zzk6 ?zzk7 ?_; (case zzk1 => k_asm); (case zzk2 => k_dflt k_mem); (case zzk3 => k_dflt k_mem); (case zzk4 => assumption); (case zzk5 => assumption); (case zzk6 => assumption); (case zzk7 => units_room)))) | ((with_reducible show wpAny _ _ (binaryOp Operator.Add (Value.bytes _ _) (Value.bytes _ _)) _ _ _); with_reducible ((refine r_mark ?zzk1 ?_; (case zzk1 => omega); intro zzt' zzk'))) | ((with_reducible show wpAny _ _ (call (Value.type "bytes") _ _) _ _ _); with_reducible ((refine' r_bytes ?zzk1 ?zzk2 ?zzk3 ?zzk4 ?zzk5 ?zzk6 ?zzk7 ?_; (case zzk1 => k_asm); (case zzk2 => k_asm); (case zzk3 => k_dflt k_mem); (case zzk4 => rfl); (case zzk5 => assumption); (case zzk6 => assumption); (case zzk7 => omega); intro zzh' zzt' zzk' zzF' zzN'))) | ((with_reducible show wpAny _ _ (call (Value.builtin "list.extend") _ _) _ _ _); with_reducible ((refine' r_extend ?zzk1 ?zzk2 ?zzk3 ?zzk4 ?zzk5 ?_; (case zzk1 => k_asm); (case zzk2 => k_asm); (case zzk3 => k_dflt k_mem); (case zzk4 => k_dflt k_upd); (case zzk5 => (simp only [List.length_cons, List.length_nil]; omega)); intro zzh' zzF' zzN'))) | walk_at "MY STEP") | (((with_reducible show wpAny _ _ (call (Value.ref 461) _) _ _ _); k_dflt (refine' uof_ok ?zzB ?zzF ?zzX ?zzN ?zzT ?zzhk ?zzhdp ?zzhun ?zzhi ?zzhlen ?zzhb ?_; (case zzB => k_asm); (case zzF => k_asm); (case zzX => k_asm); (case zzN => k_asm); (case zzT => k_asm); (case zzhk => first | assumption | rfl); (case zzhdp => ktr_room); (case zzhun => units_room); (case zzhi => assumption); (case zzhb => assumption); (case zzhlen => omega)); intro zzD9 zzvs9 zzk9 zzh9 zztk9 zzF9 zzN9 zzhlt9 zzhi9; (try dsimp only))) | dsimp only | (leave1; (try dsimp only)) | fail "no step"))
      all_goals (try k_data)
      rename_i D8 _ hlt8 hB8 F8 N8
      have hoff8 := allLt_ne hlt8.2.2
      refine' r_forstmt ?kF (by rfl) (by rfl) (by intro _; rfl) ?kE ?_
      case kF => k_asm
      case kE => passes_own
      (skip; repeat' (first | (k_unfold; (try dsimp only)) | (with_reducible refine gen3 ?_; intro _) | ((with_reducible show wpAny _ _ (exec (Stmt.Assign _ _ _) _) _ _ _); k_fold) | ((with_reducible show wpAny _ _ (exec (Stmt.Return _ _) _) _ _ _); k_fold) | ((with_reducible show wpAny _ _ (eval (PySem.Expr.Call _ _ _ _) _) _ _ _); k_fold) | with_reducible refine seq_next ?_ | with_reducible refine seq_ret ?_ | (first | ((with_reducible show wpAny _ _ (compareOp CmpOp.Eq (Value.ref _) (Value.ref _)) _ _ _); with_reducible ((refine' r_nenil ?zzk1 ?zzk2 ?zzk3 ?zzk4 ?zzk5 ?zzk6 ?zzk7 ?_; (case zzk1 => k_asm); (case zzk2 => k_dflt k_mem); (case zzk3 => k_dflt k_mem); (case zzk4 => assumption); (case zzk5 => assumption); (case zzk6 => assumption); (case zzk7 => units_room)))) | ((with_reducible show wpAny _ _ (binaryOp Operator.Add (Value.bytes _ _) (Value.bytes _ _)) _ _ _); with_reducible ((refine r_mark ?zzk1 ?_; (case zzk1 => omega); intro zzt' zzk'))) | ((with_reducible show wpAny _ _ (call (Value.type "bytes") _ _) _ _ _); with_reducible ((refine' r_bytes ?zzk1 ?zzk2 ?zzk3 ?zzk4 ?zzk5 ?zzk6 ?zzk7 ?_; (case zzk1 => k_asm); (case zzk2 => k_asm); (case zzk3 => k_dflt k_mem); (case zzk4 => rfl); (case zzk5 => assumption); (case zzk6 => assumption); (case zzk7 => omega); intro zzh' zzt' zzk' zzF' zzN'))) | ((with_reducible show wpAny _ _ (call (Value.builtin "list.extend") _ _) _ _ _); with_reducible ((refine' r_extend ?zzk1 ?zzk2 ?zzk3 ?zzk4 ?zzk5 ?_; (case zzk1 => k_asm); (case zzk2 => k_asm); (case zzk3 => k_dflt k_mem); (case zzk4 => k_dflt k_upd); (case zzk5 => (simp only [List.length_cons, List.length_nil]; omega)); intro zzh' zzF' zzN'))) | walk_at "MY STEP") | (((with_reducible show wpAny _ _ (call (Value.ref 461) _) _ _ _); k_dflt (refine' uof_ok ?zzB ?zzF ?zzX ?zzN ?zzT ?zzhk ?zzhdp ?zzhun ?zzhi ?zzhlen ?zzhb ?_; (case zzB => k_asm); (case zzF => k_asm); (case zzX => k_asm); (case zzN => k_asm); (case zzT => k_asm); (case zzhk => first | assumption | rfl); (case zzhdp => ktr_room); (case zzhun => units_room); (case zzhi => assumption); (case zzhb => assumption); (case zzhlen => omega)); intro zzD9 zzvs9 zzk9 zzh9 zztk9 zzF9 zzN9 zzhlt9 zzhi9; (try dsimp only))) | dsimp only | (leave1; (try dsimp only)) | fail "no step"))
      refine' for_list (σ := PoS) (vs := zzvs9) (k := zzk9) (fun c y => if y = "unit" then c.x else if y = "octets" then some (.ref D8) else List.lookup y [(Str.ofString "text", Value.str x t)])
        (fun c => (D8, lstO c.vs c.k) :: news) (fun i c => c.vs.length = 2 * i ∧ IntsAre c.vs (octT ((unT ks).take i))) ⟨[], 0, none⟩ (by rfl) ?qF ?qN ?qM ?qp ?qturn ?qdone
      case qN => walk_at "MY NEWS"
      case qM => walk_at "MY NEWS"
      case qF =>
        refine fr_cast (by k_asm) ?_
        intro y
        dsimp only
        by_cases h1 : y = "unit"
        · subst h1; rfl
        simp only [if_neg h1]
        rfl
      case qp => exact ⟨rfl, .nil⟩
      case qturn =>
        rintro I i v ⟨vs, k, x0⟩ oI h tk hv ⟨hl, hP⟩ hoff F9 N9
        dsimp only at hl hP hoff F9 N9 ⊢
        have hil := zzhi9.length
        obtain ⟨hiv, -⟩ := List.getElem?_eq_some_iff.mp hv
        obtain ⟨u, t1, rfl, hku⟩ := zzhi9.at _ _ hv
        have hDI : @Ne Nat D8 I := hoff _ (.head _)
        have hDD : @Ne Nat D8 zzD9 := Nat.ne_of_lt (zzhlt9 _ (.head _))
        have hoff' : ∀ (o : Obj), ∀ p ∈ ((D8, o) :: news), p.1 ≠ I := fun o p hp => by
          rcases List.mem_cons.mp hp with rfl | hp
          · exact hDI
          · exact hoff p (.tail _ hp)
        (skip; repeat' (first | (k_unfold; (try dsimp only)) | (with_reducible refine gen3 ?_; intro _) | ((with_reducible show wpAny _ _ (exec (Stmt.Assign _ _ _) _) _ _ _); k_fold) | ((with_reducible show wpAny _ _ (exec (Stmt.Return _ _) _) _ _ _); k_fold) | ((with_reducible show wpAny _ _ (eval (PySem.Expr.Call _ _ _ _) _) _ _ _); k_fold) | with_reducible refine seq_next ?_ | with_reducible refine seq_ret ?_ | (first | ((with_reducible show wpAny _ _ (compareOp CmpOp.Eq (Value.ref _) (Value.ref _)) _ _ _); with_reducible ((refine' r_nenil ?zzk1 ?zzk2 ?zzk3 ?zzk4 ?zzk5 ?zzk6 ?zzk7 ?_; (case zzk1 => k_asm); (case zzk2 => k_dflt k_mem); (case zzk3 => k_dflt k_mem); (case zzk4 => assumption); (case zzk5 => assumption); (case zzk6 => assumption); (case zzk7 => units_room)))) | ((with_reducible show wpAny _ _ (binaryOp Operator.Add (Value.bytes _ _) (Value.bytes _ _)) _ _ _); with_reducible ((refine r_mark ?zzk1 ?_; (case zzk1 => omega); intro zzt' zzk'))) | ((with_reducible show wpAny _ _ (call (Value.type "bytes") _ _) _ _ _); with_reducible ((refine' r_bytes ?zzk1 ?zzk2 ?zzk3 ?zzk4 ?zzk5 ?zzk6 ?zzk7 ?_; (case zzk1 => k_asm); (case zzk2 => k_asm); (case zzk3 => k_dflt k_mem); (case zzk4 => rfl); (case zzk5 => assumption); (case zzk6 => assumption); (case zzk7 => omega); intro zzh' zzt' zzk' zzF' zzN'))) | ((with_reducible show wpAny _ _ (call (Value.builtin "list.extend") _ _) _ _ _); with_reducible ((refine' r_extend ?zzk1 ?zzk2 ?zzk3 ?zzk4 ?zzk5 ?_; (case zzk1 => k_asm); (case zzk2 => k_asm); (case zzk3 => k_dflt k_mem); (case zzk4 => k_dflt k_upd); (case zzk5 => (simp only [List.length_cons, List.length_nil]; omega)); intro zzh' zzF' zzN'))) | walk_at "MY STEP") | (((with_reducible show wpAny _ _ (call (Value.ref 461) _) _ _ _); k_dflt (refine' uof_ok ?zzB ?zzF ?zzX ?zzN ?zzT ?zzhk ?zzhdp ?zzhun ?zzhi ?zzhlen ?zzhb ?_; (case zzB => k_asm); (case zzF => k_asm); (case zzX => k_asm); (case zzN => k_asm); (case zzT => k_asm); (case zzhk => first | assumption | rfl); (case zzhdp => ktr_room); (case zzhun => units_room); (case zzhi => assumption); (case zzhb => assumption); (case zzhlen => omega)); intro zzD9 zzvs9 zzk9 zzh9 zztk9 zzF9 zzN9 zzhlt9 zzhi9; (try dsimp only))) | dsimp only | (leave1; (try dsimp only)) | fail "no step"))
        all_goals (try k_data)
        refine' ⟨⟨_, _, _⟩, _, _, rfl, fr_cast (by k_asm) ?qf, ?qN2, hoff' _, ?qc, oct_snoc hku hP⟩
        case qN2 => walk_at "MY NEWS"
        case qf => (intro y; dsimp only; by_cases h1 : y = "unit"; (subst h1; rfl); simp only [if_neg h1])
        case qc => (simp only [List.length_append, List.length_cons, List.length_nil]; omega)
      case qdone =>
        rintro ⟨vs, k, x0⟩ h tk ⟨hl, hP⟩ F9 N9
        dsimp only at hl hP F9 N9 ⊢
        rw [zzhi9.length, List.take_of_length_le (Nat.le_refl _)] at hP
        have hoin := octT_in hus
        have hol := octT_length (unT ks)
        (skip; repeat' (first | (k_unfold; (try dsimp only)) | (with_reducible refine gen3 ?_; intro _) | ((with_reducible show wpAny _ _ (exec (Stmt.Assign _ _ _) _) _ _ _); k_fold) | ((with_reducible show wpAny _ _ (exec (Stmt.Return _ _) _) _ _ _); k_fold) | ((with_reducible show wpAny _ _ (eval (PySem.Expr.Call _ _ _ _) _) _ _ _); k_fold) | with_reducible refine seq_next ?_ | with_reducible refine seq_ret ?_ | (first | ((with_reducible show wpAny _ _ (compareOp CmpOp.Eq (Value.ref _) (Value.ref _)) _ _ _); with_reducible ((refine' r_nenil ?zzk1 ?zzk2 ?zzk3 ?zzk4 ?zzk5 ?zzk6 ?zzk7 ?_; (case zzk1 => k_asm); (case zzk2 => k_dflt k_mem); (case zzk3 => k_dflt k_mem); (case zzk4 => assumption); (case zzk5 => assumption); (case zzk6 => assumption); (case zzk7 => units_room)))) | ((with_reducible show wpAny _ _ (binaryOp Operator.Add (Value.bytes _ _) (Value.bytes _ _)) _ _ _); with_reducible ((refine r_mark ?zzk1 ?_; (case zzk1 => omega); intro zzt' zzk'))) | ((with_reducible show wpAny _ _ (call (Value.type "bytes") _ _) _ _ _); with_reducible ((refine' r_bytes ?zzk1 ?zzk2 ?zzk3 ?zzk4 ?zzk5 ?zzk6 ?zzk7 ?_; (case zzk1 => k_asm); (case zzk2 => k_asm); (case zzk3 => k_dflt k_mem); (case zzk4 => rfl); (case zzk5 => assumption); (case zzk6 => assumption); (case zzk7 => omega); intro zzh' zzt' zzk' zzF' zzN'))) | ((with_reducible show wpAny _ _ (call (Value.builtin "list.extend") _ _) _ _ _); with_reducible ((refine' r_extend ?zzk1 ?zzk2 ?zzk3 ?zzk4 ?zzk5 ?_; (case zzk1 => k_asm); (case zzk2 => k_asm); (case zzk3 => k_dflt k_mem); (case zzk4 => k_dflt k_upd); (case zzk5 => (simp only [List.length_cons, List.length_nil]; omega)); intro zzh' zzF' zzN'))) | walk_at "MY STEP") | (((with_reducible show wpAny _ _ (call (Value.ref 461) _) _ _ _); k_dflt (refine' uof_ok ?zzB ?zzF ?zzX ?zzN ?zzT ?zzhk ?zzhdp ?zzhun ?zzhi ?zzhlen ?zzhb ?_; (case zzB => k_asm); (case zzF => k_asm); (case zzX => k_asm); (case zzN => k_asm); (case zzT => k_asm); (case zzhk => first | assumption | rfl); (case zzhdp => ktr_room); (case zzhun => units_room); (case zzhi => assumption); (case zzhb => assumption); (case zzhlen => omega)); intro zzD9 zzvs9 zzk9 zzh9 zztk9 zzF9 zzN9 zzhlt9 zzhi9; (try dsimp only))) | dsimp only | (leave1; (try dsimp only)) | fail "no step"))
        all_goals (try k_data)
        exact ret _ _ _ (by k_asm) (by walk_at "MY NEWS")

end
section
section
variable {prog : Program} {w : World} {A : Around} {E : Value → Shared → Prop} {s : Shared} {Q : Value → Shared → Prop} {t u : Tok} {h₀ : Heap} {L : Addr} {news : List (Addr × Obj)} {m : Str → Option Value}
theorem r_addlist {l b : Addr} {vs ws : List Value} {n k : Nat} (F : Fr h₀ L s.heap m) (N : News h₀ L s.heap news) (hl : (l, ({ cls := .type "list", data := .seq vs.toArray n } : Obj)) ∈ news) (hb : (b, ({ cls := .type "list", data := .seq ws.toArray k } : Obj)) ∈ news)
    (hsz : vs.length + ws.length ≤ 1000000) (h : ∀ D h', Fr h₀ L h' m → News h₀ L h' ((D, lstO (vs ++ ws)) :: news) → (∀ p ∈ news, p.1 ≠ D) → Q (.ref D) { s with heap := h' }) :
    wpAny (model prog w) A (binaryOp .Add (.ref l) (.ref b)) Q E s :=
  add_lists (hsz := by rw [sizeLine_eq]; omega) F N ⟨_, N.get hl, rfl, n, rfl⟩ ⟨_, N.get hb, rfl, k, rfl⟩ fun h' F' N' => h _ h' F' N' fun p hp => Nat.ne_of_lt (Heap.lt_size (N p hp).1)
theorem r_shr10 {a : Int} (h : ∀ k, Q (.int (a.fdiv 1024) k) { s with toks := s.toks + 1 }) : wpAny (model prog w) A (binaryOp .RShift (.int a t) (.int 10 u)) Q E s :=
  rshift_int (by decide) (h _)
theorem r_shr8 {a : Int} (h : ∀ k, Q (.int (a.fdiv 256) k) { s with toks := s.toks + 1 }) : wpAny (model prog w) A (binaryOp .RShift (.int a t) (.int 8 u)) Q E s :=
  rshift_int (by decide) (h _)
theorem r_max {D : Addr} {vs : List Value} {ns : List Int} {n : Nat} (F : Fr h₀ L s.heap m) (N : News h₀ L s.heap news) (hm : (D, ({ cls := .type "list", data := .seq vs.toArray n } : Obj)) ∈ news) (hh : A.handled = none) (hi : IntsAre vs (ns ++ [0]))
    (h : ∀ h' M (t : Tok) tk, Fr h₀ L h' m → News h₀ L h' news → M ∈ ns ++ [0] → (∀ a, a ∈ ns ++ [0] → a ≤ M) → Q (.int M t) { s with heap := h', toks := tk }) : wpAny (model prog w) A (call (.builtin "max") [.ref D]) Q E s :=
  kso_max F N ⟨_, N.get hm, rfl, n, rfl⟩ hi (by simp) hh h
end
theorem max_asc {ks : List Int} {M : Int} (hM : ∀ a, a ∈ ks ++ [0] → a ≤ M) (h : M < 128) : ks.filter (fun c => decide (c > 127)) = [] := by
  refine List.filter_eq_nil_iff.mpr fun a ha => ?_
  have := hM a (List.mem_append.mpr (.inl ha))
  simp; omega
theorem max_wide {ks : List Int} {M : Int} (hM : M ∈ ks ++ [0]) (h : ¬ M < 128) : ¬ ks.filter (fun c => decide (c > 127)) = [] := by
  intro q
  rcases List.mem_append.mp hM with h1 | h1
  · have := List.filter_eq_nil_iff.mp q M h1
    simp at this; omega
  · simp at h1; omega
structure LunS where
  D : Addr
  vs : List Value
  k : Nat
  u : Option Value
  x : Option Value
section
theorem lun_ok {pv : Program} {w : World} {loose : List Str} {mean : ExcName → Option Value} {mg mb : Str → Option Value} {A₀ : Around} {dp un : Nat} {gd : Option (List Code)} {cn : Str} {cs : Scope} {a : Addr} {ccd : Value} {cl : List (Str × Addr)} {outer : List Env} {base h₀ : Heap} {L : Addr} {m : Str → Option Value} {s : Shared} {Q E : Value → Shared → Prop}
   {x : Str} {t : Tok} {ks : List Int} {news : List (Addr × Obj)}
   (B : Below A₀ base outer h₀) (F : Fr h₀ L s.heap m) (X : (frag.heap_1 w.params).In h₀) (N : News h₀ L s.heap news) (T : Top pv loose mean mg mb h₀)
   (hk : cs.kind = .function) (hdp : dp + 1 < recursionLimit) (hun : un + 400 < cLine)
   (hks : KStt.codes x = ks) (hlen : ks.length ≤ 1000) (hb : ∀ c ∈ ks, 0 ≤ c ∧ c < 1114112)
   (ret : ∀ D vs k h' tk', Fr h₀ L h' m → News h₀ L h' ((D, lstO vs k) :: news) → IntsAre vs (unT ks) → Q (.ref D) {s with heap := h', toks := tk'}) :
   wpAny (model pr w) (ktrTop dp un gd cn cs L a ccd cl outer) (call (.ref 529) [.str x t]) Q E s := by
  have hxl : x.cps.size = ks.length := by rw [← hks, KStt.codes_length]; rfl
  walk_at "MY ENTER"
  (skip; repeat' (first | (k_unfold; (try dsimp only)) | (with_reducible refine gen3 ?_; intro _) | ((with_reducible show wpAny _ _ (exec (Stmt.Assign _ _ _) _) _ _ _); k_fold) | ((with_reducible show wpAny _ _ (exec (Stmt.Return _ _) _) _ _ _); k_fold) | ((with_reducible show wpAny _ _ (eval (PySem.Expr.Call _ _ _ _) _) _ _ _); k_fold) | with_reducible refine seq_next ?_ | with_reducible refine seq_ret ?_ | (first | ((with_reducible show wpAny _ _ (binaryOp Operator.Add (Value.ref _) (Value.ref _)) _ _ _); with_reducible ((refine' r_addlist ?zzk1 ?zzk2 ?zzk3 ?zzk4 ?zzk5 ?_; (case zzk1 => k_asm); (case zzk2 => k_asm); (case zzk3 => k_dflt k_mem); (case zzk4 => k_dflt k_mem); (case zzk5 => (simp only [List.length_cons, List.length_nil]; omega)); intro zzD' zzh' zzF' zzN' zzhne'))) | ((with_reducible show wpAny _ _ (binaryOp Operator.RShift (Value.int _ _) (Value.int _ _)) _ _ _); with_reducible ((refine r_shr10 ?_; intro zzt9; (try dsimp only)))) | ((with_reducible show wpAny _ _ (binaryOp Operator.Pow (Value.int _ _) (Value.int _ _)) _ _ _); with_reducible ((refine r_pow216 ?_; (try dsimp only)))) | walk_at "MY STEP") | dsimp only | (leave1; (try dsimp only)) | fail "no step"))
  rename_i D hA hlt hB F1 N1
  refine' r_forstmt ?kF (by rfl) (by rfl) (by intro _; rfl) ?kE ?_
  case kF => k_asm
  case kE => passes_own
  (skip; repeat' (first | (k_unfold; (try dsimp only)) | (with_reducible refine gen3 ?_; intro _) | ((with_reducible show wpAny _ _ (exec (Stmt.Assign _ _ _) _) _ _ _); k_fold) | ((with_reducible show wpAny _ _ (exec (Stmt.Return _ _) _) _ _ _); k_fold) | ((with_reducible show wpAny _ _ (eval (PySem.Expr.Call _ _ _ _) _) _ _ _); k_fold) | with_reducible refine seq_next ?_ | with_reducible refine seq_ret ?_ | (first | ((with_reducible show wpAny _ _ (binaryOp Operator.Add (Value.ref _) (Value.ref _)) _ _ _); with_reducible ((refine' r_addlist ?zzk1 ?zzk2 ?zzk3 ?zzk4 ?zzk5 ?_; (case zzk1 => k_asm); (case zzk2 => k_asm); (case zzk3 => k_dflt k_mem); (case zzk4 => k_dflt k_mem); (case zzk5 => (simp only [List.length_cons, List.length_nil]; omega)); intro zzD' zzh' zzF' zzN' zzhne'))) | ((with_reducible show wpAny _ _ (binaryOp Operator.RShift (Value.int _ _) (Value.int _ _)) _ _ _); with_reducible ((refine r_shr10 ?_; intro zzt9; (try dsimp only)))) | ((with_reducible show wpAny _ _ (binaryOp Operator.Pow (Value.int _ _) (Value.int _ _)) _ _ _); with_reducible ((refine r_pow216 ?_; (try dsimp only)))) | walk_at "MY STEP") | dsimp only | (leave1; (try dsimp only)) | fail "no step"))
  refine' for_src (σ := LunS) (fun c y => if y = "found" then some (.ref c.D) else if y = "code" then c.u else if y = "sign" then c.x else List.lookup y [(Str.ofString "text", Value.str x t)])
    (fun c => (c.D, lstO c.vs c.k) :: news) (fun i c => c.vs.length ≤ 2 * i ∧ IntsAre c.vs (unT (ks.take i))) ⟨D, [], 0, none, none⟩ (src_str (by rfl)) ?qF ?qN ?qp ?qturn ?qdone
  case qN => k_asm
  case qF =>
    refine fr_cast (by k_asm) ?_
    intro y
    dsimp only
    by_cases h0 : y = "found"
    · subst h0; rfl
    by_cases h1 : y = "code"
    · subst h1; rfl
    by_cases h2 : y = "sign"
    · subst h2; rfl
    simp only [if_neg h0, if_neg h1, if_neg h2]
    rfl
  case qp => exact ⟨Nat.zero_le _, .nil⟩
  case qturn =>
    rintro I i v ⟨D2, vs, k, u0, x0⟩ oI h tk hi ⟨c9, u9, hc9, rfl⟩ ⟨hl9, hP⟩ hoff F9 N9
    have hki := KStt.code_at hc9
    rw [hks] at hki
    have hcb := hb _ (List.mem_of_getElem? hki)
    have hvl : vs.length ≤ 2000 := by rw [hxl] at hi; dsimp only at hl9; omega
    dsimp only at hl9 hP hoff F9 N9 ⊢
    have hoff' : ∀ (D3 : Addr) (o : Obj) (nw : List (Addr × Obj)), (I, oI) ∈ nw → (∀ p ∈ nw, p.1 ≠ D3) → ∀ p ∈ ((D3, o) :: news), p.1 ≠ I := fun D3 o nw h1 h2 p hp => by
      rcases List.mem_cons.mp hp with rfl | hp
      · exact Ne.symm (h2 _ h1)
      · exact hoff p (.tail _ hp)
    (skip; repeat' (first | (k_unfold; (try dsimp only)) | (with_reducible refine gen3 ?_; intro _) | ((with_reducible show wpAny _ _ (exec (Stmt.Assign _ _ _) _) _ _ _); k_fold) | ((with_reducible show wpAny _ _ (exec (Stmt.Return _ _) _) _ _ _); k_fold) | ((with_reducible show wpAny _ _ (eval (PySem.Expr.Call _ _ _ _) _) _ _ _); k_fold) | with_reducible refine seq_next ?_ | with_reducible refine seq_ret ?_ | (first | ((with_reducible show wpAny _ _ (binaryOp Operator.Add (Value.ref _) (Value.ref _)) _ _ _); with_reducible ((refine' r_addlist ?zzk1 ?zzk2 ?zzk3 ?zzk4 ?zzk5 ?_; (case zzk1 => k_asm); (case zzk2 => k_asm); (case zzk3 => k_dflt k_mem); (case zzk4 => k_dflt k_mem); (case zzk5 => (simp only [List.length_cons, List.length_nil]; omega)); intro zzD' zzh' zzF' zzN' zzhne'))) | ((with_reducible show wpAny _ _ (binaryOp Operator.RShift (Value.int _ _) (Value.int _ _)) _ _ _); with_reducible ((refine r_shr10 ?_; intro zzt9; (try dsimp only)))) | ((with_reducible show wpAny _ _ (binaryOp Operator.Pow (Value.int _ _) (Value.int _ _)) _ _ _); with_reducible ((refine r_pow216 ?_; (try dsimp only)))) | walk_at "MY STEP") | dsimp only | (leave1; (try dsimp only)) | fail "no step"))
    all_goals (try k_data)
    all_goals (first
      | (refine' ⟨⟨_, _, _, _, _⟩, _, _, rfl, fr_cast (by k_asm) ?qf, ?qN2, hoff' _ _ _ ?qI (by assumption), ?qc, ?qd⟩
         case qI => k_dflt k_mem
         case qN2 => walk_at "MY NEWS"
         case qf => (intro y; dsimp only; by_cases h0 : y = "found"; (subst h0; rfl); by_cases h1 : y = "code"; (subst h1; rfl); by_cases h2 : y = "sign"; (subst h2; rfl); simp only [if_neg h0, if_neg h1, if_neg h2])
         case qc => (simp only [List.length_append, List.length_singleton, List.length_cons, List.length_nil]; omega)
         case qd => (first | exact un_snoc1 hki (by omega) hP | exact un_snoc2 hki (by omega) hP)))
  case qdone =>
    rintro ⟨D2, vs, k, u0, x0⟩ h tk ⟨_, hP⟩ F9 N9
    dsimp only at hP F9 N9 ⊢
    (skip; repeat' (first | (k_unfold; (try dsimp only)) | (with_reducible refine gen3 ?_; intro _) | ((with_reducible show wpAny _ _ (exec (Stmt.Assign _ _ _) _) _ _ _); k_fold) | ((with_reducible show wpAny _ _ (exec (Stmt.Return _ _) _) _ _ _); k_fold) | ((with_reducible show wpAny _ _ (eval (PySem.Expr.Call _ _ _ _) _) _ _ _); k_fold) | with_reducible refine seq_next ?_ | with_reducible refine seq_ret ?_ | (first | ((with_reducible show wpAny _ _ (binaryOp Operator.Add (Value.ref _) (Value.ref _)) _ _ _); with_reducible ((refine' r_addlist ?zzk1 ?zzk2 ?zzk3 ?zzk4 ?zzk5 ?_; (case zzk1 => k_asm); (case zzk2 => k_asm); (case zzk3 => k_dflt k_mem); (case zzk4 => k_dflt k_mem); (case zzk5 => (simp only [List.length_cons, List.length_nil]; omega)); intro zzD' zzh' zzF' zzN' zzhne'))) | ((with_reducible show wpAny _ _ (binaryOp Operator.RShift (Value.int _ _) (Value.int _ _)) _ _ _); with_reducible ((refine r_shr10 ?_; intro zzt9; (try dsimp only)))) | ((with_reducible show wpAny _ _ (binaryOp Operator.Pow (Value.int _ _) (Value.int _ _)) _ _ _); with_reducible ((refine r_pow216 ?_; (try dsimp only)))) | walk_at "MY STEP") | dsimp only | (leave1; (try dsimp only)) | fail "no step"))
    all_goals (try k_data)
    rw [hxl, List.take_of_length_le (Nat.le_refl _)] at hP
    exact ret _ _ _ _ _ (by k_asm) (by k_asm) hP
end

end
section
theorem oct_snoc' {ks : List Int} {i : Nat} {c p q : Int} {vs : List Value} {t u : Tok} (hk : ks[i]? = some c) (hP : IntsAre vs (p :: q :: octT (ks.take i))) : IntsAre (vs ++ [.int (c.fdiv 256) t, .int (c.fmod 256) u]) (p :: q :: octT (ks.take (i + 1))) := by
  rw [List.take_add_one, hk, Option.toList_some, octT_snoc]
  exact IntsAre.append hP (.cons _ _ (.cons _ _ .nil))
theorem tok2 {h₀ h : Heap} {L D : Addr} {a b : Int} {t t' : Tok} {l : List (Addr × Obj)} (_N : News h₀ L h l) (h : (D, W.listOf #[.int a t, .int b t'] 0) ∈ l) : ∃ u u', (D, lstO [.int a u, .int b u']) ∈ l := ⟨t, t', h⟩
structure LkS where
  D : Addr
  vs : List Value
  k : Nat
  x : Option Value
theorem lk_ok {pv : Program} {w : World} {loose : List Str} {mean : ExcName → Option Value} {mg mb : Str → Option Value} {A₀ : Around} {dp un : Nat} {gd : Option (List Code)} {cn : Str} {cs : Scope} {a : Addr} {ccd : Value} {cl : List (Str × Addr)} {outer : List Env} {base h₀ : Heap} {L : Addr} {m : Str → Option Value} {s : Shared} {Q E : Value → Shared → Prop}
   {x : Str} {t : Tok} {ks : List Int} {news : List (Addr × Obj)}
   (B : Below A₀ base outer h₀) (F : Fr h₀ L s.heap m) (X : (frag.heap_1 w.params).In h₀) (N : News h₀ L s.heap news) (T : Top pv loose mean mg mb h₀)
   (hk : cs.kind = .function) (hdp : dp + 2 < recursionLimit) (hun : un + 500 < cLine)
   (hks : KStt.codes x = ks) (hlen : ks.length ≤ 1000) (hb : ∀ c ∈ ks, 0 ≤ c ∧ c < 1114112)
   (ret : ∀ t h' tk', Fr h₀ L h' m → News h₀ L h' news → Q (.bytes (byteArr (po ks)) t) {s with heap := h', toks := tk'}) :
   wpAny (model pr w) (ktrTop dp un gd cn cs L a ccd cl outer) (call (.ref 534) [.str x t]) Q E s := by
  have hxl : x.cps.size = ks.length := by rw [← hks, KStt.codes_length]; rfl
  walk_at "MY ENTER"
  (skip; repeat' (first | (k_unfold; (try dsimp only)) | (with_reducible refine gen3 ?_; intro _) | ((with_reducible show wpAny _ _ (exec (Stmt.Assign _ _ _) _) _ _ _); k_fold) | ((with_reducible show wpAny _ _ (exec (Stmt.Return _ _) _) _ _ _); k_fold) | ((with_reducible show wpAny _ _ (eval (PySem.Expr.Call _ _ _ _) _) _ _ _); k_fold) | with_reducible refine seq_next ?_ | with_reducible refine seq_ret ?_ | (first | ((with_reducible show wpAny _ _ (call (Value.type "bytes") _ _) _ _ _); with_reducible ((refine' r_bytes ?zzk1 ?zzk2 ?zzk3 ?zzk4 ?zzk5 ?zzk6 ?zzk7 ?_; (case zzk1 => k_asm); (case zzk2 => k_asm); (case zzk3 => k_dflt k_mem); (case zzk4 => rfl); (case zzk5 => assumption); (case zzk6 => assumption); (case zzk7 => first | omega | (simp only [List.length_cons]; omega)); intro zzh' zzt' zzk' zzF' zzN'))) | ((with_reducible show wpAny _ _ (call (Value.builtin "max") _ _) _ _ _); with_reducible ((refine' r_max ?zzk1 ?zzk2 ?zzk3 ?zzk4 ?zzk5 ?_; (case zzk1 => k_asm); (case zzk2 => k_asm); (case zzk3 => k_dflt k_mem); (case zzk4 => rfl); (case zzk5 => exact IntsAre.append (by assumption) (.cons _ _ .nil)); intro zzh' zzM' zzt' zzk' zzF' zzN' zzhM1 zzhM2))) | ((with_reducible show wpAny _ _ (binaryOp Operator.Add (Value.ref _) (Value.ref _)) _ _ _); with_reducible ((refine' r_addlist ?zzk1 ?zzk2 ?zzk3 ?zzk4 ?zzk5 ?_; (case zzk1 => k_asm); (case zzk2 => k_asm); (case zzk3 => k_dflt k_mem); (case zzk4 => k_dflt k_mem); (case zzk5 => (simp only [List.length_cons, List.length_nil]; omega)); intro zzD' zzh' zzF' zzN' zzhne'))) | ((with_reducible show wpAny _ _ (binaryOp Operator.RShift (Value.int _ _) (Value.int _ _)) _ _ _); with_reducible ((refine r_shr8 ?_; intro zzt9; (try dsimp only)))) | walk_at "MY STEP") | (((with_reducible show wpAny _ _ (call (Value.ref 529) _) _ _ _); k_dflt (refine' lun_ok ?zzB ?zzF ?zzX ?zzN ?zzT ?zzhk ?zzhdp ?zzhun ?zzhi ?zzhlen ?zzhb ?_; (case zzB => k_asm); (case zzF => k_asm); (case zzX => k_asm); (case zzN => k_asm); (case zzT => k_asm); (case zzhk => first | assumption | rfl); (case zzhdp => ktr_room); (case zzhun => units_room); (case zzhi => assumption); (case zzhb => assumption); (case zzhlen => omega)); intro zzD9 zzvs9 zzk9 zzh9 zztk9 zzF9 zzN9 zzhi9; (try dsimp only))) | dsimp only | (leave1; (try dsimp only)) | fail "no step"))
  all_goals (try k_data)
  refine ListComp_src (by k_asm) (by with_unfolding_all rfl) (by decide) (by rfl) (by decide) (by rfl) ?_
  (skip; repeat' (first | (k_unfold; (try dsimp only)) | (with_reducible refine gen3 ?_; intro _) | ((with_reducible show wpAny _ _ (exec (Stmt.Assign _ _ _) _) _ _ _); k_fold) | ((with_reducible show wpAny _ _ (exec (Stmt.Return _ _) _) _ _ _); k_fold) | ((with_reducible show wpAny _ _ (eval (PySem.Expr.Call _ _ _ _) _) _ _ _); k_fold) | with_reducible refine seq_next ?_ | with_reducible refine seq_ret ?_ | (first | ((with_reducible show wpAny _ _ (call (Value.type "bytes") _ _) _ _ _); with_reducible ((refine' r_bytes ?zzk1 ?zzk2 ?zzk3 ?zzk4 ?zzk5 ?zzk6 ?zzk7 ?_; (case zzk1 => k_asm); (case zzk2 => k_asm); (case zzk3 => k_dflt k_mem); (case zzk4 => rfl); (case zzk5 => assumption); (case zzk6 => assumption); (case zzk7 => first | omega | (simp only [List.length_cons]; omega)); intro zzh' zzt' zzk' zzF' zzN'))) | ((with_reducible show wpAny _ _ (call (Value.builtin "max") _ _) _ _ _); with_reducible ((refine' r_max ?zzk1 ?zzk2 ?zzk3 ?zzk4 ?zzk5 ?_; (case zzk1 => k_asm); (case zzk2 => k_asm); (case zzk3 => k_dflt k_mem); (case zzk4 => rfl); (case zzk5 => exact IntsAre.append (by assumption) (.cons _ _ .nil)); intro zzh' zzM' zzt' zzk' zzF' zzN' zzhM1 zzhM2))) | ((with_reducible show wpAny _ _ (binaryOp Operator.Add (Value.ref _) (Value.ref _)) _ _ _); with_reducible ((refine' r_addlist ?zzk1 ?zzk2 ?zzk3 ?zzk4 ?zzk5 ?_; (case zzk1 => k_asm); (case zzk2 => k_asm); (case zzk3 => k_dflt k_mem); (case zzk4 => k_dflt k_mem); (case zzk5 => (simp only [List.length_cons, List.length_nil]; omega)); intro zzD' zzh' zzF' zzN' zzhne'))) | ((with_reducible show wpAny _ _ (binaryOp Operator.RShift (Value.int _ _) (Value.int _ _)) _ _ _); with_reducible ((refine r_shr8 ?_; intro zzt9; (try dsimp only)))) | walk_at "MY STEP") | (((with_reducible show wpAny _ _ (call (Value.ref 529) _) _ _ _); k_dflt (refine' lun_ok ?zzB ?zzF ?zzX ?zzN ?zzT ?zzhk ?zzhdp ?zzhun ?zzhi ?zzhlen ?zzhb ?_; (case zzB => k_asm); (case zzF => k_asm); (case zzX => k_asm); (case zzN => k_asm); (case zzT => k_asm); (case zzhk => first | assumption | rfl); (case zzhdp => ktr_room); (case zzhun => units_room); (case zzhi => assumption); (case zzhb => assumption); (case zzhlen => omega)); intro zzD9 zzvs9 zzk9 zzh9 zztk9 zzF9 zzN9 zzhi9; (try dsimp only))) | dsimp only | (leave1; (try dsimp only)) | fail "no step"))
  all_goals (try k_data)
  refine' LcAt.of (σ := Unit) (fun _ => _) (fun i ys _ => IntsAre ys (ks.take i)) () (src_str (by rfl)) ?hz ?F ?N ?r ?turn ?fin
  case F => k_asm
  case N => k_asm
  case hz => (rw [sizeLine_eq]; omega)
  case r => exact .nil
  case turn =>
    rintro i v ys c I oI C oC D m₂ h tk E' hi ⟨c9, u9, hc9, rfl⟩ hR hC hx F9 N9 off ne
    have hki := KStt.code_at hc9
    rw [hks] at hki
    (skip; repeat' (first | (k_unfold; (try dsimp only)) | (with_reducible refine gen3 ?_; intro _) | ((with_reducible show wpAny _ _ (exec (Stmt.Assign _ _ _) _) _ _ _); k_fold) | ((with_reducible show wpAny _ _ (exec (Stmt.Return _ _) _) _ _ _); k_fold) | ((with_reducible show wpAny _ _ (eval (PySem.Expr.Call _ _ _ _) _) _ _ _); k_fold) | with_reducible refine seq_next ?_ | with_reducible refine seq_ret ?_ | (first | ((with_reducible show wpAny _ _ (call (Value.type "bytes") _ _) _ _ _); with_reducible ((refine' r_bytes ?zzk1 ?zzk2 ?zzk3 ?zzk4 ?zzk5 ?zzk6 ?zzk7 ?_; (case zzk1 => k_asm); (case zzk2 => k_asm); (case zzk3 => k_dflt k_mem); (case zzk4 => rfl); (case zzk5 => assumption); (case zzk6 => assumption); (case zzk7 => first | omega | (simp only [List.length_cons]; omega)); intro zzh' zzt' zzk' zzF' zzN'))) | ((with_reducible show wpAny _ _ (call (Value.builtin "max") _ _) _ _ _); with_reducible ((refine' r_max ?zzk1 ?zzk2 ?zzk3 ?zzk4 ?zzk5 ?_; (case zzk1 => k_asm); (case zzk2 => k_asm); (case zzk3 => k_dflt k_mem); (case zzk4 => rfl); (case zzk5 => exact IntsAre.append (by assumption) (.cons _ _ .nil)); intro zzh' zzM' zzt' zzk' zzF' zzN' zzhM1 zzhM2))) | ((with_reducible show wpAny _ _ (binaryOp Operator.Add (Value.ref _) (Value.ref _)) _ _ _); with_reducible ((refine' r_addlist ?zzk1 ?zzk2 ?zzk3 ?zzk4 ?zzk5 ?_; (case zzk1 => k_asm); (case zzk2 => k_asm); (case zzk3 => k_dflt k_mem); (case zzk4 => k_dflt k_mem); (case zzk5 => (simp only [List.length_cons, List.length_nil]; omega)); intro zzD' zzh' zzF' zzN' zzhne'))) | ((with_reducible show wpAny _ _ (binaryOp Operator.RShift (Value.int _ _) (Value.int _ _)) _ _ _); with_reducible ((refine r_shr8 ?_; intro zzt9; (try dsimp only)))) | walk_at "MY STEP") | (((with_reducible show wpAny _ _ (call (Value.ref 529) _) _ _ _); k_dflt (refine' lun_ok ?zzB ?zzF ?zzX ?zzN ?zzT ?zzhk ?zzhdp ?zzhun ?zzhi ?zzhlen ?zzhb ?_; (case zzB => k_asm); (case zzF => k_asm); (case zzX => k_asm); (case zzN => k_asm); (case zzT => k_asm); (case zzhk => first | assumption | rfl); (case zzhdp => ktr_room); (case zzhun => units_room); (case zzhi => assumption); (case zzhb => assumption); (case zzhlen => omega)); intro zzD9 zzvs9 zzk9 zzh9 zztk9 zzF9 zzN9 zzhi9; (try dsimp only))) | dsimp only | (leave1; (try dsimp only)) | fail "no step"))
    all_goals (try k_data)
    exact ⟨(), _, _, rfl, by k_asm, by k_asm, off, ints_snoc hki hR⟩
  case fin =>
    intro g ys c hR D h tk F9 N9 o9
    rw [hxl, List.take_of_length_le (Nat.le_refl _)] at hR
    have hyl : ys.length ≤ 1000 := by rw [hR.length]; exact hlen
    (skip; repeat' (first | (k_unfold; (try dsimp only)) | (with_reducible refine gen3 ?_; intro _) | ((with_reducible show wpAny _ _ (exec (Stmt.Assign _ _ _) _) _ _ _); k_fold) | ((with_reducible show wpAny _ _ (exec (Stmt.Return _ _) _) _ _ _); k_fold) | ((with_reducible show wpAny _ _ (eval (PySem.Expr.Call _ _ _ _) _) _ _ _); k_fold) | with_reducible refine seq_next ?_ | with_reducible refine seq_ret ?_ | (first | ((with_reducible show wpAny _ _ (call (Value.type "bytes") _ _) _ _ _); with_reducible ((refine' r_bytes ?zzk1 ?zzk2 ?zzk3 ?zzk4 ?zzk5 ?zzk6 ?zzk7 ?_; (case zzk1 => k_asm); (case zzk2 => k_asm); (case zzk3 => k_dflt k_mem); (case zzk4 => rfl); (case zzk5 => assumption); (case zzk6 => assumption); (case zzk7 => first | omega | (simp only [List.length_cons]; omega)); intro zzh' zzt' zzk' zzF' zzN'))) | ((with_reducible show wpAny _ _ (call (Value.builtin "max") _ _) _ _ _); with_reducible ((refine' r_max ?zzk1 ?zzk2 ?zzk3 ?zzk4 ?zzk5 ?_; (case zzk1 => k_asm); (case zzk2 => k_asm); (case zzk3 => k_dflt k_mem); (case zzk4 => rfl); (case zzk5 => exact IntsAre.append (by assumption) (.cons _ _ .nil)); intro zzh' zzM' zzt' zzk' zzF' zzN' zzhM1 zzhM2))) | ((with_reducible show wpAny _ _ (binaryOp Operator.Add (Value.ref _) (Value.ref _)) _ _ _); with_reducible ((refine' r_addlist ?zzk1 ?zzk2 ?zzk3 ?zzk4 ?zzk5 ?_; (case zzk1 => k_asm); (case zzk2 => k_asm); (case zzk3 => k_dflt k_mem); (case zzk4 => k_dflt k_mem); (case zzk5 => (simp only [List.length_cons, List.length_nil]; omega)); intro zzD' zzh' zzF' zzN' zzhne'))) | ((with_reducible show wpAny _ _ (binaryOp Operator.RShift (Value.int _ _) (Value.int _ _)) _ _ _); with_reducible ((refine r_shr8 ?_; intro zzt9; (try dsimp only)))) | walk_at "MY STEP") | (((with_reducible show wpAny _ _ (call (Value.ref 529) _) _ _ _); k_dflt (refine' lun_ok ?zzB ?zzF ?zzX ?zzN ?zzT ?zzhk ?zzhdp ?zzhun ?zzhi ?zzhlen ?zzhb ?_; (case zzB => k_asm); (case zzF => k_asm); (case zzX => k_asm); (case zzN => k_asm); (case zzT => k_asm); (case zzhk => first | assumption | rfl); (case zzhdp => ktr_room); (case zzhun => units_room); (case zzhi => assumption); (case zzhb => assumption); (case zzhlen => omega)); intro zzD9 zzvs9 zzk9 zzh9 zztk9 zzF9 zzN9 zzhi9; (try dsimp only))) | dsimp only | (leave1; (try dsimp only)) | fail "no step"))
    all_goals (try k_data)
    · have hasc := max_asc (ks := ks) (by assumption) (by assumption)
      have hin := asc_in hb hasc
      rw [po_asc hasc] at ret
      refine ListComp_src (by k_asm) (by with_unfolding_all rfl) (by decide) (by rfl) (by decide) (by rfl) ?_
      (skip; repeat' (first | (k_unfold; (try dsimp only)) | (with_reducible refine gen3 ?_; intro _) | ((with_reducible show wpAny _ _ (exec (Stmt.Assign _ _ _) _) _ _ _); k_fold) | ((with_reducible show wpAny _ _ (exec (Stmt.Return _ _) _) _ _ _); k_fold) | ((with_reducible show wpAny _ _ (eval (PySem.Expr.Call _ _ _ _) _) _ _ _); k_fold) | with_reducible refine seq_next ?_ | with_reducible refine seq_ret ?_ | (first | ((with_reducible show wpAny _ _ (call (Value.type "bytes") _ _) _ _ _); with_reducible ((refine' r_bytes ?zzk1 ?zzk2 ?zzk3 ?zzk4 ?zzk5 ?zzk6 ?zzk7 ?_; (case zzk1 => k_asm); (case zzk2 => k_asm); (case zzk3 => k_dflt k_mem); (case zzk4 => rfl); (case zzk5 => assumption); (case zzk6 => assumption); (case zzk7 => first | omega | (simp only [List.length_cons]; omega)); intro zzh' zzt' zzk' zzF' zzN'))) | ((with_reducible show wpAny _ _ (call (Value.builtin "max") _ _) _ _ _); with_reducible ((refine' r_max ?zzk1 ?zzk2 ?zzk3 ?zzk4 ?zzk5 ?_; (case zzk1 => k_asm); (case zzk2 => k_asm); (case zzk3 => k_dflt k_mem); (case zzk4 => rfl); (case zzk5 => exact IntsAre.append (by assumption) (.cons _ _ .nil)); intro zzh' zzM' zzt' zzk' zzF' zzN' zzhM1 zzhM2))) | ((with_reducible show wpAny _ _ (binaryOp Operator.Add (Value.ref _) (Value.ref _)) _ _ _); with_reducible ((refine' r_addlist ?zzk1 ?zzk2 ?zzk3 ?zzk4 ?zzk5 ?_; (case zzk1 => k_asm); (case zzk2 => k_asm); (case zzk3 => k_dflt k_mem); (case zzk4 => k_dflt k_mem); (case zzk5 => (simp only [List.length_cons, List.length_nil]; omega)); intro zzD' zzh' zzF' zzN' zzhne'))) | ((with_reducible show wpAny _ _ (binaryOp Operator.RShift (Value.int _ _) (Value.int _ _)) _ _ _); with_reducible ((refine r_shr8 ?_; intro zzt9; (try dsimp only)))) | walk_at "MY STEP") | (((with_reducible show wpAny _ _ (call (Value.ref 529) _) _ _ _); k_dflt (refine' lun_ok ?zzB ?zzF ?zzX ?zzN ?zzT ?zzhk ?zzhdp ?zzhun ?zzhi ?zzhlen ?zzhb ?_; (case zzB => k_asm); (case zzF => k_asm); (case zzX => k_asm); (case zzN => k_asm); (case zzT => k_asm); (case zzhk => first | assumption | rfl); (case zzhdp => ktr_room); (case zzhun => units_room); (case zzhi => assumption); (case zzhb => assumption); (case zzhlen => omega)); intro zzD9 zzvs9 zzk9 zzh9 zztk9 zzF9 zzN9 zzhi9; (try dsimp only))) | dsimp only | (leave1; (try dsimp only)) | fail "no step"))
      all_goals (try k_data)
      refine' LcAt.of (σ := Unit) (fun _ => _) (fun i ys _ => IntsAre ys (ks.take i)) () (src_str (by rfl)) ?hz ?F ?N ?r ?turn ?fin
      case F => k_asm
      case N => k_asm
      case hz => (rw [sizeLine_eq]; omega)
      case r => exact .nil
      case turn =>
        rintro i v ys c I oI C oC D m₂ h tk E' hi ⟨c9, u9, hc9, rfl⟩ hR hC hx F9 N9 off ne
        have hki := KStt.code_at hc9
        rw [hks] at hki
        (skip; repeat' (first | (k_unfold; (try dsimp only)) | (with_reducible refine gen3 ?_; intro _) | ((with_reducible show wpAny _ _ (exec (Stmt.Assign _ _ _) _) _ _ _); k_fold) | ((with_reducible show wpAny _ _ (exec (Stmt.Return _ _) _) _ _ _); k_fold) | ((with_reducible show wpAny _ _ (eval (PySem.Expr.Call _ _ _ _) _) _ _ _); k_fold) | with_reducible refine seq_next ?_ | with_reducible refine seq_ret ?_ | (first | ((with_reducible show wpAny _ _ (call (Value.type "bytes") _ _) _ _ _); with_reducible ((refine' r_bytes ?zzk1 ?zzk2 ?zzk3 ?zzk4 ?zzk5 ?zzk6 ?zzk7 ?_; (case zzk1 => k_asm); (case zzk2 => k_asm); (case zzk3 => k_dflt k_mem); (case zzk4 => rfl); (case zzk5 => assumption); (case zzk6 => assumption); (case zzk7 => first | omega | (simp only [List.length_cons]; omega)); intro zzh' zzt' zzk' zzF' zzN'))) | ((with_reducible show wpAny _ _ (call (Value.builtin "max") _ _) _ _ _); with_reducible ((refine' r_max ?zzk1 ?zzk2 ?zzk3 ?zzk4 ?zzk5 ?_; (case zzk1 => k_asm); (case zzk2 => k_asm); (case zzk3 => k_dflt k_mem); (case zzk4 => rfl); (case zzk5 => exact IntsAre.append (by assumption) (.cons _ _ .nil)); intro zzh' zzM' zzt' zzk' zzF' zzN' zzhM1 zzhM2))) | ((with_reducible show wpAny _ _ (binaryOp Operator.Add (Value.ref _) (Value.ref _)) _ _ _); with_reducible ((refine' r_addlist ?zzk1 ?zzk2 ?zzk3 ?zzk4 ?zzk5 ?_; (case zzk1 => k_asm); (case zzk2 => k_asm); (case zzk3 => k_dflt k_mem); (case zzk4 => k_dflt k_mem); (case zzk5 => (simp only [List.length_cons, List.length_nil]; omega)); intro zzD' zzh' zzF' zzN' zzhne'))) | ((with_reducible show wpAny _ _ (binaryOp Operator.RShift (Value.int _ _) (Value.int _ _)) _ _ _); with_reducible ((refine r_shr8 ?_; intro zzt9; (try dsimp only)))) | walk_at "MY STEP") | (((with_reducible show wpAny _ _ (call (Value.ref 529) _) _ _ _); k_dflt (refine' lun_ok ?zzB ?zzF ?zzX ?zzN ?zzT ?zzhk ?zzhdp ?zzhun ?zzhi ?zzhlen ?zzhb ?_; (case zzB => k_asm); (case zzF => k_asm); (case zzX => k_asm); (case zzN => k_asm); (case zzT => k_asm); (case zzhk => first | assumption | rfl); (case zzhdp => ktr_room); (case zzhun => units_room); (case zzhi => assumption); (case zzhb => assumption); (case zzhlen => omega)); intro zzD9 zzvs9 zzk9 zzh9 zztk9 zzF9 zzN9 zzhi9; (try dsimp only))) | dsimp only | (leave1; (try dsimp only)) | fail "no step"))
        all_goals (try k_data)
        exact ⟨(), _, _, rfl, by k_asm, by k_asm, off, ints_snoc hki hR⟩
      case fin =>
        intro g ys c hR D h tk F9 N9 o9
        rw [hxl, List.take_of_length_le (Nat.le_refl _)] at hR
        (skip; repeat' (first | (k_unfold; (try dsimp only)) | (with_reducible refine gen3 ?_; intro _) | ((with_reducible show wpAny _ _ (exec (Stmt.Assign _ _ _) _) _ _ _); k_fold) | ((with_reducible show wpAny _ _ (exec (Stmt.Return _ _) _) _ _ _); k_fold) | ((with_reducible show wpAny _ _ (eval (PySem.Expr.Call _ _ _ _) _) _ _ _); k_fold) | with_reducible refine seq_next ?_ | with_reducible refine seq_ret ?_ | (first | ((with_reducible show wpAny _ _ (call (Value.type "bytes") _ _) _ _ _); with_reducible ((refine' r_bytes ?zzk1 ?zzk2 ?zzk3 ?zzk4 ?zzk5 ?zzk6 ?zzk7 ?_; (case zzk1 => k_asm); (case zzk2 => k_asm); (case zzk3 => k_dflt k_mem); (case zzk4 => rfl); (case zzk5 => assumption); (case zzk6 => assumption); (case zzk7 => first | omega | (simp only [List.length_cons]; omega)); intro zzh' zzt' zzk' zzF' zzN'))) | ((with_reducible show wpAny _ _ (call (Value.builtin "max") _ _) _ _ _); with_reducible ((refine' r_max ?zzk1 ?zzk2 ?zzk3 ?zzk4 ?zzk5 ?_; (case zzk1 => k_asm); (case zzk2 => k_asm); (case zzk3 => k_dflt k_mem); (case zzk4 => rfl); (case zzk5 => exact IntsAre.append (by assumption) (.cons _ _ .nil)); intro zzh' zzM' zzt' zzk' zzF' zzN' zzhM1 zzhM2))) | ((with_reducible show wpAny _ _ (binaryOp Operator.Add (Value.ref _) (Value.ref _)) _ _ _); with_reducible ((refine' r_addlist ?zzk1 ?zzk2 ?zzk3 ?zzk4 ?zzk5 ?_; (case zzk1 => k_asm); (case zzk2 => k_asm); (case zzk3 => k_dflt k_mem); (case zzk4 => k_dflt k_mem); (case zzk5 => (simp only [List.length_cons, List.length_nil]; omega)); intro zzD' zzh' zzF' zzN' zzhne'))) | ((with_reducible show wpAny _ _ (binaryOp Operator.RShift (Value.int _ _) (Value.int _ _)) _ _ _); with_reducible ((refine r_shr8 ?_; intro zzt9; (try dsimp only)))) | walk_at "MY STEP") | (((with_reducible show wpAny _ _ (call (Value.ref 529) _) _ _ _); k_dflt (refine' lun_ok ?zzB ?zzF ?zzX ?zzN ?zzT ?zzhk ?zzhdp ?zzhun ?zzhi ?zzhlen ?zzhb ?_; (case zzB => k_asm); (case zzF => k_asm); (case zzX => k_asm); (case zzN => k_asm); (case zzT => k_asm); (case zzhk => first | assumption | rfl); (case zzhdp => ktr_room); (case zzhun => units_room); (case zzhi => assumption); (case zzhb => assumption); (case zzhlen => omega)); intro zzD9 zzvs9 zzk9 zzh9 zztk9 zzF9 zzN9 zzhi9; (try dsimp only))) | dsimp only | (leave1; (try dsimp only)) | fail "no step"))
        all_goals (try k_data)
        exact ret _ _ _ (by k_asm) (by walk_at "MY NEWS")
    · have hasc := max_wide (ks := ks) (by assumption) (by assumption)
      rw [po_wide hasc] at ret
      have hus := unT_in hb
      have hul := unT_length ks
      refine' r_forstmt ?kF (by rfl) (by rfl) (by intro _; rfl) ?kE ?_
      case kF => k_asm
      case kE => passes_own
      (skip; repeat' (first | (k_unfold; (try dsimp only)) | (with_reducible refine gen3 ?_; intro _) | ((with_reducible show wpAny _ _ (exec (Stmt.Assign _ _ _) _) _ _ _); k_fold) | ((with_reducible show wpAny _ _ (exec (Stmt.Return _ _) _) _ _ _); k_fold) | ((with_reducible show wpAny _ _ (eval (PySem.Expr.Call _ _ _ _) _) _ _ _); k_fold) | with_reducible refine seq_next ?_ | with_reducible refine seq_ret ?_ | (first | ((with_reducible show wpAny _ _ (call (Value.type "bytes") _ _) _ _ _); with_reducible ((refine' r_bytes ?zzk1 ?zzk2 ?zzk3 ?zzk4 ?zzk5 ?zzk6 ?zzk7 ?_; (case zzk1 => k_asm); (case zzk2 => k_asm); (case zzk3 => k_dflt k_mem); (case zzk4 => rfl); (case zzk5 => assumption); (case zzk6 => assumption); (case zzk7 => first | omega | (simp only [List.length_cons]; omega)); intro zzh' zzt' zzk' zzF' zzN'))) | ((with_reducible show wpAny _ _ (call (Value.builtin "max") _ _) _ _ _); with_reducible ((refine' r_max ?zzk1 ?zzk2 ?zzk3 ?zzk4 ?zzk5 ?_; (case zzk1 => k_asm); (case zzk2 => k_asm); (case zzk3 => k_dflt k_mem); (case zzk4 => rfl); (case zzk5 => exact IntsAre.append (by assumption) (.cons _ _ .nil)); intro zzh' zzM' zzt' zzk' zzF' zzN' zzhM1 zzhM2))) | ((with_reducible show wpAny _ _ (binaryOp Operator.Add (Value.ref _) (Value.ref _)) _ _ _); with_reducible ((refine' r_addlist ?zzk1 ?zzk2 ?zzk3 ?zzk4 ?zzk5 ?_; (case zzk1 => k_asm); (case zzk2 => k_asm); (case zzk3 => k_dflt k_mem); (case zzk4 => k_dflt k_mem); (case zzk5 => (simp only [List.length_cons, List.length_nil]; omega)); intro zzD' zzh' zzF' zzN' zzhne'))) | ((with_reducible show wpAny _ _ (binaryOp Operator.RShift (Value.int _ _) (Value.int _ _)) _ _ _); with_reducible ((refine r_shr8 ?_; intro zzt9; (try dsimp only)))) | walk_at "MY STEP") | (((with_reducible show wpAny _ _ (call (Value.ref 529) _) _ _ _); k_dflt (refine' lun_ok ?zzB ?zzF ?zzX ?zzN ?zzT ?zzhk ?zzhdp ?zzhun ?zzhi ?zzhlen ?zzhb ?_; (case zzB => k_asm); (case zzF => k_asm); (case zzX => k_asm); (case zzN => k_asm); (case zzT => k_asm); (case zzhk => first | assumption | rfl); (case zzhdp => ktr_room); (case zzhun => units_room); (case zzhi => assumption); (case zzhb => assumption); (case zzhlen => omega)); intro zzD9 zzvs9 zzk9 zzh9 zztk9 zzF9 zzN9 zzhi9; (try dsimp only))) | dsimp only | (leave1; (try dsimp only)) | fail "no step"))
      rename_i D8 _ _ _ _ _ _
      obtain ⟨u8, v8, hm8⟩ := tok2 zzN9 (.tail _ (.head _))
      refine' for_list (σ := LkS) (vs := zzvs9) (k := zzk9) (fun c y => if y = "found" then some (.ref c.D) else if y = "unit" then c.x else List.lookup y [(Str.ofString "text", Value.str x t)])
        (fun c => (c.D, lstO c.vs c.k) :: news) (fun i c => c.vs.length = 2 * i + 2 ∧ IntsAre c.vs (254 :: 255 :: octT ((unT ks).take i))) ⟨D8, [.int 254 u8, .int 255 v8], 0, none⟩ (by rfl) ?qF ?qN ?qM ?qp ?qturn ?qdone
      case qN =>
        dsimp only
        refine news_pick zzN9 hm8 ?_
        walk_at "MY NEWS"
      case qM => walk_at "MY NEWS"
      case qF =>
        refine fr_cast (by k_asm) ?_
        intro y
        dsimp only
        by_cases h0 : y = "found"
        · subst h0; rfl
        by_cases h1 : y = "unit"
        · subst h1; rfl
        simp only [if_neg h0, if_neg h1]
        rfl
      case qp => exact ⟨rfl, .cons _ _ (.cons _ _ .nil)⟩
      case qturn =>
        rintro I i v ⟨D2, vs, k, x0⟩ oI h tk hv ⟨hl, hP⟩ hoff F9 N9
        dsimp only at hl hP hoff F9 N9 ⊢
        have hil := zzhi9.length
        obtain ⟨hiv, -⟩ := List.getElem?_eq_some_iff.mp hv
        obtain ⟨u, t1, rfl, hku⟩ := zzhi9.at _ _ hv
        have hoff' : ∀ (D3 : Addr) (o : Obj) (nw : List (Addr × Obj)), (I, oI) ∈ nw → (∀ p ∈ nw, p.1 ≠ D3) → ∀ p ∈ ((D3, o) :: news), p.1 ≠ I := fun D3 o nw h1 h2 p hp => by
          rcases List.mem_cons.mp hp with rfl | hp
          · exact Ne.symm (h2 _ h1)
          · exact hoff p (.tail _ hp)
        (skip; repeat' (first | (k_unfold; (try dsimp only)) | (with_reducible refine gen3 ?_; intro _) | ((with_reducible show wpAny _ _ (exec (Stmt.Assign _ _ _) _) _ _ _); k_fold) | ((with_reducible show wpAny _ _ (exec (Stmt.Return _ _) _) _ _ _); k_fold) | ((with_reducible show wpAny _ _ (eval (PySem.Expr.Call _ _ _ _) _) _ _ _); k_fold) | with_reducible refine seq_next ?_ | with_reducible refine seq_ret ?_ | (first | ((with_reducible show wpAny _ _ (call (Value.type "bytes") _ _) _ _ _); with_reducible ((refine' r_bytes ?zzk1 ?zzk2 ?zzk3 ?zzk4 ?zzk5 ?zzk6 ?zzk7 ?_; (case zzk1 => k_asm); (case zzk2 => k_asm); (case zzk3 => k_dflt k_mem); (case zzk4 => rfl); (case zzk5 => assumption); (case zzk6 => assumption); (case zzk7 => first | omega | (simp only [List.length_cons]; omega)); intro zzh' zzt' zzk' zzF' zzN'))) | ((with_reducible show wpAny _ _ (call (Value.builtin "max") _ _) _ _ _); with_reducible ((refine' r_max ?zzk1 ?zzk2 ?zzk3 ?zzk4 ?zzk5 ?_; (case zzk1 => k_asm); (case zzk2 => k_asm); (case zzk3 => k_dflt k_mem); (case zzk4 => rfl); (case zzk5 => exact IntsAre.append (by assumption) (.cons _ _ .nil)); intro zzh' zzM' zzt' zzk' zzF' zzN' zzhM1 zzhM2))) | ((with_reducible show wpAny _ _ (binaryOp Operator.Add (Value.ref _) (Value.ref _)) _ _ _); with_reducible ((refine' r_addlist ?zzk1 ?zzk2 ?zzk3 ?zzk4 ?zzk5 ?_; (case zzk1 => k_asm); (case zzk2 => k_asm); (case zzk3 => k_dflt k_mem); (case zzk4 => k_dflt k_mem); (case zzk5 => (simp only [List.length_cons, List.length_nil]; omega)); intro zzD' zzh' zzF' zzN' zzhne'))) | ((with_reducible show wpAny _ _ (binaryOp Operator.RShift (Value.int _ _) (Value.int _ _)) _ _ _); with_reducible ((refine r_shr8 ?_; intro zzt9; (try dsimp only)))) | walk_at "MY STEP") | (((with_reducible show wpAny _ _ (call (Value.ref 529) _) _ _ _); k_dflt (refine' lun_ok ?zzB ?zzF ?zzX ?zzN ?zzT ?zzhk ?zzhdp ?zzhun ?zzhi ?zzhlen ?zzhb ?_; (case zzB => k_asm); (case zzF => k_asm); (case zzX => k_asm); (case zzN => k_asm); (case zzT => k_asm); (case zzhk => first | assumption | rfl); (case zzhdp => ktr_room); (case zzhun => units_room); (case zzhi => assumption); (case zzhb => assumption); (case zzhlen => omega)); intro zzD9 zzvs9 zzk9 zzh9 zztk9 zzF9 zzN9 zzhi9; (try dsimp only))) | dsimp only | (leave1; (try dsimp only)) | fail "no step"))
        all_goals (try k_data)
        refine' ⟨⟨_, _, _, _⟩, _, _, rfl, fr_cast (by k_asm) ?qf, ?qN2, hoff' _ _ _ ?qI (by assumption), ?qc, oct_snoc' hku hP⟩
        case qI => k_dflt k_mem
        case qN2 => walk_at "MY NEWS"
        case qf => (intro y; dsimp only; by_cases h0 : y = "found"; (subst h0; rfl); by_cases h1 : y = "unit"; (subst h1; rfl); simp only [if_neg h0, if_neg h1])
        case qc => (simp only [List.length_append, List.length_cons, List.length_nil]; omega)
      case qdone =>
        rintro ⟨D2, vs, k, x0⟩ h tk ⟨hl, hP⟩ F9 N9
        dsimp only at hl hP F9 N9 ⊢
        rw [zzhi9.length, List.take_of_length_le (Nat.le_refl _)] at hP
        have hoin : KBa.In (254 :: 255 :: octT (unT ks)) := by rw [← po_wide hasc]; exact po_in hb
        have hol := octT_length (unT ks)
        (skip; repeat' (first | (k_unfold; (try dsimp only)) | (with_reducible refine gen3 ?_; intro _) | ((with_reducible show wpAny _ _ (exec (Stmt.Assign _ _ _) _) _ _ _); k_fold) | ((with_reducible show wpAny _ _ (exec (Stmt.Return _ _) _) _ _ _); k_fold) | ((with_reducible show wpAny _ _ (eval (PySem.Expr.Call _ _ _ _) _) _ _ _); k_fold) | with_reducible refine seq_next ?_ | with_reducible refine seq_ret ?_ | (first | ((with_reducible show wpAny _ _ (call (Value.type "bytes") _ _) _ _ _); with_reducible ((refine' r_bytes ?zzk1 ?zzk2 ?zzk3 ?zzk4 ?zzk5 ?zzk6 ?zzk7 ?_; (case zzk1 => k_asm); (case zzk2 => k_asm); (case zzk3 => k_dflt k_mem); (case zzk4 => rfl); (case zzk5 => assumption); (case zzk6 => assumption); (case zzk7 => first | omega | (simp only [List.length_cons]; omega)); intro zzh' zzt' zzk' zzF' zzN'))) | ((with_reducible show wpAny _ _ (call (Value.builtin "max") _ _) _ _ _); with_reducible ((refine' r_max ?zzk1 ?zzk2 ?zzk3 ?zzk4 ?zzk5 ?_; (case zzk1 => k_asm); (case zzk2 => k_asm); (case zzk3 => k_dflt k_mem); (case zzk4 => rfl); (case zzk5 => exact IntsAre.append (by assumption) (.cons _ _ .nil)); intro zzh' zzM' zzt' zzk' zzF' zzN' zzhM1 zzhM2))) | ((with_reducible show wpAny _ _ (binaryOp Operator.Add (Value.ref _) (Value.ref _)) _ _ _); with_reducible ((refine' r_addlist ?zzk1 ?zzk2 ?zzk3 ?zzk4 ?zzk5 ?_; (case zzk1 => k_asm); (case zzk2 => k_asm); (case zzk3 => k_dflt k_mem); (case zzk4 => k_dflt k_mem); (case zzk5 => (simp only [List.length_cons, List.length_nil]; omega)); intro zzD' zzh' zzF' zzN' zzhne'))) | ((with_reducible show wpAny _ _ (binaryOp Operator.RShift (Value.int _ _) (Value.int _ _)) _ _ _); with_reducible ((refine r_shr8 ?_; intro zzt9; (try dsimp only)))) | walk_at "MY STEP") | (((with_reducible show wpAny _ _ (call (Value.ref 529) _) _ _ _); k_dflt (refine' lun_ok ?zzB ?zzF ?zzX ?zzN ?zzT ?zzhk ?zzhdp ?zzhun ?zzhi ?zzhlen ?zzhb ?_; (case zzB => k_asm); (case zzF => k_asm); (case zzX => k_asm); (case zzN => k_asm); (case zzT => k_asm); (case zzhk => first | assumption | rfl); (case zzhdp => ktr_room); (case zzhun => units_room); (case zzhi => assumption); (case zzhb => assumption); (case zzhlen => omega)); intro zzD9 zzvs9 zzk9 zzh9 zztk9 zzF9 zzN9 zzhi9; (try dsimp only))) | dsimp only | (leave1; (try dsimp only)) | fail "no step"))
        all_goals (try k_data)
        exact ret _ _ _ (by k_asm) (by walk_at "MY NEWS")

end
section
theorem UpdF.keep {α : Type} {d : Addr} {o : Obj} {O : α → Obj} : ∀ {l : List (Addr × Obj)} {l' : α → List (Addr × Obj)}, UpdF d o O l l' → ∀ a, ∀ p ∈ l, p.1 ≠ d → p ∈ l' a := by
  intro l l' U a p hp hd
  induction U with
  | head h =>
    rcases List.mem_cons.mp hp with e | hp
    · exact absurd (congrArg Prod.fst e) hd
    · exact .tail _ hp
  | tail h r ih =>
    rcases List.mem_cons.mp hp with rfl | hp
    · exact .head _
    · exact .tail _ (ih hp)
section
variable {prog : Program} {w : World} {A : Around} {E : Value → Shared → Prop} {s : Shared} {Q : Value → Shared → Prop} {t u : Tok} {h₀ : Heap} {L : Addr} {news : List (Addr × Obj)} {m : Str → Option Value}
theorem r_len {l : Addr} {its : List Value} {n : Nat} (N : News h₀ L s.heap news) (hm : (l, ({ cls := .type "list", data := .seq its.toArray n } : Obj)) ∈ news) (hl : its.length ≤ 1000000)
    (h : ∀ t k, Q (.int its.length t) { s with toks := k }) : wpAny (model prog w) A (call (.builtin "len") [.ref l]) Q E s :=
  Calls.call_len_list (items := its.toArray) ⟨_, N.get hm, rfl, n, rfl⟩ (by simp; omega) (by
    have e : its.toArray.size = its.length := by simp
    rw [e]; exact h _ _)
end
section
theorem pick_ok {pv : Program} {w : World} {loose : List Str} {mean : ExcName → Option Value} {mg mb : Str → Option Value} {A₀ : Around} {dp un : Nat} {gd : Option (List Code)} {cn : Str} {cs : Scope} {a : Addr} {ccd : Value} {cl : List (Str × Addr)} {outer : List Env} {base h₀ : Heap} {L : Addr} {m : Str → Option Value} {s : Shared} {Q E : Value → Shared → Prop}
   {p q r : Addr} {kq : Nat} {vs its : List Value} {ns : List Int} {k : Nat} {v : PenV} {news : List (Addr × Obj)} {news' : PenV → List (Addr × Obj)}
   (B : Below A₀ base outer h₀) (F : Fr h₀ L s.heap m) (X : (frag.heap_1 w.params).In h₀) (N : News h₀ L s.heap news) (T : Top pv loose mean mg mb h₀)
   (hk : cs.kind = .function) (hdp : dp + 2 < recursionLimit) (hun : un + 500 < cLine)
   (hq : (q, lstO vs kq) ∈ news) (hr : (r, ({ cls := .type "list", data := .seq its.toArray k } : Obj)) ∈ news) (hrp : @Ne Nat r p) (U : UpdF p (penV q v) (penV q) news news')
   (hi : IntsAre vs ns) (hlen : ns.length ≤ 40) (hm : 1 ≤ its.length) (hm2 : its.length ≤ 100) (hs0 : 0 ≤ v.spot) (hs1 : v.spot ≤ 1000)
   (ret : ∀ (x : Value) v' h' tk', x ∈ its → 0 ≤ v'.spot → v'.spot ≤ v.spot + 1 → Fr h₀ L h' m → News h₀ L h' (news' v') → Q x {s with heap := h', toks := tk'}) :
   wpAny (model pr w) (ktrTop dp un gd cn cs L a ccd cl outer) (call (.ref 522) [.ref p, .ref r]) Q E s := by
  walk_at "MY ENTER"
  (skip; repeat' (first | (k_unfold; (try dsimp only)) | (with_reducible refine gen3 ?_; intro _) | ((with_reducible show wpAny _ _ (exec (Stmt.Assign _ _ _) _) _ _ _); k_fold) | ((with_reducible show wpAny _ _ (exec (Stmt.Return _ _) _) _ _ _); k_fold) | ((with_reducible show wpAny _ _ (eval (PySem.Expr.Call _ _ _ _) _) _ _ _); k_fold) | with_reducible refine seq_next ?_ | with_reducible refine seq_ret ?_ | (first | ((with_reducible show wpAny _ _ (subscriptTail (PySem.Expr.Name _ _) (PySem.Expr.Call _ _ _ _) (Value.ref _) (Value.int _ _)) _ _ _); with_reducible ((refine' r_item ?zzk1 ?zzk2 ?zzk3 ?zzk4 (List.getElem?_eq_getElem ?zzk7) ?_ ?zzk6; (case zzk1 => k_asm); (case zzk2 => exact UpdF.keep (by assumption) _ _ (by assumption) (by assumption)); (case zzk3 => assumption); (case zzk4 => omega); (case zzk7 => omega); (case zzk6 => with_unfolding_all rfl)))) | ((with_reducible show wpAny _ _ (call (Value.builtin "len") _ _) _ _ _); with_reducible ((refine' r_len ?zzk1 ?zzk2 ?zzk3 ?_; (case zzk1 => k_asm); (case zzk2 => assumption); (case zzk3 => omega); intro zzt9 zztk9; (try dsimp only)))) | walk_at "MY STEP") | (((with_reducible show wpAny _ _ (call (Value.ref 515) _) _ _ _); k_dflt (refine' draw2 ?zzB ?zzF ?zzX ?zzN ?zzT ?zzhk ?zzhdp ?zzhun ?zzhq ?zzU ?zzhi ?zzhlen ?zzhm ?zzhm2 ?zzhs0 ?zzhs1 ?_; (case zzB => k_asm); (case zzF => k_asm); (case zzX => k_asm); (case zzN => k_asm); (case zzT => k_asm); (case zzhk => first | assumption | rfl); (case zzhdp => ktr_room); (case zzhun => units_room); (case zzU => assumption); (case zzhq => assumption); (case zzhi => assumption); (case zzhlen => assumption); (case zzhm => omega); (case zzhm2 => omega); (case zzhs0 => assumption); (case zzhs1 => assumption)); intro zzd9 zzt9 zzv9 zzh9 zztk9 zzhd0 zzhd1 zzhs0 zzhs1 zzF9 zzN9; (try dsimp only))) | dsimp only | (leave1; (try dsimp only)) | fail "no step"))
  all_goals (try k_data)
  exact ret _ _ _ _ (List.getElem_mem _) (by assumption) (by assumption) (by k_asm) (by k_asm)
end

end
section
open PySem PySem.W PyProof.Rows PySem.Calls PySem.Spec
theorem un2_oct : ∀ us : List Int, un2 (octT us) = us
  | [] => rfl
  | u :: us => by
    have ih := un2_oct us
    have e : octT (u :: us) = u.fdiv 256 :: u.fmod 256 :: octT us := rfl
    have e2 : 256 * u.fdiv 256 + u.fmod 256 = u := Int.mul_fdiv_add_fmod u 256
    rw [e, un2, ih, e2]
/-- a sign that is no half of a pair -/
def whole (c : Int) : Prop := 0 ≤ c ∧ c < 1114112 ∧ ¬ (55296 ≤ c ∧ c < 57344)
theorem tu_un : ∀ cs : List Int, (∀ c ∈ cs, whole c) → tu (unT cs) = cs
  | [], _ => rfl
  | c :: cs, h => by
    have ih := tu_un cs fun x hx => h x (.tail _ hx)
    obtain ⟨h0, h1, h2⟩ := h c (.head _)
    have e : unT (c :: cs) = un1 c ++ unT cs := rfl
    rw [e]
    unfold un1
    by_cases hc : 65536 ≤ c
    · rw [if_pos hc]
      have f1 : (c - 65536).fdiv 1024 = (c - 65536) / 1024 := Int.fdiv_eq_ediv_of_nonneg _ (by decide)
      have f2 : (c - 65536).fmod 1024 = (c - 65536) % 1024 := Int.fmod_eq_emod_of_nonneg _ (by decide)
      rw [f1, f2]
      show tu ((55296 + (c - 65536) / 1024) :: (56320 + (c - 65536) % 1024) :: unT cs) = c :: cs
      rw [tu_hl (by omega) (by omega), ih]
      congr 1
      omega
    · rw [if_neg hc]
      show tu (c :: unT cs) = c :: cs
      rw [tu_pl h2, ih]
theorem rd_po {cs : List Int} (h : ∀ c ∈ cs, whole c) : rdT (po cs) = cs := by
  by_cases hf : cs.filter (fun c => decide (c > 127)) = []
  · rw [po_asc hf]
    unfold rdT
    rw [if_neg]
    intro e
    have m : (254 : Int) ∈ cs := List.mem_of_mem_take (i := 2) (by rw [e]; exact .head _)
    have : (254 : Int) ∈ cs.filter (fun c => decide (c > 127)) := List.mem_filter.mpr ⟨m, by decide⟩
    rw [hf] at this
    cases this
  · rw [po_wide hf]
    unfold rdT
    rw [if_pos (by rfl)]
    show tu (un2 (octT (unT cs))) = cs
    rw [un2_oct, tu_un cs h]
theorem codes_txt {cs : List Int} (h : ∀ c ∈ cs, 0 ≤ c) : KStt.codes (KStt.txt cs) = cs := by
  unfold KStt.codes KStt.txt
  simp only [List.map_map]
  conv => rhs; rw [← List.map_id cs]
  exact List.map_congr_left fun c hc => by simp only [Function.comp, id]; exact Int.toNat_of_nonneg (h c hc)

end
section
theorem UpdF.self {α : Type} {d : Addr} {O : α → Obj} {a : α} : ∀ {l : List (Addr × Obj)} {l' : α → List (Addr × Obj)}, UpdF d (O a) O l l' → l' a = l := by
  intro l l' U
  induction U with
  | head h => rfl
  | tail h r ih => exact congrArg _ ih
theorem LcAt.ofP {prog : Program} {w : World} {A : Around} {h₀ : Heap} {L : Addr} {m : Str → Option Value} {env : Env} {elt : Expr} {x : Str} {scope : Scope} {cl : List (Str × Addr)} {n : Nat} {Pv : Nat → Value → Prop} {xv : Value} {s₁ : Shared} {Fin : Shared → List Value → List (Addr × Obj) → Prop}
    {p q : Addr} {v₀ : PenV} {news₀ : List (Addr × Obj)} {Led : PenV → List (Addr × Obj)} (R : Nat → List Value → PenV → Prop)
    (S : Src prog w A xv s₁ n Pv) (hsz : n ≤ sizeLine) (F : Fr h₀ L s₁.heap m) (N : News h₀ L s₁.heap news₀) (U : UpdF p (penV q v₀) (penV q) news₀ Led) (hr : R 0 [] v₀)
    (turn : ∀ i v ys c I oI C oC D m₂ h tk (E' : Value → Shared → Prop), i < n → Pv i v → R i ys c → LCg.NsObj oC m₂ → m₂ x = some v → Fr h₀ L h m → News h₀ L h ((I, oI) :: (C, oC) :: (D, LCg.lst ys) :: Led c) → LCg.Off3 I C D (Led c) → Ne3 I C D →
      wpAny (model prog w) A (eval elt (compEnvC scope cl C env)) (EltEnd h₀ L m { s₁ with heap := h, toks := tk } I oI C oC D (LCg.lst ys) Led (fun y c' => R (i + 1) (ys ++ [y]) c')) E' { s₁ with heap := h, toks := tk })
    (fin : ∀ g ys c, R n ys c → Fin { s₁ with heap := g } ys (Led c)) : LcAt prog w A h₀ L m env elt x scope cl Fin xv s₁ :=
  LcAt.of Led R v₀ S hsz F (by rw [U.self]; exact N) hr turn fin
/-- the signs that a law's text may hold -/
def menu : List Int := [65, 55, 45, 32, 127, 128, 233, 8364, 55295, 57344, 65536, 1114111]
def signV (x : Value) : Prop := ∃ c t, x = .str ⟨#[Int.toNat c]⟩ t ∧ c ∈ menu
theorem sv_nil : ∀ y ∈ ([] : List Value), signV y := fun _ h => nomatch h
theorem sv_cons {a : Value} {l : List Value} (h : signV a) (r : ∀ y ∈ l, signV y) : ∀ y ∈ a :: l, signV y := fun y hy => by
  rcases List.mem_cons.mp hy with rfl | hy
  · exact h
  · exact r y hy
theorem sv0 {t : Tok} : signV (.str (Str.ofString "A") t) := ⟨65, t, by rw [show Str.ofString "A" = ⟨#[Int.toNat 65]⟩ from by decide +kernel], by decide⟩
theorem sv1 {t : Tok} : signV (.str (Str.ofString "7") t) := ⟨55, t, by rw [show Str.ofString "7" = ⟨#[Int.toNat 55]⟩ from by decide +kernel], by decide⟩
theorem sv2 {t : Tok} : signV (.str (Str.ofString "-") t) := ⟨45, t, by rw [show Str.ofString "-" = ⟨#[Int.toNat 45]⟩ from by decide +kernel], by decide⟩
theorem sv3 {t : Tok} : signV (.str (Str.ofString " ") t) := ⟨32, t, by rw [show Str.ofString " " = ⟨#[Int.toNat 32]⟩ from by decide +kernel], by decide⟩
theorem sv4 {t : Tok} : signV (.str (Str.ofString "\x7f") t) := ⟨127, t, by rw [show Str.ofString "\x7f" = ⟨#[Int.toNat 127]⟩ from by decide +kernel], by decide⟩
theorem sv5 {t : Tok} : signV (.str (Str.ofString "\u0080") t) := ⟨128, t, by rw [show Str.ofString "\u0080" = ⟨#[Int.toNat 128]⟩ from by decide +kernel], by decide⟩
theorem sv6 {t : Tok} : signV (.str (Str.ofString "é") t) := ⟨233, t, by rw [show Str.ofString "é" = ⟨#[Int.toNat 233]⟩ from by decide +kernel], by decide⟩
theorem sv7 {t : Tok} : signV (.str (Str.ofString "€") t) := ⟨8364, t, by rw [show Str.ofString "€" = ⟨#[Int.toNat 8364]⟩ from by decide +kernel], by decide⟩
theorem sv8 {t : Tok} : signV (.str (Str.ofString "퟿") t) := ⟨55295, t, by rw [show Str.ofString "퟿" = ⟨#[Int.toNat 55295]⟩ from by decide +kernel], by decide⟩
theorem sv9 {t : Tok} : signV (.str (Str.ofString "") t) := ⟨57344, t, by rw [show Str.ofString "" = ⟨#[Int.toNat 57344]⟩ from by decide +kernel], by decide⟩
theorem sv10 {t : Tok} : signV (.str (Str.ofString "𐀀") t) := ⟨65536, t, by rw [show Str.ofString "𐀀" = ⟨#[Int.toNat 65536]⟩ from by decide +kernel], by decide⟩
theorem sv11 {t : Tok} : signV (.str (Str.ofString "􏿿") t) := ⟨1114111, t, by rw [show Str.ofString "􏿿" = ⟨#[Int.toNat 1114111]⟩ from by decide +kernel], by decide⟩
theorem range0 (d : Int) (h : 0 ≤ d) : Builtin.Range.rangeSize 0 d 1 = ((d.toNat : Nat) : Int) := rg0 d h
theorem small0 (d : Int) (h0 : 0 ≤ d) (h : d ≤ 100) : Builtin.Range.small 0 d 1 = true := sm0 d h0 h
theorem text_ok {pv : Program} {w : World} {loose : List Str} {mean : ExcName → Option Value} {mg mb : Str → Option Value} {A₀ : Around} {dp un : Nat} {gd : Option (List Code)} {cn : Str} {cs : Scope} {a : Addr} {ccd : Value} {cl : List (Str × Addr)} {outer : List Env} {base h₀ : Heap} {L : Addr} {m : Str → Option Value} {s : Shared} {Q E : Value → Shared → Prop}
   {p q : Addr} {kq : Nat} {vs : List Value} {ns : List Int} {v : PenV} {rest : List (Addr × Obj)}
   (B : Below A₀ base outer h₀) (F : Fr h₀ L s.heap m) (X : (frag.heap_1 w.params).In h₀) (N : News h₀ L s.heap ((p, penV q v) :: (q, lstO vs kq) :: rest)) (T : Top pv loose mean mg mb h₀)
   (hk : cs.kind = .function) (hdp : dp + 3 < recursionLimit) (hun : un + 600 < cLine)
   (hi : IntsAre vs ns) (hlen : ns.length ≤ 40) (hs0 : 0 ≤ v.spot) (hs1 : v.spot ≤ 900) (hqp : @Ne Nat q p) (off : ∀ x ∈ rest, x.1 ≠ p)
   (ret : ∀ (cs : List Int) t v' h' tk', cs.length ≤ 6 → (∀ c ∈ cs, c ∈ menu) → 0 ≤ v'.spot → v'.spot ≤ v.spot + 7 → Fr h₀ L h' m → News h₀ L h' ((p, penV q v') :: (q, lstO vs kq) :: rest) → Q (.str (KStt.txt cs) t) {s with heap := h', toks := tk'}) :
   wpAny (model pr w) (ktrTop dp un gd cn cs L a ccd cl outer) (call (.ref 544) [.ref p]) Q E s := by
  walk_at "MY ENTERC"
  rename (_ ∧ _ ∧ AllLt _ rest) => l1
  have lr := l1.2.2
  have l1a := l1.1
  have l1b := l1.2.1
  (skip; repeat' (first | (k_unfold; (try dsimp only)) | (with_reducible refine gen3 ?_; intro _) | ((with_reducible show wpAny _ _ (exec (Stmt.Assign _ _ _) _) _ _ _); k_fold) | ((with_reducible show wpAny _ _ (exec (Stmt.Return _ _) _) _ _ _); k_fold) | ((with_reducible show wpAny _ _ (eval (PySem.Expr.Call _ _ _ _) _) _ _ _); k_fold) | with_reducible refine seq_next ?_ | with_reducible refine seq_ret ?_ | (first | ((with_reducible show wpAny _ _ (call (Value.builtin "str.join") _ _) _ _ _); with_reducible ((refine' r_join ?zzk1 ?zzk2 ?zzk3 ?zzk4 ?_; (case zzk1 => k_asm); (case zzk2 => k_dflt k_mem); (case zzk3 => assumption); (case zzk4 => omega); intro zzt9 zztk9))) | walk_at "MY STEP") | (first | ((with_reducible show wpAny _ _ (call (Value.ref 522) _) _ _ _); k_dflt (refine' pick_ok ?zzB ?zzF ?zzX ?zzN ?zzT ?zzhk ?zzhdp ?zzhun ?zzhq ?zzhr ?zzhrp ?zzU ?zzhi ?zzhlen ?zzhm ?zzhm2 ?zzhs0 ?zzhs1 ?_; (case zzB => k_asm); (case zzF => k_asm); (case zzX => k_asm); (case zzN => k_asm); (case zzT => k_asm); (case zzhk => first | assumption | rfl); (case zzhdp => ktr_room); (case zzhun => units_room); (case zzU => walk_at "MY UPDF"); (case zzhq => k_mem); (case zzhi => assumption); (case zzhr => k_mem); (case zzhrp => k_ne); (case zzhlen => assumption); (case zzhm => first | omega | exact Nat.le_of_ble_eq_true rfl); (case zzhm2 => first | omega | exact Nat.le_of_ble_eq_true rfl); (case zzhs0 => first | assumption | omega); (case zzhs1 => first | assumption | omega)); intro zzx9 zzv9 zzh9 zztk9 zzhx9 zzhs0 zzhs1 zzF9 zzN9; (try dsimp only at zzN9); (try dsimp only)) | ((with_reducible show wpAny _ _ (call (Value.ref 515) _) _ _ _); k_dflt (refine' draw2 ?zzB ?zzF ?zzX ?zzN ?zzT ?zzhk ?zzhdp ?zzhun ?zzhq ?zzU ?zzhi ?zzhlen ?zzhm ?zzhm2 ?zzhs0 ?zzhs1 ?_; (case zzB => k_asm); (case zzF => k_asm); (case zzX => k_asm); (case zzN => k_asm); (case zzT => k_asm); (case zzhk => first | assumption | rfl); (case zzhdp => ktr_room); (case zzhun => units_room); (case zzU => walk_at "MY UPDF"); (case zzhq => k_mem); (case zzhi => assumption); (case zzhlen => assumption); (case zzhm => omega); (case zzhm2 => omega); (case zzhs0 => first | assumption | omega); (case zzhs1 => first | assumption | omega)); intro zzd9 zzt9 zzv9 zzh9 zztk9 zzhd0 zzhd1 zzhs0 zzhs1 zzF9 zzN9; (try dsimp only at zzN9); (try dsimp only))) | dsimp only | (leave1; (try dsimp only)) | fail "no step"))
  all_goals (try k_data)
  refine ListComp_src (by k_asm) (by with_unfolding_all rfl) (by decide) (by rfl) (by decide) (by rfl) ?_
  (skip; repeat' (first | (k_unfold; (try dsimp only)) | (with_reducible refine gen3 ?_; intro _) | ((with_reducible show wpAny _ _ (exec (Stmt.Assign _ _ _) _) _ _ _); k_fold) | ((with_reducible show wpAny _ _ (exec (Stmt.Return _ _) _) _ _ _); k_fold) | ((with_reducible show wpAny _ _ (eval (PySem.Expr.Call _ _ _ _) _) _ _ _); k_fold) | with_reducible refine seq_next ?_ | with_reducible refine seq_ret ?_ | (first | ((with_reducible show wpAny _ _ (call (Value.builtin "str.join") _ _) _ _ _); with_reducible ((refine' r_join ?zzk1 ?zzk2 ?zzk3 ?zzk4 ?_; (case zzk1 => k_asm); (case zzk2 => k_dflt k_mem); (case zzk3 => assumption); (case zzk4 => omega); intro zzt9 zztk9))) | walk_at "MY STEP") | (first | ((with_reducible show wpAny _ _ (call (Value.ref 522) _) _ _ _); k_dflt (refine' pick_ok ?zzB ?zzF ?zzX ?zzN ?zzT ?zzhk ?zzhdp ?zzhun ?zzhq ?zzhr ?zzhrp ?zzU ?zzhi ?zzhlen ?zzhm ?zzhm2 ?zzhs0 ?zzhs1 ?_; (case zzB => k_asm); (case zzF => k_asm); (case zzX => k_asm); (case zzN => k_asm); (case zzT => k_asm); (case zzhk => first | assumption | rfl); (case zzhdp => ktr_room); (case zzhun => units_room); (case zzU => walk_at "MY UPDF"); (case zzhq => k_mem); (case zzhi => assumption); (case zzhr => k_mem); (case zzhrp => k_ne); (case zzhlen => assumption); (case zzhm => first | omega | exact Nat.le_of_ble_eq_true rfl); (case zzhm2 => first | omega | exact Nat.le_of_ble_eq_true rfl); (case zzhs0 => first | assumption | omega); (case zzhs1 => first | assumption | omega)); intro zzx9 zzv9 zzh9 zztk9 zzhx9 zzhs0 zzhs1 zzF9 zzN9; (try dsimp only at zzN9); (try dsimp only)) | ((with_reducible show wpAny _ _ (call (Value.ref 515) _) _ _ _); k_dflt (refine' draw2 ?zzB ?zzF ?zzX ?zzN ?zzT ?zzhk ?zzhdp ?zzhun ?zzhq ?zzU ?zzhi ?zzhlen ?zzhm ?zzhm2 ?zzhs0 ?zzhs1 ?_; (case zzB => k_asm); (case zzF => k_asm); (case zzX => k_asm); (case zzN => k_asm); (case zzT => k_asm); (case zzhk => first | assumption | rfl); (case zzhdp => ktr_room); (case zzhun => units_room); (case zzU => walk_at "MY UPDF"); (case zzhq => k_mem); (case zzhi => assumption); (case zzhlen => assumption); (case zzhm => omega); (case zzhm2 => omega); (case zzhs0 => first | assumption | omega); (case zzhs1 => first | assumption | omega)); intro zzd9 zzt9 zzv9 zzh9 zztk9 zzhd0 zzhd1 zzhs0 zzhs1 zzF9 zzN9; (try dsimp only at zzN9); (try dsimp only))) | dsimp only | (leave1; (try dsimp only)) | fail "no step"))
  all_goals (try k_data)
  rename News _ _ _ _ => N2
  rename Fr _ _ _ _ => F2
  rename PenV => v1
  rename IsRange _ _ _ _ _ _ _ _ => hrg
  rename (_ < (7 : Int)) => hd1
  rename (v1.spot ≤ _) => hv1
  rename (0 ≤ v1.spot) => hv0
  refine' LcAt.ofP (p := p) (q := q) (fun i ys c => 0 ≤ c.spot ∧ c.spot ≤ v.spot + 1 + i ∧ ∃ cs, StrsAre ys (sg cs) ∧ cs.length = i ∧ ∀ c ∈ cs, c ∈ menu) (src_range (by rfl) hrg (small0 _ (by omega) (by omega)) (range0 _ (by omega))) ?hz ?F N2 ?U ?r ?turn ?fin
  case U => k_dflt (walk_at "MY UPDF")
  case F => k_asm
  case hz => (rw [sizeLine_eq]; omega)
  case r => exact ⟨hv0, by omega, [], .nil, rfl, fun _ h => nomatch h⟩
  case turn =>
    rintro i x ys c I oI C oC D m₂ h tk E' hi ⟨t9, rfl⟩ ⟨hc0, hc1, cs, hcs, hcl, hcm⟩ hC hx F9 N9
    have hs9 : c.spot ≤ 1000 := by omega
    intro o3 ne
    simp only [LCg.Off3] at o3
    have nI : @Ne Nat I p := Ne.symm o3.2.2.2.1.1
    have nC : @Ne Nat C p := Ne.symm o3.2.2.2.1.2.1
    have nD : @Ne Nat D p := Ne.symm o3.2.2.2.1.2.2
    (skip; repeat' (first | (k_unfold; (try dsimp only)) | (with_reducible refine gen3 ?_; intro _) | ((with_reducible show wpAny _ _ (exec (Stmt.Assign _ _ _) _) _ _ _); k_fold) | ((with_reducible show wpAny _ _ (exec (Stmt.Return _ _) _) _ _ _); k_fold) | ((with_reducible show wpAny _ _ (eval (PySem.Expr.Call _ _ _ _) _) _ _ _); k_fold) | with_reducible refine seq_next ?_ | with_reducible refine seq_ret ?_ | (first | ((with_reducible show wpAny _ _ (call (Value.builtin "str.join") _ _) _ _ _); with_reducible ((refine' r_join ?zzk1 ?zzk2 ?zzk3 ?zzk4 ?_; (case zzk1 => k_asm); (case zzk2 => k_dflt k_mem); (case zzk3 => assumption); (case zzk4 => omega); intro zzt9 zztk9))) | walk_at "MY STEP") | (first | ((with_reducible show wpAny _ _ (call (Value.ref 522) _) _ _ _); k_dflt (refine' pick_ok ?zzB ?zzF ?zzX ?zzN ?zzT ?zzhk ?zzhdp ?zzhun ?zzhq ?zzhr ?zzhrp ?zzU ?zzhi ?zzhlen ?zzhm ?zzhm2 ?zzhs0 ?zzhs1 ?_; (case zzB => k_asm); (case zzF => k_asm); (case zzX => k_asm); (case zzN => k_asm); (case zzT => k_asm); (case zzhk => first | assumption | rfl); (case zzhdp => ktr_room); (case zzhun => units_room); (case zzU => walk_at "MY UPDF"); (case zzhq => k_mem); (case zzhi => assumption); (case zzhr => k_mem); (case zzhrp => k_ne); (case zzhlen => assumption); (case zzhm => first | omega | exact Nat.le_of_ble_eq_true rfl); (case zzhm2 => first | omega | exact Nat.le_of_ble_eq_true rfl); (case zzhs0 => first | assumption | omega); (case zzhs1 => first | assumption | omega)); intro zzx9 zzv9 zzh9 zztk9 zzhx9 zzhs0 zzhs1 zzF9 zzN9; (try dsimp only at zzN9); (try dsimp only)) | ((with_reducible show wpAny _ _ (call (Value.ref 515) _) _ _ _); k_dflt (refine' draw2 ?zzB ?zzF ?zzX ?zzN ?zzT ?zzhk ?zzhdp ?zzhun ?zzhq ?zzU ?zzhi ?zzhlen ?zzhm ?zzhm2 ?zzhs0 ?zzhs1 ?_; (case zzB => k_asm); (case zzF => k_asm); (case zzX => k_asm); (case zzN => k_asm); (case zzT => k_asm); (case zzhk => first | assumption | rfl); (case zzhdp => ktr_room); (case zzhun => units_room); (case zzU => walk_at "MY UPDF"); (case zzhq => k_mem); (case zzhi => assumption); (case zzhlen => assumption); (case zzhm => omega); (case zzhm2 => omega); (case zzhs0 => first | assumption | omega); (case zzhs1 => first | assumption | omega)); intro zzd9 zzt9 zzv9 zzh9 zztk9 zzhd0 zzhd1 zzhs0 zzhs1 zzF9 zzN9; (try dsimp only at zzN9); (try dsimp only))) | dsimp only | (leave1; (try dsimp only)) | fail "no step"))
    all_goals (try k_data)
    all_goals (rename (_ ∈ (_ : List Value)) => hx9)
    all_goals (
      obtain ⟨c9, t9, rfl, hm9⟩ : signV _ := (by repeat (first | exact sv_nil | refine sv_cons (by first | exact sv0 | exact sv1 | exact sv2 | exact sv3 | exact sv4 | exact sv5 | exact sv6 | exact sv7 | exact sv8 | exact sv9 | exact sv10 | exact sv11) ?_) : ∀ y ∈ _, signV y) _ hx9
      refine ⟨_, _, _, rfl, by k_asm, by walk_at "MY NEWS", by simp only [LCg.Off3]; exact o3, by assumption, by omega, cs ++ [c9], ?_, by simp [hcl], fun c hc => ?_⟩
      · rw [← sg_snoc]; exact strs_snoc hcs
      · rcases List.mem_append.mp hc with h | h
        · exact hcm c h
        · rw [List.mem_singleton.mp h]; exact hm9)
  case fin =>
    rintro g ys c ⟨hc0, hc1, cs, hcs, hcl, hcm⟩ D h tk F9 N9 o9
    (skip; repeat' (first | (k_unfold; (try dsimp only)) | (with_reducible refine gen3 ?_; intro _) | ((with_reducible show wpAny _ _ (exec (Stmt.Assign _ _ _) _) _ _ _); k_fold) | ((with_reducible show wpAny _ _ (exec (Stmt.Return _ _) _) _ _ _); k_fold) | ((with_reducible show wpAny _ _ (eval (PySem.Expr.Call _ _ _ _) _) _ _ _); k_fold) | with_reducible refine seq_next ?_ | with_reducible refine seq_ret ?_ | (first | ((with_reducible show wpAny _ _ (call (Value.builtin "str.join") _ _) _ _ _); with_reducible ((refine' r_join ?zzk1 ?zzk2 ?zzk3 ?zzk4 ?_; (case zzk1 => k_asm); (case zzk2 => k_dflt k_mem); (case zzk3 => assumption); (case zzk4 => omega); intro zzt9 zztk9))) | walk_at "MY STEP") | (first | ((with_reducible show wpAny _ _ (call (Value.ref 522) _) _ _ _); k_dflt (refine' pick_ok ?zzB ?zzF ?zzX ?zzN ?zzT ?zzhk ?zzhdp ?zzhun ?zzhq ?zzhr ?zzhrp ?zzU ?zzhi ?zzhlen ?zzhm ?zzhm2 ?zzhs0 ?zzhs1 ?_; (case zzB => k_asm); (case zzF => k_asm); (case zzX => k_asm); (case zzN => k_asm); (case zzT => k_asm); (case zzhk => first | assumption | rfl); (case zzhdp => ktr_room); (case zzhun => units_room); (case zzU => walk_at "MY UPDF"); (case zzhq => k_mem); (case zzhi => assumption); (case zzhr => k_mem); (case zzhrp => k_ne); (case zzhlen => assumption); (case zzhm => first | omega | exact Nat.le_of_ble_eq_true rfl); (case zzhm2 => first | omega | exact Nat.le_of_ble_eq_true rfl); (case zzhs0 => first | assumption | omega); (case zzhs1 => first | assumption | omega)); intro zzx9 zzv9 zzh9 zztk9 zzhx9 zzhs0 zzhs1 zzF9 zzN9; (try dsimp only at zzN9); (try dsimp only)) | ((with_reducible show wpAny _ _ (call (Value.ref 515) _) _ _ _); k_dflt (refine' draw2 ?zzB ?zzF ?zzX ?zzN ?zzT ?zzhk ?zzhdp ?zzhun ?zzhq ?zzU ?zzhi ?zzhlen ?zzhm ?zzhm2 ?zzhs0 ?zzhs1 ?_; (case zzB => k_asm); (case zzF => k_asm); (case zzX => k_asm); (case zzN => k_asm); (case zzT => k_asm); (case zzhk => first | assumption | rfl); (case zzhdp => ktr_room); (case zzhun => units_room); (case zzU => walk_at "MY UPDF"); (case zzhq => k_mem); (case zzhi => assumption); (case zzhlen => assumption); (case zzhm => omega); (case zzhm2 => omega); (case zzhs0 => first | assumption | omega); (case zzhs1 => first | assumption | omega)); intro zzd9 zzt9 zzv9 zzh9 zztk9 zzhd0 zzhd1 zzhs0 zzhs1 zzF9 zzN9; (try dsimp only at zzN9); (try dsimp only))) | dsimp only | (leave1; (try dsimp only)) | fail "no step"))
    all_goals (try k_data)
    exact ret _ _ _ _ _ (by omega) hcm hc0 (by omega) (by k_asm) (by walk_at "MY NEWS")

end
section
theorem upd_use {h₀ h : Heap} {L : Addr} {p q : Addr} {kq : Nat} {vs : List Value} {ns : List Int} {v : PenV} {news : List (Addr × Obj)} {news' : PenV → List (Addr × Obj)} (N : News h₀ L h news) (U : UpdF p (penV q v) (penV q) news news') (hq : (q, lstO vs kq) ∈ news) (hi : IntsAre vs ns) :
    ∃ rest, News h₀ L h ((p, penV q v) :: (q, lstO vs kq) :: rest) ∧ (@Ne Nat q p) ∧ (∀ x ∈ rest, x.1 ≠ p) ∧ ∀ v' h', News h₀ L h' ((p, penV q v') :: (q, lstO vs kq) :: rest) → News h₀ L h' (news' v') := by
  have hpq : @Ne Nat q p := by
    intro e
    have e1 := (N _ hq).1
    have e2 := (N _ U.mem.1).1
    have e : q = p := e
    subst e
    rw [e1] at e2
    injection e2 with e2
    injection e2 with _ _ e2 _
    injection e2 with e2 _
    have e3 : vs = [Value.ref q, .int v.spot v.t1, .int v.great v.t2] := by simpa using congrArg Array.toList e2
    exact ints_no_ref hi (q := q) (by rw [e3]; simp)
  refine ⟨news.filter fun x => decide (x.1 ≠ p), ?_, hpq, ?_, ?_⟩
  · intro x hx
    rcases List.mem_cons.mp hx with rfl | hx
    · exact N _ U.mem.1
    rcases List.mem_cons.mp hx with rfl | hx
    · exact N _ hq
    · exact N _ (List.mem_filter.mp hx).1
  · intro x hx
    exact of_decide_eq_true (List.mem_filter.mp hx).2
  · intro v' h' N' x hx
    rcases U.mem.2 _ x hx with rfl | ⟨e, f⟩
    · exact N' _ (.head _)
    · exact N' _ (.tail _ (.tail _ (List.mem_filter.mpr ⟨e, decide_eq_true f⟩)))
theorem in_mark {cs : List Int} (h : KBa.In cs) : KBa.In ([254, 255] ++ cs) := by
  intro n hn
  simp only [List.cons_append, List.nil_append, List.mem_cons] at hn
  rcases hn with rfl | rfl | hn
  · decide
  · decide
  · exact h n hn
theorem text2 {pv : Program} {w : World} {loose : List Str} {mean : ExcName → Option Value} {mg mb : Str → Option Value} {A₀ : Around} {dp un : Nat} {gd : Option (List Code)} {cn : Str} {cs : Scope} {a : Addr} {ccd : Value} {cl : List (Str × Addr)} {outer : List Env} {base h₀ : Heap} {L : Addr} {m : Str → Option Value} {s : Shared} {Q E : Value → Shared → Prop}
   {p q : Addr} {kq : Nat} {vs : List Value} {ns : List Int} {v : PenV} {news : List (Addr × Obj)} {news' : PenV → List (Addr × Obj)}
   (B : Below A₀ base outer h₀) (F : Fr h₀ L s.heap m) (X : (frag.heap_1 w.params).In h₀) (N : News h₀ L s.heap news) (T : Top pv loose mean mg mb h₀)
   (hk : cs.kind = .function) (hdp : dp + 3 < recursionLimit) (hun : un + 600 < cLine)
   (hq : (q, lstO vs kq) ∈ news) (U : UpdF p (penV q v) (penV q) news news')
   (hi : IntsAre vs ns) (hlen : ns.length ≤ 40) (hs0 : 0 ≤ v.spot) (hs1 : v.spot ≤ 900)
   (ret : ∀ (cs : List Int) t v' h' tk', cs.length ≤ 6 → (∀ c ∈ cs, c ∈ menu) → 0 ≤ v'.spot → v'.spot ≤ v.spot + 7 → Fr h₀ L h' m → News h₀ L h' (news' v') → Q (.str (KStt.txt cs) t) {s with heap := h', toks := tk'}) :
   wpAny (model pr w) (ktrTop dp un gd cn cs L a ccd cl outer) (call (.ref 544) [.ref p]) Q E s := by
  obtain ⟨rest, N1, hqp, off, back⟩ := upd_use N U hq hi
  exact text_ok B F X N1 T hk hdp hun hi hlen hs0 hs1 hqp off fun cs t v' h' tk' h1 h2 h3 h4 F' N' => ret cs t v' h' tk' h1 h2 h3 h4 F' (back _ _ N')
/-- the octets that a law's data are drawn from -/
def octets : List Int := [0, 65, 128, 254, 255, 216, 219, 220, 223, 224]
def octV (x : Value) : Prop := ∃ c t, x = .int c t ∧ 0 ≤ c ∧ c < 256
theorem ov_nil : ∀ y ∈ ([] : List Value), octV y := fun _ h => nomatch h
theorem ov_cons {c : Int} {t : Tok} {l : List Value} (h0 : 0 ≤ c) (h1 : c < 256) (r : ∀ y ∈ l, octV y) : ∀ y ∈ (.int c t :: l), octV y := fun y hy => by
  rcases List.mem_cons.mp hy with rfl | hy
  · exact ⟨c, t, rfl, h0, h1⟩
  · exact r y hy
theorem data_ok {pv : Program} {w : World} {loose : List Str} {mean : ExcName → Option Value} {mg mb : Str → Option Value} {A₀ : Around} {dp un : Nat} {gd : Option (List Code)} {cn : Str} {cs : Scope} {a : Addr} {ccd : Value} {cl : List (Str × Addr)} {outer : List Env} {base h₀ : Heap} {L : Addr} {m : Str → Option Value} {s : Shared} {Q E : Value → Shared → Prop}
   {p q : Addr} {kq : Nat} {vs : List Value} {ns : List Int} {v : PenV} {rest : List (Addr × Obj)}
   (B : Below A₀ base outer h₀) (F : Fr h₀ L s.heap m) (X : (frag.heap_1 w.params).In h₀) (N : News h₀ L s.heap ((p, penV q v) :: (q, lstO vs kq) :: rest)) (T : Top pv loose mean mg mb h₀)
   (hk : cs.kind = .function) (hdp : dp + 3 < recursionLimit) (hun : un + 600 < cLine)
   (hi : IntsAre vs ns) (hlen : ns.length ≤ 40) (hs0 : 0 ≤ v.spot) (hs1 : v.spot ≤ 900) (hqp : @Ne Nat q p) (off : ∀ x ∈ rest, x.1 ≠ p)
   (ret : ∀ (cs : List Int) t v' h' tk', cs.length ≤ 10 → KBa.In cs → 0 ≤ v'.spot → v'.spot ≤ v.spot + 10 → Fr h₀ L h' m → News h₀ L h' ((p, penV q v') :: (q, lstO vs kq) :: rest) → Q (.bytes (byteArr cs) t) {s with heap := h', toks := tk'}) :
   wpAny (model pr w) (ktrTop dp un gd cn cs L a ccd cl outer) (call (.ref 549) [.ref p]) Q E s := by
  walk_at "MY ENTERC"
  rename (_ ∧ _ ∧ AllLt _ rest) => l1
  have lr := l1.2.2
  have l1a := l1.1
  have l1b := l1.2.1
  (skip; repeat' (first | (k_unfold; (try dsimp only)) | (with_reducible refine gen3 ?_; intro _) | ((with_reducible show wpAny _ _ (exec (Stmt.Assign _ _ _) _) _ _ _); k_fold) | ((with_reducible show wpAny _ _ (exec (Stmt.Return _ _) _) _ _ _); k_fold) | ((with_reducible show wpAny _ _ (eval (PySem.Expr.Call _ _ _ _) _) _ _ _); k_fold) | with_reducible refine seq_next ?_ | with_reducible refine seq_ret ?_ | (first | ((with_reducible show wpAny _ _ (binaryOp Operator.Add (Value.ref _) (Value.ref _)) _ _ _); (refine' r_addlist ?zzk1 ?zzk2 ?zzk3 ?zzk4 ?zzk5 ?_; (case zzk1 => k_asm); (case zzk2 => k_asm); (case zzk3 => k_dflt k_mem); (case zzk4 => k_dflt k_mem); (case zzk5 => (simp only [List.length_cons, List.length_nil]; omega)); intro zzD' zzh' zzF' zzN' zzhne')) | ((with_reducible show wpAny _ _ (call (Value.type "bytes") _ _) _ _ _); (refine' r_bytes ?zzk1 ?zzk2 ?zzk3 ?zzk4 ?zzk5 ?zzk6 ?zzk7 ?_; (case zzk1 => k_asm); (case zzk2 => k_asm); (case zzk3 => k_dflt k_mem); (case zzk4 => rfl); (case zzk5 => first | assumption | exact IntsAre.append (.cons _ _ (.cons _ _ .nil)) (by assumption)); (case zzk6 => first | assumption | exact in_mark (by assumption)); (case zzk7 => first | omega | (simp only [List.length_cons, List.length_append, List.length_nil]; omega)); intro zzh' zzt' zzk' zzF' zzN')) | walk_at "MY STEP") | (first | ((with_reducible show wpAny _ _ (call (Value.ref 522) _) _ _ _); k_dflt (refine' pick_ok ?zzB ?zzF ?zzX ?zzN ?zzT ?zzhk ?zzhdp ?zzhun ?zzhq ?zzhr ?zzhrp ?zzU ?zzhi ?zzhlen ?zzhm ?zzhm2 ?zzhs0 ?zzhs1 ?_; (case zzB => k_asm); (case zzF => k_asm); (case zzX => k_asm); (case zzN => k_asm); (case zzT => k_asm); (case zzhk => first | assumption | rfl); (case zzhdp => ktr_room); (case zzhun => units_room); (case zzU => walk_at "MY UPDF"); (case zzhq => k_mem); (case zzhi => assumption); (case zzhr => k_mem); (case zzhrp => k_ne); (case zzhlen => assumption); (case zzhm => first | omega | exact Nat.le_of_ble_eq_true rfl); (case zzhm2 => first | omega | exact Nat.le_of_ble_eq_true rfl); (case zzhs0 => first | assumption | omega); (case zzhs1 => first | assumption | omega)); intro zzx9 zzv9 zzh9 zztk9 zzhx9 zzhs0 zzhs1 zzF9 zzN9; (try dsimp only at zzN9); (try dsimp only)) | ((with_reducible show wpAny _ _ (call (Value.ref 515) _) _ _ _); k_dflt (refine' draw2 ?zzB ?zzF ?zzX ?zzN ?zzT ?zzhk ?zzhdp ?zzhun ?zzhq ?zzU ?zzhi ?zzhlen ?zzhm ?zzhm2 ?zzhs0 ?zzhs1 ?_; (case zzB => k_asm); (case zzF => k_asm); (case zzX => k_asm); (case zzN => k_asm); (case zzT => k_asm); (case zzhk => first | assumption | rfl); (case zzhdp => ktr_room); (case zzhun => units_room); (case zzU => walk_at "MY UPDF"); (case zzhq => k_mem); (case zzhi => assumption); (case zzhlen => assumption); (case zzhm => omega); (case zzhm2 => omega); (case zzhs0 => first | assumption | omega); (case zzhs1 => first | assumption | omega)); intro zzd9 zzt9 zzv9 zzh9 zztk9 zzhd0 zzhd1 zzhs0 zzhs1 zzF9 zzN9; (try dsimp only at zzN9); (try dsimp only))) | dsimp only | (leave1; (try dsimp only)) | fail "no step"))
  all_goals (try k_data)
  refine Assign_ListComp_src (by k_asm) (by rfl) (by with_unfolding_all rfl) (by with_unfolding_all rfl) (by decide) (by rfl) (by decide) (by rfl) (by rfl) (by rfl) ?_
  (skip; repeat' (first | (k_unfold; (try dsimp only)) | (with_reducible refine gen3 ?_; intro _) | ((with_reducible show wpAny _ _ (exec (Stmt.Assign _ _ _) _) _ _ _); k_fold) | ((with_reducible show wpAny _ _ (exec (Stmt.Return _ _) _) _ _ _); k_fold) | ((with_reducible show wpAny _ _ (eval (PySem.Expr.Call _ _ _ _) _) _ _ _); k_fold) | with_reducible refine seq_next ?_ | with_reducible refine seq_ret ?_ | (first | ((with_reducible show wpAny _ _ (binaryOp Operator.Add (Value.ref _) (Value.ref _)) _ _ _); (refine' r_addlist ?zzk1 ?zzk2 ?zzk3 ?zzk4 ?zzk5 ?_; (case zzk1 => k_asm); (case zzk2 => k_asm); (case zzk3 => k_dflt k_mem); (case zzk4 => k_dflt k_mem); (case zzk5 => (simp only [List.length_cons, List.length_nil]; omega)); intro zzD' zzh' zzF' zzN' zzhne')) | ((with_reducible show wpAny _ _ (call (Value.type "bytes") _ _) _ _ _); (refine' r_bytes ?zzk1 ?zzk2 ?zzk3 ?zzk4 ?zzk5 ?zzk6 ?zzk7 ?_; (case zzk1 => k_asm); (case zzk2 => k_asm); (case zzk3 => k_dflt k_mem); (case zzk4 => rfl); (case zzk5 => first | assumption | exact IntsAre.append (.cons _ _ (.cons _ _ .nil)) (by assumption)); (case zzk6 => first | assumption | exact in_mark (by assumption)); (case zzk7 => first | omega | (simp only [List.length_cons, List.length_append, List.length_nil]; omega)); intro zzh' zzt' zzk' zzF' zzN')) | walk_at "MY STEP") | (first | ((with_reducible show wpAny _ _ (call (Value.ref 522) _) _ _ _); k_dflt (refine' pick_ok ?zzB ?zzF ?zzX ?zzN ?zzT ?zzhk ?zzhdp ?zzhun ?zzhq ?zzhr ?zzhrp ?zzU ?zzhi ?zzhlen ?zzhm ?zzhm2 ?zzhs0 ?zzhs1 ?_; (case zzB => k_asm); (case zzF => k_asm); (case zzX => k_asm); (case zzN => k_asm); (case zzT => k_asm); (case zzhk => first | assumption | rfl); (case zzhdp => ktr_room); (case zzhun => units_room); (case zzU => walk_at "MY UPDF"); (case zzhq => k_mem); (case zzhi => assumption); (case zzhr => k_mem); (case zzhrp => k_ne); (case zzhlen => assumption); (case zzhm => first | omega | exact Nat.le_of_ble_eq_true rfl); (case zzhm2 => first | omega | exact Nat.le_of_ble_eq_true rfl); (case zzhs0 => first | assumption | omega); (case zzhs1 => first | assumption | omega)); intro zzx9 zzv9 zzh9 zztk9 zzhx9 zzhs0 zzhs1 zzF9 zzN9; (try dsimp only at zzN9); (try dsimp only)) | ((with_reducible show wpAny _ _ (call (Value.ref 515) _) _ _ _); k_dflt (refine' draw2 ?zzB ?zzF ?zzX ?zzN ?zzT ?zzhk ?zzhdp ?zzhun ?zzhq ?zzU ?zzhi ?zzhlen ?zzhm ?zzhm2 ?zzhs0 ?zzhs1 ?_; (case zzB => k_asm); (case zzF => k_asm); (case zzX => k_asm); (case zzN => k_asm); (case zzT => k_asm); (case zzhk => first | assumption | rfl); (case zzhdp => ktr_room); (case zzhun => units_room); (case zzU => walk_at "MY UPDF"); (case zzhq => k_mem); (case zzhi => assumption); (case zzhlen => assumption); (case zzhm => omega); (case zzhm2 => omega); (case zzhs0 => first | assumption | omega); (case zzhs1 => first | assumption | omega)); intro zzd9 zzt9 zzv9 zzh9 zztk9 zzhd0 zzhd1 zzhs0 zzhs1 zzF9 zzN9; (try dsimp only at zzN9); (try dsimp only))) | dsimp only | (leave1; (try dsimp only)) | fail "no step"))
  all_goals (try k_data)
  rename News _ _ _ _ => N2
  rename Fr _ _ _ _ => F2
  rename PenV => v1
  rename IsRange _ _ _ _ _ _ _ _ => hrg
  rename (_ < (9 : Int)) => hd1
  rename (v1.spot ≤ _) => hv1
  rename (0 ≤ v1.spot) => hv0
  refine' LcAt.ofP (p := p) (q := q) (fun i ys c => 0 ≤ c.spot ∧ c.spot ≤ v.spot + 1 + i ∧ ∃ cs, IntsAre ys cs ∧ cs.length = i ∧ KBa.In cs) (src_range (by rfl) hrg (small0 _ (by omega) (by omega)) (range0 _ (by omega))) ?hz ?F N2 ?U ?r ?turn ?fin
  case U => k_dflt (walk_at "MY UPDF")
  case F => k_asm
  case hz => (rw [sizeLine_eq]; omega)
  case r => exact ⟨hv0, by omega, [], .nil, rfl, fun _ h => nomatch h⟩
  case turn =>
    rintro i x ys c I oI C oC D m₂ h tk E' hi ⟨t9, rfl⟩ ⟨hc0, hc1, cs, hcs, hcl, hcm⟩ hC hx F9 N9
    have hs9 : c.spot ≤ 1000 := by omega
    intro o3 ne
    simp only [LCg.Off3] at o3
    have nI : @Ne Nat I p := Ne.symm o3.2.2.2.1.1
    have nC : @Ne Nat C p := Ne.symm o3.2.2.2.1.2.1
    have nD : @Ne Nat D p := Ne.symm o3.2.2.2.1.2.2
    (skip; repeat' (first | (k_unfold; (try dsimp only)) | (with_reducible refine gen3 ?_; intro _) | ((with_reducible show wpAny _ _ (exec (Stmt.Assign _ _ _) _) _ _ _); k_fold) | ((with_reducible show wpAny _ _ (exec (Stmt.Return _ _) _) _ _ _); k_fold) | ((with_reducible show wpAny _ _ (eval (PySem.Expr.Call _ _ _ _) _) _ _ _); k_fold) | with_reducible refine seq_next ?_ | with_reducible refine seq_ret ?_ | (first | ((with_reducible show wpAny _ _ (binaryOp Operator.Add (Value.ref _) (Value.ref _)) _ _ _); (refine' r_addlist ?zzk1 ?zzk2 ?zzk3 ?zzk4 ?zzk5 ?_; (case zzk1 => k_asm); (case zzk2 => k_asm); (case zzk3 => k_dflt k_mem); (case zzk4 => k_dflt k_mem); (case zzk5 => (simp only [List.length_cons, List.length_nil]; omega)); intro zzD' zzh' zzF' zzN' zzhne')) | ((with_reducible show wpAny _ _ (call (Value.type "bytes") _ _) _ _ _); (refine' r_bytes ?zzk1 ?zzk2 ?zzk3 ?zzk4 ?zzk5 ?zzk6 ?zzk7 ?_; (case zzk1 => k_asm); (case zzk2 => k_asm); (case zzk3 => k_dflt k_mem); (case zzk4 => rfl); (case zzk5 => first | assumption | exact IntsAre.append (.cons _ _ (.cons _ _ .nil)) (by assumption)); (case zzk6 => first | assumption | exact in_mark (by assumption)); (case zzk7 => first | omega | (simp only [List.length_cons, List.length_append, List.length_nil]; omega)); intro zzh' zzt' zzk' zzF' zzN')) | walk_at "MY STEP") | (first | ((with_reducible show wpAny _ _ (call (Value.ref 522) _) _ _ _); k_dflt (refine' pick_ok ?zzB ?zzF ?zzX ?zzN ?zzT ?zzhk ?zzhdp ?zzhun ?zzhq ?zzhr ?zzhrp ?zzU ?zzhi ?zzhlen ?zzhm ?zzhm2 ?zzhs0 ?zzhs1 ?_; (case zzB => k_asm); (case zzF => k_asm); (case zzX => k_asm); (case zzN => k_asm); (case zzT => k_asm); (case zzhk => first | assumption | rfl); (case zzhdp => ktr_room); (case zzhun => units_room); (case zzU => walk_at "MY UPDF"); (case zzhq => k_mem); (case zzhi => assumption); (case zzhr => k_mem); (case zzhrp => k_ne); (case zzhlen => assumption); (case zzhm => first | omega | exact Nat.le_of_ble_eq_true rfl); (case zzhm2 => first | omega | exact Nat.le_of_ble_eq_true rfl); (case zzhs0 => first | assumption | omega); (case zzhs1 => first | assumption | omega)); intro zzx9 zzv9 zzh9 zztk9 zzhx9 zzhs0 zzhs1 zzF9 zzN9; (try dsimp only at zzN9); (try dsimp only)) | ((with_reducible show wpAny _ _ (call (Value.ref 515) _) _ _ _); k_dflt (refine' draw2 ?zzB ?zzF ?zzX ?zzN ?zzT ?zzhk ?zzhdp ?zzhun ?zzhq ?zzU ?zzhi ?zzhlen ?zzhm ?zzhm2 ?zzhs0 ?zzhs1 ?_; (case zzB => k_asm); (case zzF => k_asm); (case zzX => k_asm); (case zzN => k_asm); (case zzT => k_asm); (case zzhk => first | assumption | rfl); (case zzhdp => ktr_room); (case zzhun => units_room); (case zzU => walk_at "MY UPDF"); (case zzhq => k_mem); (case zzhi => assumption); (case zzhlen => assumption); (case zzhm => omega); (case zzhm2 => omega); (case zzhs0 => first | assumption | omega); (case zzhs1 => first | assumption | omega)); intro zzd9 zzt9 zzv9 zzh9 zztk9 zzhd0 zzhd1 zzhs0 zzhs1 zzF9 zzN9; (try dsimp only at zzN9); (try dsimp only))) | dsimp only | (leave1; (try dsimp only)) | fail "no step"))
    all_goals (try k_data)
    all_goals (rename (_ ∈ (_ : List Value)) => hx9)
    all_goals (
      obtain ⟨c9, t9, rfl, hm9⟩ : octV _ := (by repeat (first | exact ov_nil | refine ov_cons (by decide) (by decide) ?_) : ∀ y ∈ _, octV y) _ hx9
      refine ⟨_, _, _, rfl, by k_asm, by walk_at "MY NEWS", by simp only [LCg.Off3]; exact o3, by assumption, by omega, cs ++ [c9], hcs.append (.cons _ _ .nil), by simp [hcl], fun c hc => ?_⟩
      rcases List.mem_append.mp hc with h | h
      · exact hcm c h
      · rw [List.mem_singleton.mp h]; exact hm9)
  case fin =>
    rintro g ys c ⟨hc0, hc1, cs, hcs, hcl, hcm⟩ D h tk F9 N9 o9
    have hyl := hcs.length
    have hcl8 : cs.length + 2 ≤ 10 := by omega
    simp only [LCg.Off1] at o9
    (skip; repeat' (first | (k_unfold; (try dsimp only)) | (with_reducible refine gen3 ?_; intro _) | ((with_reducible show wpAny _ _ (exec (Stmt.Assign _ _ _) _) _ _ _); k_fold) | ((with_reducible show wpAny _ _ (exec (Stmt.Return _ _) _) _ _ _); k_fold) | ((with_reducible show wpAny _ _ (eval (PySem.Expr.Call _ _ _ _) _) _ _ _); k_fold) | with_reducible refine seq_next ?_ | with_reducible refine seq_ret ?_ | (first | ((with_reducible show wpAny _ _ (binaryOp Operator.Add (Value.ref _) (Value.ref _)) _ _ _); (refine' r_addlist ?zzk1 ?zzk2 ?zzk3 ?zzk4 ?zzk5 ?_; (case zzk1 => k_asm); (case zzk2 => k_asm); (case zzk3 => k_dflt k_mem); (case zzk4 => k_dflt k_mem); (case zzk5 => (simp only [List.length_cons, List.length_nil]; omega)); intro zzD' zzh' zzF' zzN' zzhne')) | ((with_reducible show wpAny _ _ (call (Value.type "bytes") _ _) _ _ _); (refine' r_bytes ?zzk1 ?zzk2 ?zzk3 ?zzk4 ?zzk5 ?zzk6 ?zzk7 ?_; (case zzk1 => k_asm); (case zzk2 => k_asm); (case zzk3 => k_dflt k_mem); (case zzk4 => rfl); (case zzk5 => first | assumption | exact IntsAre.append (.cons _ _ (.cons _ _ .nil)) (by assumption)); (case zzk6 => first | assumption | exact in_mark (by assumption)); (case zzk7 => first | omega | (simp only [List.length_cons, List.length_append, List.length_nil]; omega)); intro zzh' zzt' zzk' zzF' zzN')) | walk_at "MY STEP") | (first | ((with_reducible show wpAny _ _ (call (Value.ref 522) _) _ _ _); k_dflt (refine' pick_ok ?zzB ?zzF ?zzX ?zzN ?zzT ?zzhk ?zzhdp ?zzhun ?zzhq ?zzhr ?zzhrp ?zzU ?zzhi ?zzhlen ?zzhm ?zzhm2 ?zzhs0 ?zzhs1 ?_; (case zzB => k_asm); (case zzF => k_asm); (case zzX => k_asm); (case zzN => k_asm); (case zzT => k_asm); (case zzhk => first | assumption | rfl); (case zzhdp => ktr_room); (case zzhun => units_room); (case zzU => walk_at "MY UPDF"); (case zzhq => k_mem); (case zzhi => assumption); (case zzhr => k_mem); (case zzhrp => k_ne); (case zzhlen => assumption); (case zzhm => first | omega | exact Nat.le_of_ble_eq_true rfl); (case zzhm2 => first | omega | exact Nat.le_of_ble_eq_true rfl); (case zzhs0 => first | assumption | omega); (case zzhs1 => first | assumption | omega)); intro zzx9 zzv9 zzh9 zztk9 zzhx9 zzhs0 zzhs1 zzF9 zzN9; (try dsimp only at zzN9); (try dsimp only)) | ((with_reducible show wpAny _ _ (call (Value.ref 515) _) _ _ _); k_dflt (refine' draw2 ?zzB ?zzF ?zzX ?zzN ?zzT ?zzhk ?zzhdp ?zzhun ?zzhq ?zzU ?zzhi ?zzhlen ?zzhm ?zzhm2 ?zzhs0 ?zzhs1 ?_; (case zzB => k_asm); (case zzF => k_asm); (case zzX => k_asm); (case zzN => k_asm); (case zzT => k_asm); (case zzhk => first | assumption | rfl); (case zzhdp => ktr_room); (case zzhun => units_room); (case zzU => walk_at "MY UPDF"); (case zzhq => k_mem); (case zzhi => assumption); (case zzhlen => assumption); (case zzhm => omega); (case zzhm2 => omega); (case zzhs0 => first | assumption | omega); (case zzhs1 => first | assumption | omega)); intro zzd9 zzt9 zzv9 zzh9 zztk9 zzhd0 zzhd1 zzhs0 zzhs1 zzF9 zzN9; (try dsimp only at zzN9); (try dsimp only))) | dsimp only | (leave1; (try dsimp only)) | fail "no step"))
    all_goals (try k_data)
    all_goals (refine ret _ _ _ _ _ ?_ ?_ ?_ ?_ (by k_asm) (by walk_at "MY NEWS"))
    all_goals (first | omega | assumption | exact in_mark hcm | (simp only [List.length_cons, List.length_append, List.length_nil]; omega))
theorem data2 {pv : Program} {w : World} {loose : List Str} {mean : ExcName → Option Value} {mg mb : Str → Option Value} {A₀ : Around} {dp un : Nat} {gd : Option (List Code)} {cn : Str} {cs : Scope} {a : Addr} {ccd : Value} {cl : List (Str × Addr)} {outer : List Env} {base h₀ : Heap} {L : Addr} {m : Str → Option Value} {s : Shared} {Q E : Value → Shared → Prop}
   {p q : Addr} {kq : Nat} {vs : List Value} {ns : List Int} {v : PenV} {news : List (Addr × Obj)} {news' : PenV → List (Addr × Obj)}
   (B : Below A₀ base outer h₀) (F : Fr h₀ L s.heap m) (X : (frag.heap_1 w.params).In h₀) (N : News h₀ L s.heap news) (T : Top pv loose mean mg mb h₀)
   (hk : cs.kind = .function) (hdp : dp + 3 < recursionLimit) (hun : un + 600 < cLine)
   (hq : (q, lstO vs kq) ∈ news) (U : UpdF p (penV q v) (penV q) news news')
   (hi : IntsAre vs ns) (hlen : ns.length ≤ 40) (hs0 : 0 ≤ v.spot) (hs1 : v.spot ≤ 900)
   (ret : ∀ (cs : List Int) t v' h' tk', cs.length ≤ 10 → KBa.In cs → 0 ≤ v'.spot → v'.spot ≤ v.spot + 10 → Fr h₀ L h' m → News h₀ L h' (news' v') → Q (.bytes (byteArr cs) t) {s with heap := h', toks := tk'}) :
   wpAny (model pr w) (ktrTop dp un gd cn cs L a ccd cl outer) (call (.ref 549) [.ref p]) Q E s := by
  obtain ⟨rest, N1, hqp, off, back⟩ := upd_use N U hq hi
  exact data_ok B F X N1 T hk hdp hun hi hlen hs0 hs1 hqp off fun cs t v' h' tk' h1 h2 h3 h4 F' N' => ret cs t v' h' tk' h1 h2 h3 h4 F' (back _ _ N')

end
section
theorem allLt_off1 {d : Addr} : ∀ {r : List (Addr × Obj)}, AllLt d r → LCg.Off1 d r
  | [], _ => trivial
  | _ :: _, h => ⟨Nat.ne_of_lt h.1, allLt_off1 h.2⟩
theorem list_up {h₀ h : Heap} {L l : Addr} {m : Str → Option Value} {xs : Array Value} (hl : h₀.IsList l xs) (F : Fr h₀ L h m) : h.IsList l xs := by
  obtain ⟨o, ho, hc, n, hd⟩ := hl
  exact ⟨o, F.keep _ _ ho, hc, n, hd⟩
/-- _law_pen: a copy of the script's first forty ints, and two noughts -/
theorem pen_ok {pv : Program} {w : World} {loose : List Str} {mean : ExcName → Option Value} {mg mb : Str → Option Value} {A₀ : Around} {dp un : Nat} {gd : Option (List Code)} {cn : Str} {cs : Scope} {a : Addr} {ccd : Value} {cl : List (Str × Addr)} {outer : List Env} {base h₀ : Heap} {L : Addr} {m : Str → Option Value} {s : Shared} {Q E : Value → Shared → Prop}
   {l : Addr} {vs : List Value} {ns : List Int} {news : List (Addr × Obj)}
   (B : Below A₀ base outer h₀) (F : Fr h₀ L s.heap m) (X : (frag.heap_1 w.params).In h₀) (N : News h₀ L s.heap news) (T : Top pv loose mean mg mb h₀)
   (hk : cs.kind = .function) (hdp : dp + 2 < recursionLimit) (hun : un + 500 < cLine)
   (hl : h₀.IsList l vs.toArray) (hi : IntsAre vs ns) (hlen : ns.length ≤ 100)
   (ret : ∀ p q v us ms k h' tk', IntsAre us ms → ms.length ≤ 40 → 0 ≤ v.spot → v.spot ≤ 0 → LCg.Off1 p news → LCg.Off1 q news → (@Ne Nat q p) → Fr h₀ L h' m → News h₀ L h' ((p, penV q v) :: (q, lstO us k) :: news) → Q (.ref p) {s with heap := h', toks := tk'}) :
   wpAny (model pr w) (ktrTop dp un gd cn cs L a ccd cl outer) (call (.ref 508) [.ref l]) Q E s := by
  have hvl := hi.length
  walk_at "MY ENTER"
  rename (Fr h₀ L _ m) => FG
  have hlg := list_up hl FG
  (skip; repeat' (first | (k_unfold; (try dsimp only)) | (with_reducible refine gen3 ?_; intro _) | ((with_reducible show wpAny _ _ (exec (Stmt.Assign _ _ _) _) _ _ _); k_fold) | ((with_reducible show wpAny _ _ (exec (Stmt.Return _ _) _) _ _ _); k_fold) | ((with_reducible show wpAny _ _ (eval (PySem.Expr.Call _ _ _ _) _) _ _ _); k_fold) | with_reducible refine seq_next ?_ | with_reducible refine seq_ret ?_ | walk_at "MY STEP" | dsimp only | (leave1; (try dsimp only)) | fail "no step"))
  all_goals (try k_data)
  refine LCg.ListComp_U (by k_asm) (by with_unfolding_all rfl) (by decide) (by rfl) (by decide) (by rfl) ?_
  (skip; repeat' (first | (k_unfold; (try dsimp only)) | (with_reducible refine gen3 ?_; intro _) | ((with_reducible show wpAny _ _ (exec (Stmt.Assign _ _ _) _) _ _ _); k_fold) | ((with_reducible show wpAny _ _ (exec (Stmt.Return _ _) _) _ _ _); k_fold) | ((with_reducible show wpAny _ _ (eval (PySem.Expr.Call _ _ _ _) _) _ _ _); k_fold) | with_reducible refine seq_next ?_ | with_reducible refine seq_ret ?_ | walk_at "MY STEP" | dsimp only | (leave1; (try dsimp only)) | fail "no step"))
  all_goals (try k_data)
  rename News _ _ _ _ => N2
  refine' CompSrc_of (σ := Unit) (fun _ => _) (fun i ys _ => IntsAre ys ((ns.take 40).take i)) () (by rfl) ?F N2 (fun _ => .head _) ?hz ?r ?turn ?fin
  case F => k_asm
  case hz => (rename IntsAre _ (List.take 40 ns) => hI; rw [hI.length]; simp only [List.length_take]; omega)
  case r => exact .nil
  case turn =>
    rintro i x ys c I oI C oC D m₂ h tk E' hi hv hR hC hx F9 N9 off ne
    rename IntsAre _ (List.take 40 ns) => hI
    obtain ⟨c9, t9, rfl, hc9⟩ := hI.at _ _ hv
    (skip; repeat' (first | (k_unfold; (try dsimp only)) | (with_reducible refine gen3 ?_; intro _) | ((with_reducible show wpAny _ _ (exec (Stmt.Assign _ _ _) _) _ _ _); k_fold) | ((with_reducible show wpAny _ _ (exec (Stmt.Return _ _) _) _ _ _); k_fold) | ((with_reducible show wpAny _ _ (eval (PySem.Expr.Call _ _ _ _) _) _ _ _); k_fold) | with_reducible refine seq_next ?_ | with_reducible refine seq_ret ?_ | walk_at "MY STEP" | dsimp only | (leave1; (try dsimp only)) | fail "no step"))
    all_goals (try k_data)
    exact ⟨(), _, _, rfl, by k_asm, by k_asm, off, ints_snoc hc9 hR⟩
  case fin =>
    intro g ys c hR D h tk F9 N9 o9
    rename IntsAre _ (List.take 40 ns) => hI
    rw [hI.length, List.take_of_length_le (Nat.le_refl _)] at hR
    (skip; repeat' (first | (k_unfold; (try dsimp only)) | (with_reducible refine gen3 ?_; intro _) | ((with_reducible show wpAny _ _ (exec (Stmt.Assign _ _ _) _) _ _ _); k_fold) | ((with_reducible show wpAny _ _ (exec (Stmt.Return _ _) _) _ _ _); k_fold) | ((with_reducible show wpAny _ _ (eval (PySem.Expr.Call _ _ _ _) _) _ _ _); k_fold) | with_reducible refine seq_next ?_ | with_reducible refine seq_ret ?_ | walk_at "MY STEP" | dsimp only | (leave1; (try dsimp only)) | fail "no step"))
    all_goals (try k_data)
    rename (_ < _ ∧ _ < _ ∧ AllLt _ news) => l9
    refine' ret _ _ ⟨0, 0, _, _⟩ _ _ _ _ _ hR ?h1 (Int.le_refl 0) (Int.le_refl 0) (allLt_off1 l9.2.2) o9.2 (Nat.ne_of_lt l9.1) ?F ?N
    case N => exact news_pick (by assumption) (.head _) (news_pick (by assumption) (.tail _ (.head _)) (by walk_at "MY NEWS"))
    case F => k_asm
    case h1 => (simp only [List.length_take]; omega)

end
section
/-- the dicts of the fields of a shelf and of a reference -/
abbrev shD (w : World) (T R : Addr) (k1 k2 : Tok) : Obj := dictOf [{ hash := PyData.keyHash w.params (Str.ofString "table"), key := .str (Str.ofString "table") k1, val := .ref T }, { hash := PyData.keyHash w.params (Str.ofString "trailer"), key := .str (Str.ofString "trailer") k2, val := .ref R }] 2
abbrev rfD (w : World) (t1 t2 k1 k2 : Tok) : Obj := dictOf [{ hash := PyData.keyHash w.params (Str.ofString "number"), key := .str (Str.ofString "number") k1, val := .int 1 t1 }, { hash := PyData.keyHash w.params (Str.ofString "generation"), key := .str (Str.ofString "generation") k2, val := .int 0 t2 }] 2
abbrev tup2 (x y : Value) (n : Nat := 0) : Obj := { cls := .type "tuple", data := .seq [x, y].toArray n }
structure FeS where
  x : Option Value
theorem fetch_ok {pv : Program} {w : World} {loose : List Str} {mean : ExcName → Option Value} {mg mb : Str → Option Value} {A₀ : Around} {dp un : Nat} {gd : Option (List Code)} {cn : Str} {cs : Scope} {a : Addr} {ccd : Value} {cl : List (Str × Addr)} {outer : List Env} {base h₀ : Heap} {L : Addr} {m : Str → Option Value} {s : Shared} {Q E : Value → Shared → Prop}
   {sh : Addr} {v t : Value} {H : Heap → Prop} {news : List (Addr × Obj)}
   (B : Below A₀ base outer h₀) (F : Fr h₀ L s.heap m) (X : (frag.heap_1 w.params).In h₀) (N : News h₀ L s.heap news) (T : Top pv loose mean mg mb h₀)
   (hk : cs.kind = .function) (hdp : dp + 2 < recursionLimit) (hun : un + 500 < cLine)
   (Z : KitX (frag.heap_1 w.params) v t H) (e : kitOne (frag.heap_1 w.params) t (.ref 254) = some false) (hx : v ≠ .builtin "__main__.__loader__#opaque") (hp : ∀ g L' h, News g L' h news → H h)
   (ret : ∀ h' tk', Fr h₀ L h' m → News h₀ L h' news → Q v {s with heap := h', toks := tk'}) :
   wpAny (model pr w) (ktrTop dp un gd cn cs L a ccd cl outer) (call (.ref 299) [.ref sh, v]) Q E s := by
  walk_at "MY ENTER"
  (skip; repeat' (first | (k_unfold; (try dsimp only)) | (with_reducible refine gen3 ?_; intro _) | ((with_reducible show wpAny _ _ (exec (Stmt.Assign _ _ _) _) _ _ _); k_fold) | ((with_reducible show wpAny _ _ (exec (Stmt.Return _ _) _) _ _ _); k_fold) | ((with_reducible show wpAny _ _ (eval (PySem.Expr.Call _ _ _ _) _) _ _ _); k_fold) | with_reducible refine seq_next ?_ | with_reducible refine seq_ret ?_ | (first | ((with_reducible show wpAny _ _ (call (Value.builtin "isinstance") _ _) _ _ _); (refine' kia_one (by assumption) ?zzX ?zzp (by assumption) (by assumption) ?_; (case zzX => k_in); (case zzp => (rename (∀ g L' h, News g L' h _ → _) => zzhp9; exact zzhp9 _ _ _ (by walk_at "MY NEWS"))); intro zztk9; (try dsimp only))) | walk_at "MY STEP") | dsimp only | (leave1; (try dsimp only)) | fail "no step"))
  all_goals (try k_data)
  refine' r_forst ?kF (by rfl) (by rfl) (by intro _; rfl) ?kE ?_
  case kF => k_asm
  case kE => passes_own
  (skip; repeat' (first | (k_unfold; (try dsimp only)) | (with_reducible refine gen3 ?_; intro _) | ((with_reducible show wpAny _ _ (exec (Stmt.Assign _ _ _) _) _ _ _); k_fold) | ((with_reducible show wpAny _ _ (exec (Stmt.Return _ _) _) _ _ _); k_fold) | ((with_reducible show wpAny _ _ (eval (PySem.Expr.Call _ _ _ _) _) _ _ _); k_fold) | with_reducible refine seq_next ?_ | with_reducible refine seq_ret ?_ | (first | ((with_reducible show wpAny _ _ (call (Value.builtin "isinstance") _ _) _ _ _); (refine' kia_one (by assumption) ?zzX ?zzp (by assumption) (by assumption) ?_; (case zzX => k_in); (case zzp => (rename (∀ g L' h, News g L' h _ → _) => zzhp9; exact zzhp9 _ _ _ (by walk_at "MY NEWS"))); intro zztk9; (try dsimp only))) | walk_at "MY STEP") | dsimp only | (leave1; (try dsimp only)) | fail "no step"))
  all_goals (try k_data)
  rename IsRange _ _ _ _ _ _ _ _ => hrg
  refine' for_src (σ := FeS) (fun c y => if y = "hop" then c.x else if y = "here" then some v else List.lookup y [(Str.ofString "value", v), (Str.ofString "self", .ref sh)])
    (fun _ => news) (fun i _ => i = 0) ⟨none⟩ (src_range (by rfl) hrg (sm0 _ (by decide) (by decide)) (rg0 _ (by decide))) ?qF ?qN ?qp ?qturn ?qdone
  case qF =>
    refine fr_cast (by k_asm) ?_
    intro y
    dsimp only
    by_cases h0 : y = "hop"
    · subst h0; rfl
    simp only [if_neg h0]
    rfl
  case qN => k_asm
  case qp => rfl
  case qdone =>
    rintro c h tk hP
    exact absurd hP (by decide)
  case qturn =>
    rintro I i x ⟨x1⟩ oI h tk hi ⟨t9, rfl⟩ hP hoff F9 N9
    dsimp only at hoff F9 N9 ⊢
    (skip; repeat' (first | (k_unfold; (try dsimp only)) | (with_reducible refine gen3 ?_; intro _) | ((with_reducible show wpAny _ _ (exec (Stmt.Assign _ _ _) _) _ _ _); k_fold) | ((with_reducible show wpAny _ _ (exec (Stmt.Return _ _) _) _ _ _); k_fold) | ((with_reducible show wpAny _ _ (eval (PySem.Expr.Call _ _ _ _) _) _ _ _); k_fold) | with_reducible refine seq_next ?_ | with_reducible refine seq_ret ?_ | (first | ((with_reducible show wpAny _ _ (call (Value.builtin "isinstance") _ _) _ _ _); (refine' kia_one (by assumption) ?zzX ?zzp (by assumption) (by assumption) ?_; (case zzX => k_in); (case zzp => (rename (∀ g L' h, News g L' h _ → _) => zzhp9; exact zzhp9 _ _ _ (by walk_at "MY NEWS"))); intro zztk9; (try dsimp only))) | walk_at "MY STEP") | dsimp only | (leave1; (try dsimp only)) | fail "no step"))
    all_goals (try k_data)
    exact ret _ _ (by k_asm) (news_tail (by k_asm))
structure FrS where
  x : Option Value
  here : Value
  ge : Option Value
  fo : Option Value
theorem fetch_ref {pv : Program} {w : World} {loose : List Str} {mean : ExcName → Option Value} {mg mb : Str → Option Value} {A₀ : Around} {dp un : Nat} {gd : Option (List Code)} {cn : Str} {cs : Scope} {a : Addr} {ccd : Value} {cl : List (Str × Addr)} {outer : List Env} {base h₀ : Heap} {L : Addr} {m : Str → Option Value} {s : Shared} {Q E : Value → Shared → Prop}
   {sh d0 tb R tp rf d1 : Addr} {oT : Obj} {v t : Value} {H : Heap → Prop} {k1 k2 k3 k4 t1 t2 t3 : Tok} {n : Nat} {rest : List (Addr × Obj)}
   (B : Below A₀ base outer h₀) (F : Fr h₀ L s.heap m) (X : (frag.heap_1 w.params).In h₀) (N : News h₀ L s.heap ((rf, instObj 254 d1) :: (d1, rfD w t1 t2 k1 k2) :: (sh, instObj 363 d0) :: (d0, shD w tb R k3 k4) :: (tb, oT) :: (tp, tup2 (.int 0 t3) v n) :: rest)) (T : Top pv loose mean mg mb h₀)
   (hk : cs.kind = .function) (hdp : dp + 2 < recursionLimit) (hun : un + 500 < cLine) (hT : Obj.IsDictOf (intKind pr w) oT [(1, .ref tp)]) (lo : (tb == sysModules) = false)
   (Z : KitX (frag.heap_1 w.params) v t H) (e : kitOne (frag.heap_1 w.params) t (.ref 254) = some false) (hx : v ≠ .builtin "__main__.__loader__#opaque") (hp : ∀ g L' h, News g L' h rest → H h)
   (ret : ∀ h' tk', Fr h₀ L h' m → News h₀ L h' ((rf, instObj 254 d1) :: (d1, rfD w t1 t2 k1 k2) :: (sh, instObj 363 d0) :: (d0, shD w tb R k3 k4) :: (tb, oT) :: (tp, tup2 (.int 0 t3) v n) :: rest) → Q v {s with heap := h', toks := tk'}) :
   wpAny (model pr w) (ktrTop dp un gd cn cs L a ccd cl outer) (call (.ref 299) [.ref sh, .ref rf]) Q E s := by
  walk_at "MY ENTER"
  (skip; repeat' (first | (k_unfold; (try dsimp only)) | (with_reducible refine gen3 ?_; intro _) | ((with_reducible show wpAny _ _ (exec (Stmt.Assign _ _ _) _) _ _ _); k_fold) | ((with_reducible show wpAny _ _ (exec (Stmt.Return _ _) _) _ _ _); k_fold) | ((with_reducible show wpAny _ _ (eval (PySem.Expr.Call _ _ _ _) _) _ _ _); k_fold) | with_reducible refine seq_next ?_ | with_reducible refine seq_ret ?_ | (first | ((with_reducible show wpAny _ _ (call (Value.builtin "isinstance") _ _) _ _ _); (refine' kia_one (by assumption) ?zzX ?zzp (by assumption) (by assumption) ?_; (case zzX => k_in); (case zzp => (rename (∀ g L' h, News g L' h _ → _) => zzhp9; exact zzhp9 _ _ _ (by walk_at "MY NEWS"))); intro zztk9; (try dsimp only))) | walk_at "MY STEP") | dsimp only | (leave1; (try dsimp only)) | fail "no step"))
  all_goals (try k_data)
  refine' r_forst ?kF (by rfl) (by rfl) (by intro _; rfl) ?kE ?_
  case kF => k_asm
  case kE => passes_own
  (skip; repeat' (first | (k_unfold; (try dsimp only)) | (with_reducible refine gen3 ?_; intro _) | ((with_reducible show wpAny _ _ (exec (Stmt.Assign _ _ _) _) _ _ _); k_fold) | ((with_reducible show wpAny _ _ (exec (Stmt.Return _ _) _) _ _ _); k_fold) | ((with_reducible show wpAny _ _ (eval (PySem.Expr.Call _ _ _ _) _) _ _ _); k_fold) | with_reducible refine seq_next ?_ | with_reducible refine seq_ret ?_ | (first | ((with_reducible show wpAny _ _ (call (Value.builtin "isinstance") _ _) _ _ _); (refine' kia_one (by assumption) ?zzX ?zzp (by assumption) (by assumption) ?_; (case zzX => k_in); (case zzp => (rename (∀ g L' h, News g L' h _ → _) => zzhp9; exact zzhp9 _ _ _ (by walk_at "MY NEWS"))); intro zztk9; (try dsimp only))) | walk_at "MY STEP") | dsimp only | (leave1; (try dsimp only)) | fail "no step"))
  all_goals (try k_data)
  rename IsRange _ _ _ _ _ _ _ _ => hrg
  refine' for_src (σ := FrS) (fun c y => if y = "hop" then c.x else if y = "here" then some c.here else if y = "generation" then c.ge else if y = "found" then c.fo else List.lookup y [(Str.ofString "value", .ref rf), (Str.ofString "self", .ref sh)])
    (fun _ => _) (fun i c => (i = 0 ∧ c.here = .ref rf) ∨ (i = 1 ∧ c.here = v)) ⟨none, .ref rf, none, none⟩ (src_range (by rfl) hrg (sm0 _ (by decide) (by decide)) (rg0 _ (by decide))) ?qF ?qN ?qp ?qturn ?qdone
  case qN => k_asm
  case qF =>
    refine fr_cast (by k_asm) ?_
    intro y
    dsimp only
    by_cases h0 : y = "hop"
    · subst h0; rfl
    by_cases h1 : y = "here"
    · subst h1; rfl
    by_cases h2 : y = "generation"
    · subst h2; rfl
    by_cases h3 : y = "found"
    · subst h3; rfl
    simp only [if_neg h0, if_neg h1, if_neg h2, if_neg h3]
    rfl
  case qp => exact .inl ⟨rfl, rfl⟩
  case qdone =>
    rintro c h tk hP
    exact absurd hP (by rintro (⟨h, -⟩ | ⟨h, -⟩) <;> exact absurd h (by decide))
  case qturn =>
    rintro I i x ⟨x1, here, ge, fo⟩ oI h tk hi ⟨t9, rfl⟩ hP hoff F9 N9
    dsimp only at hP hoff F9 N9 ⊢
    rcases hP with ⟨rfl, rfl⟩ | ⟨rfl, rfl⟩
    · (skip; repeat' (first | (k_unfold; (try dsimp only)) | (with_reducible refine gen3 ?_; intro _) | ((with_reducible show wpAny _ _ (exec (Stmt.Assign _ _ _) _) _ _ _); k_fold) | ((with_reducible show wpAny _ _ (exec (Stmt.Return _ _) _) _ _ _); k_fold) | ((with_reducible show wpAny _ _ (eval (PySem.Expr.Call _ _ _ _) _) _ _ _); k_fold) | with_reducible refine seq_next ?_ | with_reducible refine seq_ret ?_ | (first | ((with_reducible show wpAny _ _ (call (Value.builtin "isinstance") _ _) _ _ _); (refine' kia_one (by assumption) ?zzX ?zzp (by assumption) (by assumption) ?_; (case zzX => k_in); (case zzp => (rename (∀ g L' h, News g L' h _ → _) => zzhp9; exact zzhp9 _ _ _ (by walk_at "MY NEWS"))); intro zztk9; (try dsimp only))) | walk_at "MY STEP") | dsimp only | (leave1; (try dsimp only)) | fail "no step"))
      all_goals (try k_data)
      all_goals (try (exfalso; omega))
      · refine' ⟨⟨_, _, _, _⟩, _, _, rfl, fr_cast (by k_asm) ?qf, ?N, hoff, .inr ⟨by trivial, rfl⟩⟩
        case N => walk_at "MY NEWS"
        case qf => (intro y; dsimp only; by_cases h0 : y = "hop"; (subst h0; rfl); by_cases h1 : y = "here"; (subst h1; rfl); by_cases h2 : y = "generation"; (subst h2; rfl); by_cases h3 : y = "found"; (subst h3; rfl); simp only [if_neg h0, if_neg h1, if_neg h2, if_neg h3])
    · (skip; repeat' (first | (k_unfold; (try dsimp only)) | (with_reducible refine gen3 ?_; intro _) | ((with_reducible show wpAny _ _ (exec (Stmt.Assign _ _ _) _) _ _ _); k_fold) | ((with_reducible show wpAny _ _ (exec (Stmt.Return _ _) _) _ _ _); k_fold) | ((with_reducible show wpAny _ _ (eval (PySem.Expr.Call _ _ _ _) _) _ _ _); k_fold) | with_reducible refine seq_next ?_ | with_reducible refine seq_ret ?_ | (first | ((with_reducible show wpAny _ _ (call (Value.builtin "isinstance") _ _) _ _ _); (refine' kia_one (by assumption) ?zzX ?zzp (by assumption) (by assumption) ?_; (case zzX => k_in); (case zzp => (rename (∀ g L' h, News g L' h _ → _) => zzhp9; exact zzhp9 _ _ _ (by walk_at "MY NEWS"))); intro zztk9; (try dsimp only))) | walk_at "MY STEP") | dsimp only | (leave1; (try dsimp only)) | fail "no step"))
      all_goals (try k_data)
      exact ret _ _ (by k_asm) (news_tail (by k_asm))

end
section
/-- a value of the ledger that is no reference -/
def Plain (w : World) (news : List (Addr × Obj)) (v : Value) : Prop := ∃ t H, KitX (frag.heap_1 w.params) v t H ∧ kitOne (frag.heap_1 w.params) t (.ref 254) = some false ∧ v ≠ .builtin "__main__.__loader__#opaque" ∧ ∀ g L' h, News g L' h news → H h
section
variable {w : World} {news news' : List (Addr × Obj)}
theorem Plain.none : Plain w news .none := ⟨_, _, kitx_none, by kit_is, (by intro h; cases h), fun _ _ _ _ => trivial⟩
theorem Plain.int {i : Int} {t : Tok} : Plain w news (.int i t) := ⟨_, _, kitx_int, by kit_is, (by intro h; cases h), fun _ _ _ _ => trivial⟩
theorem Plain.dict {a : Addr} {o : Obj} (hm : (a, o) ∈ news) (hc : o.cls = .type "dict") : Plain w news (.ref a) := ⟨_, _, kitx_dict, by kit_is, (by intro h; cases h), fun _ _ _ N => kitAt_N N hm hc⟩
theorem Plain.list {a : Addr} {o : Obj} (hm : (a, o) ∈ news) (hc : o.cls = .type "list") : Plain w news (.ref a) := ⟨_, _, kitx_list, by kit_is, (by intro h; cases h), fun _ _ _ N => kitAt_N N hm hc⟩
theorem instN {g h : Heap} {L' x C d : Addr} {od : Obj} (N : News g L' h news) (h1 : (x, instObj C d) ∈ news) (h2 : (d, od) ∈ news) : InstAt h x (instObj C d) C (some od) := InstAt.of_news N h1 h2
theorem Plain.name {a d : Addr} {od : Obj} (h1 : (a, instObj 183 d) ∈ news) (h2 : (d, od) ∈ news) : Plain w news (.ref a) := ⟨_, _, kitx_own (ox := instObj 183 d) (od := od) (D := 183) (by k_is) (by k_is) (by k_is) (by k_is) (by k_is) (by k_is), by kit_is, (by intro h; cases h), fun _ _ _ N => instN N h1 h2⟩
theorem Plain.string {a d : Addr} {od : Obj} (h1 : (a, instObj 205 d) ∈ news) (h2 : (d, od) ∈ news) : Plain w news (.ref a) := ⟨_, _, kitx_own (ox := instObj 205 d) (od := od) (D := 205) (by k_is) (by k_is) (by k_is) (by k_is) (by k_is) (by k_is), by kit_is, (by intro h; cases h), fun _ _ _ N => instN N h1 h2⟩
theorem Plain.mono {v : Value} (P : Plain w news v) (h : ∀ p ∈ news, p ∈ news') : Plain w news' v := by
  obtain ⟨t, H, Z, e, hx, hp⟩ := P
  exact ⟨t, H, Z, e, hx, fun g L' h' N => hp g L' h' (news_sub N h)⟩
end
theorem fetchP {pv : Program} {w : World} {loose : List Str} {mean : ExcName → Option Value} {mg mb : Str → Option Value} {A₀ : Around} {dp un : Nat} {gd : Option (List Code)} {cn : Str} {cs : Scope} {a : Addr} {ccd : Value} {cl : List (Str × Addr)} {outer : List Env} {base h₀ : Heap} {L : Addr} {m : Str → Option Value} {s : Shared} {Q E : Value → Shared → Prop}
   {sh : Addr} {v : Value} {news : List (Addr × Obj)}
   (B : Below A₀ base outer h₀) (F : Fr h₀ L s.heap m) (X : (frag.heap_1 w.params).In h₀) (N : News h₀ L s.heap news) (T : Top pv loose mean mg mb h₀)
   (hk : cs.kind = .function)
   (hdp : dp + 2 < recursionLimit) (hun : un + 500 < cLine) (P : Plain w news v)
   (ret : ∀ h' tk', Fr h₀ L h' m → News h₀ L h' news → Q v {s with heap := h', toks := tk'}) :
   wpAny (model pr w) (ktrTop dp un gd cn cs L a ccd cl outer) (call (.ref 299) [.ref sh, v]) Q E s := by
  obtain ⟨t, H, Z, e, hx, hp⟩ := P
  exact fetch_ok B F X N T hk hdp hun Z e hx hp ret
theorem isDict_cls {KK : Type} [DecidableEq KK] {prog : Program} {w : World} {knd : KeyKind prog w KK} {o : Obj} {kvs : List (KK × Value)} (hd : Obj.IsDictOf knd o kvs) : o.cls = .type "dict" := by
  obtain ⟨_, _, h, _⟩ := hd
  exact h.1
section
theorem get_0 {pv : Program} {w : World} {loose : List Str} {mean : ExcName → Option Value} {mg mb : Str → Option Value} {A₀ : Around} {dp un : Nat} {gd : Option (List Code)} {cn : Str} {cs : Scope} {a : Addr} {ccd : Value} {cl : List (Str × Addr)} {outer : List Env} {base h₀ : Heap} {L : Addr} {m : Str → Option Value} {s : Shared} {Q E : Value → Shared → Prop}
   {sh d0 tb R hdd : Addr} {o : Obj} {kvs : List (Str × Value)} {key : Str} {tk k3 k4 : Tok} {v : Value} {rest : List (Addr × Obj)}
   (B : Below A₀ base outer h₀) (F : Fr h₀ L s.heap m) (X : (frag.heap_1 w.params).In h₀) (N : News h₀ L s.heap ((sh, instObj 363 d0) :: (d0, shD w tb R k3 k4) :: (hdd, o) :: rest)) (T : Top pv loose mean mg mb h₀)
   (hk : cs.kind = .function)
   (hdp : dp + 3 < recursionLimit) (hun : un + 600 < cLine) (hd : Obj.IsDictOf (PySem.strKind pr w) o kvs) (lo : (hdd == sysModules) = false) (hv : (valueAt kvs key).getD .none = v) (P : Plain w ((sh, instObj 363 d0) :: (d0, shD w tb R k3 k4) :: (hdd, o) :: rest) v)
   (ret : ∀ h' tk', Fr h₀ L h' m → News h₀ L h' ((sh, instObj 363 d0) :: (d0, shD w tb R k3 k4) :: (hdd, o) :: rest) → Q v {s with heap := h', toks := tk'}) :
   wpAny (model pr w) (ktrTop dp un gd cn cs L a ccd cl outer) (call (.ref 306) [.ref sh, .ref hdd, .str key tk]) Q E s := by
  subst hv
  walk_at "MY ENTER"
  (skip; repeat' (first | (k_unfold; (try dsimp only)) | (with_reducible refine gen3 ?_; intro _) | ((with_reducible show wpAny _ _ (exec (Stmt.Assign _ _ _) _) _ _ _); k_fold) | ((with_reducible show wpAny _ _ (exec (Stmt.Return _ _) _) _ _ _); k_fold) | ((with_reducible show wpAny _ _ (eval (PySem.Expr.Call _ _ _ _) _) _ _ _); k_fold) | with_reducible refine seq_next ?_ | with_reducible refine seq_ret ?_ | (first | ((with_reducible show wpAny _ _ (call (Value.builtin "dict.get") _ _) _ _ _); with_reducible ((k_dflt (refine kdg_get1 (knd := PySem.strKind _ _) (by k_asm) (by k_mem) (by k_asm) (by k_asm) (strKind_is _ _ _ _) _ (by rfl) ?_); (try dsimp only)))) | ((with_reducible show wpAny _ _ (getMethod (Value.ref _) _ _) _ _ _); with_reducible (((with_reducible show wpAny _ _ (getMethod (Value.ref _) (Str.ofString "get") _) _ _ _); k_dflt (refine kdg_method (knd := PySem.strKind _ _) (by k_asm) (by k_mem) (by k_asm) ?_)))) | walk_at "MY STEP") | (((with_reducible show wpAny _ _ (call (Value.ref 299) _) _ _ _); k_dflt (refine' fetchP ?zzB ?zzF ?zzX ?zzN ?zzT ?zzhk ?zzhdp ?zzhun ?zzP ?_; (case zzB => k_asm); (case zzF => k_asm); (case zzX => k_asm); (case zzN => k_asm); (case zzT => k_asm); (case zzhk => first | assumption | rfl); (case zzhdp => ktr_room); (case zzhun => units_room); (case zzP => assumption);); intro zzh9 zztk9 zzF9 zzN9; (try dsimp only))) | dsimp only | (leave1; (try dsimp only)) | fail "no step"))
  all_goals (try k_data)
  exact ret _ _ (by k_asm) (by k_asm)
end
/-- a shelf of the ledger, its table and its trailer -/
def ShIn (w : World) (news : List (Addr × Obj)) (sh tb R : Addr) : Prop := ∃ d0 k3 k4, (sh, instObj 363 d0) ∈ news ∧ (d0, shD w tb R k3 k4) ∈ news
/-- a dict of the ledger, its keys texts -/
def DIn (w : World) (news : List (Addr × Obj)) (a : Addr) (kvs : List (Str × Value)) : Prop := ∃ o, (a, o) ∈ news ∧ Obj.IsDictOf (PySem.strKind pr w) o kvs ∧ (a == sysModules) = false
theorem ShIn.mono {w : World} {news news' : List (Addr × Obj)} {sh tb R : Addr} (h : ShIn w news sh tb R) (hs : ∀ p ∈ news, p ∈ news') : ShIn w news' sh tb R := by
  obtain ⟨d0, k3, k4, h1, h2⟩ := h
  exact ⟨d0, k3, k4, hs _ h1, hs _ h2⟩
theorem DIn.mono {w : World} {news news' : List (Addr × Obj)} {a : Addr} {kvs : List (Str × Value)} (h : DIn w news a kvs) (hs : ∀ p ∈ news, p ∈ news') : DIn w news' a kvs := by
  obtain ⟨o, h1, h2, h3⟩ := h
  exact ⟨o, hs _ h1, h2, h3⟩
theorem DIn.plain {w : World} {news : List (Addr × Obj)} {a : Addr} {kvs : List (Str × Value)} (h : DIn w news a kvs) : Plain w news (.ref a) := by
  obtain ⟨o, h1, h2, h3⟩ := h
  exact Plain.dict h1 (isDict_cls h2)
theorem sub3 {x y z : Addr × Obj} {l : List (Addr × Obj)} : ∀ p ∈ l, p ∈ x :: y :: z :: l := fun _ h => .tail _ (.tail _ (.tail _ h))
theorem get_ok {pv : Program} {w : World} {loose : List Str} {mean : ExcName → Option Value} {mg mb : Str → Option Value} {A₀ : Around} {dp un : Nat} {gd : Option (List Code)} {cn : Str} {cs : Scope} {a : Addr} {ccd : Value} {cl : List (Str × Addr)} {outer : List Env} {base h₀ : Heap} {L : Addr} {m : Str → Option Value} {s : Shared} {Q E : Value → Shared → Prop}
   {sh tb R hdd : Addr} {kvs : List (Str × Value)} {key : Str} {tk : Tok} {v : Value} {news : List (Addr × Obj)}
   (B : Below A₀ base outer h₀) (F : Fr h₀ L s.heap m) (X : (frag.heap_1 w.params).In h₀) (N : News h₀ L s.heap news) (T : Top pv loose mean mg mb h₀)
   (hk : cs.kind = .function)
   (hdp : dp + 3 < recursionLimit) (hun : un + 600 < cLine) (hsh : ShIn w news sh tb R) (hd : DIn w news hdd kvs) (hv : (valueAt kvs key).getD .none = v) (P : Plain w news v)
   (ret : ∀ h' tk', Fr h₀ L h' m → News h₀ L h' news → Q v {s with heap := h', toks := tk'}) :
   wpAny (model pr w) (ktrTop dp un gd cn cs L a ccd cl outer) (call (.ref 306) [.ref sh, .ref hdd, .str key tk]) Q E s := by
  obtain ⟨d0, k3, k4, h1, h2⟩ := hsh
  obtain ⟨o, h3, h4, h5⟩ := hd
  exact get_0 B F X (news_pick N h1 (news_pick N h2 (news_pick N h3 N))) T hk hdp hun h4 h5 hv (P.mono sub3) fun h' tk' F' N' => ret h' tk' F' (news_sub N' sub3)
section
theorem root_0 {pv : Program} {w : World} {loose : List Str} {mean : ExcName → Option Value} {mg mb : Str → Option Value} {A₀ : Around} {dp un : Nat} {gd : Option (List Code)} {cn : Str} {cs : Scope} {a : Addr} {ccd : Value} {cl : List (Str × Addr)} {outer : List Env} {base h₀ : Heap} {L : Addr} {m : Str → Option Value} {s : Shared} {Q E : Value → Shared → Prop}
   {sh d0 tb R tp rf d1 V : Addr} {oT oR oV : Obj} {kvs : List (Str × Value)} {k1 k2 k3 k4 t1 t2 t3 : Tok} {n : Nat} {rest : List (Addr × Obj)}
   (B : Below A₀ base outer h₀) (F : Fr h₀ L s.heap m) (X : (frag.heap_1 w.params).In h₀) (N : News h₀ L s.heap ((rf, instObj 254 d1) :: (d1, rfD w t1 t2 k1 k2) :: (sh, instObj 363 d0) :: (d0, shD w tb R k3 k4) :: (tb, oT) :: (tp, tup2 (.int 0 t3) (.ref V) n) :: (V, oV) :: (R, oR) :: rest)) (T : Top pv loose mean mg mb h₀)
   (hk : cs.kind = .function)
   (hdp : dp + 5 < recursionLimit) (hun : un + 800 < cLine) (hT : Obj.IsDictOf (intKind pr w) oT [(1, .ref tp)]) (lo : (tb == sysModules) = false) (hR : Obj.IsDictOf (PySem.strKind pr w) oR [(Str.ofString "Root", .ref rf)]) (lo2 : (R == sysModules) = false) (hV : Obj.IsDictOf (PySem.strKind pr w) oV kvs)
   (ret : ∀ h' tk', Fr h₀ L h' m → News h₀ L h' ((rf, instObj 254 d1) :: (d1, rfD w t1 t2 k1 k2) :: (sh, instObj 363 d0) :: (d0, shD w tb R k3 k4) :: (tb, oT) :: (tp, tup2 (.int 0 t3) (.ref V) n) :: (V, oV) :: (R, oR) :: rest) → Q (.ref V) {s with heap := h', toks := tk'}) :
   wpAny (model pr w) (ktrTop dp un gd cn cs L a ccd cl outer) (call (.ref 355) [.ref sh]) Q E s := by
  walk_at "MY ENTER"
  (skip; repeat' (first | (k_unfold; (try dsimp only)) | (with_reducible refine gen3 ?_; intro _) | ((with_reducible show wpAny _ _ (exec (Stmt.Assign _ _ _) _) _ _ _); k_fold) | ((with_reducible show wpAny _ _ (exec (Stmt.Return _ _) _) _ _ _); k_fold) | ((with_reducible show wpAny _ _ (eval (PySem.Expr.Call _ _ _ _) _) _ _ _); k_fold) | with_reducible refine seq_next ?_ | with_reducible refine seq_ret ?_ | (first | ((with_reducible show wpAny _ _ (call (Value.builtin "isinstance") _ _) _ _ _); with_reducible (((with_reducible show wpAny _ _ (call _ [Value.ref _, Value.type "dict"]) _ _ _); k_dflt (refine' kia_one kitx_dict ?zzX ?zzp ?zzee ?zznb ?_; (case zzX => k_in); (case zzp => (refine' kitAt_N ?zzN ?zzm ?zzc; (case zzN => k_asm); (case zzm => k_mem); (case zzc => exact isDict_cls (by assumption)))); (case zzee => kit_is); (case zznb => (intro zzq; cases zzq))); intro zztk9; (try dsimp only)))) | walk_at "MY STEP") | (first | ((with_reducible show wpAny _ _ (call (Value.ref 306) _) _ _ _); walk_at "MY ENTER") | ((with_reducible show wpAny _ _ (call (Value.ref 299) _) _ _ _); k_dflt (refine' fetch_ref ?zzB ?zzF ?zzX ?zzN ?zzT ?zzhk ?zzhdp ?zzhun ?zzhT ?zzlo ?zzZ ?zze ?zzhx ?zzhp ?_; (case zzB => k_asm); (case zzF => k_asm); (case zzX => k_asm); (case zzN => walk_at "MY NEWS"); (case zzT => k_asm); (case zzhk => first | assumption | rfl); (case zzhdp => ktr_room); (case zzhun => units_room); (case zzhT => assumption); (case zzlo => assumption); (case zzZ => exact kitx_dict); (case zze => kit_is); (case zzhx => (intro zzh; cases zzh)); (case zzhp => exact fun g L' zzh N => kitAt_N N (.head _) (isDict_cls (by assumption)))); intro zzh9 zztk9 zzF9 zzN9; (try dsimp only))) | dsimp only | (leave1; (try dsimp only)) | fail "no step"))
  all_goals (try k_data)
  exact ret _ _ (by k_asm) (by walk_at "MY NEWS")
end
/-- a shelf whose root is the dict V -/
def RootIn (w : World) (news : List (Addr × Obj)) (sh V : Addr) : Prop := ∃ tb R d0 k3 k4 tp rf d1 oT oR t1 t2 t3 k1 k2 n, ((rf, instObj 254 d1) ∈ news ∧ (d1, rfD w t1 t2 k1 k2) ∈ news ∧ (sh, instObj 363 d0) ∈ news ∧ (d0, shD w tb R k3 k4) ∈ news) ∧ ((tb, oT) ∈ news ∧ (tp, tup2 (.int 0 t3) (.ref V) n) ∈ news ∧ (R, oR) ∈ news) ∧
  Obj.IsDictOf (intKind pr w) oT [(1, .ref tp)] ∧ (tb == sysModules) = false ∧ Obj.IsDictOf (PySem.strKind pr w) oR [(Str.ofString "Root", .ref rf)] ∧ (R == sysModules) = false
theorem sub8 {a b c d e f g i : Addr × Obj} {l : List (Addr × Obj)} : ∀ p ∈ l, p ∈ a :: b :: c :: d :: e :: f :: g :: i :: l := fun _ h => .tail _ (.tail _ (.tail _ (.tail _ (.tail _ (.tail _ (.tail _ (.tail _ h)))))))
theorem root_ok {pv : Program} {w : World} {loose : List Str} {mean : ExcName → Option Value} {mg mb : Str → Option Value} {A₀ : Around} {dp un : Nat} {gd : Option (List Code)} {cn : Str} {cs : Scope} {a : Addr} {ccd : Value} {cl : List (Str × Addr)} {outer : List Env} {base h₀ : Heap} {L : Addr} {m : Str → Option Value} {s : Shared} {Q E : Value → Shared → Prop}
   {sh V : Addr} {kvs : List (Str × Value)} {news : List (Addr × Obj)}
   (B : Below A₀ base outer h₀) (F : Fr h₀ L s.heap m) (X : (frag.heap_1 w.params).In h₀) (N : News h₀ L s.heap news) (T : Top pv loose mean mg mb h₀)
   (hk : cs.kind = .function)
   (hdp : dp + 5 < recursionLimit) (hun : un + 800 < cLine) (hr : RootIn w news sh V) (hV : DIn w news V kvs)
   (ret : ∀ h' tk', Fr h₀ L h' m → News h₀ L h' news → Q (.ref V) {s with heap := h', toks := tk'}) :
   wpAny (model pr w) (ktrTop dp un gd cn cs L a ccd cl outer) (call (.ref 355) [.ref sh]) Q E s := by
  obtain ⟨tb, R, d0, k3, k4, tp, rf, d1, oT, oR, t1, t2, t3, k1, k2, n, ⟨m1, m2, m3, m4⟩, ⟨m5, m6, m7⟩, e1, e2, e3, e4⟩ := hr
  obtain ⟨oV, m8, e5, e6⟩ := hV
  exact root_0 B F X (news_pick N m1 (news_pick N m2 (news_pick N m3 (news_pick N m4 (news_pick N m5 (news_pick N m6 (news_pick N m8 (news_pick N m7 N)))))))) T hk hdp hun e1 e2 e3 e4 e5 fun h' tk' F' N' => ret h' tk' F' (news_sub N' sub8)

end
section
def styles : List Str := [Str.ofString "D", Str.ofString "R", Str.ofString "r", Str.ofString "A", Str.ofString "a", Str.ofString ""]
theorem r_styles {prog : Program} {w : World} {A : Around} {E : Value → Shared → Prop} {s : Shared} {Q : Value → Shared → Prop} {h₀ : Heap} {L : Addr} {m : Str → Option Value} {x : Str} {t : Tok} (F : Fr h₀ L s.heap m) (X : (frag.heap_1 w.params).In h₀) (hx : styles.any (· == x) = true)
    (h : Q (.bool false) s) : wpAny (model prog w) A (compareOp .NotIn (.str x t) (.ref 442)) Q E s := by
  refine' notin_tuple_strs (ys := styles) (tupK (X.keeps F.keep) ?hl) ?hi ?_
  case hl => k_is
  case hi => exact .cons _ _ (.cons _ _ (.cons _ _ (.cons _ _ (.cons _ _ (.cons _ _ .nil)))))
  rw [hx]; exact h
/-- the dicts of the fields of a name and of a string -/
abbrev nmD (w : World) (x : Str) (t k : Tok) : Obj := dictOf [{ hash := PyData.keyHash w.params (Str.ofString "text"), key := .str (Str.ofString "text") k, val := .str x t }] 1
abbrev stD (w : World) (b : Array UInt8) (t k1 k2 : Tok) : Obj := dictOf [{ hash := PyData.keyHash w.params (Str.ofString "octets"), key := .str (Str.ofString "octets") k1, val := .bytes b t }, { hash := PyData.keyHash w.params (Str.ofString "is_hex"), key := .str (Str.ofString "is_hex") k2, val := .bool false }] 2
def NmIn (w : World) (news : List (Addr × Obj)) (v : Value) (x : Str) : Prop := (v = .none ∧ x = Str.ofString "") ∨ ∃ a d t k, v = .ref a ∧ (a, instObj 183 d) ∈ news ∧ (d, nmD w x t k) ∈ news
def StIn (w : World) (news : List (Addr × Obj)) (v : Value) (cs : List Int) : Prop := (v = .none ∧ cs = []) ∨ ∃ a d b ks t k1 k2, v = .ref a ∧ (a, instObj 205 d) ∈ news ∧ (d, stD w b t k1 k2) ∈ news ∧ KBw.bInts b = ks ∧ ks.length ≤ 1000 ∧ rdT ks = cs
def NoIn (v : Value) (n : Int) : Prop := (v = .none ∧ n = 1) ∨ ∃ t, v = .int n t
theorem NmIn.plain {w : World} {news : List (Addr × Obj)} {v : Value} {x : Str} (h : NmIn w news v x) : Plain w news v := by
  rcases h with ⟨rfl, -⟩ | ⟨a, d, t, k, rfl, h1, h2⟩
  · exact Plain.none
  · exact Plain.name h1 h2
theorem StIn.plain {w : World} {news : List (Addr × Obj)} {v : Value} {cs : List Int} (h : StIn w news v cs) : Plain w news v := by
  rcases h with ⟨rfl, -⟩ | ⟨a, d, b, ks, t, k1, k2, rfl, h1, h2, -⟩
  · exact Plain.none
  · exact Plain.string h1 h2
theorem NoIn.plain {w : World} {news : List (Addr × Obj)} {v : Value} {n : Int} (h : NoIn v n) : Plain w news v := by
  rcases h with ⟨rfl, -⟩ | ⟨t, rfl⟩
  · exact Plain.none
  · exact Plain.int
theorem NmIn.mono {w : World} {news news' : List (Addr × Obj)} {v : Value} {x : Str} (h : NmIn w news v x) (hs : ∀ p ∈ news, p ∈ news') : NmIn w news' v x := by
  rcases h with h | ⟨a, d, t, k, e, h1, h2⟩
  · exact .inl h
  · exact .inr ⟨a, d, t, k, e, hs _ h1, hs _ h2⟩
theorem StIn.mono {w : World} {news news' : List (Addr × Obj)} {v : Value} {cs : List Int} (h : StIn w news v cs) (hs : ∀ p ∈ news, p ∈ news') : StIn w news' v cs := by
  rcases h with h | ⟨a, d, b, ks, t, k1, k2, e, h1, h2, r⟩
  · exact .inl h
  · exact .inr ⟨a, d, b, ks, t, k1, k2, e, hs _ h1, hs _ h2, r⟩
abbrev tup4 (a b c d : Value) (n : Nat := 0) : Obj := { cls := .type "tuple", data := .seq [a, b, c, d].toArray n }
section
theorem range_0 {pv : Program} {w : World} {loose : List Str} {mean : ExcName → Option Value} {mg mb : Str → Option Value} {A₀ : Around} {dp un : Nat} {gd : Option (List Code)} {cn : Str} {cs : Scope} {a : Addr} {ccd : Value} {cl : List (Str × Addr)} {outer : List Env} {base h₀ : Heap} {L : Addr} {m : Str → Option Value} {s : Shared} {Q E : Value → Shared → Prop}
   {sh d0 tb R hdd : Addr} {o : Obj} {kvs : List (Str × Value)} {k3 k4 tf : Tok} {vS vP vN : Value} {x : Str} {ks : List Int} {i n : Int} {rest : List (Addr × Obj)}
   (B : Below A₀ base outer h₀) (F : Fr h₀ L s.heap m) (X : (frag.heap_1 w.params).In h₀) (N : News h₀ L s.heap ((sh, instObj 363 d0) :: (d0, shD w tb R k3 k4) :: (hdd, o) :: rest)) (T : Top pv loose mean mg mb h₀)
   (hk : cs.kind = .function)
   (hdp : dp + 5 < recursionLimit) (hun : un + 800 < cLine) (hd : Obj.IsDictOf (PySem.strKind pr w) o kvs) (lo : (hdd == sysModules) = false)
   (eS : (valueAt kvs (Str.ofString "S")).getD .none = vS) (eP : (valueAt kvs (Str.ofString "P")).getD .none = vP) (eN : (valueAt kvs (Str.ofString "St")).getD .none = vN) (hS : NmIn w ((sh, instObj 363 d0) :: (d0, shD w tb R k3 k4) :: (hdd, o) :: rest) vS x) (hx : styles.any (· == x) = true) (hP : StIn w ((sh, instObj 363 d0) :: (d0, shD w tb R k3 k4) :: (hdd, o) :: rest) vP ks) (hN : NoIn vN n)
   (ret : ∀ D tf tx tc tn k h' tk', Fr h₀ L h' m → News h₀ L h' ((D, tup4 (.int i tf) (.str x tx) (.str (KStt.txt ks) tc) (.int n tn) k) :: ((sh, instObj 363 d0) :: (d0, shD w tb R k3 k4) :: (hdd, o) :: rest)) → AllLt D ((sh, instObj 363 d0) :: (d0, shD w tb R k3 k4) :: (hdd, o) :: rest) → Q (.ref D) {s with heap := h', toks := tk'}) :
   wpAny (model pr w) (ktrTop dp un gd cn cs L a ccd cl outer) (call (.ref 498) [.ref sh, .int i tf, .ref hdd]) Q E s := by
  have PS := hS.plain
  have PP := hP.plain
  have PN : Plain w ((sh, instObj 363 d0) :: (d0, shD w tb R k3 k4) :: (hdd, o) :: rest) vN := hN.plain
  have PD : Plain w ((sh, instObj 363 d0) :: (d0, shD w tb R k3 k4) :: (hdd, o) :: rest) (.ref hdd) := Plain.dict (.tail _ (.tail _ (.head _))) (isDict_cls hd)
  walk_at "MY ENTER"
  ((skip; repeat' ((fail_if_success (with_reducible show wpAny _ _ (execs (Stmt.Assign _ (PySem.Expr.IfExp _ _ _ _) _ :: _) _) _ _ _)); first | (k_unfold; (try dsimp only)) | (with_reducible refine gen3 ?_; intro _) | ((with_reducible show wpAny _ _ (exec (Stmt.Assign _ _ _) _) _ _ _); k_fold) | ((with_reducible show wpAny _ _ (exec (Stmt.Return _ _) _) _ _ _); k_fold) | ((with_reducible show wpAny _ _ (eval (PySem.Expr.Call _ _ _ _) _) _ _ _); k_fold) | with_reducible refine seq_next ?_ | with_reducible refine seq_ret ?_ | (first | ((with_reducible show wpAny _ _ (compareOp CmpOp.NotIn (Value.str _ _) (Value.ref _)) _ _ _); with_reducible ((refine' r_styles ?zzF ?zzX ?zzhx ?_; (case zzF => k_asm); (case zzX => k_asm); (case zzhx => assumption)))) | ((with_reducible show wpAny _ _ (call (Value.builtin "isinstance") _ _) _ _ _); with_reducible (((with_reducible show wpAny _ _ (call _ [Value.ref _, Value.type "dict"]) _ _ _); k_dflt (refine' kia_one kitx_dict ?zzX ?zzp ?zzee ?zznb ?_; (case zzX => k_in); (case zzp => (refine' kitAt_N ?zzN ?zzm ?zzc; (case zzN => k_asm); (case zzm => k_mem); (case zzc => exact isDict_cls (by assumption)))); (case zzee => kit_is); (case zznb => (intro zzq; cases zzq))); intro zztk9; (try dsimp only)))) | walk_at "MY STEP") | (first | ((with_reducible show wpAny _ _ (call (Value.ref 478) _) _ _ _); k_dflt (refine' pt_ok ?zzB ?zzF ?zzX ?zzN ?zzT ?zzhk ?zzhdp ?zzhun ?zzhks ?zzhlen ?_; (case zzB => k_asm); (case zzF => k_asm); (case zzX => k_asm); (case zzN => k_asm); (case zzT => k_asm); (case zzhk => first | assumption | rfl); (case zzhdp => ktr_room); (case zzhun => units_room); (case zzhks => assumption); (case zzhlen => assumption)); intro zzt9 zzh9 zztk9 zzF9 zzN9; (try dsimp only)) | ((with_reducible show wpAny _ _ (call (Value.ref 306) _) _ _ _); k_dflt (refine' get_ok ?zzB ?zzF ?zzX ?zzN ?zzT ?zzhk ?zzhdp ?zzhun ?zzhsh ?zzhd ?zzhv ?zzP ?_; (case zzB => k_asm); (case zzF => k_asm); (case zzX => k_asm); (case zzN => k_asm); (case zzT => k_asm); (case zzhk => first | assumption | rfl); (case zzhdp => ktr_room); (case zzhun => units_room); (case zzhsh => exact ⟨_, _, _, by k_mem, by k_mem⟩); (case zzhd => exact ⟨_, by k_mem, by assumption, by assumption⟩); (case zzhv => assumption); (case zzP => assumption);); intro zzh9 zztk9 zzF9 zzN9; (try dsimp only)) | ((with_reducible show wpAny _ _ (call (Value.ref 299) _) _ _ _); k_dflt (refine' fetchP ?zzB ?zzF ?zzX ?zzN ?zzT ?zzhk ?zzhdp ?zzhun ?zzP ?_; (case zzB => k_asm); (case zzF => k_asm); (case zzX => k_asm); (case zzN => k_asm); (case zzT => k_asm); (case zzhk => first | assumption | rfl); (case zzhdp => ktr_room); (case zzhun => units_room); (case zzP => assumption);); intro zzh9 zztk9 zzF9 zzN9; (try dsimp only))) | dsimp only | (leave1; (try dsimp only)))))
  all_goals (try k_data)
  rename News _ _ _ _ => N9
  rename Fr _ _ _ _ => F9
  refine cut_set (Str.ofString "word") (fun v => ∃ t, v = Value.str x t) F9 (news_tail N9) ?cutA ?cutB
  case cutA =>
    rcases hS with ⟨rfl, rfl⟩ | ⟨aS, dS, tS, kS, rfl, mS1, mS2⟩
    all_goals (try (have N8 := news_pick N9 (.tail _ mS1) (news_pick N9 (.tail _ mS2) N9); clear N9))
    all_goals ((skip; repeat' (first | (k_unfold; (try dsimp only)) | (with_reducible refine gen3 ?_; intro _) | ((with_reducible show wpAny _ _ (exec (Stmt.Assign _ _ _) _) _ _ _); k_fold) | ((with_reducible show wpAny _ _ (exec (Stmt.Return _ _) _) _ _ _); k_fold) | ((with_reducible show wpAny _ _ (eval (PySem.Expr.Call _ _ _ _) _) _ _ _); k_fold) | with_reducible refine seq_next ?_ | with_reducible refine seq_ret ?_ | (first | ((with_reducible show wpAny _ _ (compareOp CmpOp.NotIn (Value.str _ _) (Value.ref _)) _ _ _); with_reducible ((refine' r_styles ?zzF ?zzX ?zzhx ?_; (case zzF => k_asm); (case zzX => k_asm); (case zzhx => assumption)))) | ((with_reducible show wpAny _ _ (call (Value.builtin "isinstance") _ _) _ _ _); with_reducible (((with_reducible show wpAny _ _ (call _ [Value.ref _, Value.type "dict"]) _ _ _); k_dflt (refine' kia_one kitx_dict ?zzX ?zzp ?zzee ?zznb ?_; (case zzX => k_in); (case zzp => (refine' kitAt_N ?zzN ?zzm ?zzc; (case zzN => k_asm); (case zzm => k_mem); (case zzc => exact isDict_cls (by assumption)))); (case zzee => kit_is); (case zznb => (intro zzq; cases zzq))); intro zztk9; (try dsimp only)))) | walk_at "MY STEP") | (first | ((with_reducible show wpAny _ _ (call (Value.ref 478) _) _ _ _); k_dflt (refine' pt_ok ?zzB ?zzF ?zzX ?zzN ?zzT ?zzhk ?zzhdp ?zzhun ?zzhks ?zzhlen ?_; (case zzB => k_asm); (case zzF => k_asm); (case zzX => k_asm); (case zzN => k_asm); (case zzT => k_asm); (case zzhk => first | assumption | rfl); (case zzhdp => ktr_room); (case zzhun => units_room); (case zzhks => assumption); (case zzhlen => assumption)); intro zzt9 zzh9 zztk9 zzF9 zzN9; (try dsimp only)) | ((with_reducible show wpAny _ _ (call (Value.ref 306) _) _ _ _); k_dflt (refine' get_ok ?zzB ?zzF ?zzX ?zzN ?zzT ?zzhk ?zzhdp ?zzhun ?zzhsh ?zzhd ?zzhv ?zzP ?_; (case zzB => k_asm); (case zzF => k_asm); (case zzX => k_asm); (case zzN => k_asm); (case zzT => k_asm); (case zzhk => first | assumption | rfl); (case zzhdp => ktr_room); (case zzhun => units_room); (case zzhsh => exact ⟨_, _, _, by k_mem, by k_mem⟩); (case zzhd => exact ⟨_, by k_mem, by assumption, by assumption⟩); (case zzhv => assumption); (case zzP => assumption);); intro zzh9 zztk9 zzF9 zzN9; (try dsimp only)) | ((with_reducible show wpAny _ _ (call (Value.ref 299) _) _ _ _); k_dflt (refine' fetchP ?zzB ?zzF ?zzX ?zzN ?zzT ?zzhk ?zzhdp ?zzhun ?zzP ?_; (case zzB => k_asm); (case zzF => k_asm); (case zzX => k_asm); (case zzN => k_asm); (case zzT => k_asm); (case zzhk => first | assumption | rfl); (case zzhdp => ktr_room); (case zzhun => units_room); (case zzP => assumption);); intro zzh9 zztk9 zzF9 zzN9; (try dsimp only))) | dsimp only | (leave1; (try dsimp only)) | fail "no step")))
    all_goals (try k_data)
    all_goals (exact ⟨_, _, _, ⟨_, rfl⟩, rfl, by k_asm, by walk_at "MY NEWS"⟩)
  case cutB =>
    clear F9 N9
    rintro _ h5 tk5 ⟨t5, rfl⟩ F5 N5
    refine cut_same F5 N5 ?cutC ?cutD
    case cutC =>
      rcases hS with ⟨rfl, rfl⟩ | ⟨aS, dS, tS, kS, rfl, mS1, mS2⟩
      all_goals (try (have N8 := news_pick N5 mS1 (news_pick N5 mS2 N5); clear N5))
      all_goals ((skip; repeat' (first | (k_unfold; (try dsimp only)) | (with_reducible refine gen3 ?_; intro _) | ((with_reducible show wpAny _ _ (exec (Stmt.Assign _ _ _) _) _ _ _); k_fold) | ((with_reducible show wpAny _ _ (exec (Stmt.Return _ _) _) _ _ _); k_fold) | ((with_reducible show wpAny _ _ (eval (PySem.Expr.Call _ _ _ _) _) _ _ _); k_fold) | with_reducible refine seq_next ?_ | with_reducible refine seq_ret ?_ | (first | ((with_reducible show wpAny _ _ (compareOp CmpOp.NotIn (Value.str _ _) (Value.ref _)) _ _ _); with_reducible ((refine' r_styles ?zzF ?zzX ?zzhx ?_; (case zzF => k_asm); (case zzX => k_asm); (case zzhx => assumption)))) | ((with_reducible show wpAny _ _ (call (Value.builtin "isinstance") _ _) _ _ _); with_reducible (((with_reducible show wpAny _ _ (call _ [Value.ref _, Value.type "dict"]) _ _ _); k_dflt (refine' kia_one kitx_dict ?zzX ?zzp ?zzee ?zznb ?_; (case zzX => k_in); (case zzp => (refine' kitAt_N ?zzN ?zzm ?zzc; (case zzN => k_asm); (case zzm => k_mem); (case zzc => exact isDict_cls (by assumption)))); (case zzee => kit_is); (case zznb => (intro zzq; cases zzq))); intro zztk9; (try dsimp only)))) | walk_at "MY STEP") | (first | ((with_reducible show wpAny _ _ (call (Value.ref 478) _) _ _ _); k_dflt (refine' pt_ok ?zzB ?zzF ?zzX ?zzN ?zzT ?zzhk ?zzhdp ?zzhun ?zzhks ?zzhlen ?_; (case zzB => k_asm); (case zzF => k_asm); (case zzX => k_asm); (case zzN => k_asm); (case zzT => k_asm); (case zzhk => first | assumption | rfl); (case zzhdp => ktr_room); (case zzhun => units_room); (case zzhks => assumption); (case zzhlen => assumption)); intro zzt9 zzh9 zztk9 zzF9 zzN9; (try dsimp only)) | ((with_reducible show wpAny _ _ (call (Value.ref 306) _) _ _ _); k_dflt (refine' get_ok ?zzB ?zzF ?zzX ?zzN ?zzT ?zzhk ?zzhdp ?zzhun ?zzhsh ?zzhd ?zzhv ?zzP ?_; (case zzB => k_asm); (case zzF => k_asm); (case zzX => k_asm); (case zzN => k_asm); (case zzT => k_asm); (case zzhk => first | assumption | rfl); (case zzhdp => ktr_room); (case zzhun => units_room); (case zzhsh => exact ⟨_, _, _, by k_mem, by k_mem⟩); (case zzhd => exact ⟨_, by k_mem, by assumption, by assumption⟩); (case zzhv => assumption); (case zzP => assumption);); intro zzh9 zztk9 zzF9 zzN9; (try dsimp only)) | ((with_reducible show wpAny _ _ (call (Value.ref 299) _) _ _ _); k_dflt (refine' fetchP ?zzB ?zzF ?zzX ?zzN ?zzT ?zzhk ?zzhdp ?zzhun ?zzP ?_; (case zzB => k_asm); (case zzF => k_asm); (case zzX => k_asm); (case zzN => k_asm); (case zzT => k_asm); (case zzhk => first | assumption | rfl); (case zzhdp => ktr_room); (case zzhun => units_room); (case zzP => assumption);); intro zzh9 zztk9 zzF9 zzN9; (try dsimp only))) | dsimp only | (leave1; (try dsimp only)) | fail "no step")))
      all_goals (try k_data)
      all_goals (exact ⟨_, _, rfl, by k_asm, by walk_at "MY NEWS"⟩)
    case cutD =>
      clear F5 N5
      intro h6 tk6 F6 N6
      refine cut_same F6 N6 ?cutE ?cutF
      case cutE =>
        rcases hP with ⟨rfl, rfl⟩ | ⟨aP, dP, bP, ksP, tP, kP1, kP2, rfl, mP1, mP2, eb, el, er⟩
        all_goals (try (have N8 := news_pick N6 mP1 (news_pick N6 mP2 N6); clear N6))
        all_goals ((skip; repeat' (first | (k_unfold; (try dsimp only)) | (with_reducible refine gen3 ?_; intro _) | ((with_reducible show wpAny _ _ (exec (Stmt.Assign _ _ _) _) _ _ _); k_fold) | ((with_reducible show wpAny _ _ (exec (Stmt.Return _ _) _) _ _ _); k_fold) | ((with_reducible show wpAny _ _ (eval (PySem.Expr.Call _ _ _ _) _) _ _ _); k_fold) | with_reducible refine seq_next ?_ | with_reducible refine seq_ret ?_ | (first | ((with_reducible show wpAny _ _ (compareOp CmpOp.NotIn (Value.str _ _) (Value.ref _)) _ _ _); with_reducible ((refine' r_styles ?zzF ?zzX ?zzhx ?_; (case zzF => k_asm); (case zzX => k_asm); (case zzhx => assumption)))) | ((with_reducible show wpAny _ _ (call (Value.builtin "isinstance") _ _) _ _ _); with_reducible (((with_reducible show wpAny _ _ (call _ [Value.ref _, Value.type "dict"]) _ _ _); k_dflt (refine' kia_one kitx_dict ?zzX ?zzp ?zzee ?zznb ?_; (case zzX => k_in); (case zzp => (refine' kitAt_N ?zzN ?zzm ?zzc; (case zzN => k_asm); (case zzm => k_mem); (case zzc => exact isDict_cls (by assumption)))); (case zzee => kit_is); (case zznb => (intro zzq; cases zzq))); intro zztk9; (try dsimp only)))) | walk_at "MY STEP") | (first | ((with_reducible show wpAny _ _ (call (Value.ref 478) _) _ _ _); k_dflt (refine' pt_ok ?zzB ?zzF ?zzX ?zzN ?zzT ?zzhk ?zzhdp ?zzhun ?zzhks ?zzhlen ?_; (case zzB => k_asm); (case zzF => k_asm); (case zzX => k_asm); (case zzN => k_asm); (case zzT => k_asm); (case zzhk => first | assumption | rfl); (case zzhdp => ktr_room); (case zzhun => units_room); (case zzhks => assumption); (case zzhlen => assumption)); intro zzt9 zzh9 zztk9 zzF9 zzN9; (try dsimp only)) | ((with_reducible show wpAny _ _ (call (Value.ref 306) _) _ _ _); k_dflt (refine' get_ok ?zzB ?zzF ?zzX ?zzN ?zzT ?zzhk ?zzhdp ?zzhun ?zzhsh ?zzhd ?zzhv ?zzP ?_; (case zzB => k_asm); (case zzF => k_asm); (case zzX => k_asm); (case zzN => k_asm); (case zzT => k_asm); (case zzhk => first | assumption | rfl); (case zzhdp => ktr_room); (case zzhun => units_room); (case zzhsh => exact ⟨_, _, _, by k_mem, by k_mem⟩); (case zzhd => exact ⟨_, by k_mem, by assumption, by assumption⟩); (case zzhv => assumption); (case zzP => assumption);); intro zzh9 zztk9 zzF9 zzN9; (try dsimp only)) | ((with_reducible show wpAny _ _ (call (Value.ref 299) _) _ _ _); k_dflt (refine' fetchP ?zzB ?zzF ?zzX ?zzN ?zzT ?zzhk ?zzhdp ?zzhun ?zzP ?_; (case zzB => k_asm); (case zzF => k_asm); (case zzX => k_asm); (case zzN => k_asm); (case zzT => k_asm); (case zzhk => first | assumption | rfl); (case zzhdp => ktr_room); (case zzhun => units_room); (case zzP => assumption);); intro zzh9 zztk9 zzF9 zzN9; (try dsimp only))) | dsimp only | (leave1; (try dsimp only)) | fail "no step")))
        all_goals (try k_data)
        all_goals (exact ⟨_, _, rfl, by k_asm, by walk_at "MY NEWS"⟩)
      case cutF =>
        clear F6 N6
        intro h7 tk7 F7 N7
        refine cut_set (Str.ofString "number") (fun v => ∃ t, v = Value.int n t) F7 N7 ?cutG ?cutH
        case cutG =>
          rcases hN with ⟨rfl, rfl⟩ | ⟨tN, rfl⟩
          all_goals ((skip; repeat' (first | (k_unfold; (try dsimp only)) | (with_reducible refine gen3 ?_; intro _) | ((with_reducible show wpAny _ _ (exec (Stmt.Assign _ _ _) _) _ _ _); k_fold) | ((with_reducible show wpAny _ _ (exec (Stmt.Return _ _) _) _ _ _); k_fold) | ((with_reducible show wpAny _ _ (eval (PySem.Expr.Call _ _ _ _) _) _ _ _); k_fold) | with_reducible refine seq_next ?_ | with_reducible refine seq_ret ?_ | (first | ((with_reducible show wpAny _ _ (compareOp CmpOp.NotIn (Value.str _ _) (Value.ref _)) _ _ _); with_reducible ((refine' r_styles ?zzF ?zzX ?zzhx ?_; (case zzF => k_asm); (case zzX => k_asm); (case zzhx => assumption)))) | ((with_reducible show wpAny _ _ (call (Value.builtin "isinstance") _ _) _ _ _); with_reducible (((with_reducible show wpAny _ _ (call _ [Value.ref _, Value.type "dict"]) _ _ _); k_dflt (refine' kia_one kitx_dict ?zzX ?zzp ?zzee ?zznb ?_; (case zzX => k_in); (case zzp => (refine' kitAt_N ?zzN ?zzm ?zzc; (case zzN => k_asm); (case zzm => k_mem); (case zzc => exact isDict_cls (by assumption)))); (case zzee => kit_is); (case zznb => (intro zzq; cases zzq))); intro zztk9; (try dsimp only)))) | walk_at "MY STEP") | (first | ((with_reducible show wpAny _ _ (call (Value.ref 478) _) _ _ _); k_dflt (refine' pt_ok ?zzB ?zzF ?zzX ?zzN ?zzT ?zzhk ?zzhdp ?zzhun ?zzhks ?zzhlen ?_; (case zzB => k_asm); (case zzF => k_asm); (case zzX => k_asm); (case zzN => k_asm); (case zzT => k_asm); (case zzhk => first | assumption | rfl); (case zzhdp => ktr_room); (case zzhun => units_room); (case zzhks => assumption); (case zzhlen => assumption)); intro zzt9 zzh9 zztk9 zzF9 zzN9; (try dsimp only)) | ((with_reducible show wpAny _ _ (call (Value.ref 306) _) _ _ _); k_dflt (refine' get_ok ?zzB ?zzF ?zzX ?zzN ?zzT ?zzhk ?zzhdp ?zzhun ?zzhsh ?zzhd ?zzhv ?zzP ?_; (case zzB => k_asm); (case zzF => k_asm); (case zzX => k_asm); (case zzN => k_asm); (case zzT => k_asm); (case zzhk => first | assumption | rfl); (case zzhdp => ktr_room); (case zzhun => units_room); (case zzhsh => exact ⟨_, _, _, by k_mem, by k_mem⟩); (case zzhd => exact ⟨_, by k_mem, by assumption, by assumption⟩); (case zzhv => assumption); (case zzP => assumption);); intro zzh9 zztk9 zzF9 zzN9; (try dsimp only)) | ((with_reducible show wpAny _ _ (call (Value.ref 299) _) _ _ _); k_dflt (refine' fetchP ?zzB ?zzF ?zzX ?zzN ?zzT ?zzhk ?zzhdp ?zzhun ?zzP ?_; (case zzB => k_asm); (case zzF => k_asm); (case zzX => k_asm); (case zzN => k_asm); (case zzT => k_asm); (case zzhk => first | assumption | rfl); (case zzhdp => ktr_room); (case zzhun => units_room); (case zzP => assumption);); intro zzh9 zztk9 zzF9 zzN9; (try dsimp only))) | dsimp only | (leave1; (try dsimp only)) | fail "no step")))
          all_goals (try k_data)
          all_goals (exact ⟨_, _, _, ⟨_, rfl⟩, rfl, by k_asm, by walk_at "MY NEWS"⟩)
        case cutH =>
          clear F7 N7
          rintro _ h8 tk8 ⟨t8, rfl⟩ F8 N8
          refine cut_same F8 N8 ?cutI ?cutJ
          case cutI =>
            (skip; repeat' (first | (k_unfold; (try dsimp only)) | (with_reducible refine gen3 ?_; intro _) | ((with_reducible show wpAny _ _ (exec (Stmt.Assign _ _ _) _) _ _ _); k_fold) | ((with_reducible show wpAny _ _ (exec (Stmt.Return _ _) _) _ _ _); k_fold) | ((with_reducible show wpAny _ _ (eval (PySem.Expr.Call _ _ _ _) _) _ _ _); k_fold) | with_reducible refine seq_next ?_ | with_reducible refine seq_ret ?_ | (first | ((with_reducible show wpAny _ _ (compareOp CmpOp.NotIn (Value.str _ _) (Value.ref _)) _ _ _); with_reducible ((refine' r_styles ?zzF ?zzX ?zzhx ?_; (case zzF => k_asm); (case zzX => k_asm); (case zzhx => assumption)))) | ((with_reducible show wpAny _ _ (call (Value.builtin "isinstance") _ _) _ _ _); with_reducible (((with_reducible show wpAny _ _ (call _ [Value.ref _, Value.type "dict"]) _ _ _); k_dflt (refine' kia_one kitx_dict ?zzX ?zzp ?zzee ?zznb ?_; (case zzX => k_in); (case zzp => (refine' kitAt_N ?zzN ?zzm ?zzc; (case zzN => k_asm); (case zzm => k_mem); (case zzc => exact isDict_cls (by assumption)))); (case zzee => kit_is); (case zznb => (intro zzq; cases zzq))); intro zztk9; (try dsimp only)))) | walk_at "MY STEP") | (first | ((with_reducible show wpAny _ _ (call (Value.ref 478) _) _ _ _); k_dflt (refine' pt_ok ?zzB ?zzF ?zzX ?zzN ?zzT ?zzhk ?zzhdp ?zzhun ?zzhks ?zzhlen ?_; (case zzB => k_asm); (case zzF => k_asm); (case zzX => k_asm); (case zzN => k_asm); (case zzT => k_asm); (case zzhk => first | assumption | rfl); (case zzhdp => ktr_room); (case zzhun => units_room); (case zzhks => assumption); (case zzhlen => assumption)); intro zzt9 zzh9 zztk9 zzF9 zzN9; (try dsimp only)) | ((with_reducible show wpAny _ _ (call (Value.ref 306) _) _ _ _); k_dflt (refine' get_ok ?zzB ?zzF ?zzX ?zzN ?zzT ?zzhk ?zzhdp ?zzhun ?zzhsh ?zzhd ?zzhv ?zzP ?_; (case zzB => k_asm); (case zzF => k_asm); (case zzX => k_asm); (case zzN => k_asm); (case zzT => k_asm); (case zzhk => first | assumption | rfl); (case zzhdp => ktr_room); (case zzhun => units_room); (case zzhsh => exact ⟨_, _, _, by k_mem, by k_mem⟩); (case zzhd => exact ⟨_, by k_mem, by assumption, by assumption⟩); (case zzhv => assumption); (case zzP => assumption);); intro zzh9 zztk9 zzF9 zzN9; (try dsimp only)) | ((with_reducible show wpAny _ _ (call (Value.ref 299) _) _ _ _); k_dflt (refine' fetchP ?zzB ?zzF ?zzX ?zzN ?zzT ?zzhk ?zzhdp ?zzhun ?zzP ?_; (case zzB => k_asm); (case zzF => k_asm); (case zzX => k_asm); (case zzN => k_asm); (case zzT => k_asm); (case zzhk => first | assumption | rfl); (case zzhdp => ktr_room); (case zzhun => units_room); (case zzP => assumption);); intro zzh9 zztk9 zzF9 zzN9; (try dsimp only))) | dsimp only | (leave1; (try dsimp only)) | fail "no step"))
            all_goals (try k_data)
            all_goals (exact ⟨_, _, rfl, by k_asm, by walk_at "MY NEWS"⟩)
          case cutJ =>
            clear F8 N8
            intro h9 tk9 F9 N9
            rcases hP with ⟨rfl, rfl⟩ | ⟨aP, dP, bP, ksP, tP, kP1, kP2, rfl, mP1, mP2, eb, el, er⟩
            all_goals (try rw [show KStt.txt [] = Str.ofString "" from by decide +kernel] at ret)
            all_goals (try subst er)
            all_goals (try (have N7 := news_pick N9 mP1 (news_pick N9 mP2 N9); clear N9))
            all_goals ((skip; repeat' (first | (k_unfold; (try dsimp only)) | (with_reducible refine gen3 ?_; intro _) | ((with_reducible show wpAny _ _ (exec (Stmt.Assign _ _ _) _) _ _ _); k_fold) | ((with_reducible show wpAny _ _ (exec (Stmt.Return _ _) _) _ _ _); k_fold) | ((with_reducible show wpAny _ _ (eval (PySem.Expr.Call _ _ _ _) _) _ _ _); k_fold) | with_reducible refine seq_next ?_ | with_reducible refine seq_ret ?_ | (first | ((with_reducible show wpAny _ _ (compareOp CmpOp.NotIn (Value.str _ _) (Value.ref _)) _ _ _); with_reducible ((refine' r_styles ?zzF ?zzX ?zzhx ?_; (case zzF => k_asm); (case zzX => k_asm); (case zzhx => assumption)))) | ((with_reducible show wpAny _ _ (call (Value.builtin "isinstance") _ _) _ _ _); with_reducible (((with_reducible show wpAny _ _ (call _ [Value.ref _, Value.type "dict"]) _ _ _); k_dflt (refine' kia_one kitx_dict ?zzX ?zzp ?zzee ?zznb ?_; (case zzX => k_in); (case zzp => (refine' kitAt_N ?zzN ?zzm ?zzc; (case zzN => k_asm); (case zzm => k_mem); (case zzc => exact isDict_cls (by assumption)))); (case zzee => kit_is); (case zznb => (intro zzq; cases zzq))); intro zztk9; (try dsimp only)))) | walk_at "MY STEP") | (first | ((with_reducible show wpAny _ _ (call (Value.ref 478) _) _ _ _); k_dflt (refine' pt_ok ?zzB ?zzF ?zzX ?zzN ?zzT ?zzhk ?zzhdp ?zzhun ?zzhks ?zzhlen ?_; (case zzB => k_asm); (case zzF => k_asm); (case zzX => k_asm); (case zzN => k_asm); (case zzT => k_asm); (case zzhk => first | assumption | rfl); (case zzhdp => ktr_room); (case zzhun => units_room); (case zzhks => assumption); (case zzhlen => assumption)); intro zzt9 zzh9 zztk9 zzF9 zzN9; (try dsimp only)) | ((with_reducible show wpAny _ _ (call (Value.ref 306) _) _ _ _); k_dflt (refine' get_ok ?zzB ?zzF ?zzX ?zzN ?zzT ?zzhk ?zzhdp ?zzhun ?zzhsh ?zzhd ?zzhv ?zzP ?_; (case zzB => k_asm); (case zzF => k_asm); (case zzX => k_asm); (case zzN => k_asm); (case zzT => k_asm); (case zzhk => first | assumption | rfl); (case zzhdp => ktr_room); (case zzhun => units_room); (case zzhsh => exact ⟨_, _, _, by k_mem, by k_mem⟩); (case zzhd => exact ⟨_, by k_mem, by assumption, by assumption⟩); (case zzhv => assumption); (case zzP => assumption);); intro zzh9 zztk9 zzF9 zzN9; (try dsimp only)) | ((with_reducible show wpAny _ _ (call (Value.ref 299) _) _ _ _); k_dflt (refine' fetchP ?zzB ?zzF ?zzX ?zzN ?zzT ?zzhk ?zzhdp ?zzhun ?zzP ?_; (case zzB => k_asm); (case zzF => k_asm); (case zzX => k_asm); (case zzN => k_asm); (case zzT => k_asm); (case zzhk => first | assumption | rfl); (case zzhdp => ktr_room); (case zzhun => units_room); (case zzP => assumption);); intro zzh9 zztk9 zzF9 zzN9; (try dsimp only))) | dsimp only | (leave1; (try dsimp only)) | fail "no step")))
            all_goals (try k_data)
            all_goals (rename (_ < _ ∧ _) => l9)
            all_goals (
              refine' ret _ _ _ _ _ _ _ _ ?F ?N ?l
              case N => exact news_pick (by assumption) (.head _) (by walk_at "MY NEWS")
              case F => k_asm
              case l => first | exact l9 | exact l9.2 | exact l9.2.2 | exact l9.2.2.2 | exact l9.2.2.2.2.2)
end
theorem range_ok {pv : Program} {w : World} {loose : List Str} {mean : ExcName → Option Value} {mg mb : Str → Option Value} {A₀ : Around} {dp un : Nat} {gd : Option (List Code)} {cn : Str} {cs : Scope} {a : Addr} {ccd : Value} {cl : List (Str × Addr)} {outer : List Env} {base h₀ : Heap} {L : Addr} {m : Str → Option Value} {s : Shared} {Q E : Value → Shared → Prop}
   {sh tb R hdd : Addr} {kvs : List (Str × Value)} {tf : Tok} {vS vP vN : Value} {x : Str} {ks : List Int} {i n : Int} {news : List (Addr × Obj)}
   (B : Below A₀ base outer h₀) (F : Fr h₀ L s.heap m) (X : (frag.heap_1 w.params).In h₀) (N : News h₀ L s.heap news) (T : Top pv loose mean mg mb h₀)
   (hk : cs.kind = .function)
   (hdp : dp + 5 < recursionLimit) (hun : un + 800 < cLine) (hsh : ShIn w news sh tb R) (hd : DIn w news hdd kvs)
   (eS : (valueAt kvs (Str.ofString "S")).getD .none = vS) (eP : (valueAt kvs (Str.ofString "P")).getD .none = vP) (eN : (valueAt kvs (Str.ofString "St")).getD .none = vN) (hS : NmIn w news vS x) (hx : styles.any (· == x) = true) (hP : StIn w news vP ks) (hN : NoIn vN n)
   (ret : ∀ D tf tx tc tn k h' tk', Fr h₀ L h' m → News h₀ L h' ((D, tup4 (.int i tf) (.str x tx) (.str (KStt.txt ks) tc) (.int n tn) k) :: news) → AllLt D news → Q (.ref D) {s with heap := h', toks := tk'}) :
   wpAny (model pr w) (ktrTop dp un gd cn cs L a ccd cl outer) (call (.ref 498) [.ref sh, .int i tf, .ref hdd]) Q E s := by
  obtain ⟨d0, k3, k4, h1, h2⟩ := hsh
  obtain ⟨o, h3, h4, h5⟩ := hd
  exact range_0 B F X (news_pick N h1 (news_pick N h2 (news_pick N h3 N))) T hk hdp hun h4 h5 eS eP eN (hS.mono sub3) hx (hP.mono sub3) hN fun D tf tx tc tn k h' tk' F' N' l => ret D tf tx tc tn k h' tk' F' (news_sub N' fun p hp => by
    rcases List.mem_cons.mp hp with rfl | hp
    · exact .head _
    · exact .tail _ (sub3 _ hp)) l.2.2.2

end
section
theorem getD_some {x : Option Value} {v : Value} (h : x = some v) : x.getD .none = v := by rw [h]; rfl
theorem getD_none {x : Option Value} (h : x = none) : x.getD .none = Value.none := by rw [h]; rfl
section
/-- keys and values, flat -/
def flatP : List (Int × Tok × Addr) → List Value
  | [] => []
  | (i, t, v) :: r => .int i t :: .ref v :: flatP r
theorem flatP_length : ∀ ps, (flatP ps).length = 2 * ps.length
  | [] => rfl
  | (i, t, v) :: r => by have := flatP_length r; simp only [flatP, List.length_cons, this]; omega
theorem flatP_get : ∀ (ps : List (Int × Tok × Addr)) (j : Nat) {i : Int} {t : Tok} {v : Addr}, ps[j]? = some (i, t, v) → (flatP ps)[2 * j]? = some (.int i t) ∧ (flatP ps)[2 * j + 1]? = some (.ref v)
  | [], j, _, _, _, h => by simp at h
  | (a, b, c) :: r, 0, _, _, _, h => by simp at h; obtain ⟨rfl, rfl, rfl⟩ := h; exact ⟨rfl, rfl⟩
  | (a, b, c) :: r, j + 1, i, t, v, h => by
    have ih := flatP_get r j (by simpa using h)
    have e1 : 2 * (j + 1) = 2 * j + 1 + 1 := by omega
    simp only [flatP, e1, List.getElem?_cons_succ]
    exact ih
/-- the tuples made of them, the newest first -/
inductive Tps (ps : List (Int × Tok × Addr)) : Nat → List Value → List (Addr × Obj) → Prop
  | nil : Tps ps 0 [] []
  | snoc {j : Nat} {ys : List Value} {c : List (Addr × Obj)} {D : Addr} {i : Int} {t u : Tok} {v : Addr} {n : Nat} : Tps ps j ys c → ps[j]? = some (i, t, v) → Tps ps (j + 1) (ys ++ [.ref D]) ((D, tup2 (.int i u) (.ref v) n) :: c)
theorem range02 (n : Nat) : Builtin.Range.rangeSize 0 ((2 * n : Nat) : Int) 2 = ((n : Nat) : Int) := by
  unfold Builtin.Range.rangeSize
  rw [if_pos (by decide)]
  split <;> omega
theorem small02 (n : Nat) (h : n ≤ 1000) : Builtin.Range.small 0 ((2 * n : Nat) : Int) 2 = true := sm2 _ _ (by decide) (by decide) (by omega) (by omega)
theorem LcAt.of7 {prog : Program} {w : World} {A : Around} {h₀ : Heap} {L : Addr} {m : Str → Option Value} {env : Env} {elt : Expr} {x : Str} {scope : Scope} {cl : List (Str × Addr)} {n : Nat} {Pv : Nat → Value → Prop} {xv : Value} {s₁ : Shared} {Fin : Shared → List Value → List (Addr × Obj) → Prop}
    {a1 a2 a3 a4 a5 a6 a7 : Addr × Obj} {rest : List (Addr × Obj)} (R : Nat → List Value → List (Addr × Obj) → Prop)
    (S : Src prog w A xv s₁ n Pv) (hsz : n ≤ sizeLine) (F : Fr h₀ L s₁.heap m) (N : News h₀ L s₁.heap (a1 :: a2 :: a3 :: a4 :: a5 :: a6 :: a7 :: rest)) (hr : R 0 [] [])
    (turn : ∀ i v ys c I oI C oC D m₂ h tk (E' : Value → Shared → Prop), i < n → Pv i v → R i ys c → LCg.NsObj oC m₂ → m₂ x = some v → Fr h₀ L h m → News h₀ L h ((I, oI) :: (C, oC) :: (D, LCg.lst ys) :: a1 :: a2 :: a3 :: a4 :: a5 :: a6 :: a7 :: (c ++ rest)) → LCg.Off3 I C D (a1 :: a2 :: a3 :: a4 :: a5 :: a6 :: a7 :: (c ++ rest)) → Ne3 I C D →
      wpAny (model prog w) A (eval elt (compEnvC scope cl C env)) (EltEnd h₀ L m { s₁ with heap := h, toks := tk } I oI C oC D (LCg.lst ys) (fun c => a1 :: a2 :: a3 :: a4 :: a5 :: a6 :: a7 :: (c ++ rest)) (fun y c' => R (i + 1) (ys ++ [y]) c')) E' { s₁ with heap := h, toks := tk })
    (fin : ∀ g ys c, R n ys c → Fin { s₁ with heap := g } ys (a1 :: a2 :: a3 :: a4 :: a5 :: a6 :: a7 :: (c ++ rest))) : LcAt prog w A h₀ L m env elt x scope cl Fin xv s₁ :=
  LcAt.of (fun c => a1 :: a2 :: a3 :: a4 :: a5 :: a6 :: a7 :: (c ++ rest)) R [] S hsz F N hr turn fin
theorem r_mod2 {prog : Program} {w : World} {A : Around} {E : Value → Shared → Prop} {s : Shared} {Q : Value → Shared → Prop} {n : Nat} {t u : Tok} (h : ∀ k, Q (.int 0 k) { s with toks := s.toks + 1 }) : wpAny (model prog w) A (binaryOp .Mod (.int ((2 * n : Nat) : Int) t) (.int 2 u)) Q E s := by
  refine mod_int' (by decide) ?_
  have e : Int.fmod ((2 * n : Nat) : Int) 2 = 0 := by rw [Int.fmod_eq_emod_of_nonneg _ (by decide)]; omega
  rw [e]; exact h _
theorem idxA {l : List Value} {i : Nat} {v : Value} (h : l[2 * i]? = some v) : l[(0 + (i : Int) * 2).toNat]? = some v := by rw [show (0 + (i : Int) * 2).toNat = 2 * i from by omega]; exact h
theorem idxB {l : List Value} {i : Nat} {v : Value} (h : l[2 * i + 1]? = some v) : l[(0 + (i : Int) * 2 + 1).toNat]? = some v := by rw [show (0 + (i : Int) * 2 + 1).toNat = 2 * i + 1 from by omega]; exact h
theorem allLt_appr {d : Nat} : ∀ {c r : List (Addr × Obj)}, AllLt d (c ++ r) → AllLt d r
  | [], _, h => h
  | _ :: c, _, h => allLt_appr (c := c) h.2
theorem allLt_appl {d : Nat} : ∀ {c r : List (Addr × Obj)}, AllLt d (c ++ r) → AllLt d c
  | [], _, _ => trivial
  | _ :: c, _, h => ⟨h.1, allLt_appl (c := c) h.2⟩
theorem off1_appr {D : Addr} : ∀ {c r : List (Addr × Obj)}, LCg.Off1 D (c ++ r) → LCg.Off1 D r
  | [], _, h => h
  | _ :: c, _, h => off1_appr (c := c) h.2
theorem Tps.length {ps : List (Int × Tok × Addr)} : ∀ {j : Nat} {ys : List Value} {c : List (Addr × Obj)}, Tps ps j ys c → ys.length = j := by
  intro j ys c H
  induction H with
  | nil => rfl
  | snoc h e ih => rw [List.length_append, List.length_singleton, ih]
theorem np_0 {pv : Program} {w : World} {loose : List Str} {mean : ExcName → Option Value} {mg mb : Str → Option Value} {A₀ : Around} {dp un : Nat} {gd : Option (List Code)} {cn : Str} {cs : Scope} {a : Addr} {ccd : Value} {cl : List (Str × Addr)} {outer : List Env} {base h₀ : Heap} {L : Addr} {m : Str → Option Value} {s : Shared} {Q E : Value → Shared → Prop}
   {sh d0 tb R tr row : Addr} {oN : Obj} {k3 k4 tw : Tok} {ps : List (Int × Tok × Addr)} {k : Nat} {rest : List (Addr × Obj)}
   (B : Below A₀ base outer h₀) (F : Fr h₀ L s.heap m) (X : (frag.heap_1 w.params).In h₀) (N : News h₀ L s.heap ((sh, instObj 363 d0) :: (d0, shD w tb R k3 k4) :: (tr, oN) :: (row, lstO (flatP ps) k) :: rest)) (T : Top pv loose mean mg mb h₀)
   (hk : cs.kind = .function)
   (hdp : dp + 5 < recursionLimit) (hun : un + 800 < cLine) (hN : Obj.IsDictOf (PySem.strKind pr w) oN [(Str.ofString "Nums", .ref row)]) (lo : (tr == sysModules) = false) (hps : ps.length ≤ 100)
   (ret : ∀ D ys c h' tk', Fr h₀ L h' m → News h₀ L h' ((D, LCg.lst ys) :: (sh, instObj 363 d0) :: (d0, shD w tb R k3 k4) :: (tr, oN) :: (row, lstO (flatP ps) k) :: (c ++ rest)) → Tps ps ps.length ys c → (∀ p ∈ c, AllLt p.1 ((sh, instObj 363 d0) :: (d0, shD w tb R k3 k4) :: (tr, oN) :: (row, lstO (flatP ps) k) :: rest)) → LCg.Off1 D ((sh, instObj 363 d0) :: (d0, shD w tb R k3 k4) :: (tr, oN) :: (row, lstO (flatP ps) k) :: (c ++ rest)) → Q (.ref D) {s with heap := h', toks := tk'}) :
   wpAny (model pr w) (ktrTop dp un gd cn cs L a ccd cl outer) (call (.ref 398) [.ref sh, .ref tr, .str (Str.ofString "Nums") tw]) Q E s := by
  walk_at "MY ENTERC"
  rename (_ < _ ∧ _) => l1
  have lr : AllLt _ rest := l1.2.2.2.2
  (skip; repeat' (first | (k_unfold; (try dsimp only)) | (with_reducible refine gen3 ?_; intro _) | ((with_reducible show wpAny _ _ (exec (Stmt.Assign _ _ _) _) _ _ _); k_fold) | ((with_reducible show wpAny _ _ (exec (Stmt.Return _ _) _) _ _ _); k_fold) | ((with_reducible show wpAny _ _ (eval (PySem.Expr.Call _ _ _ _) _) _ _ _); k_fold) | with_reducible refine seq_next ?_ | with_reducible refine seq_ret ?_ | (first | ((with_reducible show wpAny _ _ (subscriptTail (PySem.Expr.Name _ _) (PySem.Expr.BinOp _ _ _ _) (Value.ref _) (Value.int _ _)) _ _ _); with_reducible ((refine' r_item ?zzk1 ?zzk2 ?zzk3 ?zzk4 ?zzk5 ?_ ?zzk6; (case zzk1 => k_asm); (case zzk2 => k_dflt k_mem); (case zzk3 => omega); (case zzk4 => omega); (case zzk5 => exact idxB (by assumption)); (case zzk6 => with_unfolding_all rfl); (try dsimp only)))) | ((with_reducible show wpAny _ _ (subscriptTail (PySem.Expr.Name _ _) (PySem.Expr.Name _ _) (Value.ref _) (Value.int _ _)) _ _ _); with_reducible ((refine' r_item ?zzk1 ?zzk2 ?zzk3 ?zzk4 ?zzk5 ?_ ?zzk6; (case zzk1 => k_asm); (case zzk2 => k_dflt k_mem); (case zzk3 => omega); (case zzk4 => omega); (case zzk5 => exact idxA (by assumption)); (case zzk6 => with_unfolding_all rfl); (try dsimp only)))) | ((with_reducible show wpAny _ _ (binaryOp Operator.Mod (Value.int _ _) (Value.int _ _)) _ _ _); with_reducible ((refine r_mod2 ?_; intro zzt9; (try dsimp only)))) | ((with_reducible show wpAny _ _ (call (Value.builtin "len") _ _) _ _ _); with_reducible ((refine' r_len ?zzk1 ?zzk2 ?zzk3 ?_; (case zzk1 => k_asm); (case zzk2 => k_dflt k_mem); (case zzk3 => (rw [flatP_length]; omega)); intro zzt9 zztk9; rw [flatP_length]; (try dsimp only)))) | ((with_reducible show wpAny _ _ (compareOp CmpOp.NotIn (Value.str _ _) (Value.ref _)) _ _ _); with_reducible ((k_dflt (first | refine kdg_notin (knd := PySem.strKind _ _) (by k_asm) (by k_mem) (by k_asm) (by k_asm) (strKind_is _ _ _ _) true (by rfl) ?_ | refine kdg_notin (knd := PySem.strKind _ _) (by k_asm) (by k_mem) (by k_asm) (by k_asm) (strKind_is _ _ _ _) false (by rfl) ?_); (try dsimp only)))) | ((with_reducible show wpAny _ _ (compareOp CmpOp.In (Value.str _ _) (Value.ref _)) _ _ _); with_reducible ((k_dflt (first | refine kda_in (knd := PySem.strKind _ _) (by k_asm) (by k_mem) (by k_asm) (by k_asm) (strKind_is _ _ _ _) true (by rfl) ?_ | refine kda_in (knd := PySem.strKind _ _) (by k_asm) (by k_mem) (by k_asm) (by k_asm) (strKind_is _ _ _ _) false (by rfl) ?_); (try dsimp only)))) | ((with_reducible show wpAny _ _ (call (Value.builtin "isinstance") _ _) _ _ _); with_reducible (((with_reducible show wpAny _ _ (call _ [Value.ref _, Value.type "list"]) _ _ _); k_dflt (refine' kia_one kitx_list ?zzX ?zzp ?zzee ?zznb ?_; (case zzX => k_in); (case zzp => (refine' kitAt_N ?zzN ?zzm ?zzc; (case zzN => k_asm); (case zzm => k_mem); (case zzc => rfl))); (case zzee => kit_is); (case zznb => (intro zzq; cases zzq))); intro zztk9; (try dsimp only)))) | ((with_reducible show wpAny _ _ (call (Value.builtin "isinstance") _ _) _ _ _); with_reducible (((with_reducible show wpAny _ _ (call _ [Value.ref _, _]) _ _ _); k_dflt (refine' kia_one kitx_dict ?zzX ?zzp ?zzee ?zznb ?_; (case zzX => k_in); (case zzp => (refine' kitAt_N ?zzN ?zzm ?zzc; (case zzN => k_asm); (case zzm => k_mem); (case zzc => exact isDict_cls (by assumption)))); (case zzee => kit_is); (case zznb => (intro zzq; cases zzq))); intro zztk9; (try dsimp only)))) | walk_at "MY STEP") | (first | ((with_reducible show wpAny _ _ (call (Value.ref 379) _) _ _ _); first | walk_at "MY ENTER" | walk_at "MY ENTERC") | ((with_reducible show wpAny _ _ (call (Value.ref 393) _) _ _ _); first | walk_at "MY ENTER" | walk_at "MY ENTERC") | ((with_reducible show wpAny _ _ (call (Value.ref 306) _) _ _ _); k_dflt (refine' get_ok ?zzB ?zzF ?zzX ?zzN ?zzT ?zzhk ?zzhdp ?zzhun ?zzhsh ?zzhd ?zzhv ?zzP ?_; (case zzB => k_asm); (case zzF => k_asm); (case zzX => k_asm); (case zzN => k_asm); (case zzT => k_asm); (case zzhk => first | assumption | rfl); (case zzhdp => ktr_room); (case zzhun => units_room); (case zzhsh => exact ⟨_, _, _, by k_mem, by k_mem⟩); (case zzhd => exact ⟨_, by k_mem, by assumption, by assumption⟩); (case zzhv => first | assumption | exact getD_some (by rfl) | exact getD_none (by rfl)); (case zzP => first | assumption | exact Plain.int | exact Plain.none | exact Plain.list (by k_mem) rfl | exact Plain.dict (by k_mem) (isDict_cls (by assumption)));); intro zzh9 zztk9 zzF9 zzN9; (try dsimp only)) | ((with_reducible show wpAny _ _ (call (Value.ref 299) _) _ _ _); k_dflt (refine' fetchP ?zzB ?zzF ?zzX ?zzN ?zzT ?zzhk ?zzhdp ?zzhun ?zzP ?_; (case zzB => k_asm); (case zzF => k_asm); (case zzX => k_asm); (case zzN => k_asm); (case zzT => k_asm); (case zzhk => first | assumption | rfl); (case zzhdp => ktr_room); (case zzhun => units_room); (case zzP => first | assumption | exact Plain.int | exact Plain.none | exact Plain.dict (by k_mem) (isDict_cls (by assumption)) | exact Plain.list (by k_mem) rfl);); intro zzh9 zztk9 zzF9 zzN9; (try dsimp only))) | dsimp only | (leave1; (try dsimp only)) | fail "no step"))
  all_goals (try k_data)
  refine ListComp_src (by k_asm) (by with_unfolding_all rfl) (by decide) (by rfl) (by decide) (by rfl) ?_
  (skip; repeat' (first | (k_unfold; (try dsimp only)) | (with_reducible refine gen3 ?_; intro _) | ((with_reducible show wpAny _ _ (exec (Stmt.Assign _ _ _) _) _ _ _); k_fold) | ((with_reducible show wpAny _ _ (exec (Stmt.Return _ _) _) _ _ _); k_fold) | ((with_reducible show wpAny _ _ (eval (PySem.Expr.Call _ _ _ _) _) _ _ _); k_fold) | with_reducible refine seq_next ?_ | with_reducible refine seq_ret ?_ | (first | ((with_reducible show wpAny _ _ (subscriptTail (PySem.Expr.Name _ _) (PySem.Expr.BinOp _ _ _ _) (Value.ref _) (Value.int _ _)) _ _ _); with_reducible ((refine' r_item ?zzk1 ?zzk2 ?zzk3 ?zzk4 ?zzk5 ?_ ?zzk6; (case zzk1 => k_asm); (case zzk2 => k_dflt k_mem); (case zzk3 => omega); (case zzk4 => omega); (case zzk5 => exact idxB (by assumption)); (case zzk6 => with_unfolding_all rfl); (try dsimp only)))) | ((with_reducible show wpAny _ _ (subscriptTail (PySem.Expr.Name _ _) (PySem.Expr.Name _ _) (Value.ref _) (Value.int _ _)) _ _ _); with_reducible ((refine' r_item ?zzk1 ?zzk2 ?zzk3 ?zzk4 ?zzk5 ?_ ?zzk6; (case zzk1 => k_asm); (case zzk2 => k_dflt k_mem); (case zzk3 => omega); (case zzk4 => omega); (case zzk5 => exact idxA (by assumption)); (case zzk6 => with_unfolding_all rfl); (try dsimp only)))) | ((with_reducible show wpAny _ _ (binaryOp Operator.Mod (Value.int _ _) (Value.int _ _)) _ _ _); with_reducible ((refine r_mod2 ?_; intro zzt9; (try dsimp only)))) | ((with_reducible show wpAny _ _ (call (Value.builtin "len") _ _) _ _ _); with_reducible ((refine' r_len ?zzk1 ?zzk2 ?zzk3 ?_; (case zzk1 => k_asm); (case zzk2 => k_dflt k_mem); (case zzk3 => (rw [flatP_length]; omega)); intro zzt9 zztk9; rw [flatP_length]; (try dsimp only)))) | ((with_reducible show wpAny _ _ (compareOp CmpOp.NotIn (Value.str _ _) (Value.ref _)) _ _ _); with_reducible ((k_dflt (first | refine kdg_notin (knd := PySem.strKind _ _) (by k_asm) (by k_mem) (by k_asm) (by k_asm) (strKind_is _ _ _ _) true (by rfl) ?_ | refine kdg_notin (knd := PySem.strKind _ _) (by k_asm) (by k_mem) (by k_asm) (by k_asm) (strKind_is _ _ _ _) false (by rfl) ?_); (try dsimp only)))) | ((with_reducible show wpAny _ _ (compareOp CmpOp.In (Value.str _ _) (Value.ref _)) _ _ _); with_reducible ((k_dflt (first | refine kda_in (knd := PySem.strKind _ _) (by k_asm) (by k_mem) (by k_asm) (by k_asm) (strKind_is _ _ _ _) true (by rfl) ?_ | refine kda_in (knd := PySem.strKind _ _) (by k_asm) (by k_mem) (by k_asm) (by k_asm) (strKind_is _ _ _ _) false (by rfl) ?_); (try dsimp only)))) | ((with_reducible show wpAny _ _ (call (Value.builtin "isinstance") _ _) _ _ _); with_reducible (((with_reducible show wpAny _ _ (call _ [Value.ref _, Value.type "list"]) _ _ _); k_dflt (refine' kia_one kitx_list ?zzX ?zzp ?zzee ?zznb ?_; (case zzX => k_in); (case zzp => (refine' kitAt_N ?zzN ?zzm ?zzc; (case zzN => k_asm); (case zzm => k_mem); (case zzc => rfl))); (case zzee => kit_is); (case zznb => (intro zzq; cases zzq))); intro zztk9; (try dsimp only)))) | ((with_reducible show wpAny _ _ (call (Value.builtin "isinstance") _ _) _ _ _); with_reducible (((with_reducible show wpAny _ _ (call _ [Value.ref _, _]) _ _ _); k_dflt (refine' kia_one kitx_dict ?zzX ?zzp ?zzee ?zznb ?_; (case zzX => k_in); (case zzp => (refine' kitAt_N ?zzN ?zzm ?zzc; (case zzN => k_asm); (case zzm => k_mem); (case zzc => exact isDict_cls (by assumption)))); (case zzee => kit_is); (case zznb => (intro zzq; cases zzq))); intro zztk9; (try dsimp only)))) | walk_at "MY STEP") | (first | ((with_reducible show wpAny _ _ (call (Value.ref 379) _) _ _ _); first | walk_at "MY ENTER" | walk_at "MY ENTERC") | ((with_reducible show wpAny _ _ (call (Value.ref 393) _) _ _ _); first | walk_at "MY ENTER" | walk_at "MY ENTERC") | ((with_reducible show wpAny _ _ (call (Value.ref 306) _) _ _ _); k_dflt (refine' get_ok ?zzB ?zzF ?zzX ?zzN ?zzT ?zzhk ?zzhdp ?zzhun ?zzhsh ?zzhd ?zzhv ?zzP ?_; (case zzB => k_asm); (case zzF => k_asm); (case zzX => k_asm); (case zzN => k_asm); (case zzT => k_asm); (case zzhk => first | assumption | rfl); (case zzhdp => ktr_room); (case zzhun => units_room); (case zzhsh => exact ⟨_, _, _, by k_mem, by k_mem⟩); (case zzhd => exact ⟨_, by k_mem, by assumption, by assumption⟩); (case zzhv => first | assumption | exact getD_some (by rfl) | exact getD_none (by rfl)); (case zzP => first | assumption | exact Plain.int | exact Plain.none | exact Plain.list (by k_mem) rfl | exact Plain.dict (by k_mem) (isDict_cls (by assumption)));); intro zzh9 zztk9 zzF9 zzN9; (try dsimp only)) | ((with_reducible show wpAny _ _ (call (Value.ref 299) _) _ _ _); k_dflt (refine' fetchP ?zzB ?zzF ?zzX ?zzN ?zzT ?zzhk ?zzhdp ?zzhun ?zzP ?_; (case zzB => k_asm); (case zzF => k_asm); (case zzX => k_asm); (case zzN => k_asm); (case zzT => k_asm); (case zzhk => first | assumption | rfl); (case zzhdp => ktr_room); (case zzhun => units_room); (case zzP => first | assumption | exact Plain.int | exact Plain.none | exact Plain.dict (by k_mem) (isDict_cls (by assumption)) | exact Plain.list (by k_mem) rfl);); intro zzh9 zztk9 zzF9 zzN9; (try dsimp only))) | dsimp only | (leave1; (try dsimp only)) | fail "no step"))
  all_goals (try k_data)
  rename News _ _ _ _ => N2
  rename IsRange _ _ _ _ _ _ _ _ => hrg
  refine' LcAt.of7 (fun i ys c => Tps ps i ys c ∧ ∀ p ∈ c, AllLt p.1 ((sh, instObj 363 d0) :: (d0, shD w tb R k3 k4) :: (tr, oN) :: (row, lstO (flatP ps) k) :: rest)) (src_range (by rfl) hrg (small02 _ (by omega)) (range02 _)) ?hz ?F N2 ?r ?turn ?fin
  case F => k_asm
  case hz => (rw [sizeLine_eq]; omega)
  case r => exact ⟨.nil, fun _ h => nomatch h⟩
  case turn =>
    rintro i x ys c I oI C oC D m₂ h tk E' hi ⟨t9, rfl⟩ ⟨hR, hfr⟩ hC hx F9 N9 o3 ne
    simp only [LCg.Off3] at o3
    obtain ⟨⟨i9, u9, v9⟩, hp9⟩ : ∃ p, ps[i]? = some p := ⟨_, List.getElem?_eq_getElem hi⟩
    obtain ⟨g1, g2⟩ := flatP_get ps i hp9
    (skip; repeat' (first | (k_unfold; (try dsimp only)) | (with_reducible refine gen3 ?_; intro _) | ((with_reducible show wpAny _ _ (exec (Stmt.Assign _ _ _) _) _ _ _); k_fold) | ((with_reducible show wpAny _ _ (exec (Stmt.Return _ _) _) _ _ _); k_fold) | ((with_reducible show wpAny _ _ (eval (PySem.Expr.Call _ _ _ _) _) _ _ _); k_fold) | with_reducible refine seq_next ?_ | with_reducible refine seq_ret ?_ | (first | ((with_reducible show wpAny _ _ (subscriptTail (PySem.Expr.Name _ _) (PySem.Expr.BinOp _ _ _ _) (Value.ref _) (Value.int _ _)) _ _ _); with_reducible ((refine' r_item ?zzk1 ?zzk2 ?zzk3 ?zzk4 ?zzk5 ?_ ?zzk6; (case zzk1 => k_asm); (case zzk2 => k_dflt k_mem); (case zzk3 => omega); (case zzk4 => omega); (case zzk5 => exact idxB (by assumption)); (case zzk6 => with_unfolding_all rfl); (try dsimp only)))) | ((with_reducible show wpAny _ _ (subscriptTail (PySem.Expr.Name _ _) (PySem.Expr.Name _ _) (Value.ref _) (Value.int _ _)) _ _ _); with_reducible ((refine' r_item ?zzk1 ?zzk2 ?zzk3 ?zzk4 ?zzk5 ?_ ?zzk6; (case zzk1 => k_asm); (case zzk2 => k_dflt k_mem); (case zzk3 => omega); (case zzk4 => omega); (case zzk5 => exact idxA (by assumption)); (case zzk6 => with_unfolding_all rfl); (try dsimp only)))) | ((with_reducible show wpAny _ _ (binaryOp Operator.Mod (Value.int _ _) (Value.int _ _)) _ _ _); with_reducible ((refine r_mod2 ?_; intro zzt9; (try dsimp only)))) | ((with_reducible show wpAny _ _ (call (Value.builtin "len") _ _) _ _ _); with_reducible ((refine' r_len ?zzk1 ?zzk2 ?zzk3 ?_; (case zzk1 => k_asm); (case zzk2 => k_dflt k_mem); (case zzk3 => (rw [flatP_length]; omega)); intro zzt9 zztk9; rw [flatP_length]; (try dsimp only)))) | ((with_reducible show wpAny _ _ (compareOp CmpOp.NotIn (Value.str _ _) (Value.ref _)) _ _ _); with_reducible ((k_dflt (first | refine kdg_notin (knd := PySem.strKind _ _) (by k_asm) (by k_mem) (by k_asm) (by k_asm) (strKind_is _ _ _ _) true (by rfl) ?_ | refine kdg_notin (knd := PySem.strKind _ _) (by k_asm) (by k_mem) (by k_asm) (by k_asm) (strKind_is _ _ _ _) false (by rfl) ?_); (try dsimp only)))) | ((with_reducible show wpAny _ _ (compareOp CmpOp.In (Value.str _ _) (Value.ref _)) _ _ _); with_reducible ((k_dflt (first | refine kda_in (knd := PySem.strKind _ _) (by k_asm) (by k_mem) (by k_asm) (by k_asm) (strKind_is _ _ _ _) true (by rfl) ?_ | refine kda_in (knd := PySem.strKind _ _) (by k_asm) (by k_mem) (by k_asm) (by k_asm) (strKind_is _ _ _ _) false (by rfl) ?_); (try dsimp only)))) | ((with_reducible show wpAny _ _ (call (Value.builtin "isinstance") _ _) _ _ _); with_reducible (((with_reducible show wpAny _ _ (call _ [Value.ref _, Value.type "list"]) _ _ _); k_dflt (refine' kia_one kitx_list ?zzX ?zzp ?zzee ?zznb ?_; (case zzX => k_in); (case zzp => (refine' kitAt_N ?zzN ?zzm ?zzc; (case zzN => k_asm); (case zzm => k_mem); (case zzc => rfl))); (case zzee => kit_is); (case zznb => (intro zzq; cases zzq))); intro zztk9; (try dsimp only)))) | ((with_reducible show wpAny _ _ (call (Value.builtin "isinstance") _ _) _ _ _); with_reducible (((with_reducible show wpAny _ _ (call _ [Value.ref _, _]) _ _ _); k_dflt (refine' kia_one kitx_dict ?zzX ?zzp ?zzee ?zznb ?_; (case zzX => k_in); (case zzp => (refine' kitAt_N ?zzN ?zzm ?zzc; (case zzN => k_asm); (case zzm => k_mem); (case zzc => exact isDict_cls (by assumption)))); (case zzee => kit_is); (case zznb => (intro zzq; cases zzq))); intro zztk9; (try dsimp only)))) | walk_at "MY STEP") | (first | ((with_reducible show wpAny _ _ (call (Value.ref 379) _) _ _ _); first | walk_at "MY ENTER" | walk_at "MY ENTERC") | ((with_reducible show wpAny _ _ (call (Value.ref 393) _) _ _ _); first | walk_at "MY ENTER" | walk_at "MY ENTERC") | ((with_reducible show wpAny _ _ (call (Value.ref 306) _) _ _ _); k_dflt (refine' get_ok ?zzB ?zzF ?zzX ?zzN ?zzT ?zzhk ?zzhdp ?zzhun ?zzhsh ?zzhd ?zzhv ?zzP ?_; (case zzB => k_asm); (case zzF => k_asm); (case zzX => k_asm); (case zzN => k_asm); (case zzT => k_asm); (case zzhk => first | assumption | rfl); (case zzhdp => ktr_room); (case zzhun => units_room); (case zzhsh => exact ⟨_, _, _, by k_mem, by k_mem⟩); (case zzhd => exact ⟨_, by k_mem, by assumption, by assumption⟩); (case zzhv => first | assumption | exact getD_some (by rfl) | exact getD_none (by rfl)); (case zzP => first | assumption | exact Plain.int | exact Plain.none | exact Plain.list (by k_mem) rfl | exact Plain.dict (by k_mem) (isDict_cls (by assumption)));); intro zzh9 zztk9 zzF9 zzN9; (try dsimp only)) | ((with_reducible show wpAny _ _ (call (Value.ref 299) _) _ _ _); k_dflt (refine' fetchP ?zzB ?zzF ?zzX ?zzN ?zzT ?zzhk ?zzhdp ?zzhun ?zzP ?_; (case zzB => k_asm); (case zzF => k_asm); (case zzX => k_asm); (case zzN => k_asm); (case zzT => k_asm); (case zzhk => first | assumption | rfl); (case zzhdp => ktr_room); (case zzhun => units_room); (case zzP => first | assumption | exact Plain.int | exact Plain.none | exact Plain.dict (by k_mem) (isDict_cls (by assumption)) | exact Plain.list (by k_mem) rfl);); intro zzh9 zztk9 zzF9 zzN9; (try dsimp only))) | dsimp only | (leave1; (try dsimp only)) | fail "no step"))
    all_goals (try k_data)
    rename (_ < _ ∧ _) => l9
    refine' ⟨(_, _) :: c, _, _, rfl, ?F, ?N, ?o, .snoc hR hp9, ?fr⟩
    case fr =>
      intro p hp
      rcases List.mem_cons.mp hp with rfl | hp
      · exact ⟨l9.2.2.2.2.2.2.1, l9.2.2.2.2.2.2.2.1, l9.2.2.2.2.2.2.2.2.1, l9.2.2.2.2.2.2.2.2.2.1, allLt_appr l9.2.2.2.2.2.2.2.2.2.2⟩
      · exact hfr p hp
    case N =>
      simp only [List.cons_append]
      exact news_pick (by assumption) (.tail _ (.head _)) (news_pick (by assumption) (.tail _ (.tail _ (.head _))) (news_pick (by assumption) (.tail _ (.tail _ (.tail _ (.head _)))) (by walk_at "MY NEWS")))
    case F => k_asm
    case o =>
      simp only [List.cons_append, LCg.Off3]
      exact ⟨o3.1, o3.2.1, o3.2.2.1, o3.2.2.2.1, o3.2.2.2.2.1, o3.2.2.2.2.2.1, o3.2.2.2.2.2.2.1, ⟨by omega, by omega, by omega⟩, o3.2.2.2.2.2.2.2⟩
  case fin =>
    rintro g ys c ⟨hR, hfr⟩ D h tk F9 N9 o9
    simp only [LCg.Off1] at o9
    (skip; repeat' (first | (k_unfold; (try dsimp only)) | (with_reducible refine gen3 ?_; intro _) | ((with_reducible show wpAny _ _ (exec (Stmt.Assign _ _ _) _) _ _ _); k_fold) | ((with_reducible show wpAny _ _ (exec (Stmt.Return _ _) _) _ _ _); k_fold) | ((with_reducible show wpAny _ _ (eval (PySem.Expr.Call _ _ _ _) _) _ _ _); k_fold) | with_reducible refine seq_next ?_ | with_reducible refine seq_ret ?_ | (first | ((with_reducible show wpAny _ _ (subscriptTail (PySem.Expr.Name _ _) (PySem.Expr.BinOp _ _ _ _) (Value.ref _) (Value.int _ _)) _ _ _); with_reducible ((refine' r_item ?zzk1 ?zzk2 ?zzk3 ?zzk4 ?zzk5 ?_ ?zzk6; (case zzk1 => k_asm); (case zzk2 => k_dflt k_mem); (case zzk3 => omega); (case zzk4 => omega); (case zzk5 => exact idxB (by assumption)); (case zzk6 => with_unfolding_all rfl); (try dsimp only)))) | ((with_reducible show wpAny _ _ (subscriptTail (PySem.Expr.Name _ _) (PySem.Expr.Name _ _) (Value.ref _) (Value.int _ _)) _ _ _); with_reducible ((refine' r_item ?zzk1 ?zzk2 ?zzk3 ?zzk4 ?zzk5 ?_ ?zzk6; (case zzk1 => k_asm); (case zzk2 => k_dflt k_mem); (case zzk3 => omega); (case zzk4 => omega); (case zzk5 => exact idxA (by assumption)); (case zzk6 => with_unfolding_all rfl); (try dsimp only)))) | ((with_reducible show wpAny _ _ (binaryOp Operator.Mod (Value.int _ _) (Value.int _ _)) _ _ _); with_reducible ((refine r_mod2 ?_; intro zzt9; (try dsimp only)))) | ((with_reducible show wpAny _ _ (call (Value.builtin "len") _ _) _ _ _); with_reducible ((refine' r_len ?zzk1 ?zzk2 ?zzk3 ?_; (case zzk1 => k_asm); (case zzk2 => k_dflt k_mem); (case zzk3 => (rw [flatP_length]; omega)); intro zzt9 zztk9; rw [flatP_length]; (try dsimp only)))) | ((with_reducible show wpAny _ _ (compareOp CmpOp.NotIn (Value.str _ _) (Value.ref _)) _ _ _); with_reducible ((k_dflt (first | refine kdg_notin (knd := PySem.strKind _ _) (by k_asm) (by k_mem) (by k_asm) (by k_asm) (strKind_is _ _ _ _) true (by rfl) ?_ | refine kdg_notin (knd := PySem.strKind _ _) (by k_asm) (by k_mem) (by k_asm) (by k_asm) (strKind_is _ _ _ _) false (by rfl) ?_); (try dsimp only)))) | ((with_reducible show wpAny _ _ (compareOp CmpOp.In (Value.str _ _) (Value.ref _)) _ _ _); with_reducible ((k_dflt (first | refine kda_in (knd := PySem.strKind _ _) (by k_asm) (by k_mem) (by k_asm) (by k_asm) (strKind_is _ _ _ _) true (by rfl) ?_ | refine kda_in (knd := PySem.strKind _ _) (by k_asm) (by k_mem) (by k_asm) (by k_asm) (strKind_is _ _ _ _) false (by rfl) ?_); (try dsimp only)))) | ((with_reducible show wpAny _ _ (call (Value.builtin "isinstance") _ _) _ _ _); with_reducible (((with_reducible show wpAny _ _ (call _ [Value.ref _, Value.type "list"]) _ _ _); k_dflt (refine' kia_one kitx_list ?zzX ?zzp ?zzee ?zznb ?_; (case zzX => k_in); (case zzp => (refine' kitAt_N ?zzN ?zzm ?zzc; (case zzN => k_asm); (case zzm => k_mem); (case zzc => rfl))); (case zzee => kit_is); (case zznb => (intro zzq; cases zzq))); intro zztk9; (try dsimp only)))) | ((with_reducible show wpAny _ _ (call (Value.builtin "isinstance") _ _) _ _ _); with_reducible (((with_reducible show wpAny _ _ (call _ [Value.ref _, _]) _ _ _); k_dflt (refine' kia_one kitx_dict ?zzX ?zzp ?zzee ?zznb ?_; (case zzX => k_in); (case zzp => (refine' kitAt_N ?zzN ?zzm ?zzc; (case zzN => k_asm); (case zzm => k_mem); (case zzc => exact isDict_cls (by assumption)))); (case zzee => kit_is); (case zznb => (intro zzq; cases zzq))); intro zztk9; (try dsimp only)))) | walk_at "MY STEP") | (first | ((with_reducible show wpAny _ _ (call (Value.ref 379) _) _ _ _); first | walk_at "MY ENTER" | walk_at "MY ENTERC") | ((with_reducible show wpAny _ _ (call (Value.ref 393) _) _ _ _); first | walk_at "MY ENTER" | walk_at "MY ENTERC") | ((with_reducible show wpAny _ _ (call (Value.ref 306) _) _ _ _); k_dflt (refine' get_ok ?zzB ?zzF ?zzX ?zzN ?zzT ?zzhk ?zzhdp ?zzhun ?zzhsh ?zzhd ?zzhv ?zzP ?_; (case zzB => k_asm); (case zzF => k_asm); (case zzX => k_asm); (case zzN => k_asm); (case zzT => k_asm); (case zzhk => first | assumption | rfl); (case zzhdp => ktr_room); (case zzhun => units_room); (case zzhsh => exact ⟨_, _, _, by k_mem, by k_mem⟩); (case zzhd => exact ⟨_, by k_mem, by assumption, by assumption⟩); (case zzhv => first | assumption | exact getD_some (by rfl) | exact getD_none (by rfl)); (case zzP => first | assumption | exact Plain.int | exact Plain.none | exact Plain.list (by k_mem) rfl | exact Plain.dict (by k_mem) (isDict_cls (by assumption)));); intro zzh9 zztk9 zzF9 zzN9; (try dsimp only)) | ((with_reducible show wpAny _ _ (call (Value.ref 299) _) _ _ _); k_dflt (refine' fetchP ?zzB ?zzF ?zzX ?zzN ?zzT ?zzhk ?zzhdp ?zzhun ?zzP ?_; (case zzB => k_asm); (case zzF => k_asm); (case zzX => k_asm); (case zzN => k_asm); (case zzT => k_asm); (case zzhk => first | assumption | rfl); (case zzhdp => ktr_room); (case zzhun => units_room); (case zzP => first | assumption | exact Plain.int | exact Plain.none | exact Plain.dict (by k_mem) (isDict_cls (by assumption)) | exact Plain.list (by k_mem) rfl);); intro zzh9 zztk9 zzF9 zzN9; (try dsimp only))) | dsimp only | (leave1; (try dsimp only)) | fail "no step"))
    all_goals (try k_data)
    exact ret _ _ _ _ _ (by k_asm) (by walk_at "MY NEWS") hR hfr (by simp only [LCg.Off1]; exact ⟨o9.2.2.2.1, o9.2.2.2.2.1, o9.2.2.2.2.2.1, o9.2.2.2.2.2.2.1, o9.2.2.2.2.2.2.2⟩)
end
theorem np_ok {pv : Program} {w : World} {loose : List Str} {mean : ExcName → Option Value} {mg mb : Str → Option Value} {A₀ : Around} {dp un : Nat} {gd : Option (List Code)} {cn : Str} {cs : Scope} {a : Addr} {ccd : Value} {cl : List (Str × Addr)} {outer : List Env} {base h₀ : Heap} {L : Addr} {m : Str → Option Value} {s : Shared} {Q E : Value → Shared → Prop}
   {sh tb R tr row : Addr} {tw : Tok} {ps : List (Int × Tok × Addr)} {k : Nat} {news : List (Addr × Obj)}
   (B : Below A₀ base outer h₀) (F : Fr h₀ L s.heap m) (X : (frag.heap_1 w.params).In h₀) (N : News h₀ L s.heap news) (T : Top pv loose mean mg mb h₀)
   (hk : cs.kind = .function)
   (hdp : dp + 5 < recursionLimit) (hun : un + 800 < cLine) (hsh : ShIn w news sh tb R) (hN : DIn w news tr [(Str.ofString "Nums", .ref row)]) (hrow : (row, lstO (flatP ps) k) ∈ news) (hp1 : 1 ≤ ps.length) (hps : ps.length ≤ 100)
   (ret : ∀ D y ys c h' tk', Fr h₀ L h' m → News h₀ L h' ((D, LCg.lst (y :: ys)) :: (news ++ c)) → Tps ps ps.length (y :: ys) c → (∀ p ∈ c, AllLt p.1 news) → LCg.Off1 D news → Q (.ref D) {s with heap := h', toks := tk'}) :
   wpAny (model pr w) (ktrTop dp un gd cn cs L a ccd cl outer) (call (.ref 398) [.ref sh, .ref tr, .str (Str.ofString "Nums") tw]) Q E s := by
  obtain ⟨d0, k3, k4, h1, h2⟩ := hsh
  obtain ⟨o, h3, h4, h5⟩ := hN
  refine np_0 B F X (news_pick N h1 (news_pick N h2 (news_pick N h3 (news_pick N hrow N)))) T hk hdp hun h4 h5 hps fun D ys c h' tk' F' N' hR hfr ho => ?_
  have hl := hR.length
  match ys, hl with
  | [], hl => simp at hl; omega
  | y :: ys, _ =>
    refine ret D y ys c h' tk' F' (news_sub N' fun p hp => ?_) hR (fun p hp => (hfr p hp).2.2.2.2) (off1_appr ho.2.2.2.2)
    rcases List.mem_cons.mp hp with rfl | hp
    · exact .head _
    · refine .tail _ (.tail _ (.tail _ (.tail _ (.tail _ ?_))))
      rcases List.mem_append.mp hp with h | h
      · exact List.mem_append.mpr (.inr h)
      · exact List.mem_append.mpr (.inl h)

end
section
theorem allLt_mem {d : Nat} : ∀ {l : List (Addr × Obj)}, AllLt d l → ∀ p ∈ l, @LT.lt Nat _ p.1 d
  | [], _, _, h => nomatch h
  | _ :: _, h, _, .head _ => h.1
  | _ :: _, h, _, .tail _ m => allLt_mem h.2 _ m
theorem fresh_ne {news c : List (Addr × Obj)} {x : Addr} {o : Obj} (h : ∀ p ∈ c, AllLt p.1 news) (hm : (x, o) ∈ news) : ∀ p ∈ c, p.1 ≠ x := fun p hp => Ne.symm (Nat.ne_of_lt (allLt_mem (h p hp) _ hm))
theorem off_app {a b : List (Addr × Obj)} {x : Addr} (h1 : ∀ p ∈ a, p.1 ≠ x) (h2 : ∀ p ∈ b, p.1 ≠ x) : ∀ p ∈ a ++ b, p.1 ≠ x := fun p hp => by
  rcases List.mem_append.mp hp with h | h
  · exact h1 p h
  · exact h2 p h
section
local macro_rules | `(tactic| k_all) => `(tactic| exact off_app (allLt_up (by assumption) (by (try dsimp only); omega)) (fresh_ne (by assumption) (by k_mem)))
theorem tp_0 {pv : Program} {w : World} {loose : List Str} {mean : ExcName → Option Value} {mg mb : Str → Option Value} {A₀ : Around} {dp un : Nat} {gd : Option (List Code)} {cn : Str} {cs : Scope} {a : Addr} {ccd : Value} {cl : List (Str × Addr)} {outer : List Env} {base h₀ : Heap} {L : Addr} {m : Str → Option Value} {s : Shared} {Q E : Value → Shared → Prop}
   {sh d0 tb R tr row : Addr} {oN : Obj} {k3 k4 tw : Tok} {ps : List (Int × Tok × Addr)} {k : Nat} {rest : List (Addr × Obj)}
   (B : Below A₀ base outer h₀) (F : Fr h₀ L s.heap m) (X : (frag.heap_1 w.params).In h₀) (N : News h₀ L s.heap ((sh, instObj 363 d0) :: (d0, shD w tb R k3 k4) :: (tr, oN) :: (row, lstO (flatP ps) k) :: rest)) (T : Top pv loose mean mg mb h₀)
   (hk : cs.kind = .function)
   (hdp : dp + 7 < recursionLimit) (hun : un + 1000 < cLine) (hN : Obj.IsDictOf (PySem.strKind pr w) oN [(Str.ofString "Nums", .ref row)]) (lo : (tr == sysModules) = false) (hp1 : 1 ≤ ps.length) (hps : ps.length ≤ 100)
   (ret : ∀ D y ys n c h' tk', Fr h₀ L h' m → News h₀ L h' ((D, lstO (y :: ys) n) :: (sh, instObj 363 d0) :: (d0, shD w tb R k3 k4) :: (tr, oN) :: (row, lstO (flatP ps) k) :: (rest ++ c)) → Tps ps ps.length (y :: ys) c → Q (.ref D) {s with heap := h', toks := tk'}) :
   wpAny (model pr w) (ktrTop dp un gd cn cs L a ccd cl outer) (call (.ref 410) [.ref sh, .ref tr, .str (Str.ofString "Nums") tw]) Q E s := by
  walk_at "MY ENTERC"
  rename (_ < _ ∧ _) => l1
  have lr : AllLt _ rest := l1.2.2.2.2
  (skip; repeat' (first | (k_unfold; (try dsimp only)) | (with_reducible refine gen3 ?_; intro _) | ((with_reducible show wpAny _ _ (exec (Stmt.Assign _ _ _) _) _ _ _); k_fold) | ((with_reducible show wpAny _ _ (exec (Stmt.Return _ _) _) _ _ _); k_fold) | ((with_reducible show wpAny _ _ (eval (PySem.Expr.Call _ _ _ _) _) _ _ _); k_fold) | with_reducible refine seq_next ?_ | with_reducible refine seq_ret ?_ | (first | ((with_reducible show wpAny _ _ (compareOp CmpOp.NotIn (Value.str _ _) (Value.ref _)) _ _ _); with_reducible ((k_dflt (first | refine kdg_notin (knd := PySem.strKind _ _) (by k_asm) (by k_mem) (by k_asm) (by k_asm) (strKind_is _ _ _ _) true (by rfl) ?_ | refine kdg_notin (knd := PySem.strKind _ _) (by k_asm) (by k_mem) (by k_asm) (by k_asm) (strKind_is _ _ _ _) false (by rfl) ?_); (try dsimp only)))) | ((with_reducible show wpAny _ _ (compareOp CmpOp.In (Value.str _ _) (Value.ref _)) _ _ _); with_reducible ((k_dflt (first | refine kda_in (knd := PySem.strKind _ _) (by k_asm) (by k_mem) (by k_asm) (by k_asm) (strKind_is _ _ _ _) true (by rfl) ?_ | refine kda_in (knd := PySem.strKind _ _) (by k_asm) (by k_mem) (by k_asm) (by k_asm) (strKind_is _ _ _ _) false (by rfl) ?_); (try dsimp only)))) | ((with_reducible show wpAny _ _ (call (Value.builtin "isinstance") _ _) _ _ _); with_reducible (((with_reducible show wpAny _ _ (call _ [Value.ref _, Value.type "list"]) _ _ _); k_dflt (refine' kia_one kitx_list ?zzX ?zzp ?zzee ?zznb ?_; (case zzX => k_in); (case zzp => (refine' kitAt_N ?zzN ?zzm ?zzc; (case zzN => k_asm); (case zzm => k_mem); (case zzc => rfl))); (case zzee => kit_is); (case zznb => (intro zzq; cases zzq))); intro zztk9; (try dsimp only)))) | ((with_reducible show wpAny _ _ (call (Value.builtin "isinstance") _ _) _ _ _); with_reducible (((with_reducible show wpAny _ _ (call _ [Value.ref _, _]) _ _ _); k_dflt (refine' kia_one kitx_dict ?zzX ?zzp ?zzee ?zznb ?_; (case zzX => k_in); (case zzp => (refine' kitAt_N ?zzN ?zzm ?zzc; (case zzN => k_asm); (case zzm => k_mem); (case zzc => exact isDict_cls (by assumption)))); (case zzee => kit_is); (case zznb => (intro zzq; cases zzq))); intro zztk9; (try dsimp only)))) | ((with_reducible show wpAny _ _ (call (Value.builtin "list.extend") _ _) _ _ _); with_reducible ((refine' r_extend ?zzk1 ?zzk2 ?zzk3 ?zzk4 ?zzk5 ?_; (case zzk1 => k_asm); (case zzk2 => k_asm); (case zzk3 => k_dflt k_mem); (case zzk4 => k_dflt k_upd); (case zzk5 => (rename Tps _ _ _ _ => hR9; (have hl9 := hR9.length); (simp only [List.length_cons, List.length_nil] at hl9 ⊢); omega)); intro zzh' zzF' zzN'))) | walk_at "MY STEP") | (first | ((with_reducible show wpAny _ _ (call (Value.ref 398) _) _ _ _); k_dflt (refine' np_ok ?zzB ?zzF ?zzX ?zzN ?zzT ?zzhk ?zzhdp ?zzhun ?zzhsh ?zzhN ?zzhrow ?zzhp1 ?zzhps ?_; (case zzB => k_asm); (case zzF => k_asm); (case zzX => k_asm); (case zzN => k_asm); (case zzT => k_asm); (case zzhk => first | assumption | rfl); (case zzhdp => ktr_room); (case zzhun => units_room); (case zzhsh => exact ⟨_, _, _, by k_mem, by k_mem⟩); (case zzhN => exact ⟨_, by k_mem, by assumption, by assumption⟩); (case zzhrow => k_mem); (case zzhp1 => assumption); (case zzhps => assumption);); intro zzD9 zzy9 zzys9 zzc9 zzh9 zztk9 zzF9 zzN9 zzhR9 zzhfr9 zzho9; (simp only [LCg.Off1] at zzho9); (simp only [List.cons_append] at zzN9); (try dsimp only)) | ((with_reducible show wpAny _ _ (exec (Stmt.While _ _ _ _) _) _ _ _); walk1) | ((with_reducible show wpAny _ _ (call (Value.ref 393) _) _ _ _); walk_at "MY ENTER") | ((with_reducible show wpAny _ _ (call (Value.ref 386) _) _ _ _); walk_at "MY ENTER") | ((with_reducible show wpAny _ _ (call (Value.ref 405) _) _ _ _); walk_at "MY ENTER") | ((with_reducible show wpAny _ _ (call (Value.ref 306) _) _ _ _); k_dflt (refine' get_ok ?zzB ?zzF ?zzX ?zzN ?zzT ?zzhk ?zzhdp ?zzhun ?zzhsh ?zzhd ?zzhv ?zzP ?_; (case zzB => k_asm); (case zzF => k_asm); (case zzX => k_asm); (case zzN => k_asm); (case zzT => k_asm); (case zzhk => first | assumption | rfl); (case zzhdp => ktr_room); (case zzhun => units_room); (case zzhsh => exact ⟨_, _, _, by k_mem, by k_mem⟩); (case zzhd => exact ⟨_, by k_mem, by assumption, by assumption⟩); (case zzhv => first | assumption | exact getD_some (by rfl) | exact getD_none (by rfl)); (case zzP => first | assumption | exact Plain.int | exact Plain.none | exact Plain.list (by k_mem) rfl | exact Plain.dict (by k_mem) (isDict_cls (by assumption)));); intro zzh9 zztk9 zzF9 zzN9; (try dsimp only)) | ((with_reducible show wpAny _ _ (call (Value.ref 299) _) _ _ _); k_dflt (refine' fetchP ?zzB ?zzF ?zzX ?zzN ?zzT ?zzhk ?zzhdp ?zzhun ?zzP ?_; (case zzB => k_asm); (case zzF => k_asm); (case zzX => k_asm); (case zzN => k_asm); (case zzT => k_asm); (case zzhk => first | assumption | rfl); (case zzhdp => ktr_room); (case zzhun => units_room); (case zzP => first | assumption | exact Plain.int | exact Plain.none | exact Plain.dict (by k_mem) (isDict_cls (by assumption)) | exact Plain.list (by k_mem) rfl);); intro zzh9 zztk9 zzF9 zzN9; (try dsimp only))) | dsimp only | (leave1; (try dsimp only)) | fail "no step"))
  all_goals (try k_data)
  refine' ret _ _ _ _ _ _ _ ?F ?N ?R
  case R => assumption
  case F => k_asm
  case N => exact news_pick (by assumption) (by k_dflt k_mem) (by walk_at "MY NEWS")
end
theorem tp_ok {pv : Program} {w : World} {loose : List Str} {mean : ExcName → Option Value} {mg mb : Str → Option Value} {A₀ : Around} {dp un : Nat} {gd : Option (List Code)} {cn : Str} {cs : Scope} {a : Addr} {ccd : Value} {cl : List (Str × Addr)} {outer : List Env} {base h₀ : Heap} {L : Addr} {m : Str → Option Value} {s : Shared} {Q E : Value → Shared → Prop}
   {sh tb R tr row : Addr} {tw : Tok} {ps : List (Int × Tok × Addr)} {k : Nat} {news : List (Addr × Obj)}
   (B : Below A₀ base outer h₀) (F : Fr h₀ L s.heap m) (X : (frag.heap_1 w.params).In h₀) (N : News h₀ L s.heap news) (T : Top pv loose mean mg mb h₀)
   (hk : cs.kind = .function)
   (hdp : dp + 7 < recursionLimit) (hun : un + 1000 < cLine) (hsh : ShIn w news sh tb R) (hN : DIn w news tr [(Str.ofString "Nums", .ref row)]) (hrow : (row, lstO (flatP ps) k) ∈ news) (hp1 : 1 ≤ ps.length) (hps : ps.length ≤ 100)
   (ret : ∀ D ys n c h' tk', Fr h₀ L h' m → News h₀ L h' ((D, lstO ys n) :: (news ++ c)) → Tps ps ps.length ys c → Q (.ref D) {s with heap := h', toks := tk'}) :
   wpAny (model pr w) (ktrTop dp un gd cn cs L a ccd cl outer) (call (.ref 410) [.ref sh, .ref tr, .str (Str.ofString "Nums") tw]) Q E s := by
  obtain ⟨d0, k3, k4, h1, h2⟩ := hsh
  obtain ⟨o, h3, h4, h5⟩ := hN
  refine tp_0 B F X (news_pick N h1 (news_pick N h2 (news_pick N h3 (news_pick N hrow N)))) T hk hdp hun h4 h5 hp1 hps fun D y ys n c h' tk' F' N' hR => ?_
  refine ret D _ n c h' tk' F' (news_sub N' fun p hp => ?_) hR
  rcases List.mem_cons.mp hp with rfl | hp
  · exact .head _
  · exact .tail _ (.tail _ (.tail _ (.tail _ (.tail _ hp))))

end
section
abbrev Rg := Int × Str × List Int × Int
def Tup4s (news : List (Addr × Obj)) (ys : List Value) (rs : List Rg) : Prop := ys.length = rs.length ∧ ∀ (j : Nat) (y : Value) (r : Rg), ys[j]? = some y → rs[j]? = some r → ∃ D tf tx tc tn q, y = .ref D ∧ (D, tup4 (.int r.1 tf) (.str r.2.1 tx) (.str (KStt.txt r.2.2.1) tc) (.int r.2.2.2 tn) q) ∈ news
def okR : Int → List Rg → Prop
  | _, [] => True
  | a, r :: rs => a < r.1 ∧ styles.any (· == r.2.1) = true ∧ 1 ≤ r.2.2.2 ∧ okR r.1 rs
structure CrS where
  last : Int
  t : Tok
  x1 : Option Value
  x2 : Option Value
  x3 : Option Value
  x4 : Option Value
section
theorem cr_0 {pv : Program} {w : World} {loose : List Str} {mean : ExcName → Option Value} {mg mb : Str → Option Value} {A₀ : Around} {dp un : Nat} {gd : Option (List Code)} {cn : Str} {cs : Scope} {a : Addr} {ccd : Value} {cl : List (Str × Addr)} {outer : List Env} {base h₀ : Heap} {L : Addr} {m : Str → Option Value} {s : Shared} {Q E : Value → Shared → Prop}
   {l : Addr} {ys : List Value} {rs : List Rg} {k : Nat} {rest : List (Addr × Obj)}
   (B : Below A₀ base outer h₀) (F : Fr h₀ L s.heap m) (X : (frag.heap_1 w.params).In h₀) (N : News h₀ L s.heap ((l, lstO ys k) :: rest)) (T : Top pv loose mean mg mb h₀)
   (hk : cs.kind = .function)
   (hdp : dp + 2 < recursionLimit) (hun : un + 500 < cLine) (ht : Tup4s rest ys rs) (ho : okR (-1) rs)
   (ret : ∀ h' tk', Fr h₀ L h' m → News h₀ L h' ((l, lstO ys k) :: rest) → Q .none {s with heap := h', toks := tk'}) :
   wpAny (model pr w) (ktrTop dp un gd cn cs L a ccd cl outer) (call (.ref 454) [.ref l]) Q E s := by
  walk_at "MY ENTER"
  (skip; repeat' (first | (k_unfold; (try dsimp only)) | (with_reducible refine gen3 ?_; intro _) | ((with_reducible show wpAny _ _ (exec (Stmt.Assign _ _ _) _) _ _ _); k_fold) | ((with_reducible show wpAny _ _ (exec (Stmt.Return _ _) _) _ _ _); k_fold) | ((with_reducible show wpAny _ _ (eval (PySem.Expr.Call _ _ _ _) _) _ _ _); k_fold) | with_reducible refine seq_next ?_ | with_reducible refine seq_ret ?_ | (first | ((with_reducible show wpAny _ _ (compareOp CmpOp.NotIn (Value.str _ _) (Value.ref _)) _ _ _); with_reducible ((refine' r_styles ?zzF ?zzX ?zzhx ?_; (case zzF => k_asm); (case zzX => k_asm); (case zzhx => assumption)))) | walk_at "MY STEP") | dsimp only | (leave1; (try dsimp only)) | fail "no step"))
  all_goals (try k_data)
  refine' r_forT (by k_asm) (by rfl) ?_ (by intro _; rfl) (by passes_own)
  (skip; repeat' (first | (k_unfold; (try dsimp only)) | (with_reducible refine gen3 ?_; intro _) | ((with_reducible show wpAny _ _ (exec (Stmt.Assign _ _ _) _) _ _ _); k_fold) | ((with_reducible show wpAny _ _ (exec (Stmt.Return _ _) _) _ _ _); k_fold) | ((with_reducible show wpAny _ _ (eval (PySem.Expr.Call _ _ _ _) _) _ _ _); k_fold) | with_reducible refine seq_next ?_ | with_reducible refine seq_ret ?_ | (first | ((with_reducible show wpAny _ _ (compareOp CmpOp.NotIn (Value.str _ _) (Value.ref _)) _ _ _); with_reducible ((refine' r_styles ?zzF ?zzX ?zzhx ?_; (case zzF => k_asm); (case zzX => k_asm); (case zzhx => assumption)))) | walk_at "MY STEP") | dsimp only | (leave1; (try dsimp only)) | fail "no step"))
  all_goals (try k_data)
  rename Fr _ _ _ _ => F3
  rename News _ _ _ _ => N3
  refine' ⟨CrS, l, ys, k, (fun c y => if y = "start" then c.x4 else if y = "prefix" then c.x3 else if y = "style" then c.x2 else if y = "first" then c.x1 else if y = "last" then some (.int c.last c.t) else List.lookup y [(Str.ofString "ranges", Value.ref l)]), (fun _ => (l, lstO ys k) :: rest), (fun i c => okR c.last (rs.drop i)), ⟨-1, _, none, none, none, none⟩, rfl, ?g1, ?g2, N3, ?g3, ho, ?g4, ?g5⟩
  case g1 =>
    intro v hv
    obtain ⟨j, hj⟩ := List.mem_iff_getElem?.mp hv
    obtain ⟨hj2, -⟩ := List.getElem?_eq_some_iff.mp hj
    obtain ⟨D, _, _, _, _, _, e, _⟩ := ht.2 j v _ hj (List.getElem?_eq_getElem (by rw [← ht.1]; exact hj2))
    exact ⟨D, e⟩
  case g2 =>
    refine fr_cast (by k_asm) ?_
    intro y
    dsimp only
    by_cases h0 : y = "start"
    · subst h0; rfl
    by_cases h1 : y = "prefix"
    · subst h1; rfl
    by_cases h2 : y = "style"
    · subst h2; rfl
    by_cases h3 : y = "first"
    · subst h3; rfl
    simp only [if_neg h0, if_neg h1, if_neg h2, if_neg h3]
    rfl
  case g3 => walk_at "MY NEWS"
  case g4 =>
    rintro I i v ⟨la, t0, x1, x2, x3, x4⟩ oI h tk hv hP hoff F9 N9
    dsimp only at hP hoff F9 N9 ⊢
    obtain ⟨hi2, -⟩ := List.getElem?_eq_some_iff.mp hv
    obtain ⟨r, hri⟩ : ∃ r, rs[i]? = some r := ⟨_, List.getElem?_eq_getElem (by rw [← ht.1]; exact hi2)⟩
    have hdr : rs.drop i = r :: rs.drop (i + 1) := by
      obtain ⟨h, e⟩ := List.getElem?_eq_some_iff.mp hri
      rw [List.drop_eq_getElem_cons h, e]
    obtain ⟨D, tf, tx, tc, tn, q, rfl, hD⟩ := ht.2 i v _ hv hri
    rw [hdr] at hP
    obtain ⟨ho1, ho2, ho3, ho4⟩ := hP
    have N8 := news_pick N9 (.tail _ (.tail _ (.tail _ hD))) N9
    clear N9
    (skip; repeat' (first | (k_unfold; (try dsimp only)) | (with_reducible refine gen3 ?_; intro _) | ((with_reducible show wpAny _ _ (exec (Stmt.Assign _ _ _) _) _ _ _); k_fold) | ((with_reducible show wpAny _ _ (exec (Stmt.Return _ _) _) _ _ _); k_fold) | ((with_reducible show wpAny _ _ (eval (PySem.Expr.Call _ _ _ _) _) _ _ _); k_fold) | with_reducible refine seq_next ?_ | with_reducible refine seq_ret ?_ | (first | ((with_reducible show wpAny _ _ (compareOp CmpOp.NotIn (Value.str _ _) (Value.ref _)) _ _ _); with_reducible ((refine' r_styles ?zzF ?zzX ?zzhx ?_; (case zzF => k_asm); (case zzX => k_asm); (case zzhx => assumption)))) | walk_at "MY STEP") | dsimp only | (leave1; (try dsimp only)) | fail "no step"))
    all_goals (try k_data)
    refine' ⟨⟨r.1, _, _, _, _, _⟩, _, _, rfl, fr_cast (by k_asm) ?qf, ?N, hoff, ho4⟩
    case N => walk_at "MY NEWS"
    case qf => (intro y; dsimp only; by_cases h0 : y = "start"; (subst h0; rfl); by_cases h1 : y = "prefix"; (subst h1; rfl); by_cases h2 : y = "style"; (subst h2; rfl); by_cases h3 : y = "first"; (subst h3; rfl); by_cases h4 : y = "last"; (subst h4; rfl); simp only [if_neg h0, if_neg h1, if_neg h2, if_neg h3, if_neg h4])
  case g5 =>
    rintro c h tk hP F9 N9
    (skip; repeat' (first | (k_unfold; (try dsimp only)) | (with_reducible refine gen3 ?_; intro _) | ((with_reducible show wpAny _ _ (exec (Stmt.Assign _ _ _) _) _ _ _); k_fold) | ((with_reducible show wpAny _ _ (exec (Stmt.Return _ _) _) _ _ _); k_fold) | ((with_reducible show wpAny _ _ (eval (PySem.Expr.Call _ _ _ _) _) _ _ _); k_fold) | with_reducible refine seq_next ?_ | with_reducible refine seq_ret ?_ | (first | ((with_reducible show wpAny _ _ (compareOp CmpOp.NotIn (Value.str _ _) (Value.ref _)) _ _ _); with_reducible ((refine' r_styles ?zzF ?zzX ?zzhx ?_; (case zzF => k_asm); (case zzX => k_asm); (case zzhx => assumption)))) | walk_at "MY STEP") | dsimp only | (leave1; (try dsimp only)) | fail "no step"))
    all_goals (try k_data)
    all_goals (exact ret _ _ (by k_asm) (by walk_at "MY NEWS"))
end

end
section
theorem get_snoc {α : Type} {l : List α} {x v : α} {i j : Nat} (hl : l.length = j) (h : (l ++ [x])[i]? = some v) : l[i]? = some v ∨ (i = j ∧ v = x) := by
  subst hl
  rcases Nat.lt_or_ge i l.length with hi | hi
  · rw [List.getElem?_append_left hi] at h; exact .inl h
  · rw [List.getElem?_append_right hi] at h
    generalize e : i - l.length = n at h
    cases n with
    | zero => exact .inr ⟨Nat.le_antisymm (Nat.sub_eq_zero_iff_le.mp e) hi, (Option.some.inj h).symm⟩
    | succ n => cases h
theorem Tps.at {ps : List (Int × Tok × Addr)} : ∀ {j : Nat} {ys : List Value} {c : List (Addr × Obj)}, Tps ps j ys c → ∀ (i : Nat) (v : Value), ys[i]? = some v → ∃ D a t u b n, v = .ref D ∧ ps[i]? = some (a, t, b) ∧ (D, tup2 (.int a u) (.ref b) n) ∈ c := by
  intro j ys c H
  induction H with
  | nil => intro i v h; cases h
  | @snoc j ys c D a t u b n H e ih =>
    intro i v h
    rcases get_snoc H.length h with h | ⟨rfl, rfl⟩
    · obtain ⟨D, a, t, u, b, n, e1, e2, e3⟩ := ih i v h
      exact ⟨D, a, t, u, b, n, e1, e2, .tail _ e3⟩
    · exact ⟨D, a, t, u, b, n, rfl, e, .head _⟩
theorem Tup4s.mono {news news' : List (Addr × Obj)} {ys : List Value} {rs : List Rg} (h : Tup4s news ys rs) (hs : ∀ p ∈ news, p ∈ news') : Tup4s news' ys rs := ⟨h.1, fun j y r h1 h2 => by
  obtain ⟨D, tf, tx, tc, tn, q, e, hm⟩ := h.2 j y r h1 h2
  exact ⟨D, tf, tx, tc, tn, q, e, hs _ hm⟩⟩
theorem Tup4s.nil {news : List (Addr × Obj)} : Tup4s news [] [] := ⟨rfl, fun _ _ _ h _ => by simp at h⟩
theorem Tup4s.snoc {news : List (Addr × Obj)} {ys : List Value} {rs : List Rg} {r : Rg} {D : Addr} {tf tx tc tn : Tok} {q : Nat} (h : Tup4s news ys rs) (hD : (D, tup4 (.int r.1 tf) (.str r.2.1 tx) (.str (KStt.txt r.2.2.1) tc) (.int r.2.2.2 tn) q) ∈ news) : Tup4s news (ys ++ [.ref D]) (rs ++ [r]) := by
  refine ⟨by rw [List.length_append, List.length_append, h.1]; rfl, fun j y r' h1 h2 => ?_⟩
  by_cases hj : j < ys.length
  · rw [List.getElem?_append_left hj] at h1
    rw [List.getElem?_append_left (by rw [← h.1]; exact hj)] at h2
    exact h.2 j y r' h1 h2
  · obtain ⟨h3, -⟩ := List.getElem?_eq_some_iff.mp h1
    rw [List.length_append, List.length_singleton] at h3
    have e : j = ys.length := by omega
    subst e
    rw [List.getElem?_append_right (Nat.le_refl _), Nat.sub_self] at h1
    rw [List.getElem?_append_right (by rw [h.1]; exact Nat.le_refl _), h.1, Nat.sub_self] at h2
    simp at h1 h2
    subst h1; subst h2
    exact ⟨D, tf, tx, tc, tn, q, rfl, hD⟩
theorem okR_get : ∀ {rs : List Rg} {a : Int} {j : Nat} {r : Rg}, okR a rs → rs[j]? = some r → styles.any (· == r.2.1) = true
  | [], _, _, _, _, h => by simp at h
  | x :: rs, a, 0, r, h, e => by simp at e; subst e; exact h.2.1
  | x :: rs, a, j + 1, r, h, e => okR_get h.2.2.2 (by simpa using e)
/-- a label's dict as the ledger holds it -/
def ROK (w : World) (news : List (Addr × Obj)) (v : Addr) (r : Rg) : Prop := ∃ kvs vS vP vN, DIn w news v kvs ∧ (valueAt kvs (Str.ofString "S")).getD .none = vS ∧ (valueAt kvs (Str.ofString "P")).getD .none = vP ∧ (valueAt kvs (Str.ofString "St")).getD .none = vN ∧ NmIn w news vS r.2.1 ∧ StIn w news vP r.2.2.1 ∧ NoIn vN r.2.2.2
theorem ROK.mono {w : World} {news news' : List (Addr × Obj)} {v : Addr} {r : Rg} (h : ROK w news v r) (hs : ∀ p ∈ news, p ∈ news') : ROK w news' v r := by
  obtain ⟨kvs, vS, vP, vN, h1, h2, h3, h4, h5, h6, h7⟩ := h
  exact ⟨kvs, vS, vP, vN, h1.mono hs, h2, h3, h4, h5.mono hs, h6.mono hs, h7⟩
theorem RootIn.mono {w : World} {news news' : List (Addr × Obj)} {sh V : Addr} (h : RootIn w news sh V) (hs : ∀ p ∈ news, p ∈ news') : RootIn w news' sh V := by
  obtain ⟨tb, R, d0, k3, k4, tp, rf, d1, oT, oR, t1, t2, t3, k1, k2, n, ⟨m1, m2, m3, m4⟩, ⟨m5, m6, m7⟩, r⟩ := h
  exact ⟨tb, R, d0, k3, k4, tp, rf, d1, oT, oR, t1, t2, t3, k1, k2, n, ⟨hs _ m1, hs _ m2, hs _ m3, hs _ m4⟩, ⟨hs _ m5, hs _ m6, hs _ m7⟩, r⟩
theorem perm7 {x1 x2 x3 x4 x5 x6 x7 y : Addr × Obj} {l : List (Addr × Obj)} : ∀ p ∈ x1 :: x2 :: x3 :: x4 :: x5 :: x6 :: x7 :: (y :: l), p ∈ y :: x1 :: x2 :: x3 :: x4 :: x5 :: x6 :: x7 :: l := by
  intro p hp
  simp only [List.mem_cons] at hp ⊢
  rcases hp with h | h | h | h | h | h | h | h | h <;> simp [h]
theorem sub4a {x1 x2 x3 x4 : Addr × Obj} {c l : List (Addr × Obj)} : ∀ p ∈ c, p ∈ x1 :: x2 :: x3 :: x4 :: (c ++ l) := fun _ h => .tail _ (.tail _ (.tail _ (.tail _ (List.mem_append.mpr (.inl h)))))
theorem sub5a {D x1 x2 x3 x4 : Addr × Obj} {c l d : List (Addr × Obj)} : ∀ p ∈ D :: (c ++ l), p ∈ D :: x1 :: x2 :: x3 :: x4 :: (c ++ (l ++ d)) := by
  intro p hp
  rcases List.mem_cons.mp hp with rfl | hp
  · exact .head _
  · refine .tail _ (.tail _ (.tail _ (.tail _ (.tail _ ?_))))
    rcases List.mem_append.mp hp with h | h
    · exact List.mem_append.mpr (.inl h)
    · exact List.mem_append.mpr (.inr (List.mem_append.mpr (.inl h)))
theorem sub7m {x1 x2 x3 x4 x5 x6 x7 : Addr × Obj} {c l d : List (Addr × Obj)} : ∀ p ∈ l, p ∈ x1 :: x2 :: x3 :: x4 :: x5 :: x6 :: x7 :: (c ++ (l ++ d)) := fun _ h => .tail _ (.tail _ (.tail _ (.tail _ (.tail _ (.tail _ (.tail _ (List.mem_append.mpr (.inr (List.mem_append.mpr (.inl h))))))))))
theorem take_snoc {α : Type} {l : List α} {i : Nat} {x : α} (h : l[i]? = some x) : l.take (i + 1) = l.take i ++ [x] := by
  rw [List.take_add_one, h]; rfl
theorem tup_step {c : List (Addr × Obj)} {ys : List Value} {rs : List Rg} {i : Nat} {r : Rg} {D : Addr} {tf tx tc tn : Tok} {q : Nat} (hr : rs[i]? = some r) (h : Tup4s c ys (rs.take i)) :
    Tup4s ((D, tup4 (.int r.1 tf) (.str r.2.1 tx) (.str (KStt.txt r.2.2.1) tc) (.int r.2.2.2 tn) q) :: c) (ys ++ [.ref D]) (rs.take (i + 1)) := by
  rw [take_snoc hr]; exact Tup4s.snoc (h.mono fun _ h => .tail _ h) (.head _)
section
theorem rl_0 {pv : Program} {w : World} {loose : List Str} {mean : ExcName → Option Value} {mg mb : Str → Option Value} {A₀ : Around} {dp un : Nat} {gd : Option (List Code)} {cn : Str} {cs : Scope} {a : Addr} {ccd : Value} {cl : List (Str × Addr)} {outer : List Env} {base h₀ : Heap} {L : Addr} {m : Str → Option Value} {s : Shared} {Q E : Value → Shared → Prop}
   {sh d0 tb R V tr row : Addr} {k3 k4 : Tok} {ps : List (Int × Tok × Addr)} {rs : List Rg} {k : Nat} {news : List (Addr × Obj)}
   (B : Below A₀ base outer h₀) (F : Fr h₀ L s.heap m) (X : (frag.heap_1 w.params).In h₀) (N : News h₀ L s.heap ((sh, instObj 363 d0) :: (d0, shD w tb R k3 k4) :: news)) (T : Top pv loose mean mg mb h₀)
   (hk : cs.kind = .function)
   (hdp : dp + 10 < recursionLimit) (hun : un + 1300 < cLine) (hroot : RootIn w news sh V) (hV : DIn w news V [(Str.ofString "PageLabels", .ref tr)]) (hN : DIn w news tr [(Str.ofString "Nums", .ref row)]) (hrow : (row, lstO (flatP ps) k) ∈ news) (hp1 : 1 ≤ ps.length) (hps : ps.length ≤ 100)
   (hlr : ps.length = rs.length) (hok : ∀ (j : Nat) (a : Int) (t : Tok) (v : Addr) (r : Rg), ps[j]? = some (a, t, v) → rs[j]? = some r → r.1 = a ∧ ROK w news v r) (ho : okR (-1) rs)
   (ret : ∀ D ys n c h' tk', Fr h₀ L h' m → News h₀ L h' ((D, lstO ys n) :: (c ++ news)) → Tup4s (c ++ news) ys rs → Q (.ref D) {s with heap := h', toks := tk'}) :
   wpAny (model pr w) (ktrTop dp un gd cn cs L a ccd cl outer) (call (.ref 503) [.ref sh]) Q E s := by
  walk_at "MY ENTERC"
  (skip; repeat' (first | (k_unfold; (try dsimp only)) | (with_reducible refine gen3 ?_; intro _) | ((with_reducible show wpAny _ _ (exec (Stmt.Assign _ _ _) _) _ _ _); k_fold) | ((with_reducible show wpAny _ _ (exec (Stmt.Return _ _) _) _ _ _); k_fold) | ((with_reducible show wpAny _ _ (eval (PySem.Expr.Call _ _ _ _) _) _ _ _); k_fold) | with_reducible refine seq_next ?_ | with_reducible refine seq_ret ?_ | walk_at "MY STEP" | (first | ((with_reducible show wpAny _ _ (call (Value.ref 454) _) _ _ _); k_dflt (refine' cr_0 ?zzB ?zzF ?zzX ?zzN ?zzT ?zzhk ?zzhdp ?zzhun ?zzht ?zzho ?_; (case zzB => k_asm); (case zzF => k_asm); (case zzX => k_asm); (case zzN => k_asm); (case zzT => k_asm); (case zzhk => first | assumption | rfl); (case zzhdp => ktr_room); (case zzhun => units_room); (case zzht => exact Tup4s.mono (by assumption) sub4a); (case zzho => assumption)); intro zzh9 zztk9 zzF9 zzN9; (try dsimp only)) | ((with_reducible show wpAny _ _ (call (Value.ref 498) _) _ _ _); k_dflt (refine' range_ok ?zzB ?zzF ?zzX ?zzN ?zzT ?zzhk ?zzhdp ?zzhun ?zzhsh ?zzhd ?zzeS ?zzeP ?zzeN ?zzhS ?zzhx ?zzhP ?zzhN ?_; (case zzB => k_asm); (case zzF => k_asm); (case zzX => k_asm); (case zzN => k_asm); (case zzT => k_asm); (case zzhk => first | assumption | rfl); (case zzhdp => ktr_room); (case zzhun => units_room); (case zzhsh => exact ⟨_, _, _, by k_mem, by k_mem⟩); (case zzhd => exact DIn.mono (by assumption) sub7m); (case zzeS => assumption); (case zzeP => assumption); (case zzeN => assumption); (case zzhS => exact NmIn.mono (by assumption) sub7m); (case zzhx => assumption); (case zzhP => exact StIn.mono (by assumption) sub7m); (case zzhN => assumption)); intro zzD9 zztf9 zztx9 zztc9 zztn9 zzk9 zzh9 zztk9 zzF9 zzN9 zzl9; (try dsimp only)) | ((with_reducible show wpAny _ _ (call (Value.ref 410) _) _ _ _); k_dflt (refine' tp_ok ?zzB ?zzF ?zzX ?zzN ?zzT ?zzhk ?zzhdp ?zzhun ?zzhsh ?zzhN ?zzhrow ?zzhp1 ?zzhps ?_; (case zzB => k_asm); (case zzF => k_asm); (case zzX => k_asm); (case zzN => k_asm); (case zzT => k_asm); (case zzhk => first | assumption | rfl); (case zzhdp => ktr_room); (case zzhun => units_room); (case zzhsh => exact ⟨_, _, _, by k_mem, by k_mem⟩); (case zzhN => exact DIn.mono (by assumption) (fun _ h => .tail _ (.tail _ (.tail _ h)))); (case zzhrow => exact .tail _ (.tail _ (.tail _ (by assumption)))); (case zzhp1 => assumption); (case zzhps => assumption)); intro zzD9 zzys9 zzn9 zzc9 zzh9 zztk9 zzF9 zzN9 zzhR9; (simp only [List.cons_append] at zzN9); (try dsimp only)) | ((with_reducible show wpAny _ _ (call (Value.ref 306) _) _ _ _); k_dflt (refine' get_ok ?zzB ?zzF ?zzX ?zzN ?zzT ?zzhk ?zzhdp ?zzhun ?zzhsh ?zzhd ?zzhv ?zzP ?_; (case zzB => k_asm); (case zzF => k_asm); (case zzX => k_asm); (case zzN => k_asm); (case zzT => k_asm); (case zzhk => first | assumption | rfl); (case zzhdp => ktr_room); (case zzhun => units_room); (case zzhsh => exact ⟨_, _, _, by k_mem, by k_mem⟩); (case zzhd => exact DIn.mono (by assumption) (fun _ h => .tail _ (.tail _ (.tail _ h)))); (case zzhv => first | assumption | exact getD_some (by rfl)); (case zzP => exact Plain.mono (DIn.plain (by assumption)) (fun _ h => .tail _ (.tail _ (.tail _ h))))); intro zzh9 zztk9 zzF9 zzN9; (try dsimp only)) | ((with_reducible show wpAny _ _ (call (Value.ref 355) _) _ _ _); k_dflt (refine' root_ok ?zzB ?zzF ?zzX ?zzN ?zzT ?zzhk ?zzhdp ?zzhun ?zzhr ?zzhV ?_; (case zzB => k_asm); (case zzF => k_asm); (case zzX => k_asm); (case zzN => k_asm); (case zzT => k_asm); (case zzhk => first | assumption | rfl); (case zzhdp => ktr_room); (case zzhun => units_room); (case zzhr => exact RootIn.mono (by assumption) (fun _ h => .tail _ (.tail _ (.tail _ h)))); (case zzhV => exact DIn.mono (by assumption) (fun _ h => .tail _ (.tail _ (.tail _ h))))); intro zzh9 zztk9 zzF9 zzN9; (try dsimp only))) | dsimp only | (leave1; (try dsimp only)) | fail "no step"))
  all_goals (try k_data)
  refine LCp.Assign_ListComp_P (F₀ := by k_asm) (by rfl) (by with_unfolding_all rfl) (by with_unfolding_all rfl) (by decide) (by rfl) (by decide) (by rfl) (by rfl) (by decide) (by rfl) (by rfl) ?_
  (skip; repeat' (first | (k_unfold; (try dsimp only)) | (with_reducible refine gen3 ?_; intro _) | ((with_reducible show wpAny _ _ (exec (Stmt.Assign _ _ _) _) _ _ _); k_fold) | ((with_reducible show wpAny _ _ (exec (Stmt.Return _ _) _) _ _ _); k_fold) | ((with_reducible show wpAny _ _ (eval (PySem.Expr.Call _ _ _ _) _) _ _ _); k_fold) | with_reducible refine seq_next ?_ | with_reducible refine seq_ret ?_ | walk_at "MY STEP" | (first | ((with_reducible show wpAny _ _ (call (Value.ref 454) _) _ _ _); k_dflt (refine' cr_0 ?zzB ?zzF ?zzX ?zzN ?zzT ?zzhk ?zzhdp ?zzhun ?zzht ?zzho ?_; (case zzB => k_asm); (case zzF => k_asm); (case zzX => k_asm); (case zzN => k_asm); (case zzT => k_asm); (case zzhk => first | assumption | rfl); (case zzhdp => ktr_room); (case zzhun => units_room); (case zzht => exact Tup4s.mono (by assumption) sub4a); (case zzho => assumption)); intro zzh9 zztk9 zzF9 zzN9; (try dsimp only)) | ((with_reducible show wpAny _ _ (call (Value.ref 498) _) _ _ _); k_dflt (refine' range_ok ?zzB ?zzF ?zzX ?zzN ?zzT ?zzhk ?zzhdp ?zzhun ?zzhsh ?zzhd ?zzeS ?zzeP ?zzeN ?zzhS ?zzhx ?zzhP ?zzhN ?_; (case zzB => k_asm); (case zzF => k_asm); (case zzX => k_asm); (case zzN => k_asm); (case zzT => k_asm); (case zzhk => first | assumption | rfl); (case zzhdp => ktr_room); (case zzhun => units_room); (case zzhsh => exact ⟨_, _, _, by k_mem, by k_mem⟩); (case zzhd => exact DIn.mono (by assumption) sub7m); (case zzeS => assumption); (case zzeP => assumption); (case zzeN => assumption); (case zzhS => exact NmIn.mono (by assumption) sub7m); (case zzhx => assumption); (case zzhP => exact StIn.mono (by assumption) sub7m); (case zzhN => assumption)); intro zzD9 zztf9 zztx9 zztc9 zztn9 zzk9 zzh9 zztk9 zzF9 zzN9 zzl9; (try dsimp only)) | ((with_reducible show wpAny _ _ (call (Value.ref 410) _) _ _ _); k_dflt (refine' tp_ok ?zzB ?zzF ?zzX ?zzN ?zzT ?zzhk ?zzhdp ?zzhun ?zzhsh ?zzhN ?zzhrow ?zzhp1 ?zzhps ?_; (case zzB => k_asm); (case zzF => k_asm); (case zzX => k_asm); (case zzN => k_asm); (case zzT => k_asm); (case zzhk => first | assumption | rfl); (case zzhdp => ktr_room); (case zzhun => units_room); (case zzhsh => exact ⟨_, _, _, by k_mem, by k_mem⟩); (case zzhN => exact DIn.mono (by assumption) (fun _ h => .tail _ (.tail _ (.tail _ h)))); (case zzhrow => exact .tail _ (.tail _ (.tail _ (by assumption)))); (case zzhp1 => assumption); (case zzhps => assumption)); intro zzD9 zzys9 zzn9 zzc9 zzh9 zztk9 zzF9 zzN9 zzhR9; (simp only [List.cons_append] at zzN9); (try dsimp only)) | ((with_reducible show wpAny _ _ (call (Value.ref 306) _) _ _ _); k_dflt (refine' get_ok ?zzB ?zzF ?zzX ?zzN ?zzT ?zzhk ?zzhdp ?zzhun ?zzhsh ?zzhd ?zzhv ?zzP ?_; (case zzB => k_asm); (case zzF => k_asm); (case zzX => k_asm); (case zzN => k_asm); (case zzT => k_asm); (case zzhk => first | assumption | rfl); (case zzhdp => ktr_room); (case zzhun => units_room); (case zzhsh => exact ⟨_, _, _, by k_mem, by k_mem⟩); (case zzhd => exact DIn.mono (by assumption) (fun _ h => .tail _ (.tail _ (.tail _ h)))); (case zzhv => first | assumption | exact getD_some (by rfl)); (case zzP => exact Plain.mono (DIn.plain (by assumption)) (fun _ h => .tail _ (.tail _ (.tail _ h))))); intro zzh9 zztk9 zzF9 zzN9; (try dsimp only)) | ((with_reducible show wpAny _ _ (call (Value.ref 355) _) _ _ _); k_dflt (refine' root_ok ?zzB ?zzF ?zzX ?zzN ?zzT ?zzhk ?zzhdp ?zzhun ?zzhr ?zzhV ?_; (case zzB => k_asm); (case zzF => k_asm); (case zzX => k_asm); (case zzN => k_asm); (case zzT => k_asm); (case zzhk => first | assumption | rfl); (case zzhdp => ktr_room); (case zzhun => units_room); (case zzhr => exact RootIn.mono (by assumption) (fun _ h => .tail _ (.tail _ (.tail _ h)))); (case zzhV => exact DIn.mono (by assumption) (fun _ h => .tail _ (.tail _ (.tail _ h))))); intro zzh9 zztk9 zzF9 zzN9; (try dsimp only))) | dsimp only | (leave1; (try dsimp only)) | fail "no step"))
  all_goals (try k_data)
  rename News _ _ _ _ => N2
  rename Tps _ _ _ _ => hR
  have hyl := hR.length
  refine' SrcLP_of4 (fun i ys c => Tup4s c ys (rs.take i)) (by rfl) ?F N2 ?hz ?r ?turn ?fin
  case F => k_asm
  case hz => omega
  case r => exact Tup4s.nil
  case turn =>
    intro i v ys c hi hv hR9
    obtain ⟨t, a, u0, u, b, n, rfl, hp, hm⟩ := hR.at i v hv
    obtain ⟨r, hr⟩ : ∃ r, rs[i]? = some r := ⟨_, List.getElem?_eq_getElem (by omega)⟩
    obtain ⟨e, kvs, vS, vP, vN, q1, eS, eP, eN, q2, q3, q4⟩ := hok i _ _ _ _ hp hr
    subst e
    have hst := okR_get ho hr
    refine ⟨t, _, _, _, n, rfl, .tail _ (.tail _ (.tail _ (.tail _ (List.mem_append.mpr (.inr (List.mem_append.mpr (.inr hm))))))), rfl, rfl, ?_⟩
    intro I oI C oC D m₂ h tk E' hC hx hx₂ F9 N9 o3 ne
    simp only [LCg.Off3] at o3
    (skip; repeat' (first | (k_unfold; (try dsimp only)) | (with_reducible refine gen3 ?_; intro _) | ((with_reducible show wpAny _ _ (exec (Stmt.Assign _ _ _) _) _ _ _); k_fold) | ((with_reducible show wpAny _ _ (exec (Stmt.Return _ _) _) _ _ _); k_fold) | ((with_reducible show wpAny _ _ (eval (PySem.Expr.Call _ _ _ _) _) _ _ _); k_fold) | with_reducible refine seq_next ?_ | with_reducible refine seq_ret ?_ | walk_at "MY STEP" | (first | ((with_reducible show wpAny _ _ (call (Value.ref 454) _) _ _ _); k_dflt (refine' cr_0 ?zzB ?zzF ?zzX ?zzN ?zzT ?zzhk ?zzhdp ?zzhun ?zzht ?zzho ?_; (case zzB => k_asm); (case zzF => k_asm); (case zzX => k_asm); (case zzN => k_asm); (case zzT => k_asm); (case zzhk => first | assumption | rfl); (case zzhdp => ktr_room); (case zzhun => units_room); (case zzht => exact Tup4s.mono (by assumption) sub4a); (case zzho => assumption)); intro zzh9 zztk9 zzF9 zzN9; (try dsimp only)) | ((with_reducible show wpAny _ _ (call (Value.ref 498) _) _ _ _); k_dflt (refine' range_ok ?zzB ?zzF ?zzX ?zzN ?zzT ?zzhk ?zzhdp ?zzhun ?zzhsh ?zzhd ?zzeS ?zzeP ?zzeN ?zzhS ?zzhx ?zzhP ?zzhN ?_; (case zzB => k_asm); (case zzF => k_asm); (case zzX => k_asm); (case zzN => k_asm); (case zzT => k_asm); (case zzhk => first | assumption | rfl); (case zzhdp => ktr_room); (case zzhun => units_room); (case zzhsh => exact ⟨_, _, _, by k_mem, by k_mem⟩); (case zzhd => exact DIn.mono (by assumption) sub7m); (case zzeS => assumption); (case zzeP => assumption); (case zzeN => assumption); (case zzhS => exact NmIn.mono (by assumption) sub7m); (case zzhx => assumption); (case zzhP => exact StIn.mono (by assumption) sub7m); (case zzhN => assumption)); intro zzD9 zztf9 zztx9 zztc9 zztn9 zzk9 zzh9 zztk9 zzF9 zzN9 zzl9; (try dsimp only)) | ((with_reducible show wpAny _ _ (call (Value.ref 410) _) _ _ _); k_dflt (refine' tp_ok ?zzB ?zzF ?zzX ?zzN ?zzT ?zzhk ?zzhdp ?zzhun ?zzhsh ?zzhN ?zzhrow ?zzhp1 ?zzhps ?_; (case zzB => k_asm); (case zzF => k_asm); (case zzX => k_asm); (case zzN => k_asm); (case zzT => k_asm); (case zzhk => first | assumption | rfl); (case zzhdp => ktr_room); (case zzhun => units_room); (case zzhsh => exact ⟨_, _, _, by k_mem, by k_mem⟩); (case zzhN => exact DIn.mono (by assumption) (fun _ h => .tail _ (.tail _ (.tail _ h)))); (case zzhrow => exact .tail _ (.tail _ (.tail _ (by assumption)))); (case zzhp1 => assumption); (case zzhps => assumption)); intro zzD9 zzys9 zzn9 zzc9 zzh9 zztk9 zzF9 zzN9 zzhR9; (simp only [List.cons_append] at zzN9); (try dsimp only)) | ((with_reducible show wpAny _ _ (call (Value.ref 306) _) _ _ _); k_dflt (refine' get_ok ?zzB ?zzF ?zzX ?zzN ?zzT ?zzhk ?zzhdp ?zzhun ?zzhsh ?zzhd ?zzhv ?zzP ?_; (case zzB => k_asm); (case zzF => k_asm); (case zzX => k_asm); (case zzN => k_asm); (case zzT => k_asm); (case zzhk => first | assumption | rfl); (case zzhdp => ktr_room); (case zzhun => units_room); (case zzhsh => exact ⟨_, _, _, by k_mem, by k_mem⟩); (case zzhd => exact DIn.mono (by assumption) (fun _ h => .tail _ (.tail _ (.tail _ h)))); (case zzhv => first | assumption | exact getD_some (by rfl)); (case zzP => exact Plain.mono (DIn.plain (by assumption)) (fun _ h => .tail _ (.tail _ (.tail _ h))))); intro zzh9 zztk9 zzF9 zzN9; (try dsimp only)) | ((with_reducible show wpAny _ _ (call (Value.ref 355) _) _ _ _); k_dflt (refine' root_ok ?zzB ?zzF ?zzX ?zzN ?zzT ?zzhk ?zzhdp ?zzhun ?zzhr ?zzhV ?_; (case zzB => k_asm); (case zzF => k_asm); (case zzX => k_asm); (case zzN => k_asm); (case zzT => k_asm); (case zzhk => first | assumption | rfl); (case zzhdp => ktr_room); (case zzhun => units_room); (case zzhr => exact RootIn.mono (by assumption) (fun _ h => .tail _ (.tail _ (.tail _ h)))); (case zzhV => exact DIn.mono (by assumption) (fun _ h => .tail _ (.tail _ (.tail _ h))))); intro zzh9 zztk9 zzF9 zzN9; (try dsimp only))) | dsimp only | (leave1; (try dsimp only)) | fail "no step"))
    all_goals (try k_data)
    rename (AllLt _ _) => l9
    refine' ⟨(_, _) :: c, _, _, rfl, ?F, ?N, ?o, tup_step hr hR9⟩
    case N => exact news_sub (by assumption) perm7
    case F => k_asm
    case o =>
      simp only [List.cons_append, LCg.Off3]
      have l1 := l9.1
      have l2 := l9.2.1
      have l3 := l9.2.2.1
      exact ⟨o3.1, o3.2.1, o3.2.2.1, o3.2.2.2.1, ⟨by omega, by omega, by omega⟩, o3.2.2.2.2⟩
  case fin =>
    intro g ys c hR2 D h tk F9 N9 o9
    rw [hyl, List.take_of_length_le (by omega)] at hR2
    simp only [LCg.Off1] at o9
    (skip; repeat' (first | (k_unfold; (try dsimp only)) | (with_reducible refine gen3 ?_; intro _) | ((with_reducible show wpAny _ _ (exec (Stmt.Assign _ _ _) _) _ _ _); k_fold) | ((with_reducible show wpAny _ _ (exec (Stmt.Return _ _) _) _ _ _); k_fold) | ((with_reducible show wpAny _ _ (eval (PySem.Expr.Call _ _ _ _) _) _ _ _); k_fold) | with_reducible refine seq_next ?_ | with_reducible refine seq_ret ?_ | walk_at "MY STEP" | (first | ((with_reducible show wpAny _ _ (call (Value.ref 454) _) _ _ _); k_dflt (refine' cr_0 ?zzB ?zzF ?zzX ?zzN ?zzT ?zzhk ?zzhdp ?zzhun ?zzht ?zzho ?_; (case zzB => k_asm); (case zzF => k_asm); (case zzX => k_asm); (case zzN => k_asm); (case zzT => k_asm); (case zzhk => first | assumption | rfl); (case zzhdp => ktr_room); (case zzhun => units_room); (case zzht => exact Tup4s.mono (by assumption) sub4a); (case zzho => assumption)); intro zzh9 zztk9 zzF9 zzN9; (try dsimp only)) | ((with_reducible show wpAny _ _ (call (Value.ref 498) _) _ _ _); k_dflt (refine' range_ok ?zzB ?zzF ?zzX ?zzN ?zzT ?zzhk ?zzhdp ?zzhun ?zzhsh ?zzhd ?zzeS ?zzeP ?zzeN ?zzhS ?zzhx ?zzhP ?zzhN ?_; (case zzB => k_asm); (case zzF => k_asm); (case zzX => k_asm); (case zzN => k_asm); (case zzT => k_asm); (case zzhk => first | assumption | rfl); (case zzhdp => ktr_room); (case zzhun => units_room); (case zzhsh => exact ⟨_, _, _, by k_mem, by k_mem⟩); (case zzhd => exact DIn.mono (by assumption) sub7m); (case zzeS => assumption); (case zzeP => assumption); (case zzeN => assumption); (case zzhS => exact NmIn.mono (by assumption) sub7m); (case zzhx => assumption); (case zzhP => exact StIn.mono (by assumption) sub7m); (case zzhN => assumption)); intro zzD9 zztf9 zztx9 zztc9 zztn9 zzk9 zzh9 zztk9 zzF9 zzN9 zzl9; (try dsimp only)) | ((with_reducible show wpAny _ _ (call (Value.ref 410) _) _ _ _); k_dflt (refine' tp_ok ?zzB ?zzF ?zzX ?zzN ?zzT ?zzhk ?zzhdp ?zzhun ?zzhsh ?zzhN ?zzhrow ?zzhp1 ?zzhps ?_; (case zzB => k_asm); (case zzF => k_asm); (case zzX => k_asm); (case zzN => k_asm); (case zzT => k_asm); (case zzhk => first | assumption | rfl); (case zzhdp => ktr_room); (case zzhun => units_room); (case zzhsh => exact ⟨_, _, _, by k_mem, by k_mem⟩); (case zzhN => exact DIn.mono (by assumption) (fun _ h => .tail _ (.tail _ (.tail _ h)))); (case zzhrow => exact .tail _ (.tail _ (.tail _ (by assumption)))); (case zzhp1 => assumption); (case zzhps => assumption)); intro zzD9 zzys9 zzn9 zzc9 zzh9 zztk9 zzF9 zzN9 zzhR9; (simp only [List.cons_append] at zzN9); (try dsimp only)) | ((with_reducible show wpAny _ _ (call (Value.ref 306) _) _ _ _); k_dflt (refine' get_ok ?zzB ?zzF ?zzX ?zzN ?zzT ?zzhk ?zzhdp ?zzhun ?zzhsh ?zzhd ?zzhv ?zzP ?_; (case zzB => k_asm); (case zzF => k_asm); (case zzX => k_asm); (case zzN => k_asm); (case zzT => k_asm); (case zzhk => first | assumption | rfl); (case zzhdp => ktr_room); (case zzhun => units_room); (case zzhsh => exact ⟨_, _, _, by k_mem, by k_mem⟩); (case zzhd => exact DIn.mono (by assumption) (fun _ h => .tail _ (.tail _ (.tail _ h)))); (case zzhv => first | assumption | exact getD_some (by rfl)); (case zzP => exact Plain.mono (DIn.plain (by assumption)) (fun _ h => .tail _ (.tail _ (.tail _ h))))); intro zzh9 zztk9 zzF9 zzN9; (try dsimp only)) | ((with_reducible show wpAny _ _ (call (Value.ref 355) _) _ _ _); k_dflt (refine' root_ok ?zzB ?zzF ?zzX ?zzN ?zzT ?zzhk ?zzhdp ?zzhun ?zzhr ?zzhV ?_; (case zzB => k_asm); (case zzF => k_asm); (case zzX => k_asm); (case zzN => k_asm); (case zzT => k_asm); (case zzhk => first | assumption | rfl); (case zzhdp => ktr_room); (case zzhun => units_room); (case zzhr => exact RootIn.mono (by assumption) (fun _ h => .tail _ (.tail _ (.tail _ h)))); (case zzhV => exact DIn.mono (by assumption) (fun _ h => .tail _ (.tail _ (.tail _ h))))); intro zzh9 zztk9 zzF9 zzN9; (try dsimp only))) | dsimp only | (leave1; (try dsimp only)) | fail "no step"))
    all_goals (try k_data)
    exact ret _ _ _ c _ _ (by k_asm) (news_sub (by assumption) sub5a) (hR2.mono fun _ h => List.mem_append.mpr (.inl h))
end
theorem rl_ok {pv : Program} {w : World} {loose : List Str} {mean : ExcName → Option Value} {mg mb : Str → Option Value} {A₀ : Around} {dp un : Nat} {gd : Option (List Code)} {cn : Str} {cs : Scope} {a : Addr} {ccd : Value} {cl : List (Str × Addr)} {outer : List Env} {base h₀ : Heap} {L : Addr} {m : Str → Option Value} {s : Shared} {Q E : Value → Shared → Prop}
   {sh tb R V tr row : Addr} {ps : List (Int × Tok × Addr)} {rs : List Rg} {k : Nat} {news : List (Addr × Obj)}
   (B : Below A₀ base outer h₀) (F : Fr h₀ L s.heap m) (X : (frag.heap_1 w.params).In h₀) (N : News h₀ L s.heap news) (T : Top pv loose mean mg mb h₀)
   (hk : cs.kind = .function)
   (hdp : dp + 10 < recursionLimit) (hun : un + 1300 < cLine) (hsh : ShIn w news sh tb R) (hroot : RootIn w news sh V) (hV : DIn w news V [(Str.ofString "PageLabels", .ref tr)]) (hN : DIn w news tr [(Str.ofString "Nums", .ref row)]) (hrow : (row, lstO (flatP ps) k) ∈ news) (hp1 : 1 ≤ ps.length) (hps : ps.length ≤ 100)
   (hlr : ps.length = rs.length) (hok : ∀ (j : Nat) (a : Int) (t : Tok) (v : Addr) (r : Rg), ps[j]? = some (a, t, v) → rs[j]? = some r → r.1 = a ∧ ROK w news v r) (ho : okR (-1) rs)
   (ret : ∀ D ys n c h' tk', Fr h₀ L h' m → News h₀ L h' ((D, lstO ys n) :: (c ++ news)) → Tup4s (c ++ news) ys rs → Q (.ref D) {s with heap := h', toks := tk'}) :
   wpAny (model pr w) (ktrTop dp un gd cn cs L a ccd cl outer) (call (.ref 503) [.ref sh]) Q E s := by
  obtain ⟨d0, k3, k4, h1, h2⟩ := hsh
  exact rl_0 B F X (news_pick N h1 (news_pick N h2 N)) T hk hdp hun hroot hV hN hrow hp1 hps hlr hok ho ret

end
section
/-- an entry of a dict that stands there unless it is None -/
def opt1 (k : Str) (v : Value) : List (Str × Value) := match v with | .none => [] | v => [(k, v)]
def NmS (w : World) (news : List (Addr × Obj)) (v : Value) (x : Str) : Prop := (v = .none ∧ x = Str.ofString "") ∨ (x ≠ Str.ofString "" ∧ ∃ a d t k, v = .ref a ∧ (a, instObj 183 d) ∈ news ∧ (d, nmD w x t k) ∈ news)
def StS (w : World) (news : List (Addr × Obj)) (v : Value) (cs : List Int) : Prop := (v = .none ∧ cs = []) ∨ (cs ≠ [] ∧ ∃ a d t k1 k2, v = .ref a ∧ (a, instObj 205 d) ∈ news ∧ (d, stD w (byteArr (po cs)) t k1 k2) ∈ news)
def NoS (v : Value) (n : Int) : Prop := (v = .none ∧ n = 1) ∨ (n ≠ 1 ∧ ∃ t, v = .int n t)
/-- the dict that label_dict makes -/
def LabIn (w : World) (news : List (Addr × Obj)) (v : Addr) (x : Str) (cs : List Int) (n : Int) : Prop := ∃ vS vP vN, DIn w news v (opt1 (Str.ofString "S") vS ++ (opt1 (Str.ofString "P") vP ++ opt1 (Str.ofString "St") vN)) ∧ NmS w news vS x ∧ StS w news vP cs ∧ NoS vN n
theorem lab_of {w : World} {news : List (Addr × Obj)} {v : Addr} {x : Str} {cs : List Int} {n : Int} {vS vP vN : Value} (h0 : DIn w news v (opt1 (Str.ofString "S") vS ++ (opt1 (Str.ofString "P") vP ++ opt1 (Str.ofString "St") vN))) (h1 : NmS w news vS x) (h2 : StS w news vP cs) (h3 : NoS vN n) : LabIn w news v x cs n := ⟨vS, vP, vN, h0, h1, h2, h3⟩
theorem allLt_all {d : Nat} : ∀ {l : List (Addr × Obj)}, (∀ p ∈ l, @LT.lt Nat _ p.1 d) → AllLt d l
  | [], _ => trivial
  | _ :: _, h => ⟨h _ (.head _), allLt_all fun p hp => h p (.tail _ hp)⟩
theorem allLt_le {d e : Nat} : ∀ {l : List (Addr × Obj)}, AllLt d l → d ≤ e → AllLt e l
  | [], _, _ => trivial
  | _ :: _, h, k => ⟨Nat.lt_of_lt_of_le h.1 k, allLt_le h.2 k⟩
theorem txt_nil {cs : List Int} (h : (KStt.txt cs != Str.ofString "") = false) : cs = [] := by
  have e : KStt.txt cs = Str.ofString "" := by simpa using h
  have l := congrArg PySem.Str.length e
  rw [txt_len] at l
  exact List.length_eq_zero_iff.mp (l.trans (by decide +kernel))
theorem txt_ne {cs : List Int} (h : (KStt.txt cs != Str.ofString "") = true) : cs ≠ [] := by
  intro e
  subst e
  exact absurd h (by decide +kernel)
theorem str_nil {x : Str} (h : (x != Str.ofString "") = false) : x = Str.ofString "" := by simpa using h
theorem str_ne {x : Str} (h : (x != Str.ofString "") = true) : x ≠ Str.ofString "" := by simpa using h
section
theorem ld_ok {pv : Program} {w : World} {loose : List Str} {mean : ExcName → Option Value} {mg mb : Str → Option Value} {A₀ : Around} {dp un : Nat} {gd : Option (List Code)} {cn : Str} {cs₀ : Scope} {a : Addr} {ccd : Value} {cl : List (Str × Addr)} {outer : List Env} {base h₀ : Heap} {L : Addr} {m : Str → Option Value} {s : Shared} {Q E : Value → Shared → Prop}
   {x : Str} {cs : List Int} {n : Int} {tx tc tn : Tok} {news : List (Addr × Obj)}
   (B : Below A₀ base outer h₀) (F : Fr h₀ L s.heap m) (X : (frag.heap_1 w.params).In h₀) (N : News h₀ L s.heap news) (T : Top pv loose mean mg mb h₀)
   (hk : cs₀.kind = .function) (hdp : dp + 4 < recursionLimit) (hun : un + 700 < cLine)
   (hlen : cs.length ≤ 6) (hb : ∀ c ∈ cs, 0 ≤ c ∧ c < 1114112)
   (ret : ∀ D c h' tk', Fr h₀ L h' m → News h₀ L h' (c ++ news) → LabIn w c D x cs n → (∀ p ∈ c, AllLt p.1 news) → Q (.ref D) {s with heap := h', toks := tk'}) :
   wpAny (model pr w) (ktrTop dp un gd cn cs₀ L a ccd cl outer) (call (.ref 485) [.str x tx, .str (KStt.txt cs) tc, .int n tn]) Q E s := by
  have hct : KStt.codes (KStt.txt cs) = cs := codes_txt fun c hc => (hb c hc).1
  walk_at "MY ENTER"
  (skip; repeat' (first | (k_unfold; (try dsimp only)) | (with_reducible refine gen3 ?_; intro _) | ((with_reducible show wpAny _ _ (exec (Stmt.Assign _ _ _) _) _ _ _); k_fold) | ((with_reducible show wpAny _ _ (exec (Stmt.Return _ _) _) _ _ _); k_fold) | ((with_reducible show wpAny _ _ (eval (PySem.Expr.Call _ _ _ _) _) _ _ _); k_fold) | with_reducible refine seq_next ?_ | with_reducible refine seq_ret ?_ | walk_at "MY STEP" | (first | ((with_reducible show wpAny _ _ (call (Value.ref 466) _) _ _ _); k_dflt (refine' po_ok ?zzB ?zzF ?zzX ?zzN ?zzT ?zzhk ?zzhdp ?zzhun ?zzhx ?zzhlen ?zzhks ?_; (case zzB => k_asm); (case zzF => k_asm); (case zzX => k_asm); (case zzN => k_asm); (case zzT => k_asm); (case zzhk => first | assumption | rfl); (case zzhdp => ktr_room); (case zzhun => units_room); (case zzhx => assumption); (case zzhlen => omega); (case zzhks => assumption)); intro zzt9 zzh9 zztk9 zzF9 zzN9; (try dsimp only)) | ((with_reducible show wpAny _ _ (call (Value.ref 205) _) _ _ _); walk1) | ((with_reducible show wpAny _ _ (call (Value.ref 183) _) _ _ _); walk1)) | dsimp only | (leave1; (try dsimp only)) | fail "no step"))
  all_goals (try k_data)
  all_goals (
    rename (∀ p ∈ news, _) => l0
    have l0 := allLt_all l0
    first
      | refine' ret _ [_, _, _, _, _] _ _ ?F (by assumption) ?lab ?l
      | refine' ret _ [_, _, _] _ _ ?F (by assumption) ?lab ?l
      | refine' ret _ [_] _ _ ?F (by assumption) ?lab ?l
    case F => k_asm
    case lab =>
      first
        | exact lab_of (vS := .none) (vP := .none) (vN := .none) ⟨_, by k_dflt k_mem, by assumption, by assumption⟩ (.inl ⟨rfl, str_nil (by assumption)⟩) (.inl ⟨rfl, txt_nil (by assumption)⟩) (.inl ⟨rfl, by assumption⟩)
        | exact lab_of (vS := .none) (vP := .none) (vN := .int _ _) ⟨_, by k_dflt k_mem, by assumption, by assumption⟩ (.inl ⟨rfl, str_nil (by assumption)⟩) (.inl ⟨rfl, txt_nil (by assumption)⟩) (.inr ⟨by assumption, _, rfl⟩)
        | exact lab_of (vS := .none) (vP := .ref _) (vN := .none) ⟨_, by k_dflt k_mem, by assumption, by assumption⟩ (.inl ⟨rfl, str_nil (by assumption)⟩) (.inr ⟨txt_ne (by assumption), _, _, _, _, _, rfl, by k_dflt k_mem, by k_dflt k_mem⟩) (.inl ⟨rfl, by assumption⟩)
        | exact lab_of (vS := .none) (vP := .ref _) (vN := .int _ _) ⟨_, by k_dflt k_mem, by assumption, by assumption⟩ (.inl ⟨rfl, str_nil (by assumption)⟩) (.inr ⟨txt_ne (by assumption), _, _, _, _, _, rfl, by k_dflt k_mem, by k_dflt k_mem⟩) (.inr ⟨by assumption, _, rfl⟩)
        | exact lab_of (vS := .ref _) (vP := .none) (vN := .none) ⟨_, by k_dflt k_mem, by assumption, by assumption⟩ (.inr ⟨str_ne (by assumption), _, _, _, _, rfl, by k_dflt k_mem, by k_dflt k_mem⟩) (.inl ⟨rfl, txt_nil (by assumption)⟩) (.inl ⟨rfl, by assumption⟩)
        | exact lab_of (vS := .ref _) (vP := .none) (vN := .int _ _) ⟨_, by k_dflt k_mem, by assumption, by assumption⟩ (.inr ⟨str_ne (by assumption), _, _, _, _, rfl, by k_dflt k_mem, by k_dflt k_mem⟩) (.inl ⟨rfl, txt_nil (by assumption)⟩) (.inr ⟨by assumption, _, rfl⟩)
        | exact lab_of (vS := .ref _) (vP := .ref _) (vN := .none) ⟨_, by k_dflt k_mem, by assumption, by assumption⟩ (.inr ⟨str_ne (by assumption), _, _, _, _, rfl, by k_dflt k_mem, by k_dflt k_mem⟩) (.inr ⟨txt_ne (by assumption), _, _, _, _, _, rfl, by k_dflt k_mem, by k_dflt k_mem⟩) (.inl ⟨rfl, by assumption⟩)
        | exact lab_of (vS := .ref _) (vP := .ref _) (vN := .int _ _) ⟨_, by k_dflt k_mem, by assumption, by assumption⟩ (.inr ⟨str_ne (by assumption), _, _, _, _, rfl, by k_dflt k_mem, by k_dflt k_mem⟩) (.inr ⟨txt_ne (by assumption), _, _, _, _, _, rfl, by k_dflt k_mem, by k_dflt k_mem⟩) (.inr ⟨by assumption, _, rfl⟩)
    case l => (repeat (first | exact List.forall_mem_nil _ | (refine List.forall_mem_cons.mpr ⟨allLt_le l0 (by (try dsimp only); omega), ?_⟩))))
end

end
section
theorem swap2 {x y : Addr × Obj} {l : List (Addr × Obj)} : ∀ p ∈ y :: x :: l, p ∈ x :: y :: l := by
  intro p hp
  rcases List.mem_cons.mp hp with rfl | hp
  · exact .tail _ (.head _)
  rcases List.mem_cons.mp hp with rfl | hp
  · exact .head _
  · exact .tail _ (.tail _ hp)
section
theorem ep_0 {pv : Program} {w : World} {loose : List Str} {mean : ExcName → Option Value} {mg mb : Str → Option Value} {A₀ : Around} {dp un : Nat} {gd : Option (List Code)} {cn : Str} {cs₀ : Scope} {a : Addr} {ccd : Value} {cl : List (Str × Addr)} {outer : List Env} {base h₀ : Heap} {L : Addr} {m : Str → Option Value} {s : Shared} {Q E : Value → Shared → Prop}
   {pl t : Addr} {t16 : Tok} {k : Nat} {rest : List (Addr × Obj)}
   (B : Below A₀ base outer h₀) (F : Fr h₀ L s.heap m) (X : (frag.heap_1 w.params).In h₀) (N : News h₀ L s.heap ((pl, lstO [.ref t] k) :: rest)) (T : Top pv loose mean mg mb h₀)
   (hk : cs₀.kind = .function) (hdp : dp + 3 < recursionLimit) (hun : un + 600 < cLine)
   (ret : ∀ D R k1 k2 h' tk', Fr h₀ L h' m → News h₀ L h' ((D, lstO [.ref R] k1) :: (R, lstO [.ref t] k2) :: (pl, lstO [.ref t] k) :: rest) → AllLt D rest → AllLt R rest → Q (.ref D) {s with heap := h', toks := tk'}) :
   wpAny (model pr w) (ktrTop dp un gd cn cs₀ L a ccd cl outer) (call (.ref 417) [.ref pl, .int 16 t16]) Q E s := by
  walk_at "MY ENTER"
  (skip; repeat' (first | (k_unfold; (try dsimp only)) | ((with_reducible show wpAny _ _ (exec (Stmt.Assign _ _ _) _) _ _ _); k_fold) | ((with_reducible show wpAny _ _ (exec (Stmt.Return _ _) _) _ _ _); k_fold) | ((with_reducible show wpAny _ _ (eval (PySem.Expr.Call _ _ _ _) _) _ _ _); k_fold) | with_reducible refine seq_next ?_ | with_reducible refine seq_ret ?_ | ((fail_if_success (with_reducible show wpAny _ _ (call (Value.ref _) _) _ _ _)); walk1) | dsimp only | (leave1; (try dsimp only)) | fail "no step"))
  all_goals (try k_data)
  rename (_ < _ ∧ AllLt _ rest) => la
  rename (_ < _ ∧ _ < _ ∧ AllLt _ rest) => lb
  rename (_ < _ ∧ _ < _ ∧ _ < _ ∧ AllLt _ rest) => lc
  refine ⟨_, _, _, _, rfl, by k_asm, news_sub (by assumption) swap2, ?o, ?r⟩
  case o =>
    refine List.forall_mem_cons.mpr ⟨Nat.ne_of_gt lc.1, List.forall_mem_cons.mpr ⟨Nat.ne_of_lt lb.1, List.forall_mem_cons.mpr ⟨Nat.ne_of_lt lb.2.1, allLt_ne lb.2.2⟩⟩⟩
  case r =>
    refine RangeRest.zero ?_
    intro h tk F9 N9
    (skip; repeat' (first | (k_unfold; (try dsimp only)) | ((with_reducible show wpAny _ _ (exec (Stmt.Assign _ _ _) _) _ _ _); k_fold) | ((with_reducible show wpAny _ _ (exec (Stmt.Return _ _) _) _ _ _); k_fold) | ((with_reducible show wpAny _ _ (eval (PySem.Expr.Call _ _ _ _) _) _ _ _); k_fold) | with_reducible refine seq_next ?_ | with_reducible refine seq_ret ?_ | ((fail_if_success (with_reducible show wpAny _ _ (call (Value.ref _) _) _ _ _)); walk1) | dsimp only | (leave1; (try dsimp only)) | fail "no step"))
    all_goals (try k_data)
    exact ret _ _ _ _ _ _ (by k_asm) (by walk_at "MY NEWS") la.2 lc.2.2.2
end

end
section
structure LfS where
  its : List Value
  n : Nat
  x1 : Option Value
  x2 : Option Value
section
theorem ln_0 {pv : Program} {w : World} {loose : List Str} {mean : ExcName → Option Value} {mg mb : Str → Option Value} {A₀ : Around} {dp un : Nat} {gd : Option (List Code)} {cn : Str} {cs₀ : Scope} {a : Addr} {ccd : Value} {cl : List (Str × Addr)} {outer : List Env} {base h₀ : Heap} {L : Addr} {m : Str → Option Value} {s : Shared} {Q E : Value → Shared → Prop}
   {R t lab : Addr} {i : Int} {ti tw : Tok} {k n : Nat} {rest : List (Addr × Obj)}
   (B : Below A₀ base outer h₀) (F : Fr h₀ L s.heap m) (X : (frag.heap_1 w.params).In h₀) (N : News h₀ L s.heap ((R, lstO [.ref t] k) :: (t, tup2 (.int i ti) (.ref lab) n) :: rest)) (T : Top pv loose mean mg mb h₀)
   (hk : cs₀.kind = .function) (hdp : dp + 3 < recursionLimit) (hun : un + 600 < cLine)
   (ret : ∀ D o Lm row k' h' tk', Fr h₀ L h' m → Obj.IsDictOf (PySem.strKind pr w) o [(Str.ofString "Limits", .ref Lm), (Str.ofString "Nums", .ref row)] → (D == sysModules) = false → News h₀ L h' ((D, o) :: (row, lstO [.int i ti, .ref lab] k') :: (R, lstO [.ref t] k) :: (t, tup2 (.int i ti) (.ref lab) n) :: rest) → AllLt D ((R, lstO [.ref t] k) :: (t, tup2 (.int i ti) (.ref lab) n) :: rest) → AllLt row ((R, lstO [.ref t] k) :: (t, tup2 (.int i ti) (.ref lab) n) :: rest) → Q (.ref D) {s with heap := h', toks := tk'}) :
   wpAny (model pr w) (ktrTop dp un gd cn cs₀ L a ccd cl outer) (call (.ref 424) [.str (Str.ofString "Nums") tw, .ref R]) Q E s := by
  walk_at "MY ENTER"
  (skip; repeat' (first | (k_unfold; (try dsimp only)) | (with_reducible refine gen3 ?_; intro _) | ((with_reducible show wpAny _ _ (exec (Stmt.Assign _ _ _) _) _ _ _); k_fold) | ((with_reducible show wpAny _ _ (exec (Stmt.Return _ _) _) _ _ _); k_fold) | ((with_reducible show wpAny _ _ (eval (PySem.Expr.Call _ _ _ _) _) _ _ _); k_fold) | with_reducible refine seq_next ?_ | with_reducible refine seq_ret ?_ | (first | ((with_reducible show wpAny _ _ (eval (PySem.Expr.Dict (_ :: _) (_ :: _) _) _) _ _ _); with_reducible ((k_dflt (refine' kdn_eval (knd := PySem.strKind _ _) ?zzF ?zzN ?zzb ?zza ?zzl ?zze ?zzn ?_; (case zzF => k_asm); (case zzN => k_asm); (case zzb => exact Top.nolimit (by k_asm)); (case zza => rfl); (case zzl => rfl); (case zze => exact List.cons_ne_nil _ _); (case zzn => exact Nat.le_of_ble_eq_true rfl)); intro zzd' zzh' zzo' zzF' zzN' zzl1 zzlo' zzhd'; (try k_lt zzl1)))) | walk_at "MY STEP") | (((with_reducible show wpAny _ _ (call (Value.ref 372) _) _ _ _); first | walk_at "MY ENTER" | walk_at "MY ENTERC")) | dsimp only | (leave1; (try dsimp only)) | fail "no step"))
  all_goals (try k_data)
  refine' r_forT (by k_asm) (by rfl) ?_ (by intro _; rfl) (by passes_own)
  (skip; repeat' (first | (k_unfold; (try dsimp only)) | (with_reducible refine gen3 ?_; intro _) | ((with_reducible show wpAny _ _ (exec (Stmt.Assign _ _ _) _) _ _ _); k_fold) | ((with_reducible show wpAny _ _ (exec (Stmt.Return _ _) _) _ _ _); k_fold) | ((with_reducible show wpAny _ _ (eval (PySem.Expr.Call _ _ _ _) _) _ _ _); k_fold) | with_reducible refine seq_next ?_ | with_reducible refine seq_ret ?_ | (first | ((with_reducible show wpAny _ _ (eval (PySem.Expr.Dict (_ :: _) (_ :: _) _) _) _ _ _); with_reducible ((k_dflt (refine' kdn_eval (knd := PySem.strKind _ _) ?zzF ?zzN ?zzb ?zza ?zzl ?zze ?zzn ?_; (case zzF => k_asm); (case zzN => k_asm); (case zzb => exact Top.nolimit (by k_asm)); (case zza => rfl); (case zzl => rfl); (case zze => exact List.cons_ne_nil _ _); (case zzn => exact Nat.le_of_ble_eq_true rfl)); intro zzd' zzh' zzo' zzF' zzN' zzl1 zzlo' zzhd'; (try k_lt zzl1)))) | walk_at "MY STEP") | (((with_reducible show wpAny _ _ (call (Value.ref 372) _) _ _ _); first | walk_at "MY ENTER" | walk_at "MY ENTERC")) | dsimp only | (leave1; (try dsimp only)) | fail "no step"))
  all_goals (try k_data)
  rename News _ _ _ _ => N3
  rename Fr _ _ _ _ => F3
  rename (_ < _ ∧ _ < _ ∧ AllLt _ rest) => l1
  rename_i ra hA tkA
  refine' ⟨LfS, R, [.ref t], k, (fun c y => if y = "value" then c.x2 else if y = "key" then c.x1 else if y = "row" then some (.ref ra) else List.lookup y [(Str.ofString "pairs", Value.ref R), (Str.ofString "word", .str (Str.ofString "Nums") tw)]), (fun c => (ra, lstO c.its c.n) :: (R, lstO [.ref t] k) :: (t, tup2 (.int i ti) (.ref lab) n) :: rest), (fun j c => c.its = if j = 0 then [] else [.int i ti, .ref lab]), ⟨[], 0, none, none⟩, rfl, ?g1, ?g2, N3, ?g3, rfl, ?g4, ?g5⟩
  case g1 =>
    intro v hv
    rw [List.mem_singleton.mp hv]; exact ⟨_, rfl⟩
  case g2 =>
    refine fr_cast (by k_asm) ?_
    intro y
    dsimp only
    by_cases h0 : y = "value"
    · subst h0; rfl
    by_cases h1 : y = "key"
    · subst h1; rfl
    simp only [if_neg h0, if_neg h1]
    rfl
  case g3 => walk_at "MY NEWS"
  case g4 =>
    rintro I j v ⟨its, nn, x1, x2⟩ oI h tk hv hP hoff F9 N9
    have hj := (List.getElem?_eq_some_iff.mp hv).1
    obtain rfl : j = 0 := by simpa using hj
    obtain rfl : Value.ref t = v := by simpa using hv
    dsimp only at hP hoff F9 N9 ⊢
    have hP : its = [] := hP
    subst hP
    have hI1 : @Ne Nat ra I := hoff _ (.head _)
    have hI2 : @Ne Nat R I := hoff _ (.tail _ (.head _))
    have hI3 : @Ne Nat t I := hoff _ (.tail _ (.tail _ (.head _)))
    have hoff2 : ∀ p ∈ (ra, lstO [.int i ti, .ref lab] (nn + 1 + 1)) :: (R, lstO [.ref t] k) :: (t, tup2 (.int i ti) (.ref lab) n) :: rest, p.1 ≠ I := List.forall_mem_cons.mpr ⟨hI1, List.forall_mem_cons.mpr ⟨hI2, List.forall_mem_cons.mpr ⟨hI3, fun p hp => hoff p (.tail _ (.tail _ (.tail _ hp)))⟩⟩⟩
    have hI4 : ∀ p ∈ rest, p.1 ≠ I := fun p hp => hoff p (.tail _ (.tail _ (.tail _ hp)))
    (skip; repeat' (first | (k_unfold; (try dsimp only)) | (with_reducible refine gen3 ?_; intro _) | ((with_reducible show wpAny _ _ (exec (Stmt.Assign _ _ _) _) _ _ _); k_fold) | ((with_reducible show wpAny _ _ (exec (Stmt.Return _ _) _) _ _ _); k_fold) | ((with_reducible show wpAny _ _ (eval (PySem.Expr.Call _ _ _ _) _) _ _ _); k_fold) | with_reducible refine seq_next ?_ | with_reducible refine seq_ret ?_ | (first | ((with_reducible show wpAny _ _ (eval (PySem.Expr.Dict (_ :: _) (_ :: _) _) _) _ _ _); with_reducible ((k_dflt (refine' kdn_eval (knd := PySem.strKind _ _) ?zzF ?zzN ?zzb ?zza ?zzl ?zze ?zzn ?_; (case zzF => k_asm); (case zzN => k_asm); (case zzb => exact Top.nolimit (by k_asm)); (case zza => rfl); (case zzl => rfl); (case zze => exact List.cons_ne_nil _ _); (case zzn => exact Nat.le_of_ble_eq_true rfl)); intro zzd' zzh' zzo' zzF' zzN' zzl1 zzlo' zzhd'; (try k_lt zzl1)))) | walk_at "MY STEP") | (((with_reducible show wpAny _ _ (call (Value.ref 372) _) _ _ _); first | walk_at "MY ENTER" | walk_at "MY ENTERC")) | dsimp only | (leave1; (try dsimp only)) | fail "no step"))
    all_goals (try k_data)
    refine' ⟨⟨[.int i ti, .ref lab], nn + 1 + 1, some (.int i ti), some (.ref lab)⟩, _, _, rfl, fr_cast (by k_asm) ?qf, ?N, hoff2, rfl⟩
    case N => walk_at "MY NEWS"
    case qf => (intro y; dsimp only; by_cases h0 : y = "value"; (subst h0; rfl); by_cases h1 : y = "key"; (subst h1; rfl); simp only [if_neg h0, if_neg h1])
  case g5 =>
    rintro ⟨its, nn, x1, x2⟩ h tk hP F9 N9
    dsimp only at hP F9 N9
    have hP : its = [.int i ti, .ref lab] := hP
    subst hP
    (skip; repeat' (first | (k_unfold; (try dsimp only)) | (with_reducible refine gen3 ?_; intro _) | ((with_reducible show wpAny _ _ (exec (Stmt.Assign _ _ _) _) _ _ _); k_fold) | ((with_reducible show wpAny _ _ (exec (Stmt.Return _ _) _) _ _ _); k_fold) | ((with_reducible show wpAny _ _ (eval (PySem.Expr.Call _ _ _ _) _) _ _ _); k_fold) | with_reducible refine seq_next ?_ | with_reducible refine seq_ret ?_ | (first | ((with_reducible show wpAny _ _ (eval (PySem.Expr.Dict (_ :: _) (_ :: _) _) _) _ _ _); with_reducible ((k_dflt (refine' kdn_eval (knd := PySem.strKind _ _) ?zzF ?zzN ?zzb ?zza ?zzl ?zze ?zzn ?_; (case zzF => k_asm); (case zzN => k_asm); (case zzb => exact Top.nolimit (by k_asm)); (case zza => rfl); (case zzl => rfl); (case zze => exact List.cons_ne_nil _ _); (case zzn => exact Nat.le_of_ble_eq_true rfl)); intro zzd' zzh' zzo' zzF' zzN' zzl1 zzlo' zzhd'; (try k_lt zzl1)))) | walk_at "MY STEP") | (((with_reducible show wpAny _ _ (call (Value.ref 372) _) _ _ _); first | walk_at "MY ENTER" | walk_at "MY ENTERC")) | dsimp only | (leave1; (try dsimp only)) | fail "no step"))
    all_goals (try k_data)
    rename (_ < _ ∧ _ < _ ∧ _ < _ ∧ AllLt _ rest) => l4
    exact ret _ _ _ ra _ _ _ (by k_asm) (by assumption) (by assumption) (by walk_at "MY NEWS") l4.2 l1
end

end
section
theorem not_mod {pv : Program} {loose : List Str} {mean : ExcName → Option Value} {mg mb : Str → Option Value} {g h : Heap} {L D : Addr} {m : Str → Option Value} (T : Top pv loose mean mg mb g) (F : Fr g L h m) (l : @LT.lt Nat _ L D) : (D == sysModules) = false :=
  beq_eq_false_iff_ne.mpr (Nat.ne_of_gt (Nat.lt_trans (Nat.lt_of_lt_of_le (modules_low T.nolimit) F.above) l))
section
theorem ar_0 {pv : Program} {w : World} {loose : List Str} {mean : ExcName → Option Value} {mg mb : Str → Option Value} {A₀ : Around} {dp un : Nat} {gd : Option (List Code)} {cn : Str} {cs₀ : Scope} {a : Addr} {ccd : Value} {cl : List (Str × Addr)} {outer : List Env} {base h₀ : Heap} {L : Addr} {m : Str → Option Value} {s : Shared} {Q E : Value → Shared → Prop}
   {D Lm row : Addr} {o : Obj} {rest : List (Addr × Obj)}
   (B : Below A₀ base outer h₀) (F : Fr h₀ L s.heap m) (X : (frag.heap_1 w.params).In h₀) (N : News h₀ L s.heap ((D, o) :: rest)) (T : Top pv loose mean mg mb h₀)
   (hk : cs₀.kind = .function) (hdp : dp + 3 < recursionLimit) (hun : un + 600 < cLine) (hD : Obj.IsDictOf (PySem.strKind pr w) o [(Str.ofString "Limits", .ref Lm), (Str.ofString "Nums", .ref row)]) (lo : (D == sysModules) = false)
   (ret : ∀ D' o' h' tk', Fr h₀ L h' m → Obj.IsDictOf (PySem.strKind pr w) o' [(Str.ofString "Nums", .ref row)] → (D' == sysModules) = false → News h₀ L h' ((D', o') :: (D, o) :: rest) → AllLt D' ((D, o) :: rest) → Q (.ref D') {s with heap := h', toks := tk'}) :
   wpAny (model pr w) (ktrTop dp un gd cn cs₀ L a ccd cl outer) (call (.ref 436) [.ref D]) Q E s := by
  first | walk_at "MY ENTER" | walk_at "MY ENTERC"
  ((skip; repeat' (first | (k_unfold; (try dsimp only)) | ((with_reducible show wpAny _ _ (exec (Stmt.Assign _ _ _) _) _ _ _); k_fold) | ((with_reducible show wpAny _ _ (exec (Stmt.Return _ _) _) _ _ _); k_fold) | ((with_reducible show wpAny _ _ (eval (PySem.Expr.Call _ _ _ _) _) _ _ _); k_fold) | with_reducible refine seq_next ?_ | with_reducible refine seq_ret ?_ | (( (fail_if_success (with_reducible show wpAny _ _ (eval (PySem.Expr.DictComp _ _ _ _ _) _) _ _ _)); (fail_if_success (with_reducible show wpAny _ _ (call (Value.ref _) _) _ _ _)); walk1)) | dsimp only | (leave1; (try dsimp only)) | fail "no step")))
  all_goals (try k_data)
  refine DictComp_2 (by k_asm) (by rfl) (by with_unfolding_all rfl) (by decide) (by rfl) (by decide) (by rfl) ?_
  (skip; repeat' (first | (k_unfold; (try dsimp only)) | (with_reducible refine gen3 ?_; intro _) | ((with_reducible show wpAny _ _ (exec (Stmt.Assign _ _ _) _) _ _ _); k_fold) | ((with_reducible show wpAny _ _ (exec (Stmt.Return _ _) _) _ _ _); k_fold) | ((with_reducible show wpAny _ _ (eval (PySem.Expr.Call _ _ _ _) _) _ _ _); k_fold) | with_reducible refine seq_next ?_ | with_reducible refine seq_ret ?_ | walk_at "MY STEP" | dsimp only | (leave1; (try dsimp only)) | fail "no step"))
  all_goals (try k_data)
  rename News _ _ _ _ => N2
  refine ⟨D, o, _, _, _, _, _, lo, by k_asm, N2, .tail _ (.head _), hD, ?T, ?K, ?V, ?Q⟩
  case T =>
    intro k t I oI C oC D9 oD m₂ h tk E' hk hC hx F9 N9
    (skip; repeat' (first | (k_unfold; (try dsimp only)) | (with_reducible refine gen3 ?_; intro _) | ((with_reducible show wpAny _ _ (exec (Stmt.Assign _ _ _) _) _ _ _); k_fold) | ((with_reducible show wpAny _ _ (exec (Stmt.Return _ _) _) _ _ _); k_fold) | ((with_reducible show wpAny _ _ (eval (PySem.Expr.Call _ _ _ _) _) _ _ _); k_fold) | with_reducible refine seq_next ?_ | with_reducible refine seq_ret ?_ | walk_at "MY STEP" | dsimp only | (leave1; (try dsimp only)) | fail "no step"))
    all_goals (try k_data)
    exact still_end (by by_cases e : k = Str.ofString "Limits" <;> simp [e]) (by k_asm) (by k_asm)
  case K =>
    intro t I oI C oC D9 oD m₂ h tk E' hC hx F9 N9
    (skip; repeat' (first | (k_unfold; (try dsimp only)) | (with_reducible refine gen3 ?_; intro _) | ((with_reducible show wpAny _ _ (exec (Stmt.Assign _ _ _) _) _ _ _); k_fold) | ((with_reducible show wpAny _ _ (exec (Stmt.Return _ _) _) _ _ _); k_fold) | ((with_reducible show wpAny _ _ (eval (PySem.Expr.Call _ _ _ _) _) _ _ _); k_fold) | with_reducible refine seq_next ?_ | with_reducible refine seq_ret ?_ | walk_at "MY STEP" | dsimp only | (leave1; (try dsimp only)) | fail "no step"))
    all_goals (try k_data)
    exact still_end ⟨_, rfl⟩ (by k_asm) (by k_asm)
  case V =>
    intro t I oI C oC D9 oD m₂ h tk E' hC hx F9 N9
    (skip; repeat' (first | (k_unfold; (try dsimp only)) | (with_reducible refine gen3 ?_; intro _) | ((with_reducible show wpAny _ _ (exec (Stmt.Assign _ _ _) _) _ _ _); k_fold) | ((with_reducible show wpAny _ _ (exec (Stmt.Return _ _) _) _ _ _); k_fold) | ((with_reducible show wpAny _ _ (eval (PySem.Expr.Call _ _ _ _) _) _ _ _); k_fold) | with_reducible refine seq_next ?_ | with_reducible refine seq_ret ?_ | walk_at "MY STEP" | dsimp only | (leave1; (try dsimp only)) | fail "no step"))
    all_goals (try k_data)
    exact still_end rfl (by k_asm) (by k_asm)
  case Q =>
    intro D9 oD h tk F9 N9 hd9 l9 l8
    have lo9 : (D9 == sysModules) = false := not_mod (by assumption) F9 l8
    (skip; repeat' (first | (k_unfold; (try dsimp only)) | (with_reducible refine gen3 ?_; intro _) | ((with_reducible show wpAny _ _ (exec (Stmt.Assign _ _ _) _) _ _ _); k_fold) | ((with_reducible show wpAny _ _ (exec (Stmt.Return _ _) _) _ _ _); k_fold) | ((with_reducible show wpAny _ _ (eval (PySem.Expr.Call _ _ _ _) _) _ _ _); k_fold) | with_reducible refine seq_next ?_ | with_reducible refine seq_ret ?_ | walk_at "MY STEP" | dsimp only | (leave1; (try dsimp only)) | fail "no step"))
    all_goals (try k_data)
    exact ret D9 oD _ _ (by k_asm) hd9 lo9 (by walk_at "MY NEWS") ⟨l9 _ (.tail _ (.head _)), allLt_all fun p hp => l9 p (.tail _ (.tail _ hp))⟩
end

end
section
section
variable {prog : Program} {w : World} {A : Around} {E : Value → Shared → Prop} {s : Shared} {h₀ : Heap} {L l : Addr} {m : Str → Option Value} {news : List (Addr × Obj)} {b : Bool} {Q : Value → Shared → Prop}
theorem ksk_one {v : Value} {f : Value} {kw : List (Str × Value)} (k : Int) (F : Fr h₀ L s.heap m) (N : News h₀ L s.heap news) (hl : s.heap.IsList l (List.toArray [v]))
    (ha1 : argsOk "sorted" ⟨[.ref l], kw⟩) (ha2 : ∀ x, argsOk "list.sort" ⟨[.ref x], kw⟩) (ht : ∀ x, Builtin.«list.sort» ⟨[.ref x], kw⟩ = ksk_tree x f b)
    (turn : ∀ (h : Heap) (tk : Nat) (own : List (Addr × Obj)), Fr h₀ L h m → News h₀ L h (news ++ own) →
      wpAny (model prog w) A.in1.in1 (call f [v]) (KskEnd h₀ L m (news ++ own) k { s with heap := h, toks := tk }) (fun _ _ => False) { s with heap := h, toks := tk })
    (h : ∀ D c h' tk, Fr h₀ L h' m → News h₀ L h' ((D, lstO [v] c) :: news) → (∀ q ∈ news, q.1 < D) → Q (.ref D) { s with heap := h', toks := tk }) :
    wpAny (model prog w) A (call (.builtin "sorted") [.ref l] kw) Q E s := by
  refine ksk_sorted (kz := [k]) F N hl rfl (Nat.le_of_ble_eq_true rfl) ha1 ha2 ht ?_ ?_
  · intro i u z hu hz h tk own F' N'
    have hi := (List.getElem?_eq_some_iff.mp hu).1
    obtain rfl : i = 0 := by simpa using hi
    simp at hu hz
    subst hu; subst hz
    exact turn h tk own F' N'
  · intro D h' tk out c F' N' hlt ⟨ps, hp, ho, _⟩
    have e : ps = [(k, v)] := by simpa using hp
    subst e
    have e2 : out = [v].toArray := by rw [← Array.toArray_toList (xs := out), ho]; rfl
    subst e2
    exact h D c h' tk F' N' hlt
end
theorem off3_lt {I C D d : Addr} {oI oC oD : Obj} {l : List (Addr × Obj)} (h : AllLt d ((I, oI) :: (C, oC) :: (D, oD) :: l)) : (@Ne Nat d I) ∧ (@Ne Nat d C) ∧ (@Ne Nat d D) := ⟨Nat.ne_of_gt h.1, Nat.ne_of_gt h.2.1, Nat.ne_of_gt h.2.2.1⟩
theorem compEnd2 {h₀ h' : Heap} {L I C D : Addr} {m : Str → Option Value} {s₁ : Shared} {oI oC oD : Obj} {S : List (Addr × Obj) → Prop} {rest : Value → List (Addr × Obj) → Prop} {y : Value} {tk : Nat} {a b : Addr × Obj} {l : List (Addr × Obj)}
    (F : Fr h₀ L h' m) (N : News h₀ L h' (a :: b :: (I, oI) :: (C, oC) :: (D, oD) :: l)) (la : AllLt a.1 ((I, oI) :: (C, oC) :: (D, oD) :: l)) (lb : AllLt b.1 ((I, oI) :: (C, oC) :: (D, oD) :: l)) (off : LCg.Off3 I C D l) (hS : S (a :: b :: l)) (hr : rest y (a :: b :: l)) :
    LCg.CompEnd h₀ L m s₁ I oI C oC D oD S rest y { s₁ with heap := h', toks := tk } :=
  ⟨h', tk, a :: b :: l, rfl, F, news_sub N (by intro p hp; simp only [List.mem_cons] at hp ⊢; rcases hp with h | h | h | h | h | h <;> simp [h]), ⟨off3_lt la, off3_lt lb, off⟩, hS, hr⟩
theorem ep_ok {pv : Program} {w : World} {loose : List Str} {mean : ExcName → Option Value} {mg mb : Str → Option Value} {A₀ : Around} {dp un : Nat} {gd : Option (List Code)} {cn : Str} {cs₀ : Scope} {a : Addr} {ccd : Value} {cl : List (Str × Addr)} {outer : List Env} {base h₀ : Heap} {L : Addr} {m : Str → Option Value} {s : Shared} {Q E : Value → Shared → Prop}
   {pl t : Addr} {t16 : Tok} {k : Nat} {news : List (Addr × Obj)}
   (B : Below A₀ base outer h₀) (F : Fr h₀ L s.heap m) (X : (frag.heap_1 w.params).In h₀) (N : News h₀ L s.heap news) (T : Top pv loose mean mg mb h₀)
   (hk : cs₀.kind = .function) (hdp : dp + 3 < recursionLimit) (hun : un + 600 < cLine) (hp : (pl, lstO [.ref t] k) ∈ news)
   (ret : ∀ D R k1 k2 h' tk', Fr h₀ L h' m → News h₀ L h' ((D, lstO [.ref R] k1) :: (R, lstO [.ref t] k2) :: news) → AllLt D news → AllLt R news → Q (.ref D) {s with heap := h', toks := tk'}) :
   wpAny (model pr w) (ktrTop dp un gd cn cs₀ L a ccd cl outer) (call (.ref 417) [.ref pl, .int 16 t16]) Q E s :=
  ep_0 B F X (news_pick N hp N) T hk hdp hun fun D R k1 k2 h' tk' F' N' l1 l2 => ret D R k1 k2 h' tk' F' (news_sub N' fun p hp => by
    rcases List.mem_cons.mp hp with rfl | hp
    · exact .head _
    rcases List.mem_cons.mp hp with rfl | hp
    · exact .tail _ (.head _)
    · exact .tail _ (.tail _ (.tail _ hp))) l1 l2
theorem ln_ok {pv : Program} {w : World} {loose : List Str} {mean : ExcName → Option Value} {mg mb : Str → Option Value} {A₀ : Around} {dp un : Nat} {gd : Option (List Code)} {cn : Str} {cs₀ : Scope} {a : Addr} {ccd : Value} {cl : List (Str × Addr)} {outer : List Env} {base h₀ : Heap} {L : Addr} {m : Str → Option Value} {s : Shared} {Q E : Value → Shared → Prop}
   {R t lab : Addr} {i : Int} {ti tw : Tok} {k n : Nat} {news : List (Addr × Obj)}
   (B : Below A₀ base outer h₀) (F : Fr h₀ L s.heap m) (X : (frag.heap_1 w.params).In h₀) (N : News h₀ L s.heap news) (T : Top pv loose mean mg mb h₀)
   (hk : cs₀.kind = .function) (hdp : dp + 3 < recursionLimit) (hun : un + 600 < cLine) (hR : (R, lstO [.ref t] k) ∈ news) (ht : (t, tup2 (.int i ti) (.ref lab) n) ∈ news)
   (ret : ∀ D o Lm row k' h' tk', Fr h₀ L h' m → Obj.IsDictOf (PySem.strKind pr w) o [(Str.ofString "Limits", .ref Lm), (Str.ofString "Nums", .ref row)] → (D == sysModules) = false → News h₀ L h' ((D, o) :: (row, lstO [.int i ti, .ref lab] k') :: news) → AllLt D news → AllLt row news → Q (.ref D) {s with heap := h', toks := tk'}) :
   wpAny (model pr w) (ktrTop dp un gd cn cs₀ L a ccd cl outer) (call (.ref 424) [.str (Str.ofString "Nums") tw, .ref R]) Q E s :=
  ln_0 B F X (news_pick N hR (news_pick N ht N)) T hk hdp hun fun D o Lm row k' h' tk' F' hd lo N' l1 l2 => ret D o Lm row k' h' tk' F' hd lo (news_sub N' fun p hp => by
    rcases List.mem_cons.mp hp with rfl | hp
    · exact .head _
    rcases List.mem_cons.mp hp with rfl | hp
    · exact .tail _ (.head _)
    · exact .tail _ (.tail _ (.tail _ (.tail _ hp)))) l1.2.2 l2.2.2
theorem ar_ok {pv : Program} {w : World} {loose : List Str} {mean : ExcName → Option Value} {mg mb : Str → Option Value} {A₀ : Around} {dp un : Nat} {gd : Option (List Code)} {cn : Str} {cs₀ : Scope} {a : Addr} {ccd : Value} {cl : List (Str × Addr)} {outer : List Env} {base h₀ : Heap} {L : Addr} {m : Str → Option Value} {s : Shared} {Q E : Value → Shared → Prop}
   {D Lm row : Addr} {o : Obj} {news : List (Addr × Obj)}
   (B : Below A₀ base outer h₀) (F : Fr h₀ L s.heap m) (X : (frag.heap_1 w.params).In h₀) (N : News h₀ L s.heap news) (T : Top pv loose mean mg mb h₀)
   (hk : cs₀.kind = .function) (hdp : dp + 3 < recursionLimit) (hun : un + 600 < cLine) (hm : (D, o) ∈ news) (hD : Obj.IsDictOf (PySem.strKind pr w) o [(Str.ofString "Limits", .ref Lm), (Str.ofString "Nums", .ref row)]) (lo : (D == sysModules) = false)
   (ret : ∀ D' o' h' tk', Fr h₀ L h' m → Obj.IsDictOf (PySem.strKind pr w) o' [(Str.ofString "Nums", .ref row)] → (D' == sysModules) = false → News h₀ L h' ((D', o') :: news) → AllLt D' news → Q (.ref D') {s with heap := h', toks := tk'}) :
   wpAny (model pr w) (ktrTop dp un gd cn cs₀ L a ccd cl outer) (call (.ref 436) [.ref D]) Q E s :=
  ar_0 B F X (news_pick N hm N) T hk hdp hun hD lo fun D' o' h' tk' F' hd' lo' N' l => ret D' o' h' tk' F' hd' lo' (news_sub N' fun p hp => by
    rcases List.mem_cons.mp hp with rfl | hp
    · exact .head _
    · exact .tail _ (.tail _ hp)) l.2
section
theorem tb_0 {pv : Program} {w : World} {loose : List Str} {mean : ExcName → Option Value} {mg mb : Str → Option Value} {A₀ : Around} {dp un : Nat} {gd : Option (List Code)} {cn : Str} {cs₀ : Scope} {a : Addr} {ccd : Value} {cl : List (Str × Addr)} {outer : List Env} {base h₀ : Heap} {L : Addr} {m : Str → Option Value} {s : Shared} {Q E : Value → Shared → Prop}
   {pl t lab : Addr} {i : Int} {ti tw t16 : Tok} {k n : Nat} {rest : List (Addr × Obj)}
   (B : Below A₀ base outer h₀) (F : Fr h₀ L s.heap m) (X : (frag.heap_1 w.params).In h₀) (N : News h₀ L s.heap ((pl, lstO [.ref t] k) :: (t, tup2 (.int i ti) (.ref lab) n) :: (438, tabObj #[]) :: rest)) (T : Top pv loose mean mg mb h₀)
   (hk : cs₀.kind = .function) (hdp : dp + 6 < recursionLimit) (hun : un + 900 < cLine)
   (C8 : CodeHd base 440 438) (hp8 : @Ne Nat pl 438) (ht8 : @Ne Nat t 438) (hr8 : ∀ x ∈ rest, x.1 ≠ 438)
   (ret : ∀ D row k' tr ps h' tk', Fr h₀ L h' m → News h₀ L h' ((D, tr) :: (row, lstO [.int i ti, .ref lab] k') :: (438, tabObj ps) :: rest) → Obj.IsDictOf (PySem.strKind pr w) tr [(Str.ofString "Nums", .ref row)] → (D == sysModules) = false → AllLt D rest → AllLt row rest → Q (.ref D) {s with heap := h', toks := tk'}) :
   wpAny (model pr w) (ktrTop dp un gd cn cs₀ L a ccd cl outer) (call (.ref 441) [.ref pl, .str (Str.ofString "Nums") tw, .int 16 t16]) Q E s := by
  first | walk_at "MY ENTER" | walk_at "MY ENTERC"
  ((skip; repeat' (first | (k_unfold; (try dsimp only)) | ((with_reducible show wpAny _ _ (exec (Stmt.Assign _ _ _) _) _ _ _); k_fold) | ((with_reducible show wpAny _ _ (exec (Stmt.Return _ _) _) _ _ _); k_fold) | ((with_reducible show wpAny _ _ (eval (PySem.Expr.Call _ _ _ _) _) _ _ _); k_fold) | with_reducible refine seq_next ?_ | with_reducible refine seq_ret ?_ | (( (fail_if_success (with_reducible show wpAny _ _ (call (Value.ref _) _) _ _ _)); (fail_if_success (with_reducible show wpAny _ _ (exec (Stmt.While _ _ _ _) _) _ _ _)); (fail_if_success (with_reducible show wpAny _ _ (exec (Stmt.Assign _ (PySem.Expr.ListComp _ _ _ _) _) _) _ _ _)); (first | ((with_reducible show wpAny _ _ (call (Value.builtin "sorted") _ _) _ _ _); (k_here; ksk_kw; ksk_show; (with_unfolding_all refine' ksk_one _ ?zzk1 ?zzk2 ?zzk3 ?zza1 ?zza2 ?zza3 (fun h' tk' own' F' N' => ?_) (fun D' c' h' tk' F' N' l1 => ?_); (case zzk1 => k_asm); (case zzk2 => k_asm); (case zzk3 => kso_list); (case zza1 => ksk_a1); (case zza2 => (intro zzx'; ksk_a2)); (case zza3 => (intro zzx'; ksk_a3))); (all_goals (try simp only [List.nil_append, List.cons_append, List.append_nil] at N')); (all_goals (try k_lt l1)))) | walk1))) | (first | ((with_reducible show wpAny _ _ (call (Value.ref 436) _) _ _ _); k_dflt (refine' ar_ok ?zzB ?zzF ?zzX ?zzN ?zzT ?zzhk ?zzhdp ?zzhun ?zzhm ?zzhD ?zzlo ?_; (case zzB => k_asm); (case zzF => k_asm); (case zzX => k_asm); (case zzN => k_asm); (case zzT => k_asm); (case zzhk => first | assumption | rfl); (case zzhdp => ktr_room); (case zzhun => units_room); (case zzhm => k_mem); (case zzhD => assumption); (case zzlo => assumption)); intro zzD9 zzo9 zzh9 zztk9 zzF9 zzhd9 zzlo9 zzN9 zzl8; (try simp only [AllLt] at zzl8); (try dsimp only)) | ((with_reducible show wpAny _ _ (call (Value.ref 424) _) _ _ _); k_dflt (refine' ln_ok ?zzB ?zzF ?zzX ?zzN ?zzT ?zzhk ?zzhdp ?zzhun ?zzhR ?zzht ?_; (case zzB => k_asm); (case zzF => k_asm); (case zzX => k_asm); (case zzN => k_asm); (case zzT => k_asm); (case zzhk => first | assumption | rfl); (case zzhdp => ktr_room); (case zzhun => units_room); (case zzhR => k_mem); (case zzht => k_mem)); intro zzD9 zzo9 zzLm9 zzrow9 zzk9 zzh9 zztk9 zzF9 zzhd9 zzlo9 zzN9 zzl8 zzl9; (try simp only [AllLt] at zzl8 zzl9); (try dsimp only)) | ((with_reducible show wpAny _ _ (call (Value.ref 417) _) _ _ _); k_dflt (refine' ep_ok ?zzB ?zzF ?zzX ?zzN ?zzT ?zzhk ?zzhdp ?zzhun ?zzhp ?_; (case zzB => k_asm); (case zzF => k_asm); (case zzX => k_asm); (case zzN => k_asm); (case zzT => k_asm); (case zzhk => first | assumption | rfl); (case zzhdp => ktr_room); (case zzhun => units_room); (case zzhp => k_mem)); intro zzD9 zzR9 zzk9 zzk8 zzh9 zztk9 zzF9 zzN9 zzl8 zzl9; (try simp only [AllLt] at zzl8 zzl9); (try dsimp only)) | ((with_reducible show wpAny _ _ (call _ [Value.ref _]) (KskEnd _ _ _ _ _ _) _ _); walk1)) | dsimp only | (leave1; (try dsimp only)) | fail "no step")))
  · exact i
  · k_dflt (refine wpAny_call ?_)
    refine' kla_code (K := frag.heap_1 _) ?k1 ?k2 ?k3 ?k4 ?k5 ?kA ?kF ?kK ?k6 ?k7 ?k8 ?k9 ?kB ?_ ?c2 ?c3 ?c4 ?c5
    (case kA => exact rfl)
    (case kF => exact rfl)
    (case kK => exact rfl)
    (case k1 => k_asm)
    (case k2 => k_asm)
    (case k3 => k_asm)
    (case k4 => k_asm)
    (case k5 => k_asm)
    (case k6 => k_dflt k_mem)
    (case k7 => exact codeRec_news (by k_asm) (by k_dflt k_mem) (by assumption) (by assumption))
    (case k8 => k_room)
    (case k9 => exact rfl)
    (case c5 => decide)
    (case kB => exact locs rfl)
    (case c2 => exact rfl)
    (case c3 => exact rfl)
    (case c4 => exact rfl)
    k_whole
    intro g' L' h' FG' F' N' B' X' T'
    ((skip; repeat' (first | (k_unfold; (try dsimp only)) | ((with_reducible show wpAny _ _ (exec (Stmt.Assign _ _ _) _) _ _ _); k_fold) | ((with_reducible show wpAny _ _ (exec (Stmt.Return _ _) _) _ _ _); k_fold) | ((with_reducible show wpAny _ _ (eval (PySem.Expr.Call _ _ _ _) _) _ _ _); k_fold) | with_reducible refine seq_next ?_ | with_reducible refine seq_ret ?_ | (( (fail_if_success (with_reducible show wpAny _ _ (call (Value.ref _) _) _ _ _)); (fail_if_success (with_reducible show wpAny _ _ (exec (Stmt.While _ _ _ _) _) _ _ _)); (fail_if_success (with_reducible show wpAny _ _ (exec (Stmt.Assign _ (PySem.Expr.ListComp _ _ _ _) _) _) _ _ _)); (first | ((with_reducible show wpAny _ _ (call (Value.builtin "sorted") _ _) _ _ _); (k_here; ksk_kw; ksk_show; (with_unfolding_all refine' ksk_one _ ?zzk1 ?zzk2 ?zzk3 ?zza1 ?zza2 ?zza3 (fun h' tk' own' F' N' => ?_) (fun D' c' h' tk' F' N' l1 => ?_); (case zzk1 => k_asm); (case zzk2 => k_asm); (case zzk3 => kso_list); (case zza1 => ksk_a1); (case zza2 => (intro zzx'; ksk_a2)); (case zza3 => (intro zzx'; ksk_a3))); (all_goals (try simp only [List.nil_append, List.cons_append, List.append_nil] at N')); (all_goals (try k_lt l1)))) | walk1))) | (first | ((with_reducible show wpAny _ _ (call (Value.ref 436) _) _ _ _); k_dflt (refine' ar_ok ?zzB ?zzF ?zzX ?zzN ?zzT ?zzhk ?zzhdp ?zzhun ?zzhm ?zzhD ?zzlo ?_; (case zzB => k_asm); (case zzF => k_asm); (case zzX => k_asm); (case zzN => k_asm); (case zzT => k_asm); (case zzhk => first | assumption | rfl); (case zzhdp => ktr_room); (case zzhun => units_room); (case zzhm => k_mem); (case zzhD => assumption); (case zzlo => assumption)); intro zzD9 zzo9 zzh9 zztk9 zzF9 zzhd9 zzlo9 zzN9 zzl8; (try simp only [AllLt] at zzl8); (try dsimp only)) | ((with_reducible show wpAny _ _ (call (Value.ref 424) _) _ _ _); k_dflt (refine' ln_ok ?zzB ?zzF ?zzX ?zzN ?zzT ?zzhk ?zzhdp ?zzhun ?zzhR ?zzht ?_; (case zzB => k_asm); (case zzF => k_asm); (case zzX => k_asm); (case zzN => k_asm); (case zzT => k_asm); (case zzhk => first | assumption | rfl); (case zzhdp => ktr_room); (case zzhun => units_room); (case zzhR => k_mem); (case zzht => k_mem)); intro zzD9 zzo9 zzLm9 zzrow9 zzk9 zzh9 zztk9 zzF9 zzhd9 zzlo9 zzN9 zzl8 zzl9; (try simp only [AllLt] at zzl8 zzl9); (try dsimp only)) | ((with_reducible show wpAny _ _ (call (Value.ref 417) _) _ _ _); k_dflt (refine' ep_ok ?zzB ?zzF ?zzX ?zzN ?zzT ?zzhk ?zzhdp ?zzhun ?zzhp ?_; (case zzB => k_asm); (case zzF => k_asm); (case zzX => k_asm); (case zzN => k_asm); (case zzT => k_asm); (case zzhk => first | assumption | rfl); (case zzhdp => ktr_room); (case zzhun => units_room); (case zzhp => k_mem)); intro zzD9 zzR9 zzk9 zzk8 zzh9 zztk9 zzF9 zzN9 zzl8 zzl9; (try simp only [AllLt] at zzl8 zzl9); (try dsimp only)) | ((with_reducible show wpAny _ _ (call _ [Value.ref _]) (KskEnd _ _ _ _ _ _) _ _); walk1)) | dsimp only | (leave1; (try dsimp only)) | fail "no step")))
  all_goals (try k_data)
  refine LCg.Assign_ListComp_U (by k_asm) (by rfl) (by with_unfolding_all rfl) (by with_unfolding_all rfl) (by decide) (by rfl) (by decide) (by rfl) (by rfl) (by rfl) ?_
  ((skip; repeat' (first | (k_unfold; (try dsimp only)) | ((with_reducible show wpAny _ _ (exec (Stmt.Assign _ _ _) _) _ _ _); k_fold) | ((with_reducible show wpAny _ _ (exec (Stmt.Return _ _) _) _ _ _); k_fold) | ((with_reducible show wpAny _ _ (eval (PySem.Expr.Call _ _ _ _) _) _ _ _); k_fold) | with_reducible refine seq_next ?_ | with_reducible refine seq_ret ?_ | (( (fail_if_success (with_reducible show wpAny _ _ (call (Value.ref _) _) _ _ _)); (fail_if_success (with_reducible show wpAny _ _ (exec (Stmt.While _ _ _ _) _) _ _ _)); (fail_if_success (with_reducible show wpAny _ _ (exec (Stmt.Assign _ (PySem.Expr.ListComp _ _ _ _) _) _) _ _ _)); (first | ((with_reducible show wpAny _ _ (call (Value.builtin "sorted") _ _) _ _ _); (k_here; ksk_kw; ksk_show; (with_unfolding_all refine' ksk_one _ ?zzk1 ?zzk2 ?zzk3 ?zza1 ?zza2 ?zza3 (fun h' tk' own' F' N' => ?_) (fun D' c' h' tk' F' N' l1 => ?_); (case zzk1 => k_asm); (case zzk2 => k_asm); (case zzk3 => kso_list); (case zza1 => ksk_a1); (case zza2 => (intro zzx'; ksk_a2)); (case zza3 => (intro zzx'; ksk_a3))); (all_goals (try simp only [List.nil_append, List.cons_append, List.append_nil] at N')); (all_goals (try k_lt l1)))) | walk1))) | (first | ((with_reducible show wpAny _ _ (call (Value.ref 436) _) _ _ _); k_dflt (refine' ar_ok ?zzB ?zzF ?zzX ?zzN ?zzT ?zzhk ?zzhdp ?zzhun ?zzhm ?zzhD ?zzlo ?_; (case zzB => k_asm); (case zzF => k_asm); (case zzX => k_asm); (case zzN => k_asm); (case zzT => k_asm); (case zzhk => first | assumption | rfl); (case zzhdp => ktr_room); (case zzhun => units_room); (case zzhm => k_mem); (case zzhD => assumption); (case zzlo => assumption)); intro zzD9 zzo9 zzh9 zztk9 zzF9 zzhd9 zzlo9 zzN9 zzl8; (try simp only [AllLt] at zzl8); (try dsimp only)) | ((with_reducible show wpAny _ _ (call (Value.ref 424) _) _ _ _); k_dflt (refine' ln_ok ?zzB ?zzF ?zzX ?zzN ?zzT ?zzhk ?zzhdp ?zzhun ?zzhR ?zzht ?_; (case zzB => k_asm); (case zzF => k_asm); (case zzX => k_asm); (case zzN => k_asm); (case zzT => k_asm); (case zzhk => first | assumption | rfl); (case zzhdp => ktr_room); (case zzhun => units_room); (case zzhR => k_mem); (case zzht => k_mem)); intro zzD9 zzo9 zzLm9 zzrow9 zzk9 zzh9 zztk9 zzF9 zzhd9 zzlo9 zzN9 zzl8 zzl9; (try simp only [AllLt] at zzl8 zzl9); (try dsimp only)) | ((with_reducible show wpAny _ _ (call (Value.ref 417) _) _ _ _); k_dflt (refine' ep_ok ?zzB ?zzF ?zzX ?zzN ?zzT ?zzhk ?zzhdp ?zzhun ?zzhp ?_; (case zzB => k_asm); (case zzF => k_asm); (case zzX => k_asm); (case zzN => k_asm); (case zzT => k_asm); (case zzhk => first | assumption | rfl); (case zzhdp => ktr_room); (case zzhun => units_room); (case zzhp => k_mem)); intro zzD9 zzR9 zzk9 zzk8 zzh9 zztk9 zzF9 zzN9 zzl8 zzl9; (try simp only [AllLt] at zzl8 zzl9); (try dsimp only)) | ((with_reducible show wpAny _ _ (call _ [Value.ref _]) (KskEnd _ _ _ _ _ _) _ _); walk1)) | dsimp only | (leave1; (try dsimp only)) | fail "no step")))
  all_goals (try k_data)
  refine compEnd2 (by k_asm) (by assumption) (by assumption) (by assumption) (by assumption) (.inr ⟨_, .tail _ (.tail _ (.head _)), rfl, _, rfl⟩) (LCg.CompRest.zero ?_)
  intro D h tk F9 N9 o9
  simp only [LCg.Off1] at o9
  ((skip; repeat' (first | (k_unfold; (try dsimp only)) | ((with_reducible show wpAny _ _ (exec (Stmt.Assign _ _ _) _) _ _ _); k_fold) | ((with_reducible show wpAny _ _ (exec (Stmt.Return _ _) _) _ _ _); k_fold) | ((with_reducible show wpAny _ _ (eval (PySem.Expr.Call _ _ _ _) _) _ _ _); k_fold) | with_reducible refine seq_next ?_ | with_reducible refine seq_ret ?_ | (( (fail_if_success (with_reducible show wpAny _ _ (call (Value.ref _) _) _ _ _)); (fail_if_success (with_reducible show wpAny _ _ (exec (Stmt.While _ _ _ _) _) _ _ _)); (fail_if_success (with_reducible show wpAny _ _ (exec (Stmt.Assign _ (PySem.Expr.ListComp _ _ _ _) _) _) _ _ _)); (first | ((with_reducible show wpAny _ _ (call (Value.builtin "sorted") _ _) _ _ _); (k_here; ksk_kw; ksk_show; (with_unfolding_all refine' ksk_one _ ?zzk1 ?zzk2 ?zzk3 ?zza1 ?zza2 ?zza3 (fun h' tk' own' F' N' => ?_) (fun D' c' h' tk' F' N' l1 => ?_); (case zzk1 => k_asm); (case zzk2 => k_asm); (case zzk3 => kso_list); (case zza1 => ksk_a1); (case zza2 => (intro zzx'; ksk_a2)); (case zza3 => (intro zzx'; ksk_a3))); (all_goals (try simp only [List.nil_append, List.cons_append, List.append_nil] at N')); (all_goals (try k_lt l1)))) | walk1))) | (first | ((with_reducible show wpAny _ _ (call (Value.ref 436) _) _ _ _); k_dflt (refine' ar_ok ?zzB ?zzF ?zzX ?zzN ?zzT ?zzhk ?zzhdp ?zzhun ?zzhm ?zzhD ?zzlo ?_; (case zzB => k_asm); (case zzF => k_asm); (case zzX => k_asm); (case zzN => k_asm); (case zzT => k_asm); (case zzhk => first | assumption | rfl); (case zzhdp => ktr_room); (case zzhun => units_room); (case zzhm => k_mem); (case zzhD => assumption); (case zzlo => assumption)); intro zzD9 zzo9 zzh9 zztk9 zzF9 zzhd9 zzlo9 zzN9 zzl8; (try simp only [AllLt] at zzl8); (try dsimp only)) | ((with_reducible show wpAny _ _ (call (Value.ref 424) _) _ _ _); k_dflt (refine' ln_ok ?zzB ?zzF ?zzX ?zzN ?zzT ?zzhk ?zzhdp ?zzhun ?zzhR ?zzht ?_; (case zzB => k_asm); (case zzF => k_asm); (case zzX => k_asm); (case zzN => k_asm); (case zzT => k_asm); (case zzhk => first | assumption | rfl); (case zzhdp => ktr_room); (case zzhun => units_room); (case zzhR => k_mem); (case zzht => k_mem)); intro zzD9 zzo9 zzLm9 zzrow9 zzk9 zzh9 zztk9 zzF9 zzhd9 zzlo9 zzN9 zzl8 zzl9; (try simp only [AllLt] at zzl8 zzl9); (try dsimp only)) | ((with_reducible show wpAny _ _ (call (Value.ref 417) _) _ _ _); k_dflt (refine' ep_ok ?zzB ?zzF ?zzX ?zzN ?zzT ?zzhk ?zzhdp ?zzhun ?zzhp ?_; (case zzB => k_asm); (case zzF => k_asm); (case zzX => k_asm); (case zzN => k_asm); (case zzT => k_asm); (case zzhk => first | assumption | rfl); (case zzhdp => ktr_room); (case zzhun => units_room); (case zzhp => k_mem)); intro zzD9 zzR9 zzk9 zzk8 zzh9 zztk9 zzF9 zzN9 zzl8 zzl9; (try simp only [AllLt] at zzl8 zzl9); (try dsimp only)) | ((with_reducible show wpAny _ _ (call _ [Value.ref _]) (KskEnd _ _ _ _ _ _) _ _); walk1)) | dsimp only | (leave1; (try dsimp only)) | fail "no step")))
  all_goals (try k_data)
  refine' r_while (σ := Unit) (fun _ => _) (fun _ => _) (fun _ => True) (fun _ => 0) () ?F ?N trivial ?turn (by passes_own)
  case F => k_asm
  case N => k_asm
  case turn =>
    intro _ h tk _ F9 N9
    dsimp only at F9 N9
    ((skip; repeat' (first | (k_unfold; (try dsimp only)) | ((with_reducible show wpAny _ _ (exec (Stmt.Assign _ _ _) _) _ _ _); k_fold) | ((with_reducible show wpAny _ _ (exec (Stmt.Return _ _) _) _ _ _); k_fold) | ((with_reducible show wpAny _ _ (eval (PySem.Expr.Call _ _ _ _) _) _ _ _); k_fold) | with_reducible refine seq_next ?_ | with_reducible refine seq_ret ?_ | (( (fail_if_success (with_reducible show wpAny _ _ (call (Value.ref _) _) _ _ _)); (fail_if_success (with_reducible show wpAny _ _ (exec (Stmt.While _ _ _ _) _) _ _ _)); (fail_if_success (with_reducible show wpAny _ _ (exec (Stmt.Assign _ (PySem.Expr.ListComp _ _ _ _) _) _) _ _ _)); (first | ((with_reducible show wpAny _ _ (call (Value.builtin "sorted") _ _) _ _ _); (k_here; ksk_kw; ksk_show; (with_unfolding_all refine' ksk_one _ ?zzk1 ?zzk2 ?zzk3 ?zza1 ?zza2 ?zza3 (fun h' tk' own' F' N' => ?_) (fun D' c' h' tk' F' N' l1 => ?_); (case zzk1 => k_asm); (case zzk2 => k_asm); (case zzk3 => kso_list); (case zza1 => ksk_a1); (case zza2 => (intro zzx'; ksk_a2)); (case zza3 => (intro zzx'; ksk_a3))); (all_goals (try simp only [List.nil_append, List.cons_append, List.append_nil] at N')); (all_goals (try k_lt l1)))) | walk1))) | (first | ((with_reducible show wpAny _ _ (call (Value.ref 436) _) _ _ _); k_dflt (refine' ar_ok ?zzB ?zzF ?zzX ?zzN ?zzT ?zzhk ?zzhdp ?zzhun ?zzhm ?zzhD ?zzlo ?_; (case zzB => k_asm); (case zzF => k_asm); (case zzX => k_asm); (case zzN => k_asm); (case zzT => k_asm); (case zzhk => first | assumption | rfl); (case zzhdp => ktr_room); (case zzhun => units_room); (case zzhm => k_mem); (case zzhD => assumption); (case zzlo => assumption)); intro zzD9 zzo9 zzh9 zztk9 zzF9 zzhd9 zzlo9 zzN9 zzl8; (try simp only [AllLt] at zzl8); (try dsimp only)) | ((with_reducible show wpAny _ _ (call (Value.ref 424) _) _ _ _); k_dflt (refine' ln_ok ?zzB ?zzF ?zzX ?zzN ?zzT ?zzhk ?zzhdp ?zzhun ?zzhR ?zzht ?_; (case zzB => k_asm); (case zzF => k_asm); (case zzX => k_asm); (case zzN => k_asm); (case zzT => k_asm); (case zzhk => first | assumption | rfl); (case zzhdp => ktr_room); (case zzhun => units_room); (case zzhR => k_mem); (case zzht => k_mem)); intro zzD9 zzo9 zzLm9 zzrow9 zzk9 zzh9 zztk9 zzF9 zzhd9 zzlo9 zzN9 zzl8 zzl9; (try simp only [AllLt] at zzl8 zzl9); (try dsimp only)) | ((with_reducible show wpAny _ _ (call (Value.ref 417) _) _ _ _); k_dflt (refine' ep_ok ?zzB ?zzF ?zzX ?zzN ?zzT ?zzhk ?zzhdp ?zzhun ?zzhp ?_; (case zzB => k_asm); (case zzF => k_asm); (case zzX => k_asm); (case zzN => k_asm); (case zzT => k_asm); (case zzhk => first | assumption | rfl); (case zzhdp => ktr_room); (case zzhun => units_room); (case zzhp => k_mem)); intro zzD9 zzR9 zzk9 zzk8 zzh9 zztk9 zzF9 zzN9 zzl8 zzl9; (try simp only [AllLt] at zzl8 zzl9); (try dsimp only)) | ((with_reducible show wpAny _ _ (call _ [Value.ref _]) (KskEnd _ _ _ _ _ _) _ _); walk1)) | dsimp only | (leave1; (try dsimp only)) | fail "no step")))
    all_goals (try k_data)
    rename (_ < _ ∧ _) => l7
    have a7 := l7.2.2.2.2.2.2.2.2.2.2.2.2
    clear l7
    rename (_ < _ ∧ _) => l5
    have a5 := l5.2.2.2.2.2.2.2.2.2.2.2.2
    clear l5
    rename (_ < _ ∧ _) => l6
    have a6 := l6.2.2.2.2.2.2.2.2.2.2.2.2
    rename Obj.IsDictOf _ _ [(Str.ofString "Nums", _)] => hdN
    refine' ret _ _ _ _ _ _ _ ?F ?N hdN (by assumption) a7 ?l
    case l => first | exact a6 | exact a5
    case F => k_asm
    case N => walk_at "MY NEWS"
end

end
section
theorem ne_tab {h₀ h : Heap} {L a b : Addr} {o o' : Obj} {news : List (Addr × Obj)} (N : News h₀ L h news) (ha : (a, o) ∈ news) (hb : (b, o') ∈ news) (hne : o ≠ o') : @Ne Nat a b := by
  intro e
  have e : a = b := e
  subst e
  exact hne (Option.some.inj ((N _ ha).1.symm.trans (N _ hb).1))
theorem tb_ok {pv : Program} {w : World} {loose : List Str} {mean : ExcName → Option Value} {mg mb : Str → Option Value} {A₀ : Around} {dp un : Nat} {gd : Option (List Code)} {cn : Str} {cs₀ : Scope} {a : Addr} {ccd : Value} {cl : List (Str × Addr)} {outer : List Env} {base h₀ : Heap} {L : Addr} {m : Str → Option Value} {s : Shared} {Q E : Value → Shared → Prop}
   {pl t lab : Addr} {i : Int} {ti tw t16 : Tok} {k n : Nat} {news news8 : List (Addr × Obj)}
   (B : Below A₀ base outer h₀) (F : Fr h₀ L s.heap m) (X : (frag.heap_1 w.params).In h₀) (N : News h₀ L s.heap news) (T : Top pv loose mean mg mb h₀)
   (hk : cs₀.kind = .function) (hdp : dp + 6 < recursionLimit) (hun : un + 900 < cLine)
   (C8 : CodeHd base 440 438) (h8 : (438, tabObj #[]) ∈ news) (hp : (pl, lstO [.ref t] k) ∈ news) (ht : (t, tup2 (.int i ti) (.ref lab) n) ∈ news) (hs : ∀ p ∈ news8, p ∈ news) (hr8 : ∀ x ∈ news8, x.1 ≠ 438)
   (ret : ∀ D row k' tr ps h' tk', Fr h₀ L h' m → News h₀ L h' ((D, tr) :: (row, lstO [.int i ti, .ref lab] k') :: (438, tabObj ps) :: news8) → Obj.IsDictOf (PySem.strKind pr w) tr [(Str.ofString "Nums", .ref row)] → (D == sysModules) = false → AllLt D news8 → AllLt row news8 → Q (.ref D) {s with heap := h', toks := tk'}) :
   wpAny (model pr w) (ktrTop dp un gd cn cs₀ L a ccd cl outer) (call (.ref 441) [.ref pl, .str (Str.ofString "Nums") tw, .int 16 t16]) Q E s :=
  tb_0 B F X (news_pick N hp (news_pick N ht (news_pick N h8 (news_sub N hs)))) T hk hdp hun C8 (ne_tab N hp h8 (by intro e; simp [tabObj] at e)) (ne_tab N ht h8 (by intro e; simp [tabObj] at e)) hr8 ret
theorem elt4 {h₀ h' : Heap} {L I C D : Addr} {m : Str → Option Value} {s₁ : Shared} {oI oC oD : Obj} {R : Value → List (Addr × Obj) → Prop} {y : Value} {tk : Nat} {T : Addr × Obj} {c l : List (Addr × Obj)}
    (F : Fr h₀ L h' m) (N : News h₀ L h' (T :: (c ++ ((I, oI) :: (C, oC) :: (D, oD) :: l)))) (lT : ∀ p ∈ (c ++ ((I, oI) :: (C, oC) :: (D, oD) :: l)), p.1 < T.1) (lc : ∀ p ∈ c, AllLt p.1 ((I, oI) :: (C, oC) :: (D, oD) :: l)) (off : LCg.Off3 I C D l) (hr : R y (T :: (c ++ l))) :
    EltEnd h₀ L m s₁ I oI C oC D oD (fun c => c) R y { s₁ with heap := h', toks := tk } := by
  refine ⟨T :: (c ++ l), h', tk, rfl, F, news_sub N ?_, LCg.Off3.of ?_, hr⟩
  · intro p hp
    simp only [List.mem_cons, List.mem_append] at hp ⊢
    rcases hp with h | h | h | h | h | h <;> simp [h]
  · intro p hp
    rcases List.mem_cons.mp hp with rfl | hp
    · exact ⟨Nat.ne_of_gt (lT _ (List.mem_append.mpr (.inr (.head _)))), Nat.ne_of_gt (lT _ (List.mem_append.mpr (.inr (.tail _ (.head _))))), Nat.ne_of_gt (lT _ (List.mem_append.mpr (.inr (.tail _ (.tail _ (.head _))))))⟩
    rcases List.mem_append.mp hp with hp | hp
    · exact off3_lt (lc p hp)
    · exact off.mem p hp
section
theorem wl_0 {pv : Program} {w : World} {loose : List Str} {mean : ExcName → Option Value} {mg mb : Str → Option Value} {A₀ : Around} {dp un : Nat} {gd : Option (List Code)} {cn : Str} {cs₀ : Scope} {a : Addr} {ccd : Value} {cl : List (Str × Addr)} {outer : List Env} {base h₀ : Heap} {L : Addr} {m : Str → Option Value} {s : Shared} {Q E : Value → Shared → Prop}
   {rg t : Addr} {x : Str} {cs : List Int} {i n : Int} {ti tx tc tn : Tok} {k nt : Nat} {rest : List (Addr × Obj)}
   (B : Below A₀ base outer h₀) (F : Fr h₀ L s.heap m) (X : (frag.heap_1 w.params).In h₀) (N : News h₀ L s.heap ((rg, lstO [.ref t] k) :: (t, tup4 (.int i ti) (.str x tx) (.str (KStt.txt cs) tc) (.int n tn) nt) :: (438, tabObj #[]) :: rest)) (T : Top pv loose mean mg mb h₀)
   (hk : cs₀.kind = .function) (hdp : dp + 8 < recursionLimit) (hun : un + 1100 < cLine)
   (C8 : CodeHd base 440 438) (hr8 : ∀ x ∈ rest, x.1 ≠ 438) (hi : 0 ≤ i) (hx : styles.any (· == x) = true) (hn : 1 ≤ n) (hlen : cs.length ≤ 6) (hb : ∀ c ∈ cs, 0 ≤ c ∧ c < 1114112)
   (ret : ∀ D row lab k' tr ti' ps c h' tk', Fr h₀ L h' m → News h₀ L h' ((D, tr) :: (row, lstO [.int i ti', .ref lab] k') :: (438, tabObj ps) :: (c ++ rest)) → Obj.IsDictOf (PySem.strKind pr w) tr [(Str.ofString "Nums", .ref row)] → (D == sysModules) = false → LabIn w c lab x cs n → Q (.ref D) {s with heap := h', toks := tk'}) :
   wpAny (model pr w) (ktrTop dp un gd cn cs₀ L a ccd cl outer) (call (.ref 491) [.ref rg]) Q E s := by
  have hT : Tup4s ((t, tup4 (.int i ti) (.str x tx) (.str (KStt.txt cs) tc) (.int n tn) nt) :: (438, tabObj #[]) :: rest) [.ref t] [((i, x, cs, n) : Rg)] := Tup4s.snoc (r := (i, x, cs, n)) Tup4s.nil (.head _)
  have hO : okR (-1) [((i, x, cs, n) : Rg)] := ⟨by show -1 < i; omega, hx, hn, trivial⟩
  first | walk_at "MY ENTER" | walk_at "MY ENTERC"
  (skip; repeat' (first | (k_unfold; (try dsimp only)) | (with_reducible refine gen3 ?_; intro _) | ((with_reducible show wpAny _ _ (exec (Stmt.Assign _ _ _) _) _ _ _); k_fold) | ((with_reducible show wpAny _ _ (exec (Stmt.Return _ _) _) _ _ _); k_fold) | ((with_reducible show wpAny _ _ (eval (PySem.Expr.Call _ _ _ _) _) _ _ _); k_fold) | with_reducible refine seq_next ?_ | with_reducible refine seq_ret ?_ | walk_at "MY STEP" | (first | ((with_reducible show wpAny _ _ (call (Value.ref 485) _) _ _ _); k_dflt (refine' ld_ok ?zzB ?zzF ?zzX ?zzN ?zzT ?zzhk ?zzhdp ?zzhun ?zzhlen ?zzhb ?_; (case zzB => k_asm); (case zzF => k_asm); (case zzX => k_asm); (case zzN => k_asm); (case zzT => k_asm); (case zzhk => first | assumption | rfl); (case zzhdp => ktr_room); (case zzhun => units_room); (case zzhlen => assumption); (case zzhb => assumption)); intro zzD9 zzc9 zzh9 zztk9 zzF9 zzN9 zzhL9 zzhf9; (try dsimp only)) | ((with_reducible show wpAny _ _ (call (Value.ref 454) _) _ _ _); k_dflt (refine' cr_0 ?zzB ?zzF ?zzX ?zzN ?zzT ?zzhk ?zzhdp ?zzhun ?zzht ?zzho ?_; (case zzB => k_asm); (case zzF => k_asm); (case zzX => k_asm); (case zzN => k_asm); (case zzT => k_asm); (case zzhk => first | assumption | rfl); (case zzhdp => ktr_room); (case zzhun => units_room); (case zzht => assumption); (case zzho => assumption)); intro zzh9 zztk9 zzF9 zzN9; (try dsimp only))) | dsimp only | (leave1; (try dsimp only)) | fail "no step"))
  all_goals (try k_data)
  refine Assign_ListComp_4 (by k_asm) (by rfl) (by rfl) (by with_unfolding_all rfl) (by with_unfolding_all rfl) (by decide) (by rfl) (by decide) (by rfl) (by rfl) (by rfl) (by rfl) (by decide) (by rfl) (by rfl) ?_
  (skip; repeat' (first | (k_unfold; (try dsimp only)) | (with_reducible refine gen3 ?_; intro _) | ((with_reducible show wpAny _ _ (exec (Stmt.Assign _ _ _) _) _ _ _); k_fold) | ((with_reducible show wpAny _ _ (exec (Stmt.Return _ _) _) _ _ _); k_fold) | ((with_reducible show wpAny _ _ (eval (PySem.Expr.Call _ _ _ _) _) _ _ _); k_fold) | with_reducible refine seq_next ?_ | with_reducible refine seq_ret ?_ | walk_at "MY STEP" | (first | ((with_reducible show wpAny _ _ (call (Value.ref 485) _) _ _ _); k_dflt (refine' ld_ok ?zzB ?zzF ?zzX ?zzN ?zzT ?zzhk ?zzhdp ?zzhun ?zzhlen ?zzhb ?_; (case zzB => k_asm); (case zzF => k_asm); (case zzX => k_asm); (case zzN => k_asm); (case zzT => k_asm); (case zzhk => first | assumption | rfl); (case zzhdp => ktr_room); (case zzhun => units_room); (case zzhlen => assumption); (case zzhb => assumption)); intro zzD9 zzc9 zzh9 zztk9 zzF9 zzN9 zzhL9 zzhf9; (try dsimp only)) | ((with_reducible show wpAny _ _ (call (Value.ref 454) _) _ _ _); k_dflt (refine' cr_0 ?zzB ?zzF ?zzX ?zzN ?zzT ?zzhk ?zzhdp ?zzhun ?zzht ?zzho ?_; (case zzB => k_asm); (case zzF => k_asm); (case zzX => k_asm); (case zzN => k_asm); (case zzT => k_asm); (case zzhk => first | assumption | rfl); (case zzhdp => ktr_room); (case zzhun => units_room); (case zzht => assumption); (case zzho => assumption)); intro zzh9 zztk9 zzF9 zzN9; (try dsimp only))) | dsimp only | (leave1; (try dsimp only)) | fail "no step"))
  all_goals (try k_data)
  rename News _ _ _ _ => N2
  refine ⟨rg, t, k, nt, _, _, _, _, _, rfl, by k_asm, N2, .head _, .tail _ (.head _), ?_⟩
  intro g I oI C oC D m₂ h tk E' hC h1 h2 h3 h4 F9 N9 o3 ne
  (skip; repeat' (first | (k_unfold; (try dsimp only)) | (with_reducible refine gen3 ?_; intro _) | ((with_reducible show wpAny _ _ (exec (Stmt.Assign _ _ _) _) _ _ _); k_fold) | ((with_reducible show wpAny _ _ (exec (Stmt.Return _ _) _) _ _ _); k_fold) | ((with_reducible show wpAny _ _ (eval (PySem.Expr.Call _ _ _ _) _) _ _ _); k_fold) | with_reducible refine seq_next ?_ | with_reducible refine seq_ret ?_ | walk_at "MY STEP" | (first | ((with_reducible show wpAny _ _ (call (Value.ref 485) _) _ _ _); k_dflt (refine' ld_ok ?zzB ?zzF ?zzX ?zzN ?zzT ?zzhk ?zzhdp ?zzhun ?zzhlen ?zzhb ?_; (case zzB => k_asm); (case zzF => k_asm); (case zzX => k_asm); (case zzN => k_asm); (case zzT => k_asm); (case zzhk => first | assumption | rfl); (case zzhdp => ktr_room); (case zzhun => units_room); (case zzhlen => assumption); (case zzhb => assumption)); intro zzD9 zzc9 zzh9 zztk9 zzF9 zzN9 zzhL9 zzhf9; (try dsimp only)) | ((with_reducible show wpAny _ _ (call (Value.ref 454) _) _ _ _); k_dflt (refine' cr_0 ?zzB ?zzF ?zzX ?zzN ?zzT ?zzhk ?zzhdp ?zzhun ?zzht ?zzho ?_; (case zzB => k_asm); (case zzF => k_asm); (case zzX => k_asm); (case zzN => k_asm); (case zzT => k_asm); (case zzhk => first | assumption | rfl); (case zzhdp => ktr_room); (case zzhun => units_room); (case zzht => assumption); (case zzho => assumption)); intro zzh9 zztk9 zzF9 zzN9; (try dsimp only))) | dsimp only | (leave1; (try dsimp only)) | fail "no step"))
  all_goals (try k_data)
  rename LabIn _ _ _ _ _ _ => hL
  rename (∀ p ∈ _, AllLt _ _) => hf
  rename List (Addr × Obj) => c9
  refine elt4 (by k_asm) (by assumption) (by assumption) hf o3 ⟨.tail _ (List.mem_append.mpr (.inr (.head _))), ?_⟩
  intro D3 h tk F9 N9 o9
  (skip; repeat' (first | (k_unfold; (try dsimp only)) | (with_reducible refine gen3 ?_; intro _) | ((with_reducible show wpAny _ _ (exec (Stmt.Assign _ _ _) _) _ _ _); k_fold) | ((with_reducible show wpAny _ _ (exec (Stmt.Return _ _) _) _ _ _); k_fold) | ((with_reducible show wpAny _ _ (eval (PySem.Expr.Call _ _ _ _) _) _ _ _); k_fold) | with_reducible refine seq_next ?_ | with_reducible refine seq_ret ?_ | walk_at "MY STEP" | (first | ((with_reducible show wpAny _ _ (call (Value.ref 485) _) _ _ _); k_dflt (refine' ld_ok ?zzB ?zzF ?zzX ?zzN ?zzT ?zzhk ?zzhdp ?zzhun ?zzhlen ?zzhb ?_; (case zzB => k_asm); (case zzF => k_asm); (case zzX => k_asm); (case zzN => k_asm); (case zzT => k_asm); (case zzhk => first | assumption | rfl); (case zzhdp => ktr_room); (case zzhun => units_room); (case zzhlen => assumption); (case zzhb => assumption)); intro zzD9 zzc9 zzh9 zztk9 zzF9 zzN9 zzhL9 zzhf9; (try dsimp only)) | ((with_reducible show wpAny _ _ (call (Value.ref 454) _) _ _ _); k_dflt (refine' cr_0 ?zzB ?zzF ?zzX ?zzN ?zzT ?zzhk ?zzhdp ?zzhun ?zzht ?zzho ?_; (case zzB => k_asm); (case zzF => k_asm); (case zzX => k_asm); (case zzN => k_asm); (case zzT => k_asm); (case zzhk => first | assumption | rfl); (case zzhdp => ktr_room); (case zzhun => units_room); (case zzht => assumption); (case zzho => assumption)); intro zzh9 zztk9 zzF9 zzN9; (try dsimp only))) | dsimp only | (leave1; (try dsimp only)) | fail "no step"))
  all_goals (try k_data)
  k_dflt (refine' tb_ok (news8 := c9 ++ rest) ?B ?F ?X ?N ?T ?hk ?hdp ?hun ?C8 ?h8 ?hp ?ht ?hs ?hr8 ?ret)
  case B => k_asm
  case F => k_asm
  case X => k_asm
  case N => k_asm
  case T => k_asm
  case hk => rfl
  case hdp => ktr_room
  case hun => units_room
  case C8 => exact C8
  case h8 => exact .tail _ (.tail _ (List.mem_append.mpr (.inr (.tail _ (.tail _ (.head _))))))
  case hp => exact .head _
  case ht => exact .tail _ (.head _)
  case hs =>
    intro p hp
    rcases List.mem_append.mp hp with h | h
    · exact .tail _ (.tail _ (List.mem_append.mpr (.inl h)))
    · exact .tail _ (.tail _ (List.mem_append.mpr (.inr (.tail _ (.tail _ (.tail _ h))))))
  case hr8 =>
    intro p hp
    rcases List.mem_append.mp hp with h | h
    · exact Nat.ne_of_gt (hf p h).2.2.2.2.2.1
    · exact hr8 p h
  case ret =>
    intro D9 row9 k9 tr9 ps9 h9 tk9 F9 N9 hd9 lo9 l8 l9
    (skip; repeat' (first | (k_unfold; (try dsimp only)) | (with_reducible refine gen3 ?_; intro _) | ((with_reducible show wpAny _ _ (exec (Stmt.Assign _ _ _) _) _ _ _); k_fold) | ((with_reducible show wpAny _ _ (exec (Stmt.Return _ _) _) _ _ _); k_fold) | ((with_reducible show wpAny _ _ (eval (PySem.Expr.Call _ _ _ _) _) _ _ _); k_fold) | with_reducible refine seq_next ?_ | with_reducible refine seq_ret ?_ | walk_at "MY STEP" | (first | ((with_reducible show wpAny _ _ (call (Value.ref 485) _) _ _ _); k_dflt (refine' ld_ok ?zzB ?zzF ?zzX ?zzN ?zzT ?zzhk ?zzhdp ?zzhun ?zzhlen ?zzhb ?_; (case zzB => k_asm); (case zzF => k_asm); (case zzX => k_asm); (case zzN => k_asm); (case zzT => k_asm); (case zzhk => first | assumption | rfl); (case zzhdp => ktr_room); (case zzhun => units_room); (case zzhlen => assumption); (case zzhb => assumption)); intro zzD9 zzc9 zzh9 zztk9 zzF9 zzN9 zzhL9 zzhf9; (try dsimp only)) | ((with_reducible show wpAny _ _ (call (Value.ref 454) _) _ _ _); k_dflt (refine' cr_0 ?zzB ?zzF ?zzX ?zzN ?zzT ?zzhk ?zzhdp ?zzhun ?zzht ?zzho ?_; (case zzB => k_asm); (case zzF => k_asm); (case zzX => k_asm); (case zzN => k_asm); (case zzT => k_asm); (case zzhk => first | assumption | rfl); (case zzhdp => ktr_room); (case zzhun => units_room); (case zzht => assumption); (case zzho => assumption)); intro zzh9 zztk9 zzF9 zzN9; (try dsimp only))) | dsimp only | (leave1; (try dsimp only)) | fail "no step"))
    all_goals (try k_data)
    exact ret _ _ _ _ _ _ _ _ _ _ (by k_asm) (by walk_at "MY NEWS") hd9 lo9 hL
end

end
section
section
theorem ko_int {pv : Program} {w : World} {loose : List Str} {mean : ExcName → Option Value} {mg mb : Str → Option Value} {A₀ : Around} {dp un : Nat} {gd : Option (List Code)} {cn : Str} {cs₀ : Scope} {a : Addr} {ccd : Value} {cl : List (Str × Addr)} {outer : List Env} {base h₀ : Heap} {L : Addr} {m : Str → Option Value} {s : Shared} {Q E : Value → Shared → Prop}
   {i : Int} {ti : Tok} {news : List (Addr × Obj)}
   (B : Below A₀ base outer h₀) (F : Fr h₀ L s.heap m) (X : (frag.heap_1 w.params).In h₀) (N : News h₀ L s.heap news) (T : Top pv loose mean mg mb h₀)
   (hk : cs₀.kind = .function) (hdp : dp + 2 < recursionLimit) (hun : un + 500 < cLine) 
   (ret : ∀ tt h' tk', Fr h₀ L h' m → News h₀ L h' news → Q (.str (Str.ofString "int") tt) {s with heap := h', toks := tk'}) :
   wpAny (model pr w) (ktrTop dp un gd cn cs₀ L a ccd cl outer) (call (.ref 265) [.int i ti]) Q E s := by
  walk_at "MY ENTER"
  (skip; repeat' (first | (k_unfold; (try dsimp only)) | ((with_reducible show wpAny _ _ (exec (Stmt.Assign _ _ _) _) _ _ _); k_fold) | ((with_reducible show wpAny _ _ (exec (Stmt.Return _ _) _) _ _ _); k_fold) | ((with_reducible show wpAny _ _ (eval (PySem.Expr.Call _ _ _ _) _) _ _ _); k_fold) | with_reducible refine seq_next ?_ | with_reducible refine seq_ret ?_ | ((fail_if_success (with_reducible show wpAny _ _ (call (Value.ref _) _) _ _ _)); (first | ((with_reducible show wpAny _ _ (call (Value.builtin "isinstance") _ _) _ _ _); with_reducible (((with_reducible show wpAny _ _ (call _ [Value.ref _, _]) _ _ _); k_dflt (refine' kia_one kitx_list ?zzX ?zzp ?zzee ?zznb ?_; (case zzX => k_in); (case zzp => (refine' kitAt_N ?zzN ?zzm ?zzc; (case zzN => k_asm); (case zzm => k_mem); (case zzc => rfl))); (case zzee => kit_is); (case zznb => (intro zzq; cases zzq))); intro zztk9; (try dsimp only)))) | ((with_reducible show wpAny _ _ (call (Value.builtin "isinstance") _ _) _ _ _); with_reducible (((with_reducible show wpAny _ _ (call _ [Value.ref _, _]) _ _ _); k_dflt (refine' kia_one kitx_dict ?zzX ?zzp ?zzee ?zznb ?_; (case zzX => k_in); (case zzp => (refine' kitAt_N ?zzN ?zzm ?zzc; (case zzN => k_asm); (case zzm => k_mem); (case zzc => exact isDict_cls (by assumption)))); (case zzee => kit_is); (case zznb => (intro zzq; cases zzq))); intro zztk9; (try dsimp only)))) | walk1)) | dsimp only | (leave1; (try dsimp only)) | fail "no step"))
  all_goals (try k_data)
  exact ret _ _ _ (by k_asm) (by k_asm)
theorem ko_name {pv : Program} {w : World} {loose : List Str} {mean : ExcName → Option Value} {mg mb : Str → Option Value} {A₀ : Around} {dp un : Nat} {gd : Option (List Code)} {cn : Str} {cs₀ : Scope} {a : Addr} {ccd : Value} {cl : List (Str × Addr)} {outer : List Env} {base h₀ : Heap} {L : Addr} {m : Str → Option Value} {s : Shared} {Q E : Value → Shared → Prop}
   {b d : Addr} {x : Str} {t k : Tok} {news : List (Addr × Obj)}
   (B : Below A₀ base outer h₀) (F : Fr h₀ L s.heap m) (X : (frag.heap_1 w.params).In h₀) (N : News h₀ L s.heap ((b, instObj 183 d) :: (d, nmD w x t k) :: news)) (T : Top pv loose mean mg mb h₀)
   (hk : cs₀.kind = .function) (hdp : dp + 2 < recursionLimit) (hun : un + 500 < cLine) 
   (ret : ∀ tt h' tk', Fr h₀ L h' m → News h₀ L h' ((b, instObj 183 d) :: (d, nmD w x t k) :: news) → Q (.str (Str.ofString "name") tt) {s with heap := h', toks := tk'}) :
   wpAny (model pr w) (ktrTop dp un gd cn cs₀ L a ccd cl outer) (call (.ref 265) [.ref b]) Q E s := by
  walk_at "MY ENTER"
  (skip; repeat' (first | (k_unfold; (try dsimp only)) | ((with_reducible show wpAny _ _ (exec (Stmt.Assign _ _ _) _) _ _ _); k_fold) | ((with_reducible show wpAny _ _ (exec (Stmt.Return _ _) _) _ _ _); k_fold) | ((with_reducible show wpAny _ _ (eval (PySem.Expr.Call _ _ _ _) _) _ _ _); k_fold) | with_reducible refine seq_next ?_ | with_reducible refine seq_ret ?_ | ((fail_if_success (with_reducible show wpAny _ _ (call (Value.ref _) _) _ _ _)); (first | ((with_reducible show wpAny _ _ (call (Value.builtin "isinstance") _ _) _ _ _); with_reducible (((with_reducible show wpAny _ _ (call _ [Value.ref _, _]) _ _ _); k_dflt (refine' kia_one kitx_list ?zzX ?zzp ?zzee ?zznb ?_; (case zzX => k_in); (case zzp => (refine' kitAt_N ?zzN ?zzm ?zzc; (case zzN => k_asm); (case zzm => k_mem); (case zzc => rfl))); (case zzee => kit_is); (case zznb => (intro zzq; cases zzq))); intro zztk9; (try dsimp only)))) | ((with_reducible show wpAny _ _ (call (Value.builtin "isinstance") _ _) _ _ _); with_reducible (((with_reducible show wpAny _ _ (call _ [Value.ref _, _]) _ _ _); k_dflt (refine' kia_one kitx_dict ?zzX ?zzp ?zzee ?zznb ?_; (case zzX => k_in); (case zzp => (refine' kitAt_N ?zzN ?zzm ?zzc; (case zzN => k_asm); (case zzm => k_mem); (case zzc => exact isDict_cls (by assumption)))); (case zzee => kit_is); (case zznb => (intro zzq; cases zzq))); intro zztk9; (try dsimp only)))) | walk1)) | dsimp only | (leave1; (try dsimp only)) | fail "no step"))
  all_goals (try k_data)
  exact ret _ _ _ (by k_asm) (by k_asm)
theorem ko_string {pv : Program} {w : World} {loose : List Str} {mean : ExcName → Option Value} {mg mb : Str → Option Value} {A₀ : Around} {dp un : Nat} {gd : Option (List Code)} {cn : Str} {cs₀ : Scope} {a : Addr} {ccd : Value} {cl : List (Str × Addr)} {outer : List Env} {base h₀ : Heap} {L : Addr} {m : Str → Option Value} {s : Shared} {Q E : Value → Shared → Prop}
   {b d : Addr} {o : Array UInt8} {t k1 k2 : Tok} {news : List (Addr × Obj)}
   (B : Below A₀ base outer h₀) (F : Fr h₀ L s.heap m) (X : (frag.heap_1 w.params).In h₀) (N : News h₀ L s.heap ((b, instObj 205 d) :: (d, stD w o t k1 k2) :: news)) (T : Top pv loose mean mg mb h₀)
   (hk : cs₀.kind = .function) (hdp : dp + 2 < recursionLimit) (hun : un + 500 < cLine) 
   (ret : ∀ tt h' tk', Fr h₀ L h' m → News h₀ L h' ((b, instObj 205 d) :: (d, stD w o t k1 k2) :: news) → Q (.str (Str.ofString "string") tt) {s with heap := h', toks := tk'}) :
   wpAny (model pr w) (ktrTop dp un gd cn cs₀ L a ccd cl outer) (call (.ref 265) [.ref b]) Q E s := by
  walk_at "MY ENTER"
  (skip; repeat' (first | (k_unfold; (try dsimp only)) | ((with_reducible show wpAny _ _ (exec (Stmt.Assign _ _ _) _) _ _ _); k_fold) | ((with_reducible show wpAny _ _ (exec (Stmt.Return _ _) _) _ _ _); k_fold) | ((with_reducible show wpAny _ _ (eval (PySem.Expr.Call _ _ _ _) _) _ _ _); k_fold) | with_reducible refine seq_next ?_ | with_reducible refine seq_ret ?_ | ((fail_if_success (with_reducible show wpAny _ _ (call (Value.ref _) _) _ _ _)); (first | ((with_reducible show wpAny _ _ (call (Value.builtin "isinstance") _ _) _ _ _); with_reducible (((with_reducible show wpAny _ _ (call _ [Value.ref _, _]) _ _ _); k_dflt (refine' kia_one kitx_list ?zzX ?zzp ?zzee ?zznb ?_; (case zzX => k_in); (case zzp => (refine' kitAt_N ?zzN ?zzm ?zzc; (case zzN => k_asm); (case zzm => k_mem); (case zzc => rfl))); (case zzee => kit_is); (case zznb => (intro zzq; cases zzq))); intro zztk9; (try dsimp only)))) | ((with_reducible show wpAny _ _ (call (Value.builtin "isinstance") _ _) _ _ _); with_reducible (((with_reducible show wpAny _ _ (call _ [Value.ref _, _]) _ _ _); k_dflt (refine' kia_one kitx_dict ?zzX ?zzp ?zzee ?zznb ?_; (case zzX => k_in); (case zzp => (refine' kitAt_N ?zzN ?zzm ?zzc; (case zzN => k_asm); (case zzm => k_mem); (case zzc => exact isDict_cls (by assumption)))); (case zzee => kit_is); (case zznb => (intro zzq; cases zzq))); intro zztk9; (try dsimp only)))) | walk1)) | dsimp only | (leave1; (try dsimp only)) | fail "no step"))
  all_goals (try k_data)
  exact ret _ _ _ (by k_asm) (by k_asm)
theorem ko_list {pv : Program} {w : World} {loose : List Str} {mean : ExcName → Option Value} {mg mb : Str → Option Value} {A₀ : Around} {dp un : Nat} {gd : Option (List Code)} {cn : Str} {cs₀ : Scope} {a : Addr} {ccd : Value} {cl : List (Str × Addr)} {outer : List Env} {base h₀ : Heap} {L : Addr} {m : Str → Option Value} {s : Shared} {Q E : Value → Shared → Prop}
   {b : Addr} {vs : List Value} {k : Nat} {news : List (Addr × Obj)}
   (B : Below A₀ base outer h₀) (F : Fr h₀ L s.heap m) (X : (frag.heap_1 w.params).In h₀) (N : News h₀ L s.heap ((b, lstO vs k) :: news)) (T : Top pv loose mean mg mb h₀)
   (hk : cs₀.kind = .function) (hdp : dp + 2 < recursionLimit) (hun : un + 500 < cLine) 
   (ret : ∀ tt h' tk', Fr h₀ L h' m → News h₀ L h' ((b, lstO vs k) :: news) → Q (.str (Str.ofString "array") tt) {s with heap := h', toks := tk'}) :
   wpAny (model pr w) (ktrTop dp un gd cn cs₀ L a ccd cl outer) (call (.ref 265) [.ref b]) Q E s := by
  walk_at "MY ENTER"
  (skip; repeat' (first | (k_unfold; (try dsimp only)) | ((with_reducible show wpAny _ _ (exec (Stmt.Assign _ _ _) _) _ _ _); k_fold) | ((with_reducible show wpAny _ _ (exec (Stmt.Return _ _) _) _ _ _); k_fold) | ((with_reducible show wpAny _ _ (eval (PySem.Expr.Call _ _ _ _) _) _ _ _); k_fold) | with_reducible refine seq_next ?_ | with_reducible refine seq_ret ?_ | ((fail_if_success (with_reducible show wpAny _ _ (call (Value.ref _) _) _ _ _)); (first | ((with_reducible show wpAny _ _ (call (Value.builtin "isinstance") _ _) _ _ _); with_reducible (((with_reducible show wpAny _ _ (call _ [Value.ref _, _]) _ _ _); k_dflt (refine' kia_one kitx_list ?zzX ?zzp ?zzee ?zznb ?_; (case zzX => k_in); (case zzp => (refine' kitAt_N ?zzN ?zzm ?zzc; (case zzN => k_asm); (case zzm => k_mem); (case zzc => rfl))); (case zzee => kit_is); (case zznb => (intro zzq; cases zzq))); intro zztk9; (try dsimp only)))) | ((with_reducible show wpAny _ _ (call (Value.builtin "isinstance") _ _) _ _ _); with_reducible (((with_reducible show wpAny _ _ (call _ [Value.ref _, _]) _ _ _); k_dflt (refine' kia_one kitx_dict ?zzX ?zzp ?zzee ?zznb ?_; (case zzX => k_in); (case zzp => (refine' kitAt_N ?zzN ?zzm ?zzc; (case zzN => k_asm); (case zzm => k_mem); (case zzc => exact isDict_cls (by assumption)))); (case zzee => kit_is); (case zznb => (intro zzq; cases zzq))); intro zztk9; (try dsimp only)))) | walk1)) | dsimp only | (leave1; (try dsimp only)) | fail "no step"))
  all_goals (try k_data)
  exact ret _ _ _ (by k_asm) (by k_asm)
theorem ko_dict {pv : Program} {w : World} {loose : List Str} {mean : ExcName → Option Value} {mg mb : Str → Option Value} {A₀ : Around} {dp un : Nat} {gd : Option (List Code)} {cn : Str} {cs₀ : Scope} {a : Addr} {ccd : Value} {cl : List (Str × Addr)} {outer : List Env} {base h₀ : Heap} {L : Addr} {m : Str → Option Value} {s : Shared} {Q E : Value → Shared → Prop}
   {b : Addr} {o : Obj} {kvs : List (Str × Value)} {news : List (Addr × Obj)}
   (B : Below A₀ base outer h₀) (F : Fr h₀ L s.heap m) (X : (frag.heap_1 w.params).In h₀) (N : News h₀ L s.heap ((b, o) :: news)) (T : Top pv loose mean mg mb h₀)
   (hk : cs₀.kind = .function) (hdp : dp + 2 < recursionLimit) (hun : un + 500 < cLine) (hd : Obj.IsDictOf (PySem.strKind pr w) o kvs)
   (ret : ∀ tt h' tk', Fr h₀ L h' m → News h₀ L h' ((b, o) :: news) → Q (.str (Str.ofString "dict") tt) {s with heap := h', toks := tk'}) :
   wpAny (model pr w) (ktrTop dp un gd cn cs₀ L a ccd cl outer) (call (.ref 265) [.ref b]) Q E s := by
  walk_at "MY ENTER"
  (skip; repeat' (first | (k_unfold; (try dsimp only)) | ((with_reducible show wpAny _ _ (exec (Stmt.Assign _ _ _) _) _ _ _); k_fold) | ((with_reducible show wpAny _ _ (exec (Stmt.Return _ _) _) _ _ _); k_fold) | ((with_reducible show wpAny _ _ (eval (PySem.Expr.Call _ _ _ _) _) _ _ _); k_fold) | with_reducible refine seq_next ?_ | with_reducible refine seq_ret ?_ | ((fail_if_success (with_reducible show wpAny _ _ (call (Value.ref _) _) _ _ _)); (first | ((with_reducible show wpAny _ _ (call (Value.builtin "isinstance") _ _) _ _ _); with_reducible (((with_reducible show wpAny _ _ (call _ [Value.ref _, _]) _ _ _); k_dflt (refine' kia_one kitx_list ?zzX ?zzp ?zzee ?zznb ?_; (case zzX => k_in); (case zzp => (refine' kitAt_N ?zzN ?zzm ?zzc; (case zzN => k_asm); (case zzm => k_mem); (case zzc => rfl))); (case zzee => kit_is); (case zznb => (intro zzq; cases zzq))); intro zztk9; (try dsimp only)))) | ((with_reducible show wpAny _ _ (call (Value.builtin "isinstance") _ _) _ _ _); with_reducible (((with_reducible show wpAny _ _ (call _ [Value.ref _, _]) _ _ _); k_dflt (refine' kia_one kitx_dict ?zzX ?zzp ?zzee ?zznb ?_; (case zzX => k_in); (case zzp => (refine' kitAt_N ?zzN ?zzm ?zzc; (case zzN => k_asm); (case zzm => k_mem); (case zzc => exact isDict_cls (by assumption)))); (case zzee => kit_is); (case zznb => (intro zzq; cases zzq))); intro zztk9; (try dsimp only)))) | walk1)) | dsimp only | (leave1; (try dsimp only)) | fail "no step"))
  all_goals (try k_data)
  exact ret _ _ _ (by k_asm) (by k_asm)
end

end
section
theorem kq_name {pv : Program} {w : World} {loose : List Str} {mean : ExcName → Option Value} {mg mb : Str → Option Value} {A₀ : Around} {dp un : Nat} {gd : Option (List Code)} {cn : Str} {cs₀ : Scope} {a : Addr} {ccd : Value} {cl : List (Str × Addr)} {outer : List Env} {base h₀ : Heap} {L : Addr} {m : Str → Option Value} {s : Shared} {Q E : Value → Shared → Prop}
   {b d : Addr} {x : Str} {t k : Tok} {news : List (Addr × Obj)}
   (B : Below A₀ base outer h₀) (F : Fr h₀ L s.heap m) (X : (frag.heap_1 w.params).In h₀) (N : News h₀ L s.heap news) (T : Top pv loose mean mg mb h₀)
   (hk : cs₀.kind = .function) (hdp : dp + 2 < recursionLimit) (hun : un + 500 < cLine) (h0 : (b, instObj 183 d) ∈ news) (h1 : (d, nmD w x t k) ∈ news)
   (ret : ∀ tt h' tk', Fr h₀ L h' m → News h₀ L h' news → Q (.str (Str.ofString "name") tt) {s with heap := h', toks := tk'}) :
   wpAny (model pr w) (ktrTop dp un gd cn cs₀ L a ccd cl outer) (call (.ref 265) [.ref b]) Q E s :=
  ko_name B F X (news_pick N h0 (news_pick N h1 N)) T hk hdp hun fun tt h' tk' F' N' => ret tt h' tk' F' (news_sub N' fun p hp => .tail _ (.tail _ (hp)))
theorem kq_string {pv : Program} {w : World} {loose : List Str} {mean : ExcName → Option Value} {mg mb : Str → Option Value} {A₀ : Around} {dp un : Nat} {gd : Option (List Code)} {cn : Str} {cs₀ : Scope} {a : Addr} {ccd : Value} {cl : List (Str × Addr)} {outer : List Env} {base h₀ : Heap} {L : Addr} {m : Str → Option Value} {s : Shared} {Q E : Value → Shared → Prop}
   {b d : Addr} {o : Array UInt8} {t k1 k2 : Tok} {news : List (Addr × Obj)}
   (B : Below A₀ base outer h₀) (F : Fr h₀ L s.heap m) (X : (frag.heap_1 w.params).In h₀) (N : News h₀ L s.heap news) (T : Top pv loose mean mg mb h₀)
   (hk : cs₀.kind = .function) (hdp : dp + 2 < recursionLimit) (hun : un + 500 < cLine) (h0 : (b, instObj 205 d) ∈ news) (h1 : (d, stD w o t k1 k2) ∈ news)
   (ret : ∀ tt h' tk', Fr h₀ L h' m → News h₀ L h' news → Q (.str (Str.ofString "string") tt) {s with heap := h', toks := tk'}) :
   wpAny (model pr w) (ktrTop dp un gd cn cs₀ L a ccd cl outer) (call (.ref 265) [.ref b]) Q E s :=
  ko_string B F X (news_pick N h0 (news_pick N h1 N)) T hk hdp hun fun tt h' tk' F' N' => ret tt h' tk' F' (news_sub N' fun p hp => .tail _ (.tail _ (hp)))
theorem kq_list {pv : Program} {w : World} {loose : List Str} {mean : ExcName → Option Value} {mg mb : Str → Option Value} {A₀ : Around} {dp un : Nat} {gd : Option (List Code)} {cn : Str} {cs₀ : Scope} {a : Addr} {ccd : Value} {cl : List (Str × Addr)} {outer : List Env} {base h₀ : Heap} {L : Addr} {m : Str → Option Value} {s : Shared} {Q E : Value → Shared → Prop}
   {b : Addr} {vs : List Value} {k : Nat} {news : List (Addr × Obj)}
   (B : Below A₀ base outer h₀) (F : Fr h₀ L s.heap m) (X : (frag.heap_1 w.params).In h₀) (N : News h₀ L s.heap news) (T : Top pv loose mean mg mb h₀)
   (hk : cs₀.kind = .function) (hdp : dp + 2 < recursionLimit) (hun : un + 500 < cLine) (h0 : (b, lstO vs k) ∈ news)
   (ret : ∀ tt h' tk', Fr h₀ L h' m → News h₀ L h' news → Q (.str (Str.ofString "array") tt) {s with heap := h', toks := tk'}) :
   wpAny (model pr w) (ktrTop dp un gd cn cs₀ L a ccd cl outer) (call (.ref 265) [.ref b]) Q E s :=
  ko_list B F X (news_pick N h0 N) T hk hdp hun fun tt h' tk' F' N' => ret tt h' tk' F' (news_sub N' fun p hp => .tail _ (hp))
theorem kq_dict {pv : Program} {w : World} {loose : List Str} {mean : ExcName → Option Value} {mg mb : Str → Option Value} {A₀ : Around} {dp un : Nat} {gd : Option (List Code)} {cn : Str} {cs₀ : Scope} {a : Addr} {ccd : Value} {cl : List (Str × Addr)} {outer : List Env} {base h₀ : Heap} {L : Addr} {m : Str → Option Value} {s : Shared} {Q E : Value → Shared → Prop}
   {b : Addr} {o : Obj} {kvs : List (Str × Value)} {news : List (Addr × Obj)}
   (B : Below A₀ base outer h₀) (F : Fr h₀ L s.heap m) (X : (frag.heap_1 w.params).In h₀) (N : News h₀ L s.heap news) (T : Top pv loose mean mg mb h₀)
   (hk : cs₀.kind = .function) (hdp : dp + 2 < recursionLimit) (hun : un + 500 < cLine) (h0 : (b, o) ∈ news) (hd : Obj.IsDictOf (PySem.strKind pr w) o kvs)
   (ret : ∀ tt h' tk', Fr h₀ L h' m → News h₀ L h' news → Q (.str (Str.ofString "dict") tt) {s with heap := h', toks := tk'}) :
   wpAny (model pr w) (ktrTop dp un gd cn cs₀ L a ccd cl outer) (call (.ref 265) [.ref b]) Q E s :=
  ko_dict B F X (news_pick N h0 N) T hk hdp hun hd fun tt h' tk' F' N' => ret tt h' tk' F' (news_sub N' fun p hp => .tail _ (hp))
section
theorem to_int {pv : Program} {w : World} {loose : List Str} {mean : ExcName → Option Value} {mg mb : Str → Option Value} {A₀ : Around} {dp un : Nat} {gd : Option (List Code)} {cn : Str} {cs₀ : Scope} {a : Addr} {ccd : Value} {cl : List (Str × Addr)} {outer : List Env} {base h₀ : Heap} {L : Addr} {m : Str → Option Value} {s : Shared} {Q E : Value → Shared → Prop}
   {i : Int} {ti : Tok} {news : List (Addr × Obj)}
   (B : Below A₀ base outer h₀) (F : Fr h₀ L s.heap m) (X : (frag.heap_1 w.params).In h₀) (N : News h₀ L s.heap news) (T : Top pv loose mean mg mb h₀)
   (hk : cs₀.kind = .function) (hdp : dp + 4 < recursionLimit) (hun : un + 700 < cLine) 
   (ret : ∀ D c h' tk', Fr h₀ L h' m → News h₀ L h' (c ++ news) → DatIn c (.ref D) (.tuple [.str (Str.ofString "int"), .int i]) → (∀ p ∈ c, AllLt p.1 news) → Q (.ref D) {s with heap := h', toks := tk'}) :
   wpAny (model pr w) (ktrTop dp un gd cn cs₀ L a ccd cl outer) (call (.ref 277) [.int i ti]) Q E s := by
  first | walk_at "MY ENTER" | walk_at "MY ENTERC"
  (skip; repeat' (first | (k_unfold; (try dsimp only)) | (with_reducible refine gen3 ?_; intro _) | ((with_reducible show wpAny _ _ (exec (Stmt.Assign _ _ _) _) _ _ _); k_fold) | ((with_reducible show wpAny _ _ (exec (Stmt.Return _ _) _) _ _ _); k_fold) | ((with_reducible show wpAny _ _ (eval (PySem.Expr.Call _ _ _ _) _) _ _ _); k_fold) | with_reducible refine seq_next ?_ | with_reducible refine seq_ret ?_ | (first | ((with_reducible show wpAny _ _ (call (Value.type "bytes") _ _) _ _ _); with_reducible (((with_reducible show wpAny _ _ (call _ [Value.bytes _ _]) _ _ _); refine call_bytes_bytes ?_))) | walk_at "MY STEP") | (first | ((with_reducible show wpAny _ _ (call (Value.ref 272) _) _ _ _); walk_at "MY ENTER") | ((with_reducible show wpAny _ _ (call (Value.ref 265) [Value.int _ _]) _ _ _); k_dflt (refine' ko_int ?zzB ?zzF ?zzX ?zzN ?zzT ?zzhk ?zzhdp ?zzhun ?_; (case zzB => k_asm); (case zzF => k_asm); (case zzX => k_asm); (case zzN => k_asm); (case zzT => k_asm); (case zzhk => first | assumption | rfl); (case zzhdp => ktr_room); (case zzhun => units_room)); intro zzt9 zzh9 zztk9 zzF9 zzN9; (try dsimp only)) | ((with_reducible show wpAny _ _ (call (Value.ref 265) [Value.ref _]) _ _ _); k_dflt (refine' kq_name ?zzB ?zzF ?zzX ?zzN ?zzT ?zzhk ?zzhdp ?zzhun ?zzh0 ?zzh1 ?_; (case zzB => k_asm); (case zzF => k_asm); (case zzX => k_asm); (case zzN => k_asm); (case zzT => k_asm); (case zzhk => first | assumption | rfl); (case zzhdp => ktr_room); (case zzhun => units_room); (case zzh0 => k_mem); (case zzh1 => k_mem)); intro zzt9 zzh9 zztk9 zzF9 zzN9; (try dsimp only)) | ((with_reducible show wpAny _ _ (call (Value.ref 265) [Value.ref _]) _ _ _); k_dflt (refine' kq_string ?zzB ?zzF ?zzX ?zzN ?zzT ?zzhk ?zzhdp ?zzhun ?zzh0 ?zzh1 ?_; (case zzB => k_asm); (case zzF => k_asm); (case zzX => k_asm); (case zzN => k_asm); (case zzT => k_asm); (case zzhk => first | assumption | rfl); (case zzhdp => ktr_room); (case zzhun => units_room); (case zzh0 => k_mem); (case zzh1 => k_mem)); intro zzt9 zzh9 zztk9 zzF9 zzN9; (try dsimp only)) | ((with_reducible show wpAny _ _ (call (Value.ref 265) [Value.ref _]) _ _ _); k_dflt (refine' kq_list ?zzB ?zzF ?zzX ?zzN ?zzT ?zzhk ?zzhdp ?zzhun ?zzh0 ?_; (case zzB => k_asm); (case zzF => k_asm); (case zzX => k_asm); (case zzN => k_asm); (case zzT => k_asm); (case zzhk => first | assumption | rfl); (case zzhdp => ktr_room); (case zzhun => units_room); (case zzh0 => k_mem)); intro zzt9 zzh9 zztk9 zzF9 zzN9; (try dsimp only)) | ((with_reducible show wpAny _ _ (call (Value.ref 265) [Value.ref _]) _ _ _); k_dflt (refine' kq_dict ?zzB ?zzF ?zzX ?zzN ?zzT ?zzhk ?zzhdp ?zzhun ?zzh0 ?zzhd ?_; (case zzB => k_asm); (case zzF => k_asm); (case zzX => k_asm); (case zzN => k_asm); (case zzT => k_asm); (case zzhk => first | assumption | rfl); (case zzhdp => ktr_room); (case zzhun => units_room); (case zzh0 => k_mem); (case zzhd => assumption)); intro zzt9 zzh9 zztk9 zzF9 zzN9; (try dsimp only))) | dsimp only | (leave1; (try dsimp only)) | fail "no step"))
  all_goals (try k_data)
  rename Fr h₀ L _ m => F7
  exact ret _ [(_, _)] _ _ F7 (by walk_at "MY NEWS") (.tuple (.head _) (.cons (.str _ _) (.cons (by constructor) .nil))) (by intro p hp; rw [List.mem_singleton.mp hp]; (rename (_ < _ ∧ _) => l9); exact l9.2)
theorem to_name {pv : Program} {w : World} {loose : List Str} {mean : ExcName → Option Value} {mg mb : Str → Option Value} {A₀ : Around} {dp un : Nat} {gd : Option (List Code)} {cn : Str} {cs₀ : Scope} {a : Addr} {ccd : Value} {cl : List (Str × Addr)} {outer : List Env} {base h₀ : Heap} {L : Addr} {m : Str → Option Value} {s : Shared} {Q E : Value → Shared → Prop}
   {b d : Addr} {x : Str} {t k : Tok} {news : List (Addr × Obj)}
   (B : Below A₀ base outer h₀) (F : Fr h₀ L s.heap m) (X : (frag.heap_1 w.params).In h₀) (N : News h₀ L s.heap ((b, instObj 183 d) :: (d, nmD w x t k) :: news)) (T : Top pv loose mean mg mb h₀)
   (hk : cs₀.kind = .function) (hdp : dp + 4 < recursionLimit) (hun : un + 700 < cLine) 
   (ret : ∀ D c h' tk', Fr h₀ L h' m → News h₀ L h' (c ++ ((b, instObj 183 d) :: (d, nmD w x t k) :: news)) → DatIn c (.ref D) (.tuple [.str (Str.ofString "name"), .str x]) → (∀ p ∈ c, AllLt p.1 ((b, instObj 183 d) :: (d, nmD w x t k) :: news)) → Q (.ref D) {s with heap := h', toks := tk'}) :
   wpAny (model pr w) (ktrTop dp un gd cn cs₀ L a ccd cl outer) (call (.ref 277) [.ref b]) Q E s := by
  first | walk_at "MY ENTER" | walk_at "MY ENTERC"
  (skip; repeat' (first | (k_unfold; (try dsimp only)) | (with_reducible refine gen3 ?_; intro _) | ((with_reducible show wpAny _ _ (exec (Stmt.Assign _ _ _) _) _ _ _); k_fold) | ((with_reducible show wpAny _ _ (exec (Stmt.Return _ _) _) _ _ _); k_fold) | ((with_reducible show wpAny _ _ (eval (PySem.Expr.Call _ _ _ _) _) _ _ _); k_fold) | with_reducible refine seq_next ?_ | with_reducible refine seq_ret ?_ | (first | ((with_reducible show wpAny _ _ (call (Value.type "bytes") _ _) _ _ _); with_reducible (((with_reducible show wpAny _ _ (call _ [Value.bytes _ _]) _ _ _); refine call_bytes_bytes ?_))) | walk_at "MY STEP") | (first | ((with_reducible show wpAny _ _ (call (Value.ref 272) _) _ _ _); walk_at "MY ENTER") | ((with_reducible show wpAny _ _ (call (Value.ref 265) [Value.int _ _]) _ _ _); k_dflt (refine' ko_int ?zzB ?zzF ?zzX ?zzN ?zzT ?zzhk ?zzhdp ?zzhun ?_; (case zzB => k_asm); (case zzF => k_asm); (case zzX => k_asm); (case zzN => k_asm); (case zzT => k_asm); (case zzhk => first | assumption | rfl); (case zzhdp => ktr_room); (case zzhun => units_room)); intro zzt9 zzh9 zztk9 zzF9 zzN9; (try dsimp only)) | ((with_reducible show wpAny _ _ (call (Value.ref 265) [Value.ref _]) _ _ _); k_dflt (refine' kq_name ?zzB ?zzF ?zzX ?zzN ?zzT ?zzhk ?zzhdp ?zzhun ?zzh0 ?zzh1 ?_; (case zzB => k_asm); (case zzF => k_asm); (case zzX => k_asm); (case zzN => k_asm); (case zzT => k_asm); (case zzhk => first | assumption | rfl); (case zzhdp => ktr_room); (case zzhun => units_room); (case zzh0 => k_mem); (case zzh1 => k_mem)); intro zzt9 zzh9 zztk9 zzF9 zzN9; (try dsimp only)) | ((with_reducible show wpAny _ _ (call (Value.ref 265) [Value.ref _]) _ _ _); k_dflt (refine' kq_string ?zzB ?zzF ?zzX ?zzN ?zzT ?zzhk ?zzhdp ?zzhun ?zzh0 ?zzh1 ?_; (case zzB => k_asm); (case zzF => k_asm); (case zzX => k_asm); (case zzN => k_asm); (case zzT => k_asm); (case zzhk => first | assumption | rfl); (case zzhdp => ktr_room); (case zzhun => units_room); (case zzh0 => k_mem); (case zzh1 => k_mem)); intro zzt9 zzh9 zztk9 zzF9 zzN9; (try dsimp only)) | ((with_reducible show wpAny _ _ (call (Value.ref 265) [Value.ref _]) _ _ _); k_dflt (refine' kq_list ?zzB ?zzF ?zzX ?zzN ?zzT ?zzhk ?zzhdp ?zzhun ?zzh0 ?_; (case zzB => k_asm); (case zzF => k_asm); (case zzX => k_asm); (case zzN => k_asm); (case zzT => k_asm); (case zzhk => first | assumption | rfl); (case zzhdp => ktr_room); (case zzhun => units_room); (case zzh0 => k_mem)); intro zzt9 zzh9 zztk9 zzF9 zzN9; (try dsimp only)) | ((with_reducible show wpAny _ _ (call (Value.ref 265) [Value.ref _]) _ _ _); k_dflt (refine' kq_dict ?zzB ?zzF ?zzX ?zzN ?zzT ?zzhk ?zzhdp ?zzhun ?zzh0 ?zzhd ?_; (case zzB => k_asm); (case zzF => k_asm); (case zzX => k_asm); (case zzN => k_asm); (case zzT => k_asm); (case zzhk => first | assumption | rfl); (case zzhdp => ktr_room); (case zzhun => units_room); (case zzh0 => k_mem); (case zzhd => assumption)); intro zzt9 zzh9 zztk9 zzF9 zzN9; (try dsimp only))) | dsimp only | (leave1; (try dsimp only)) | fail "no step"))
  all_goals (try k_data)
  rename Fr h₀ L _ m => F7
  exact ret _ [(_, _)] _ _ F7 (by walk_at "MY NEWS") (.tuple (.head _) (.cons (.str _ _) (.cons (by constructor) .nil))) (by intro p hp; rw [List.mem_singleton.mp hp]; (rename (_ < _ ∧ _) => l9); exact l9.2)
theorem to_string {pv : Program} {w : World} {loose : List Str} {mean : ExcName → Option Value} {mg mb : Str → Option Value} {A₀ : Around} {dp un : Nat} {gd : Option (List Code)} {cn : Str} {cs₀ : Scope} {a : Addr} {ccd : Value} {cl : List (Str × Addr)} {outer : List Env} {base h₀ : Heap} {L : Addr} {m : Str → Option Value} {s : Shared} {Q E : Value → Shared → Prop}
   {b d : Addr} {o : Array UInt8} {t k1 k2 : Tok} {news : List (Addr × Obj)}
   (B : Below A₀ base outer h₀) (F : Fr h₀ L s.heap m) (X : (frag.heap_1 w.params).In h₀) (N : News h₀ L s.heap ((b, instObj 205 d) :: (d, stD w o t k1 k2) :: news)) (T : Top pv loose mean mg mb h₀)
   (hk : cs₀.kind = .function) (hdp : dp + 4 < recursionLimit) (hun : un + 700 < cLine) 
   (ret : ∀ D c h' tk', Fr h₀ L h' m → News h₀ L h' (c ++ ((b, instObj 205 d) :: (d, stD w o t k1 k2) :: news)) → DatIn c (.ref D) (.tuple [.str (Str.ofString "string"), .bytes o]) → (∀ p ∈ c, AllLt p.1 ((b, instObj 205 d) :: (d, stD w o t k1 k2) :: news)) → Q (.ref D) {s with heap := h', toks := tk'}) :
   wpAny (model pr w) (ktrTop dp un gd cn cs₀ L a ccd cl outer) (call (.ref 277) [.ref b]) Q E s := by
  first | walk_at "MY ENTER" | walk_at "MY ENTERC"
  (skip; repeat' (first | (k_unfold; (try dsimp only)) | (with_reducible refine gen3 ?_; intro _) | ((with_reducible show wpAny _ _ (exec (Stmt.Assign _ _ _) _) _ _ _); k_fold) | ((with_reducible show wpAny _ _ (exec (Stmt.Return _ _) _) _ _ _); k_fold) | ((with_reducible show wpAny _ _ (eval (PySem.Expr.Call _ _ _ _) _) _ _ _); k_fold) | with_reducible refine seq_next ?_ | with_reducible refine seq_ret ?_ | (first | ((with_reducible show wpAny _ _ (call (Value.type "bytes") _ _) _ _ _); with_reducible (((with_reducible show wpAny _ _ (call _ [Value.bytes _ _]) _ _ _); refine call_bytes_bytes ?_))) | walk_at "MY STEP") | (first | ((with_reducible show wpAny _ _ (call (Value.ref 272) _) _ _ _); walk_at "MY ENTER") | ((with_reducible show wpAny _ _ (call (Value.ref 265) [Value.int _ _]) _ _ _); k_dflt (refine' ko_int ?zzB ?zzF ?zzX ?zzN ?zzT ?zzhk ?zzhdp ?zzhun ?_; (case zzB => k_asm); (case zzF => k_asm); (case zzX => k_asm); (case zzN => k_asm); (case zzT => k_asm); (case zzhk => first | assumption | rfl); (case zzhdp => ktr_room); (case zzhun => units_room)); intro zzt9 zzh9 zztk9 zzF9 zzN9; (try dsimp only)) | ((with_reducible show wpAny _ _ (call (Value.ref 265) [Value.ref _]) _ _ _); k_dflt (refine' kq_name ?zzB ?zzF ?zzX ?zzN ?zzT ?zzhk ?zzhdp ?zzhun ?zzh0 ?zzh1 ?_; (case zzB => k_asm); (case zzF => k_asm); (case zzX => k_asm); (case zzN => k_asm); (case zzT => k_asm); (case zzhk => first | assumption | rfl); (case zzhdp => ktr_room); (case zzhun => units_room); (case zzh0 => k_mem); (case zzh1 => k_mem)); intro zzt9 zzh9 zztk9 zzF9 zzN9; (try dsimp only)) | ((with_reducible show wpAny _ _ (call (Value.ref 265) [Value.ref _]) _ _ _); k_dflt (refine' kq_string ?zzB ?zzF ?zzX ?zzN ?zzT ?zzhk ?zzhdp ?zzhun ?zzh0 ?zzh1 ?_; (case zzB => k_asm); (case zzF => k_asm); (case zzX => k_asm); (case zzN => k_asm); (case zzT => k_asm); (case zzhk => first | assumption | rfl); (case zzhdp => ktr_room); (case zzhun => units_room); (case zzh0 => k_mem); (case zzh1 => k_mem)); intro zzt9 zzh9 zztk9 zzF9 zzN9; (try dsimp only)) | ((with_reducible show wpAny _ _ (call (Value.ref 265) [Value.ref _]) _ _ _); k_dflt (refine' kq_list ?zzB ?zzF ?zzX ?zzN ?zzT ?zzhk ?zzhdp ?zzhun ?zzh0 ?_; (case zzB => k_asm); (case zzF => k_asm); (case zzX => k_asm); (case zzN => k_asm); (case zzT => k_asm); (case zzhk => first | assumption | rfl); (case zzhdp => ktr_room); (case zzhun => units_room); (case zzh0 => k_mem)); intro zzt9 zzh9 zztk9 zzF9 zzN9; (try dsimp only)) | ((with_reducible show wpAny _ _ (call (Value.ref 265) [Value.ref _]) _ _ _); k_dflt (refine' kq_dict ?zzB ?zzF ?zzX ?zzN ?zzT ?zzhk ?zzhdp ?zzhun ?zzh0 ?zzhd ?_; (case zzB => k_asm); (case zzF => k_asm); (case zzX => k_asm); (case zzN => k_asm); (case zzT => k_asm); (case zzhk => first | assumption | rfl); (case zzhdp => ktr_room); (case zzhun => units_room); (case zzh0 => k_mem); (case zzhd => assumption)); intro zzt9 zzh9 zztk9 zzF9 zzN9; (try dsimp only))) | dsimp only | (leave1; (try dsimp only)) | fail "no step"))
  all_goals (try k_data)
  rename Fr h₀ L _ m => F7
  exact ret _ [(_, _)] _ _ F7 (by walk_at "MY NEWS") (.tuple (.head _) (.cons (.str _ _) (.cons (by constructor) .nil))) (by intro p hp; rw [List.mem_singleton.mp hp]; (rename (_ < _ ∧ _) => l9); exact l9.2)
end

end
section
theorem sub_c2 {x y : Addr × Obj} {c l : List (Addr × Obj)} : ∀ p ∈ c ++ l, p ∈ c ++ (x :: y :: l) := by
  intro p hp
  rcases List.mem_append.mp hp with h | h
  · exact List.mem_append.mpr (.inl h)
  · exact List.mem_append.mpr (.inr (.tail _ (.tail _ h)))
theorem tq_name {pv : Program} {w : World} {loose : List Str} {mean : ExcName → Option Value} {mg mb : Str → Option Value} {A₀ : Around} {dp un : Nat} {gd : Option (List Code)} {cn : Str} {cs₀ : Scope} {a : Addr} {ccd : Value} {cl : List (Str × Addr)} {outer : List Env} {base h₀ : Heap} {L : Addr} {m : Str → Option Value} {s : Shared} {Q E : Value → Shared → Prop}
   {b d : Addr} {x : Str} {t k : Tok} {news : List (Addr × Obj)}
   (B : Below A₀ base outer h₀) (F : Fr h₀ L s.heap m) (X : (frag.heap_1 w.params).In h₀) (N : News h₀ L s.heap news) (T : Top pv loose mean mg mb h₀)
   (hk : cs₀.kind = .function) (hdp : dp + 4 < recursionLimit) (hun : un + 700 < cLine) (h0 : (b, instObj 183 d) ∈ news) (h1 : (d, nmD w x t k) ∈ news)
   (ret : ∀ D c h' tk', Fr h₀ L h' m → News h₀ L h' (c ++ news) → DatIn c (.ref D) (.tuple [.str (Str.ofString "name"), .str x]) → (∀ p ∈ c, AllLt p.1 news) → Q (.ref D) {s with heap := h', toks := tk'}) :
   wpAny (model pr w) (ktrTop dp un gd cn cs₀ L a ccd cl outer) (call (.ref 277) [.ref b]) Q E s :=
  to_name B F X (news_pick N h0 (news_pick N h1 N)) T hk hdp hun fun D c h' tk' F' N' hd' l => ret D c h' tk' F' (news_sub N' sub_c2) hd' fun p hp => (l p hp).2.2
theorem tq_string {pv : Program} {w : World} {loose : List Str} {mean : ExcName → Option Value} {mg mb : Str → Option Value} {A₀ : Around} {dp un : Nat} {gd : Option (List Code)} {cn : Str} {cs₀ : Scope} {a : Addr} {ccd : Value} {cl : List (Str × Addr)} {outer : List Env} {base h₀ : Heap} {L : Addr} {m : Str → Option Value} {s : Shared} {Q E : Value → Shared → Prop}
   {b d : Addr} {o : Array UInt8} {t k1 k2 : Tok} {news : List (Addr × Obj)}
   (B : Below A₀ base outer h₀) (F : Fr h₀ L s.heap m) (X : (frag.heap_1 w.params).In h₀) (N : News h₀ L s.heap news) (T : Top pv loose mean mg mb h₀)
   (hk : cs₀.kind = .function) (hdp : dp + 4 < recursionLimit) (hun : un + 700 < cLine) (h0 : (b, instObj 205 d) ∈ news) (h1 : (d, stD w o t k1 k2) ∈ news)
   (ret : ∀ D c h' tk', Fr h₀ L h' m → News h₀ L h' (c ++ news) → DatIn c (.ref D) (.tuple [.str (Str.ofString "string"), .bytes o]) → (∀ p ∈ c, AllLt p.1 news) → Q (.ref D) {s with heap := h', toks := tk'}) :
   wpAny (model pr w) (ktrTop dp un gd cn cs₀ L a ccd cl outer) (call (.ref 277) [.ref b]) Q E s :=
  to_string B F X (news_pick N h0 (news_pick N h1 N)) T hk hdp hun fun D c h' tk' F' N' hd' l => ret D c h' tk' F' (news_sub N' sub_c2) hd' fun p hp => (l p hp).2.2
/-- told of a value of the ledger makes this datum -/
structure Tells (w : World) (news : List (Addr × Obj)) (n : Nat) (v : Value) (d : Dat) : Prop where
  go : ∀ {pv : Program} {loose : List Str} {mean : ExcName → Option Value} {mg mb : Str → Option Value} {A₀ : Around} {dp un : Nat} {gd : Option (List Code)} {cn : Str} {cs : Scope} {a : Addr} {ccd : Value} {cl : List (Str × Addr)} {outer : List Env} {base h₀ : Heap} {L : Addr} {m : Str → Option Value} {s : Shared} {Q E : Value → Shared → Prop} (news' : List (Addr × Obj)),
    Below A₀ base outer h₀ → Fr h₀ L s.heap m → (frag.heap_1 w.params).In h₀ → News h₀ L s.heap news' → Top pv loose mean mg mb h₀ → cs.kind = .function → dp + n < recursionLimit → un + 300 * n < cLine → (∀ p ∈ news, p ∈ news') →
    (∀ D c h' tk', Fr h₀ L h' m → News h₀ L h' (c ++ news') → DatIn c (.ref D) d → (∀ p ∈ c, AllLt p.1 news') → Q (.ref D) {s with heap := h', toks := tk'}) →
    wpAny (model pr w) (ktrTop dp un gd cn cs L a ccd cl outer) (call (.ref 277) [v]) Q E s
theorem Tells.mono {w : World} {news news₂ : List (Addr × Obj)} {n : Nat} {v : Value} {d : Dat} (h : Tells w news n v d) (hs : ∀ p ∈ news, p ∈ news₂) : Tells w news₂ n v d := by
  constructor
  intro pv loose mean mg mb A₀ dp un gd cn cs a ccd cl outer base h₀ L m s Q E news' B F X N T hk hdp hun hs2 ret
  exact h.go news' B F X N T hk hdp hun (fun p hp => hs2 p (hs p hp)) ret
theorem Tells.up {w : World} {news : List (Addr × Obj)} {n k : Nat} {v : Value} {d : Dat} (h : Tells w news n v d) (hn : n ≤ k) : Tells w news k v d := by
  constructor
  intro pv loose mean mg mb A₀ dp un gd cn cs a ccd cl outer base h₀ L m s Q E news' B F X N T hk hdp hun hs2 ret
  exact h.go news' B F X N T hk (by omega) (by omega) hs2 ret
theorem tells_int {w : World} {news : List (Addr × Obj)} {i : Int} {t : Tok} : Tells w news 4 (.int i t) (.tuple [.str (Str.ofString "int"), .int i]) := by
  constructor
  intro pv loose mean mg mb A₀ dp un gd cn cs a ccd cl outer base h₀ L m s Q E news' B F X N T hk hdp hun hs2 ret
  exact to_int B F X N T hk hdp (by omega) ret
theorem tells_name {w : World} {news : List (Addr × Obj)} {b d : Addr} {x : Str} {t k : Tok} (h0 : (b, instObj 183 d) ∈ news) (h1 : (d, nmD w x t k) ∈ news) : Tells w news 4 (.ref b) (.tuple [.str (Str.ofString "name"), .str x]) := by
  constructor
  intro pv loose mean mg mb A₀ dp un gd cn cs a ccd cl outer base h₀ L m s Q E news' B F X N T hk hdp hun hs2 ret
  exact tq_name B F X N T hk hdp (by omega) (hs2 _ h0) (hs2 _ h1) ret
theorem tells_string {w : World} {news : List (Addr × Obj)} {b d : Addr} {o : Array UInt8} {t k1 k2 : Tok} (h0 : (b, instObj 205 d) ∈ news) (h1 : (d, stD w o t k1 k2) ∈ news) : Tells w news 4 (.ref b) (.tuple [.str (Str.ofString "string"), .bytes o]) := by
  constructor
  intro pv loose mean mg mb A₀ dp un gd cn cs a ccd cl outer base h₀ L m s Q E news' B F X N T hk hdp hun hs2 ret
  exact tq_string B F X N T hk hdp (by omega) (hs2 _ h0) (hs2 _ h1) ret
theorem sub7c {x1 x2 x3 x4 x5 x6 x7 : Addr × Obj} {c l l' : List (Addr × Obj)} (hs : ∀ p ∈ l', p ∈ l) : ∀ p ∈ l', p ∈ x1 :: x2 :: x3 :: x4 :: x5 :: x6 :: x7 :: (c ++ l) := fun _ h => .tail _ (.tail _ (.tail _ (.tail _ (.tail _ (.tail _ (.tail _ (List.mem_append.mpr (.inr (hs _ h)))))))))
theorem sub6c {x1 x2 x3 x4 x5 x6 : Addr × Obj} {c l l' : List (Addr × Obj)} (hs : ∀ p ∈ l', p ∈ l) : ∀ p ∈ l', p ∈ x1 :: x2 :: x3 :: x4 :: x5 :: x6 :: (c ++ l) := fun _ h => .tail _ (.tail _ (.tail _ (.tail _ (.tail _ (.tail _ (List.mem_append.mpr (.inr (hs _ h))))))))
theorem rot3 {x y z : Addr × Obj} {l : List (Addr × Obj)} : ∀ p ∈ z :: x :: y :: l, p ∈ x :: y :: z :: l := by
  intro p hp
  simp only [List.mem_cons] at hp ⊢
  rcases hp with h | h | h | h <;> simp [h]
/-- a told part goes onto the ledger -/
theorem part_end {h₀ h' : Heap} {L I C D : Addr} {m : Str → Option Value} {s₁ : Shared} {oI oC oD : Obj} {R : Value → List (Addr × Obj) → Prop} {y : Value} {tk : Nat} {e : List (Addr × Obj)} {a1 a2 a3 : Addr × Obj} {c l : List (Addr × Obj)}
    (F : Fr h₀ L h' m) (N : News h₀ L h' (e ++ ((I, oI) :: (C, oC) :: (D, oD) :: a1 :: a2 :: a3 :: (c ++ l)))) (le : ∀ p ∈ e, AllLt p.1 ((I, oI) :: (C, oC) :: (D, oD) :: a1 :: a2 :: a3 :: (c ++ l))) (off : LCg.Off3 I C D (a1 :: a2 :: a3 :: (c ++ l))) (hr : R y (e ++ c)) :
    EltEnd h₀ L m s₁ I oI C oC D oD (fun c => a1 :: a2 :: a3 :: (c ++ l)) R y { s₁ with heap := h', toks := tk } := by
  refine ⟨e ++ c, h', tk, rfl, F, news_sub N ?_, LCg.Off3.of ?_, hr⟩
  · intro p hp
    simp only [List.mem_cons, List.mem_append] at hp ⊢
    rcases hp with h | h | h | h | h | h | (h | h) | h <;> simp [h]
  · intro p hp
    have o := off.mem
    rcases List.mem_cons.mp hp with rfl | hp
    · exact o _ (.head _)
    rcases List.mem_cons.mp hp with rfl | hp
    · exact o _ (.tail _ (.head _))
    rcases List.mem_cons.mp hp with rfl | hp
    · exact o _ (.tail _ (.tail _ (.head _)))
    rcases List.mem_append.mp hp with hp | hp
    · rcases List.mem_append.mp hp with hp | hp
      · exact off3_lt (le p hp)
      · exact o _ (.tail _ (.tail _ (.tail _ (List.mem_append.mpr (.inl hp)))))
    · exact o _ (.tail _ (.tail _ (.tail _ (List.mem_append.mpr (.inr hp)))))
abbrev tupO (vs : List Value) : Obj := { cls := .type "tuple", data := .seq vs.toArray }
theorem r_addtup {prog : Program} {w : World} {A : Around} {E : Value → Shared → Prop} {s : Shared} {Q : Value → Shared → Prop} {h₀ : Heap} {L : Addr} {news : List (Addr × Obj)} {m : Str → Option Value} {t b : Addr} {x : Value} {ys : List Value} (F : Fr h₀ L s.heap m) (N : News h₀ L s.heap news)
    (ht : (t, tupO [x]) ∈ news) (hb : (b, tupO ys) ∈ news) (hz : ys.length ≤ 1000)
    (h : ∀ D c h', Fr h₀ L h' m → News h₀ L h' (c ++ news) → (D, tupO (x :: ys)) ∈ c → (∀ p ∈ c, p.1 = t ∨ ∀ q ∈ news, q.1 < p.1) → Q (.ref D) { s with heap := h' }) : wpAny (model prog w) A (binaryOp .Add (.ref t) (.ref b)) Q E s := by
  have ht' : IsTup s.heap t [x].toArray := ⟨_, N.get ht, rfl, 0, rfl⟩
  have hb' : IsTup s.heap b ys.toArray := ⟨_, N.get hb, rfl, 0, rfl⟩
  cases ys with
  | nil =>
    refine kde_addT1 F N ht' hb' (by simp) (by simp) (by simp) (h t [(t, tupO [x])] s.heap F (fun p hp => ?_) (.head _) fun p hp => .inl (by rw [List.mem_singleton.mp hp]))
    rcases List.mem_append.mp hp with hp | hp
    · rw [List.mem_singleton.mp hp]; exact N _ ht
    · exact N p hp
  | cons y ys =>
    refine kde_addT (zs := x :: y :: ys) F N ht' hb' (by simp) (by simp) (by simp at hz ⊢; omega) (by simp) fun D h' F' N' l => h D [(D, tupO (x :: y :: ys))] h' F' N' (.head _) fun p hp => .inr fun q hq => ?_
    rw [List.mem_singleton.mp hp]; exact l q hq
theorem allLt_last {d : Nat} {a1 a2 a3 a4 a5 a6 : Addr × Obj} {c l : List (Addr × Obj)} (h : AllLt d (a1 :: a2 :: a3 :: a4 :: a5 :: a6 :: (c ++ l))) : AllLt d l := allLt_appr h.2.2.2.2.2.2
theorem datAll_snoc {news : List (Addr × Obj)} {ys : List Value} {ds : List Dat} {y : Value} {d : Dat} {i : Nat} (h : DatAll news ys (ds.take i)) (hd : DatIn news y d) (hi : ds[i]? = some d) : DatAll news (ys ++ [y]) (ds.take (i + 1)) := by
  rw [take_snoc hi]; exact h.append (DatAll.one hd)
section
theorem to_list {w : World} {news : List (Addr × Obj)} {n : Nat} {b : Addr} {vs : List Value} {ds : List Dat} {k : Nat} (hlen : vs.length = ds.length) (h100 : vs.length ≤ 100) (hn : 2 ≤ n)
    (ht : ∀ (i : Nat) v d, vs[i]? = some v → ds[i]? = some d → Tells w news n v d) : Tells w ((b, lstO vs k) :: news) (n + 3) (.ref b) (.tuple (.str (Str.ofString "array") :: ds)) := by
  constructor
  intro pv loose mean mg mb A₀ dp un gd cn cs₀ a ccd cl outer base h₀ L m s Q E news' B F X N0 T hk hdp hun hs2 ret
  have N := news_pick N0 (hs2 _ (.head _)) N0
  have hs3 : ∀ p ∈ news, p ∈ news' := fun p hp => hs2 p (.tail _ hp)
  first | walk_at "MY ENTER" | walk_at "MY ENTERC"
  (skip; repeat' (first | (k_unfold; (try dsimp only)) | (with_reducible refine gen3 ?_; intro _) | ((with_reducible show wpAny _ _ (exec (Stmt.Assign _ _ _) _) _ _ _); k_fold) | ((with_reducible show wpAny _ _ (exec (Stmt.Return _ _) _) _ _ _); k_fold) | ((with_reducible show wpAny _ _ (eval (PySem.Expr.Call _ _ _ _) _) _ _ _); k_fold) | with_reducible refine seq_next ?_ | with_reducible refine seq_ret ?_ | walk_at "MY STEP" | (first | ((with_reducible show wpAny _ _ (call (Value.ref 277) _) _ _ _); (rename Tells _ _ _ _ _ => hT9; k_dflt (refine' hT9.go _ ?zzB ?zzF ?zzX ?zzN ?zzT ?zzhk ?zzhdp ?zzhun ?zzhs ?_; (case zzB => k_asm); (case zzF => k_asm); (case zzX => k_asm); (case zzN => k_asm); (case zzT => k_asm); (case zzhk => first | assumption | rfl); (case zzhdp => ktr_room); (case zzhun => units_room); (case zzhs => first | exact sub6c (by assumption) | exact sub7c (by assumption))); intro zzD9 zzc9 zzh9 zztk9 zzF9 zzN9 zzhd9 zzl9; (try dsimp only))) | ((with_reducible show wpAny _ _ (call (Value.ref 265) [Value.ref _]) _ _ _); k_dflt (refine' kq_list ?zzB ?zzF ?zzX ?zzN ?zzT ?zzhk ?zzhdp ?zzhun ?zzh0 ?_; (case zzB => k_asm); (case zzF => k_asm); (case zzX => k_asm); (case zzN => k_asm); (case zzT => k_asm); (case zzhk => first | assumption | rfl); (case zzhdp => ktr_room); (case zzhun => units_room); (case zzh0 => k_mem)); intro zzt9 zzh9 zztk9 zzF9 zzN9; (try dsimp only))) | dsimp only | (leave1; (try dsimp only)) | fail "no step"))
  all_goals (try k_data)
  rename (_ < _ ∧ _ < _ ∧ AllLt _ _) => lD
  refine LCg.ListComp_U (by k_asm) (by with_unfolding_all rfl) (by decide) (by rfl) (by decide) (by rfl) ?_
  (skip; repeat' (first | (k_unfold; (try dsimp only)) | (with_reducible refine gen3 ?_; intro _) | ((with_reducible show wpAny _ _ (exec (Stmt.Assign _ _ _) _) _ _ _); k_fold) | ((with_reducible show wpAny _ _ (exec (Stmt.Return _ _) _) _ _ _); k_fold) | ((with_reducible show wpAny _ _ (eval (PySem.Expr.Call _ _ _ _) _) _ _ _); k_fold) | with_reducible refine seq_next ?_ | with_reducible refine seq_ret ?_ | walk_at "MY STEP" | (first | ((with_reducible show wpAny _ _ (call (Value.ref 277) _) _ _ _); (rename Tells _ _ _ _ _ => hT9; k_dflt (refine' hT9.go _ ?zzB ?zzF ?zzX ?zzN ?zzT ?zzhk ?zzhdp ?zzhun ?zzhs ?_; (case zzB => k_asm); (case zzF => k_asm); (case zzX => k_asm); (case zzN => k_asm); (case zzT => k_asm); (case zzhk => first | assumption | rfl); (case zzhdp => ktr_room); (case zzhun => units_room); (case zzhs => first | exact sub6c (by assumption) | exact sub7c (by assumption))); intro zzD9 zzc9 zzh9 zztk9 zzF9 zzN9 zzhd9 zzl9; (try dsimp only))) | ((with_reducible show wpAny _ _ (call (Value.ref 265) [Value.ref _]) _ _ _); k_dflt (refine' kq_list ?zzB ?zzF ?zzX ?zzN ?zzT ?zzhk ?zzhdp ?zzhun ?zzh0 ?_; (case zzB => k_asm); (case zzF => k_asm); (case zzX => k_asm); (case zzN => k_asm); (case zzT => k_asm); (case zzhk => first | assumption | rfl); (case zzhdp => ktr_room); (case zzhun => units_room); (case zzh0 => k_mem)); intro zzt9 zzh9 zztk9 zzF9 zzN9; (try dsimp only))) | dsimp only | (leave1; (try dsimp only)) | fail "no step"))
  all_goals (try k_data)
  rename News _ _ _ _ => N2
  refine' CompSrc_of (σ := List (Addr × Obj)) (fun c => (b, lstO vs k) :: _ :: _ :: (c ++ news')) (fun i ys c => DatAll c ys (ds.take i) ∧ ∀ p ∈ c, AllLt p.1 news') [] (by rfl) ?F (news_sub N2 rot3) (fun _ => .head _) (by omega) ?r ?turn ?fin
  case F => k_asm
  case r => exact ⟨.nil, fun _ h => nomatch h⟩
  case turn =>
    rintro i x ys c I oI C oC D m₂ h tk E' hi hv ⟨hR, hfr⟩ hC hx F9 N9 o3 ne
    obtain ⟨d, hdi⟩ : ∃ d, ds[i]? = some d := ⟨_, List.getElem?_eq_getElem (by omega)⟩
    have hT := ht i x d hv hdi
    (skip; repeat' (first | (k_unfold; (try dsimp only)) | (with_reducible refine gen3 ?_; intro _) | ((with_reducible show wpAny _ _ (exec (Stmt.Assign _ _ _) _) _ _ _); k_fold) | ((with_reducible show wpAny _ _ (exec (Stmt.Return _ _) _) _ _ _); k_fold) | ((with_reducible show wpAny _ _ (eval (PySem.Expr.Call _ _ _ _) _) _ _ _); k_fold) | with_reducible refine seq_next ?_ | with_reducible refine seq_ret ?_ | walk_at "MY STEP" | (first | ((with_reducible show wpAny _ _ (call (Value.ref 277) _) _ _ _); (rename Tells _ _ _ _ _ => hT9; k_dflt (refine' hT9.go _ ?zzB ?zzF ?zzX ?zzN ?zzT ?zzhk ?zzhdp ?zzhun ?zzhs ?_; (case zzB => k_asm); (case zzF => k_asm); (case zzX => k_asm); (case zzN => k_asm); (case zzT => k_asm); (case zzhk => first | assumption | rfl); (case zzhdp => ktr_room); (case zzhun => units_room); (case zzhs => first | exact sub6c (by assumption) | exact sub7c (by assumption))); intro zzD9 zzc9 zzh9 zztk9 zzF9 zzN9 zzhd9 zzl9; (try dsimp only))) | ((with_reducible show wpAny _ _ (call (Value.ref 265) [Value.ref _]) _ _ _); k_dflt (refine' kq_list ?zzB ?zzF ?zzX ?zzN ?zzT ?zzhk ?zzhdp ?zzhun ?zzh0 ?_; (case zzB => k_asm); (case zzF => k_asm); (case zzX => k_asm); (case zzN => k_asm); (case zzT => k_asm); (case zzhk => first | assumption | rfl); (case zzhdp => ktr_room); (case zzhun => units_room); (case zzh0 => k_mem)); intro zzt9 zzh9 zztk9 zzF9 zzN9; (try dsimp only))) | dsimp only | (leave1; (try dsimp only)) | fail "no step"))
    all_goals (try k_data)
    rename (∀ p ∈ _, AllLt _ _) => l9
    rename DatIn _ _ _ => d9
    refine part_end (by k_asm) (by assumption) l9 o3 ⟨datAll_snoc (hR.mono fun p hp => List.mem_append.mpr (.inr hp)) (d9.mono fun p hp => List.mem_append.mpr (.inl hp)) hdi, fun p hp => ?_⟩
    rcases List.mem_append.mp hp with hp | hp
    · exact allLt_last (l9 p hp)
    · exact hfr p hp
  case fin =>
    rintro g ys c ⟨hR, hfr⟩ D3 h tk F9 N9 o9
    rw [hlen, List.take_of_length_le (Nat.le_refl _)] at hR
    have hyl := hR.length
    (skip; repeat' (first | (k_unfold; (try dsimp only)) | (with_reducible refine gen3 ?_; intro _) | ((with_reducible show wpAny _ _ (exec (Stmt.Assign _ _ _) _) _ _ _); k_fold) | ((with_reducible show wpAny _ _ (exec (Stmt.Return _ _) _) _ _ _); k_fold) | ((with_reducible show wpAny _ _ (eval (PySem.Expr.Call _ _ _ _) _) _ _ _); k_fold) | with_reducible refine seq_next ?_ | with_reducible refine seq_ret ?_ | walk_at "MY STEP" | (first | ((with_reducible show wpAny _ _ (call (Value.ref 277) _) _ _ _); (rename Tells _ _ _ _ _ => hT9; k_dflt (refine' hT9.go _ ?zzB ?zzF ?zzX ?zzN ?zzT ?zzhk ?zzhdp ?zzhun ?zzhs ?_; (case zzB => k_asm); (case zzF => k_asm); (case zzX => k_asm); (case zzN => k_asm); (case zzT => k_asm); (case zzhk => first | assumption | rfl); (case zzhdp => ktr_room); (case zzhun => units_room); (case zzhs => first | exact sub6c (by assumption) | exact sub7c (by assumption))); intro zzD9 zzc9 zzh9 zztk9 zzF9 zzN9 zzhd9 zzl9; (try dsimp only))) | ((with_reducible show wpAny _ _ (call (Value.ref 265) [Value.ref _]) _ _ _); k_dflt (refine' kq_list ?zzB ?zzF ?zzX ?zzN ?zzT ?zzhk ?zzhdp ?zzhun ?zzh0 ?_; (case zzB => k_asm); (case zzF => k_asm); (case zzX => k_asm); (case zzN => k_asm); (case zzT => k_asm); (case zzhk => first | assumption | rfl); (case zzhdp => ktr_room); (case zzhun => units_room); (case zzh0 => k_mem)); intro zzt9 zzh9 zztk9 zzF9 zzN9; (try dsimp only))) | dsimp only | (leave1; (try dsimp only)) | fail "no step"))
    all_goals (try k_data)
    k_dflt (refine' r_addtup ?F ?N ?t ?b ?z ?_)
    case F => k_asm
    case N => k_asm
    case t => k_mem
    case b => k_mem
    case z => omega
    intro D4 c4 h4 F4 N4 m4 l4
    (skip; repeat' (first | (k_unfold; (try dsimp only)) | (with_reducible refine gen3 ?_; intro _) | ((with_reducible show wpAny _ _ (exec (Stmt.Assign _ _ _) _) _ _ _); k_fold) | ((with_reducible show wpAny _ _ (exec (Stmt.Return _ _) _) _ _ _); k_fold) | ((with_reducible show wpAny _ _ (eval (PySem.Expr.Call _ _ _ _) _) _ _ _); k_fold) | with_reducible refine seq_next ?_ | with_reducible refine seq_ret ?_ | walk_at "MY STEP" | (first | ((with_reducible show wpAny _ _ (call (Value.ref 277) _) _ _ _); (rename Tells _ _ _ _ _ => hT9; k_dflt (refine' hT9.go _ ?zzB ?zzF ?zzX ?zzN ?zzT ?zzhk ?zzhdp ?zzhun ?zzhs ?_; (case zzB => k_asm); (case zzF => k_asm); (case zzX => k_asm); (case zzN => k_asm); (case zzT => k_asm); (case zzhk => first | assumption | rfl); (case zzhdp => ktr_room); (case zzhun => units_room); (case zzhs => first | exact sub6c (by assumption) | exact sub7c (by assumption))); intro zzD9 zzc9 zzh9 zztk9 zzF9 zzN9 zzhd9 zzl9; (try dsimp only))) | ((with_reducible show wpAny _ _ (call (Value.ref 265) [Value.ref _]) _ _ _); k_dflt (refine' kq_list ?zzB ?zzF ?zzX ?zzN ?zzT ?zzhk ?zzhdp ?zzhun ?zzh0 ?_; (case zzB => k_asm); (case zzF => k_asm); (case zzX => k_asm); (case zzN => k_asm); (case zzT => k_asm); (case zzhk => first | assumption | rfl); (case zzhdp => ktr_room); (case zzhun => units_room); (case zzh0 => k_mem)); intro zzt9 zzh9 zztk9 zzF9 zzN9; (try dsimp only))) | dsimp only | (leave1; (try dsimp only)) | fail "no step"))
    all_goals (try k_data)
    refine ret D4 (c4 ++ c) _ _ (by k_asm) (news_sub (by assumption) ?_) (.tuple (List.mem_append.mpr (.inl m4)) (.cons (.str _ _) (hR.mono fun p hp => List.mem_append.mpr (.inr hp)))) fun p hp => ?_
    · intro p hp
      rcases List.mem_append.mp hp with hp | hp
      · rcases List.mem_append.mp hp with hp | hp
        · exact List.mem_append.mpr (.inl hp)
        · exact List.mem_append.mpr (.inr (.tail _ (.tail _ (.tail _ (.tail _ (.tail _ (List.mem_append.mpr (.inl hp))))))))
      · exact List.mem_append.mpr (.inr (.tail _ (.tail _ (.tail _ (.tail _ (.tail _ (List.mem_append.mpr (.inr hp))))))))
    · rcases List.mem_append.mp hp with hp | hp
      · rcases l4 p hp with e | l
        · rw [e]; exact lD.2.2
        · exact allLt_all fun q hq => l q (.tail _ (.tail _ (.tail _ (.tail _ (.tail _ (List.mem_append.mpr (.inr hq)))))))
      · exact hfr p hp
end

end
section
theorem r_isnot_none {prog : Program} {w : World} {A : Around} {E : Value → Shared → Prop} {s : Shared} {Q : Value → Shared → Prop} {v : Value} (hv : v ≠ .none) (hp : plainIs v .none = true) (h : Q (.bool true) s) : wpAny (model prog w) A (compareOp .IsNot v .none) Q E s :=
  wpAny_isNot_other hp hv h
theorem zip_at {ks : List Str} {ds : List Dat} {i : Nat} {k : Str} {d : Dat} (h1 : ks[i]? = some k) (h2 : ds[i]? = some d) : ((ks.zip ds).map fun p => Dat.tuple [.str p.1, p.2])[i]? = some (.tuple [.str k, d]) := by
  rw [List.getElem?_map, (List.getElem?_zip_eq_some (z := (k, d))).mpr ⟨h1, h2⟩]; rfl
/-- a told part goes onto the ledger -/
theorem part_end4 {h₀ h' : Heap} {L I C D : Addr} {m : Str → Option Value} {s₁ : Shared} {oI oC oD : Obj} {R : Value → List (Addr × Obj) → Prop} {y : Value} {tk : Nat} {e : List (Addr × Obj)} {t a1 a2 a3 a4 : Addr × Obj} {c l : List (Addr × Obj)}
    (F : Fr h₀ L h' m) (N : News h₀ L h' (t :: (e ++ ((I, oI) :: (C, oC) :: (D, oD) :: a1 :: a2 :: a3 :: a4 :: (c ++ l))))) (lt : AllLt t.1 ((I, oI) :: (C, oC) :: (D, oD) :: a1 :: a2 :: a3 :: a4 :: (c ++ l))) (le : ∀ p ∈ e, AllLt p.1 ((I, oI) :: (C, oC) :: (D, oD) :: a1 :: a2 :: a3 :: a4 :: (c ++ l))) (off : LCg.Off3 I C D (a1 :: a2 :: a3 :: a4 :: (c ++ l))) (hr : R y (t :: (e ++ c))) :
    EltEnd h₀ L m s₁ I oI C oC D oD (fun c => a1 :: a2 :: a3 :: a4 :: (c ++ l)) R y { s₁ with heap := h', toks := tk } := by
  refine ⟨t :: (e ++ c), h', tk, rfl, F, news_sub N ?_, LCg.Off3.of ?_, hr⟩
  · intro p hp
    simp only [List.mem_cons, List.mem_append, List.cons_append] at hp ⊢
    rcases hp with h | h | h | h | h | h | h | h | (h | h) | h <;> simp [h]
  · intro p hp
    have o := off.mem
    simp only [List.mem_cons, List.mem_append, List.cons_append] at hp
    rcases hp with rfl | rfl | rfl | rfl | rfl | (hp | hp) | hp
    · exact o _ (.head _)
    · exact o _ (.tail _ (.head _))
    · exact o _ (.tail _ (.tail _ (.head _)))
    · exact o _ (.tail _ (.tail _ (.tail _ (.head _))))
    · exact off3_lt lt
    · exact off3_lt (le p hp)
    · exact o _ (.tail _ (.tail _ (.tail _ (.tail _ (List.mem_append.mpr (.inl hp))))))
    · exact o _ (.tail _ (.tail _ (.tail _ (.tail _ (List.mem_append.mpr (.inr hp))))))
theorem allLt_last7 {d : Nat} {a1 a2 a3 a4 a5 a6 a7 : Addr × Obj} {c l : List (Addr × Obj)} (h : AllLt d (a1 :: a2 :: a3 :: a4 :: a5 :: a6 :: a7 :: (c ++ l))) : AllLt d l := allLt_appr h.2.2.2.2.2.2.2
section
theorem to_dict {w : World} {news : List (Addr × Obj)} {n : Nat} {b : Addr} {o : Obj} {kvs : List (Str × Value)} {ks : List Str} {ds : List Dat} (hd : Obj.IsDictOf (PySem.strKind pr w) o kvs) (lo : (b == sysModules) = false) (h64 : kvs.length < 64) (hn : 2 ≤ n)
    (hks : ∀ ss, ss.Perm (kvs.map (·.1)) → sortedS ss = true → ss = ks) (hl : ks.length = ds.length)
    (ht : ∀ (i : Nat) k d, ks[i]? = some k → ds[i]? = some d → ∃ v, valueAt kvs k = some v ∧ v ≠ .none ∧ plainIs v .none = true ∧ Tells w news n v d) :
    Tells w ((b, o) :: news) (n + 3) (.ref b) (.tuple (.str (Str.ofString "dict") :: (ks.zip ds).map fun p => .tuple [.str p.1, p.2])) := by
  constructor
  intro pv loose mean mg mb A₀ dp un gd cn cs₀ a ccd cl outer base h₀ L m s Q E news' B F X N0 T hk hdp hun hs2 ret
  have N := news_pick N0 (hs2 _ (.head _)) N0
  have hs3 : ∀ p ∈ news, p ∈ news' := fun p hp => hs2 p (.tail _ hp)
  first | walk_at "MY ENTER" | walk_at "MY ENTERC"
  (skip; repeat' (first | (k_unfold; (try dsimp only)) | (with_reducible refine gen3 ?_; intro _) | ((with_reducible show wpAny _ _ (exec (Stmt.Assign _ _ _) _) _ _ _); k_fold) | ((with_reducible show wpAny _ _ (exec (Stmt.Return _ _) _) _ _ _); k_fold) | ((with_reducible show wpAny _ _ (eval (PySem.Expr.Call _ _ _ _) _) _ _ _); k_fold) | with_reducible refine seq_next ?_ | with_reducible refine seq_ret ?_ | (first | ((with_reducible show wpAny _ _ (subscriptTail (PySem.Expr.Name _ _) (PySem.Expr.Name _ _) (Value.ref _) (Value.str _ _)) _ _ _); with_reducible ((k_dflt (refine' kda_item (knd := PySem.strKind _ _) ?zzN ?zzm ?zzd ?zze ?zzl ?_ ?zzs ?zzg; (case zzN => k_asm); (case zzm => k_mem); (case zzd => assumption); (case zze => exact strKind_is _ _ _ _); (case zzl => assumption); (case zzs => with_unfolding_all rfl); (case zzg => intro _; with_unfolding_all rfl)); (try dsimp only)))) | walk_at "MY STEP") | (first | ((with_reducible show wpAny _ _ (call (Value.builtin "sorted") _) _ _ _); (k_dflt (refine' r_sortedD ?zzhh ?zzF ?zzN ?zzhm ?zzhd ?zzlo ?zzhn ?_; (case zzhh => rfl); (case zzF => k_asm); (case zzN => k_asm); (case zzhm => k_mem); (case zzhd => assumption); (case zzlo => assumption); (case zzhn => assumption)); intro zzB9 zzh9 zztk9 zzvs9 zzss9 zzc9 zzF9 zzN9 zzl9 zzhS9 zzhp9 zzhs9; (try dsimp only))) | ((with_reducible show wpAny _ _ (compareOp CmpOp.IsNot _ Value.none) _ _ _); refine r_isnot_none (by assumption) (by assumption) ?_; (try dsimp only)) | ((with_reducible show wpAny _ _ (call (Value.ref 277) _) _ _ _); (rename Tells _ _ _ _ _ => hT9; k_dflt (refine' hT9.go _ ?zzB ?zzF ?zzX ?zzN ?zzT ?zzhk ?zzhdp ?zzhun ?zzhs ?_; (case zzB => k_asm); (case zzF => k_asm); (case zzX => k_asm); (case zzN => k_asm); (case zzT => k_asm); (case zzhk => first | assumption | rfl); (case zzhdp => ktr_room); (case zzhun => units_room); (case zzhs => first | exact sub6c (by assumption) | exact sub7c (by assumption))); intro zzD9 zzc9 zzh9 zztk9 zzF9 zzN9 zzhd9 zzl9; (try dsimp only))) | ((with_reducible show wpAny _ _ (call (Value.ref 265) [Value.ref _]) _ _ _); k_dflt (refine' kq_dict ?zzB ?zzF ?zzX ?zzN ?zzT ?zzhk ?zzhdp ?zzhun ?zzh0 ?zzhd ?_; (case zzB => k_asm); (case zzF => k_asm); (case zzX => k_asm); (case zzN => k_asm); (case zzT => k_asm); (case zzhk => first | assumption | rfl); (case zzhdp => ktr_room); (case zzhun => units_room); (case zzh0 => k_mem); (case zzhd => assumption)); intro zzt9 zzh9 zztk9 zzF9 zzN9; (try dsimp only))) | dsimp only | (leave1; (try dsimp only)) | fail "no step"))
  all_goals (try k_data)
  rename (_ < _ ∧ _ < _ ∧ AllLt _ _) => lD
  refine LCt.ListComp_T (by k_asm) (by with_unfolding_all rfl) (by decide) (by rfl) (by decide) (by rfl) ?_
  (skip; repeat' (first | (k_unfold; (try dsimp only)) | (with_reducible refine gen3 ?_; intro _) | ((with_reducible show wpAny _ _ (exec (Stmt.Assign _ _ _) _) _ _ _); k_fold) | ((with_reducible show wpAny _ _ (exec (Stmt.Return _ _) _) _ _ _); k_fold) | ((with_reducible show wpAny _ _ (eval (PySem.Expr.Call _ _ _ _) _) _ _ _); k_fold) | with_reducible refine seq_next ?_ | with_reducible refine seq_ret ?_ | (first | ((with_reducible show wpAny _ _ (subscriptTail (PySem.Expr.Name _ _) (PySem.Expr.Name _ _) (Value.ref _) (Value.str _ _)) _ _ _); with_reducible ((k_dflt (refine' kda_item (knd := PySem.strKind _ _) ?zzN ?zzm ?zzd ?zze ?zzl ?_ ?zzs ?zzg; (case zzN => k_asm); (case zzm => k_mem); (case zzd => assumption); (case zze => exact strKind_is _ _ _ _); (case zzl => assumption); (case zzs => with_unfolding_all rfl); (case zzg => intro _; with_unfolding_all rfl)); (try dsimp only)))) | walk_at "MY STEP") | (first | ((with_reducible show wpAny _ _ (call (Value.builtin "sorted") _) _ _ _); (k_dflt (refine' r_sortedD ?zzhh ?zzF ?zzN ?zzhm ?zzhd ?zzlo ?zzhn ?_; (case zzhh => rfl); (case zzF => k_asm); (case zzN => k_asm); (case zzhm => k_mem); (case zzhd => assumption); (case zzlo => assumption); (case zzhn => assumption)); intro zzB9 zzh9 zztk9 zzvs9 zzss9 zzc9 zzF9 zzN9 zzl9 zzhS9 zzhp9 zzhs9; (try dsimp only))) | ((with_reducible show wpAny _ _ (compareOp CmpOp.IsNot _ Value.none) _ _ _); refine r_isnot_none (by assumption) (by assumption) ?_; (try dsimp only)) | ((with_reducible show wpAny _ _ (call (Value.ref 277) _) _ _ _); (rename Tells _ _ _ _ _ => hT9; k_dflt (refine' hT9.go _ ?zzB ?zzF ?zzX ?zzN ?zzT ?zzhk ?zzhdp ?zzhun ?zzhs ?_; (case zzB => k_asm); (case zzF => k_asm); (case zzX => k_asm); (case zzN => k_asm); (case zzT => k_asm); (case zzhk => first | assumption | rfl); (case zzhdp => ktr_room); (case zzhun => units_room); (case zzhs => first | exact sub6c (by assumption) | exact sub7c (by assumption))); intro zzD9 zzc9 zzh9 zztk9 zzF9 zzN9 zzhd9 zzl9; (try dsimp only))) | ((with_reducible show wpAny _ _ (call (Value.ref 265) [Value.ref _]) _ _ _); k_dflt (refine' kq_dict ?zzB ?zzF ?zzX ?zzN ?zzT ?zzhk ?zzhdp ?zzhun ?zzh0 ?zzhd ?_; (case zzB => k_asm); (case zzF => k_asm); (case zzX => k_asm); (case zzN => k_asm); (case zzT => k_asm); (case zzhk => first | assumption | rfl); (case zzhdp => ktr_room); (case zzhun => units_room); (case zzh0 => k_mem); (case zzhd => assumption)); intro zzt9 zzh9 zztk9 zzF9 zzN9; (try dsimp only))) | dsimp only | (leave1; (try dsimp only)) | fail "no step"))
  all_goals (try k_data)
  rename News _ _ _ _ => N2
  rename StrsAre _ _ => hS
  rename List.Perm _ _ => hpm
  rename sortedS _ = true => hso
  rw [hks _ hpm hso] at hS hpm
  clear hks hso
  have hlen := hS.length
  have hl2 := hpm.length_eq
  rw [List.length_map] at hl2
  rename (∀ q ∈ (_ :: _), _) => lB
  refine' CompSrcT_of (σ := List (Addr × Obj)) (fun c => _ :: _ :: _ :: (b, o) :: (c ++ news')) (fun i ys c => DatAll c ys (((ks.zip ds).map fun p => Dat.tuple [.str p.1, p.2]).take i) ∧ ∀ p ∈ c, AllLt p.1 news') [] (by rfl) ?F N2 (fun _ => .head _) (by omega) ?r ?turn ?fin
  case F => k_asm
  case r => exact ⟨.nil, fun _ h => nomatch h⟩
  case turn =>
    rintro i x ys c I oI C oC D m₂ h tk E' hi hv ⟨hR, hfr⟩ hC hx F9 N9 o3 ne
    obtain ⟨k, tt, rfl, hki⟩ := hS.item i _ hv
    obtain ⟨d, hdi⟩ : ∃ d, ds[i]? = some d := ⟨_, List.getElem?_eq_getElem (by omega)⟩
    obtain ⟨v, hva, hne, hpl, hT⟩ := ht i k d hki hdi
    (skip; repeat' (first | (k_unfold; (try dsimp only)) | (with_reducible refine gen3 ?_; intro _) | ((with_reducible show wpAny _ _ (exec (Stmt.Assign _ _ _) _) _ _ _); k_fold) | ((with_reducible show wpAny _ _ (exec (Stmt.Return _ _) _) _ _ _); k_fold) | ((with_reducible show wpAny _ _ (eval (PySem.Expr.Call _ _ _ _) _) _ _ _); k_fold) | with_reducible refine seq_next ?_ | with_reducible refine seq_ret ?_ | (first | ((with_reducible show wpAny _ _ (subscriptTail (PySem.Expr.Name _ _) (PySem.Expr.Name _ _) (Value.ref _) (Value.str _ _)) _ _ _); with_reducible ((k_dflt (refine' kda_item (knd := PySem.strKind _ _) ?zzN ?zzm ?zzd ?zze ?zzl ?_ ?zzs ?zzg; (case zzN => k_asm); (case zzm => k_mem); (case zzd => assumption); (case zze => exact strKind_is _ _ _ _); (case zzl => assumption); (case zzs => with_unfolding_all rfl); (case zzg => intro _; with_unfolding_all rfl)); (try dsimp only)))) | walk_at "MY STEP") | (first | ((with_reducible show wpAny _ _ (call (Value.builtin "sorted") _) _ _ _); (k_dflt (refine' r_sortedD ?zzhh ?zzF ?zzN ?zzhm ?zzhd ?zzlo ?zzhn ?_; (case zzhh => rfl); (case zzF => k_asm); (case zzN => k_asm); (case zzhm => k_mem); (case zzhd => assumption); (case zzlo => assumption); (case zzhn => assumption)); intro zzB9 zzh9 zztk9 zzvs9 zzss9 zzc9 zzF9 zzN9 zzl9 zzhS9 zzhp9 zzhs9; (try dsimp only))) | ((with_reducible show wpAny _ _ (compareOp CmpOp.IsNot _ Value.none) _ _ _); refine r_isnot_none (by assumption) (by assumption) ?_; (try dsimp only)) | ((with_reducible show wpAny _ _ (call (Value.ref 277) _) _ _ _); (rename Tells _ _ _ _ _ => hT9; k_dflt (refine' hT9.go _ ?zzB ?zzF ?zzX ?zzN ?zzT ?zzhk ?zzhdp ?zzhun ?zzhs ?_; (case zzB => k_asm); (case zzF => k_asm); (case zzX => k_asm); (case zzN => k_asm); (case zzT => k_asm); (case zzhk => first | assumption | rfl); (case zzhdp => ktr_room); (case zzhun => units_room); (case zzhs => first | exact sub6c (by assumption) | exact sub7c (by assumption))); intro zzD9 zzc9 zzh9 zztk9 zzF9 zzN9 zzhd9 zzl9; (try dsimp only))) | ((with_reducible show wpAny _ _ (call (Value.ref 265) [Value.ref _]) _ _ _); k_dflt (refine' kq_dict ?zzB ?zzF ?zzX ?zzN ?zzT ?zzhk ?zzhdp ?zzhun ?zzh0 ?zzhd ?_; (case zzB => k_asm); (case zzF => k_asm); (case zzX => k_asm); (case zzN => k_asm); (case zzT => k_asm); (case zzhk => first | assumption | rfl); (case zzhdp => ktr_room); (case zzhun => units_room); (case zzh0 => k_mem); (case zzhd => assumption)); intro zzt9 zzh9 zztk9 zzF9 zzN9; (try dsimp only))) | dsimp only | (leave1; (try dsimp only)) | fail "no step"))
    all_goals (try k_data)
    rename (∀ p ∈ _, AllLt _ _) => l9
    rename (∀ p ∈ (_ ++ _), _) => lT
    rename DatIn _ _ _ => d9
    refine part_end4 (by k_asm) (by assumption) (allLt_all fun p hp => lT p (List.mem_append.mpr (.inr hp))) l9 o3 ⟨datAll_snoc (hR.mono fun p hp => .tail _ (List.mem_append.mpr (.inr hp))) (.tuple (.head _) (.cons (.str _ _) (.cons (d9.mono fun p hp => .tail _ (List.mem_append.mpr (.inl hp))) .nil))) (zip_at hki hdi), fun p hp => ?_⟩
    rcases List.mem_cons.mp hp with rfl | hp
    · exact allLt_last7 (allLt_all fun p hp => lT p (List.mem_append.mpr (.inr hp)))
    rcases List.mem_append.mp hp with hp | hp
    · exact allLt_last7 (l9 p hp)
    · exact hfr p hp
  case fin =>
    rintro g ys c ⟨hR, hfr⟩ D3 h tk F9 N9 o9
    rw [List.take_of_length_le (by rw [List.length_map, List.length_zip]; omega)] at hR
    have hyl := hR.length
    rw [List.length_map, List.length_zip] at hyl
    have hyl2 : ys.length ≤ 64 := by omega
    (skip; repeat' (first | (k_unfold; (try dsimp only)) | (with_reducible refine gen3 ?_; intro _) | ((with_reducible show wpAny _ _ (exec (Stmt.Assign _ _ _) _) _ _ _); k_fold) | ((with_reducible show wpAny _ _ (exec (Stmt.Return _ _) _) _ _ _); k_fold) | ((with_reducible show wpAny _ _ (eval (PySem.Expr.Call _ _ _ _) _) _ _ _); k_fold) | with_reducible refine seq_next ?_ | with_reducible refine seq_ret ?_ | (first | ((with_reducible show wpAny _ _ (subscriptTail (PySem.Expr.Name _ _) (PySem.Expr.Name _ _) (Value.ref _) (Value.str _ _)) _ _ _); with_reducible ((k_dflt (refine' kda_item (knd := PySem.strKind _ _) ?zzN ?zzm ?zzd ?zze ?zzl ?_ ?zzs ?zzg; (case zzN => k_asm); (case zzm => k_mem); (case zzd => assumption); (case zze => exact strKind_is _ _ _ _); (case zzl => assumption); (case zzs => with_unfolding_all rfl); (case zzg => intro _; with_unfolding_all rfl)); (try dsimp only)))) | walk_at "MY STEP") | (first | ((with_reducible show wpAny _ _ (call (Value.builtin "sorted") _) _ _ _); (k_dflt (refine' r_sortedD ?zzhh ?zzF ?zzN ?zzhm ?zzhd ?zzlo ?zzhn ?_; (case zzhh => rfl); (case zzF => k_asm); (case zzN => k_asm); (case zzhm => k_mem); (case zzhd => assumption); (case zzlo => assumption); (case zzhn => assumption)); intro zzB9 zzh9 zztk9 zzvs9 zzss9 zzc9 zzF9 zzN9 zzl9 zzhS9 zzhp9 zzhs9; (try dsimp only))) | ((with_reducible show wpAny _ _ (compareOp CmpOp.IsNot _ Value.none) _ _ _); refine r_isnot_none (by assumption) (by assumption) ?_; (try dsimp only)) | ((with_reducible show wpAny _ _ (call (Value.ref 277) _) _ _ _); (rename Tells _ _ _ _ _ => hT9; k_dflt (refine' hT9.go _ ?zzB ?zzF ?zzX ?zzN ?zzT ?zzhk ?zzhdp ?zzhun ?zzhs ?_; (case zzB => k_asm); (case zzF => k_asm); (case zzX => k_asm); (case zzN => k_asm); (case zzT => k_asm); (case zzhk => first | assumption | rfl); (case zzhdp => ktr_room); (case zzhun => units_room); (case zzhs => first | exact sub6c (by assumption) | exact sub7c (by assumption))); intro zzD9 zzc9 zzh9 zztk9 zzF9 zzN9 zzhd9 zzl9; (try dsimp only))) | ((with_reducible show wpAny _ _ (call (Value.ref 265) [Value.ref _]) _ _ _); k_dflt (refine' kq_dict ?zzB ?zzF ?zzX ?zzN ?zzT ?zzhk ?zzhdp ?zzhun ?zzh0 ?zzhd ?_; (case zzB => k_asm); (case zzF => k_asm); (case zzX => k_asm); (case zzN => k_asm); (case zzT => k_asm); (case zzhk => first | assumption | rfl); (case zzhdp => ktr_room); (case zzhun => units_room); (case zzh0 => k_mem); (case zzhd => assumption)); intro zzt9 zzh9 zztk9 zzF9 zzN9; (try dsimp only))) | dsimp only | (leave1; (try dsimp only)) | fail "no step"))
    all_goals (try k_data)
    k_dflt (refine' r_addtup ?F ?N ?t ?b ?z ?_)
    case F => k_asm
    case N => k_asm
    case t => k_mem
    case b => k_mem
    case z => omega
    intro D4 c4 h4 F4 N4 m4 l4
    (skip; repeat' (first | (k_unfold; (try dsimp only)) | (with_reducible refine gen3 ?_; intro _) | ((with_reducible show wpAny _ _ (exec (Stmt.Assign _ _ _) _) _ _ _); k_fold) | ((with_reducible show wpAny _ _ (exec (Stmt.Return _ _) _) _ _ _); k_fold) | ((with_reducible show wpAny _ _ (eval (PySem.Expr.Call _ _ _ _) _) _ _ _); k_fold) | with_reducible refine seq_next ?_ | with_reducible refine seq_ret ?_ | (first | ((with_reducible show wpAny _ _ (subscriptTail (PySem.Expr.Name _ _) (PySem.Expr.Name _ _) (Value.ref _) (Value.str _ _)) _ _ _); with_reducible ((k_dflt (refine' kda_item (knd := PySem.strKind _ _) ?zzN ?zzm ?zzd ?zze ?zzl ?_ ?zzs ?zzg; (case zzN => k_asm); (case zzm => k_mem); (case zzd => assumption); (case zze => exact strKind_is _ _ _ _); (case zzl => assumption); (case zzs => with_unfolding_all rfl); (case zzg => intro _; with_unfolding_all rfl)); (try dsimp only)))) | walk_at "MY STEP") | (first | ((with_reducible show wpAny _ _ (call (Value.builtin "sorted") _) _ _ _); (k_dflt (refine' r_sortedD ?zzhh ?zzF ?zzN ?zzhm ?zzhd ?zzlo ?zzhn ?_; (case zzhh => rfl); (case zzF => k_asm); (case zzN => k_asm); (case zzhm => k_mem); (case zzhd => assumption); (case zzlo => assumption); (case zzhn => assumption)); intro zzB9 zzh9 zztk9 zzvs9 zzss9 zzc9 zzF9 zzN9 zzl9 zzhS9 zzhp9 zzhs9; (try dsimp only))) | ((with_reducible show wpAny _ _ (compareOp CmpOp.IsNot _ Value.none) _ _ _); refine r_isnot_none (by assumption) (by assumption) ?_; (try dsimp only)) | ((with_reducible show wpAny _ _ (call (Value.ref 277) _) _ _ _); (rename Tells _ _ _ _ _ => hT9; k_dflt (refine' hT9.go _ ?zzB ?zzF ?zzX ?zzN ?zzT ?zzhk ?zzhdp ?zzhun ?zzhs ?_; (case zzB => k_asm); (case zzF => k_asm); (case zzX => k_asm); (case zzN => k_asm); (case zzT => k_asm); (case zzhk => first | assumption | rfl); (case zzhdp => ktr_room); (case zzhun => units_room); (case zzhs => first | exact sub6c (by assumption) | exact sub7c (by assumption))); intro zzD9 zzc9 zzh9 zztk9 zzF9 zzN9 zzhd9 zzl9; (try dsimp only))) | ((with_reducible show wpAny _ _ (call (Value.ref 265) [Value.ref _]) _ _ _); k_dflt (refine' kq_dict ?zzB ?zzF ?zzX ?zzN ?zzT ?zzhk ?zzhdp ?zzhun ?zzh0 ?zzhd ?_; (case zzB => k_asm); (case zzF => k_asm); (case zzX => k_asm); (case zzN => k_asm); (case zzT => k_asm); (case zzhk => first | assumption | rfl); (case zzhdp => ktr_room); (case zzhun => units_room); (case zzh0 => k_mem); (case zzhd => assumption)); intro zzt9 zzh9 zztk9 zzF9 zzN9; (try dsimp only))) | dsimp only | (leave1; (try dsimp only)) | fail "no step"))
    all_goals (try k_data)
    refine ret D4 (c4 ++ c) _ _ (by k_asm) (news_sub (by assumption) ?_) (.tuple (List.mem_append.mpr (.inl m4)) (.cons (.str _ _) (hR.mono fun p hp => List.mem_append.mpr (.inr hp)))) fun p hp => ?_
    · intro p hp
      rcases List.mem_append.mp hp with hp | hp
      · rcases List.mem_append.mp hp with hp | hp
        · exact List.mem_append.mpr (.inl hp)
        · exact List.mem_append.mpr (.inr (.tail _ (.tail _ (.tail _ (.tail _ (.tail _ (.tail _ (List.mem_append.mpr (.inl hp)))))))))
      · exact List.mem_append.mpr (.inr (.tail _ (.tail _ (.tail _ (.tail _ (.tail _ (.tail _ (List.mem_append.mpr (.inr hp)))))))))
    · rcases List.mem_append.mp hp with hp | hp
      · rcases l4 p hp with e | l
        · rw [e]; exact lD.2.2
        · exact allLt_all fun q hq => l q (.tail _ (.tail _ (.tail _ (.tail _ (.tail _ (.tail _ (List.mem_append.mpr (.inr hq))))))))
      · exact hfr p hp
end

end
section
section
theorem add_0 {pv : Program} {w : World} {loose : List Str} {mean : ExcName → Option Value} {mg mb : Str → Option Value} {A₀ : Around} {dp un : Nat} {gd : Option (List Code)} {cn : Str} {cs₀ : Scope} {a : Addr} {ccd : Value} {cl : List (Str × Addr)} {outer : List Env} {base h₀ : Heap} {L : Addr} {m : Str → Option Value} {s : Shared} {Q E : Value → Shared → Prop}
   {sh d0 tb R V : Addr} {oT : Obj} {k3 k4 : Tok} {rest : List (Addr × Obj)}
   (B : Below A₀ base outer h₀) (F : Fr h₀ L s.heap m) (X : (frag.heap_1 w.params).In h₀) (N : News h₀ L s.heap ((tb, oT) :: (sh, instObj 363 d0) :: (d0, shD w tb R k3 k4) :: rest)) (T : Top pv loose mean mg mb h₀)
   (hk : cs₀.kind = .function) (hdp : dp + 4 < recursionLimit) (hun : un + 700 < cLine) (hd : Obj.IsDictOf (intKind pr w) oT []) (lo : (tb == sysModules) = false) (h1 : @Ne Nat sh tb) (h2 : @Ne Nat d0 tb) (hr : ∀ x ∈ rest, x.1 ≠ tb)
   (ret : ∀ rf d1 tp oT' t1 t2 t3 k1 k2 n h' tk', Fr h₀ L h' m → News h₀ L h' ((rf, instObj 254 d1) :: (d1, rfD w t1 t2 k1 k2) :: (tp, tup2 (.int 0 t3) (.ref V) n) :: (tb, oT') :: (sh, instObj 363 d0) :: (d0, shD w tb R k3 k4) :: rest) → Obj.IsDictOf (intKind pr w) oT' [(1, .ref tp)] → AllLt tp ((tb, oT) :: (sh, instObj 363 d0) :: (d0, shD w tb R k3 k4) :: rest) → @LT.lt Nat _ tp d1 → @LT.lt Nat _ d1 rf → Q (.ref rf) {s with heap := h', toks := tk'}) :
   wpAny (model pr w) (ktrTop dp un gd cn cs₀ L a ccd cl outer) (call (.ref 334) [.ref sh, .ref V]) Q E s := by
  first | walk_at "MY ENTER" | walk_at "MY ENTERC"
  (skip; repeat' (first | (k_unfold; (try dsimp only)) | (with_reducible refine gen3 ?_; intro _) | ((with_reducible show wpAny _ _ (exec (Stmt.Assign _ _ _) _) _ _ _); k_fold) | ((with_reducible show wpAny _ _ (exec (Stmt.Return _ _) _) _ _ _); k_fold) | ((with_reducible show wpAny _ _ (eval (PySem.Expr.Call _ _ _ _) _) _ _ _); k_fold) | with_reducible refine seq_next ?_ | with_reducible refine seq_ret ?_ | walk_at "MY STEP" | (first | ((with_reducible show wpAny _ _ (call (Value.ref 254) _) _ _ _); walk1) | ((with_reducible show wpAny _ _ (compareOp CmpOp.In (Value.int _ _) (Value.ref _)) _ _ _); (k_dflt (refine kda_in (knd := intKind _ _) (by k_asm) (by k_mem) (by k_asm) (by k_asm) (intKind_is _ _ _ _) false (by rfl) ?_)); (try dsimp only))) | dsimp only | (leave1; (try dsimp only)) | fail "no step"))
  all_goals (try k_data)
  refine' r_while (σ := Unit) (fun _ => _) (fun _ => _) (fun _ => True) (fun _ => 0) () ?F ?N trivial ?turn (by passes_own)
  case F => k_asm
  case N => k_asm
  case turn =>
    intro _ h tk _ F9 N9
    dsimp only at F9 N9
    (skip; repeat' (first | (k_unfold; (try dsimp only)) | (with_reducible refine gen3 ?_; intro _) | ((with_reducible show wpAny _ _ (exec (Stmt.Assign _ _ _) _) _ _ _); k_fold) | ((with_reducible show wpAny _ _ (exec (Stmt.Return _ _) _) _ _ _); k_fold) | ((with_reducible show wpAny _ _ (eval (PySem.Expr.Call _ _ _ _) _) _ _ _); k_fold) | with_reducible refine seq_next ?_ | with_reducible refine seq_ret ?_ | walk_at "MY STEP" | (first | ((with_reducible show wpAny _ _ (call (Value.ref 254) _) _ _ _); walk1) | ((with_reducible show wpAny _ _ (compareOp CmpOp.In (Value.int _ _) (Value.ref _)) _ _ _); (k_dflt (refine kda_in (knd := intKind _ _) (by k_asm) (by k_mem) (by k_asm) (by k_asm) (intKind_is _ _ _ _) false (by rfl) ?_)); (try dsimp only))) | dsimp only | (leave1; (try dsimp only)) | fail "no step"))
    all_goals (try k_data)
    rename (_ < _ ∧ _ < _ ∧ _ < _ ∧ _ < _ ∧ AllLt _ _) => l2
    rename (_ < _ ∧ _ < _ ∧ _ < _ ∧ AllLt _ _) => l1
    exact ret _ _ _ _ _ _ _ _ _ _ _ _ (by k_asm) (by assumption) (by assumption) l1 l2.1 (by assumption)
end
theorem add_ok {pv : Program} {w : World} {loose : List Str} {mean : ExcName → Option Value} {mg mb : Str → Option Value} {A₀ : Around} {dp un : Nat} {gd : Option (List Code)} {cn : Str} {cs₀ : Scope} {a : Addr} {ccd : Value} {cl : List (Str × Addr)} {outer : List Env} {base h₀ : Heap} {L : Addr} {m : Str → Option Value} {s : Shared} {Q E : Value → Shared → Prop}
   {sh d0 tb R V : Addr} {oT : Obj} {k3 k4 : Tok} {rest : List (Addr × Obj)}
   (B : Below A₀ base outer h₀) (F : Fr h₀ L s.heap m) (X : (frag.heap_1 w.params).In h₀) (N : News h₀ L s.heap ((tb, oT) :: rest)) (T : Top pv loose mean mg mb h₀)
   (hk : cs₀.kind = .function) (hdp : dp + 4 < recursionLimit) (hun : un + 700 < cLine) (m1 : (sh, instObj 363 d0) ∈ rest) (m2 : (d0, shD w tb R k3 k4) ∈ rest) (hd : Obj.IsDictOf (intKind pr w) oT []) (lo : (tb == sysModules) = false) (hr : ∀ x ∈ rest, x.1 ≠ tb)
   (ret : ∀ rf d1 tp oT' t1 t2 t3 k1 k2 n h' tk', Fr h₀ L h' m → News h₀ L h' ((rf, instObj 254 d1) :: (d1, rfD w t1 t2 k1 k2) :: (tp, tup2 (.int 0 t3) (.ref V) n) :: (tb, oT') :: rest) → Obj.IsDictOf (intKind pr w) oT' [(1, .ref tp)] → AllLt tp ((tb, oT) :: rest) → @LT.lt Nat _ tp d1 → @LT.lt Nat _ d1 rf → Q (.ref rf) {s with heap := h', toks := tk'}) :
   wpAny (model pr w) (ktrTop dp un gd cn cs₀ L a ccd cl outer) (call (.ref 334) [.ref sh, .ref V]) Q E s :=
  add_0 B F X (news_pick N (.head _) (news_pick N (.tail _ m1) (news_pick N (.tail _ m2) (news_tail N)))) T hk hdp hun hd lo (hr _ m1) (hr _ m2) hr fun rf d1 tp oT' t1 t2 t3 k1 k2 n h' tk' F' N' hd' la lb lc =>
    ret rf d1 tp oT' t1 t2 t3 k1 k2 n h' tk' F' (news_sub N' fun p hp => by
      simp only [List.mem_cons] at hp ⊢
      rcases hp with h | h | h | h | h <;> simp [h]) hd' ⟨la.1, la.2.2.2⟩ lb lc

end
section
theorem perm2 {a b : Str} : ∀ {ss : List Str}, ss.Perm [a, b] → ss = [a, b] ∨ ss = [b, a]
  | [], h => absurd h.length_eq (by simp)
  | x :: r, h => by
    have hx := h.mem_iff.mp (.head _)
    simp only [List.mem_cons, List.not_mem_nil, or_false] at hx
    rcases hx with rfl | rfl
    · rw [List.perm_singleton.mp h.cons_inv]; exact .inl rfl
    · rw [List.perm_singleton.mp (h.trans (.swap _ _ _)).cons_inv]; exact .inr rfl
theorem perm3 {a b c : Str} : ∀ {ss : List Str}, ss.Perm [a, b, c] → ∃ x y z, ss = [x, y, z] ∧ ((x = a ∧ (y = b ∧ z = c ∨ y = c ∧ z = b)) ∨ (x = b ∧ (y = a ∧ z = c ∨ y = c ∧ z = a)) ∨ (x = c ∧ (y = a ∧ z = b ∨ y = b ∧ z = a)))
  | [], h => absurd h.length_eq (by simp)
  | x :: r, h => by
    have hx := h.mem_iff.mp (.head _)
    simp only [List.mem_cons, List.not_mem_nil, or_false] at hx
    rcases hx with rfl | rfl | rfl
    · rcases perm2 h.cons_inv with rfl | rfl
      · exact ⟨_, _, _, rfl, .inl ⟨rfl, .inl ⟨rfl, rfl⟩⟩⟩
      · exact ⟨_, _, _, rfl, .inl ⟨rfl, .inr ⟨rfl, rfl⟩⟩⟩
    · rcases perm2 (h.trans (.swap _ _ _)).cons_inv with rfl | rfl
      · exact ⟨_, _, _, rfl, .inr (.inl ⟨rfl, .inl ⟨rfl, rfl⟩⟩)⟩
      · exact ⟨_, _, _, rfl, .inr (.inl ⟨rfl, .inr ⟨rfl, rfl⟩⟩)⟩
    · rcases perm2 (h.trans ((List.Perm.cons _ (.swap _ _ _)).trans (.swap _ _ _))).cons_inv with rfl | rfl
      · exact ⟨_, _, _, rfl, .inr (.inr ⟨rfl, .inl ⟨rfl, rfl⟩⟩)⟩
      · exact ⟨_, _, _, rfl, .inr (.inr ⟨rfl, .inr ⟨rfl, rfl⟩⟩)⟩
theorem ks2 {a b : Str} (h : sortedS [b, a] = false) : ∀ ss, ss.Perm [a, b] → sortedS ss = true → ss = [a, b] := by
  intro ss hp hs
  rcases perm2 hp with rfl | rfl
  · rfl
  · rw [h] at hs; cases hs
abbrev kP : Str := Str.ofString "P"
abbrev kS : Str := Str.ofString "S"
abbrev kN : Str := Str.ofString "St"
theorem ks3 : ∀ ss : List Str, ss.Perm [kS, kP, kN] → sortedS ss = true → ss = [kP, kS, kN] := by
  intro ss hp hs
  obtain ⟨x, y, z, rfl, h⟩ := perm3 hp
  rcases h with ⟨rfl, ⟨rfl, rfl⟩ | ⟨rfl, rfl⟩⟩ | ⟨rfl, ⟨rfl, rfl⟩ | ⟨rfl, rfl⟩⟩ | ⟨rfl, ⟨rfl, rfl⟩ | ⟨rfl, rfl⟩⟩
  · exact absurd hs (by decide +kernel)
  · exact absurd hs (by decide +kernel)
  · rfl
  · exact absurd hs (by decide +kernel)
  · exact absurd hs (by decide +kernel)
  · exact absurd hs (by decide +kernel)
/-- what told makes of the entries of a label's dict -/
def dueP (cs : List Int) : List Dat := if cs = [] then [] else [.tuple [.str kP, .tuple [.str (Str.ofString "string"), .bytes (byteArr (po cs))]]]
def dueS (x : Str) : List Dat := if x = Str.ofString "" then [] else [.tuple [.str kS, .tuple [.str (Str.ofString "name"), .str x]]]
def dueN (n : Int) : List Dat := if n = 1 then [] else [.tuple [.str kN, .tuple [.str (Str.ofString "int"), .int n]]]
theorem dueP_nil : dueP [] = [] := rfl
theorem dueP_cons {cs : List Int} (h : cs ≠ []) : dueP cs = [.tuple [.str kP, .tuple [.str (Str.ofString "string"), .bytes (byteArr (po cs))]]] := if_neg h
theorem dueS_cons {x : Str} (h : x ≠ Str.ofString "") : dueS x = [.tuple [.str kS, .tuple [.str (Str.ofString "name"), .str x]]] := if_neg h
theorem dueN_ne {n : Int} (h : n ≠ 1) : dueN n = [.tuple [.str kN, .tuple [.str (Str.ofString "int"), .int n]]] := if_neg h
/-- one entry, told -/
def Ent (w : World) (news : List (Addr × Obj)) (n : Nat) (kvs : List (Str × Value)) (p : Str × Dat) : Prop := ∃ v, valueAt kvs p.1 = some v ∧ v ≠ .none ∧ plainIs v .none = true ∧ Tells w news n v p.2
theorem zip_self : ∀ es : List (Str × Dat), (es.map (·.1)).zip (es.map (·.2)) = es
  | [] => rfl
  | x :: r => by rw [List.map_cons, List.map_cons, List.zip_cons_cons, zip_self r]
theorem dict_at {w : World} {news : List (Addr × Obj)} {n : Nat} {b : Addr} {kvs : List (Str × Value)} {es : List (Str × Dat)} (hd : DIn w news b kvs) (h64 : kvs.length < 64) (hn : 2 ≤ n) (hks : ∀ ss, ss.Perm (kvs.map (·.1)) → sortedS ss = true → ss = es.map (·.1)) (ht : ∀ p ∈ es, Ent w news n kvs p) :
    Tells w news (n + 3) (.ref b) (.tuple (.str (Str.ofString "dict") :: es.map fun p => .tuple [.str p.1, p.2])) := by
  obtain ⟨o, hm, hd, lo⟩ := hd
  have h := to_dict (ks := es.map (·.1)) (ds := es.map (·.2)) hd lo h64 hn hks (by simp) (fun i k d h1 h2 => by
    rw [List.getElem?_map] at h1 h2
    cases he : es[i]? with
    | none => rw [he] at h1; cases h1
    | some e =>
      rw [he] at h1 h2
      cases h1; cases h2
      exact ht e (List.mem_of_getElem? he))
  rw [zip_self] at h
  exact h.mono fun p hp => (List.mem_cons.mp hp).elim (fun e => e ▸ hm) id
theorem ent_ref {w : World} {news : List (Addr × Obj)} {n : Nat} {kvs : List (Str × Value)} {k : Str} {d : Dat} {a : Addr} (h : valueAt kvs k = some (.ref a)) (t : Tells w news n (.ref a) d) : Ent w news n kvs (k, d) := ⟨_, h, nofun, rfl, t⟩
theorem ent_int {w : World} {news : List (Addr × Obj)} {n : Nat} {kvs : List (Str × Value)} {k : Str} {d : Dat} {i : Int} {u : Tok} (h : valueAt kvs k = some (.int i u)) (t : Tells w news n (.int i u) d) : Ent w news n kvs (k, d) := ⟨_, h, nofun, rfl, t⟩
theorem all0 {α : Type} {P : α → Prop} : ∀ p ∈ ([] : List α), P p := fun _ h => nomatch h
theorem all1 {α : Type} {P : α → Prop} {a : α} {l : List α} (h : P a) (t : ∀ p ∈ l, P p) : ∀ p ∈ a :: l, P p := List.forall_mem_cons.mpr ⟨h, t⟩
theorem tells_lab {w : World} {news : List (Addr × Obj)} {lab : Addr} {x : Str} {cs : List Int} {n : Int} (hL : LabIn w news lab x cs n) : Tells w news 7 (.ref lab) (.tuple (.str (Str.ofString "dict") :: (dueP cs ++ (dueS x ++ dueN n)))) := by
  obtain ⟨vS, vP, vN, hD, hS, hP, hN⟩ := hL
  rcases hS with ⟨rfl, rfl⟩ | ⟨hx, a1, d1, t1, k1, rfl, m1, m2⟩ <;> rcases hP with ⟨rfl, rfl⟩ | ⟨hc, a2, d2, t2, k2, k3, rfl, m3, m4⟩ <;> rcases hN with ⟨rfl, rfl⟩ | ⟨hn, t3, rfl⟩
  · exact dict_at (es := []) hD (Nat.le_of_ble_eq_true rfl) (by decide) (fun ss h _ => List.perm_nil.mp h) all0
  · rw [dueN_ne hn]; exact dict_at (es := [(kN, _)]) hD (Nat.le_of_ble_eq_true rfl) (by decide) (fun ss h _ => List.perm_singleton.mp h) (all1 (ent_int (by rfl) tells_int) all0)
  · rw [dueP_cons hc]; exact dict_at (es := [(kP, _)]) hD (Nat.le_of_ble_eq_true rfl) (by decide) (fun ss h _ => List.perm_singleton.mp h) (all1 (ent_ref (by rfl) (tells_string m3 m4)) all0)
  · rw [dueP_cons hc, dueN_ne hn]; exact dict_at (es := [(kP, _), (kN, _)]) hD (Nat.le_of_ble_eq_true rfl) (by decide) (ks2 (a := kP) (b := kN) (by decide +kernel)) (all1 (ent_ref (by rfl) (tells_string m3 m4)) (all1 (ent_int (by rfl) tells_int) all0))
  · rw [dueS_cons hx]; exact dict_at (es := [(kS, _)]) hD (Nat.le_of_ble_eq_true rfl) (by decide) (fun ss h _ => List.perm_singleton.mp h) (all1 (ent_ref (by rfl) (tells_name m1 m2)) all0)
  · rw [dueS_cons hx, dueN_ne hn]; exact dict_at (es := [(kS, _), (kN, _)]) hD (Nat.le_of_ble_eq_true rfl) (by decide) (ks2 (a := kS) (b := kN) (by decide +kernel)) (all1 (ent_ref (by rfl) (tells_name m1 m2)) (all1 (ent_int (by rfl) tells_int) all0))
  · rw [dueS_cons hx, dueP_cons hc]; exact dict_at (es := [(kP, _), (kS, _)]) hD (Nat.le_of_ble_eq_true rfl) (by decide) (fun ss h => ks2 (a := kP) (b := kS) (by decide +kernel) ss (h.trans (.swap _ _ _))) (all1 (ent_ref (by rfl) (tells_string m3 m4)) (all1 (ent_ref (by rfl) (tells_name m1 m2)) all0))
  · rw [dueS_cons hx, dueP_cons hc, dueN_ne hn]; exact dict_at (es := [(kP, _), (kS, _), (kN, _)]) hD (Nat.le_of_ble_eq_true rfl) (by decide) ks3 (all1 (ent_ref (by rfl) (tells_string m3 m4)) (all1 (ent_ref (by rfl) (tells_name m1 m2)) (all1 (ent_int (by rfl) tells_int) all0)))
/-- what told makes of the tree -/
def treeD (i : Int) (x : Str) (cs : List Int) (n : Int) : Dat := .tuple [.str (Str.ofString "dict"), .tuple [.str (Str.ofString "Nums"), .tuple [.str (Str.ofString "array"), .tuple [.str (Str.ofString "int"), .int i], .tuple (.str (Str.ofString "dict") :: (dueP cs ++ (dueS x ++ dueN n)))]]]
theorem tells_tree {w : World} {news : List (Addr × Obj)} {D row lab : Addr} {i : Int} {u : Tok} {k : Nat} {x : Str} {cs : List Int} {n : Int} (hD : DIn w news D [(Str.ofString "Nums", .ref row)]) (hr : (row, lstO [.int i u, .ref lab] k) ∈ news) (hL : LabIn w news lab x cs n) : Tells w news 13 (.ref D) (treeD i x cs n) := by
  have h := to_list (n := 7) (ds := [.tuple [.str (Str.ofString "int"), .int i], .tuple (.str (Str.ofString "dict") :: (dueP cs ++ (dueS x ++ dueN n)))]) (b := row) (k := k) (vs := [.int i u, .ref lab]) (news := news) (w := w) rfl (Nat.le_of_ble_eq_true rfl) (by decide) (by
    intro j v d h1 h2
    rcases j with _ | _ | j
    · cases h1; cases h2; exact tells_int.up (by decide)
    · cases h1; cases h2; exact tells_lab hL
    · simp at h1)
  exact dict_at (es := [(Str.ofString "Nums", _)]) hD (Nat.le_of_ble_eq_true rfl) (by decide) (fun ss h _ => List.perm_singleton.mp h) (all1 (ent_ref (by rfl) (h.mono fun p hp => (List.mem_cons.mp hp).elim (fun e => e ▸ hr) id)) all0)

end
section
/-- a range as the data of a tuple -/
def rgD (r : Rg) : Dat := .tuple [.int r.1, .str r.2.1, .str (KStt.txt r.2.2.1), .int r.2.2.2]
theorem Tup4s.dat {news : List (Addr × Obj)} : ∀ {ys : List Value} {rs : List Rg}, Tup4s news ys rs → DatAll news ys (rs.map rgD)
  | [], [], _ => .nil
  | [], _ :: _, h => absurd h.1 (by simp)
  | _ :: _, [], h => absurd h.1 (by simp)
  | y :: ys, r :: rs, h => by
    obtain ⟨D, tf, tx, tc, tn, q, rfl, hm⟩ := h.2 0 y r rfl rfl
    exact .cons (.tuple hm (.cons (.int _ _) (.cons (.str _ _) (.cons (.str _ _) (.cons (.int _ _) .nil))))) (Tup4s.dat ⟨by simpa using h.1, fun j y r h1 h2 => h.2 (j + 1) y r h1 h2⟩)
theorem rok_P {w : World} {news : List (Addr × Obj)} {v a d : Addr} {cs : List Int} {t k1 k2 : Tok} {i : Int} (h : DIn w news v [(Str.ofString "P", .ref a)]) (h1 : (a, instObj 205 d) ∈ news) (h2 : (d, stD w (byteArr cs) t k1 k2) ∈ news) (hc : KBa.In cs) (hl : cs.length ≤ 1000) : ROK w news v (i, Str.ofString "", rdT cs, 1) :=
  ⟨_, .none, .ref a, .none, h, by rfl, by rfl, by rfl, .inl ⟨rfl, rfl⟩, .inr ⟨a, d, _, cs, t, k1, k2, rfl, h1, h2, KBa.ints_make hc, hl, rfl⟩, .inl ⟨rfl, rfl⟩⟩
theorem rok_S {w : World} {news : List (Addr × Obj)} {v a d : Addr} {x : Str} {t k1 : Tok} {i : Int} (h : DIn w news v [(Str.ofString "S", .ref a)]) (h1 : (a, instObj 183 d) ∈ news) (h2 : (d, nmD w x t k1) ∈ news) : ROK w news v (i, x, [], 1) :=
  ⟨_, .ref a, .none, .none, h, by rfl, by rfl, by rfl, .inr ⟨a, d, t, k1, rfl, h1, h2⟩, .inl ⟨rfl, rfl⟩, .inl ⟨rfl, rfl⟩⟩
theorem opt_at {k k' : Str} {v : Value} {r : List (Str × Value)} (h : k ≠ k') : valueAt (opt1 k v ++ r) k' = valueAt r k' := by
  cases v <;> simp [opt1, valueAt, h]
theorem opt_get {k : Str} {v : Value} {r : List (Str × Value)} (h : valueAt r k = none) : (valueAt (opt1 k v ++ r) k).getD .none = v := by
  cases v with
  | none => show (valueAt r k).getD .none = _; rw [h]; rfl
  | _ => simp [opt1, valueAt]
theorem rok_L {w : World} {news : List (Addr × Obj)} {v : Addr} {x : Str} {cs : List Int} {n i : Int} (h : LabIn w news v x cs n) (hb : ∀ c ∈ cs, whole c) (hl : cs.length ≤ 6) : ROK w news v (i, x, cs, n) := by
  obtain ⟨vS, vP, vN, hD, hS, hP, hN⟩ := h
  have nSP : kS ≠ kP := by decide +kernel
  have nSN : kS ≠ kN := by decide +kernel
  have nPN : kP ≠ kN := by decide +kernel
  have nPS : kP ≠ kS := by decide +kernel
  have nNS : kN ≠ kS := by decide +kernel
  have nNP : kN ≠ kP := by decide +kernel
  have e3 : ∀ k, kN ≠ k → valueAt (opt1 kN vN) k = none := fun k h => by
    have := opt_at (v := vN) (r := []) h
    rw [List.append_nil] at this
    exact this
  refine ⟨_, vS, vP, vN, hD, ?_, ?_, ?_, ?_, ?_, ?_⟩
  · exact opt_get (by rw [opt_at nPS, e3 _ nNS])
  · rw [opt_at nSP]; exact opt_get (e3 _ nNP)
  · rw [opt_at nSN, opt_at nPN]
    have := opt_get (k := kN) (v := vN) (r := []) rfl
    rw [List.append_nil] at this
    exact this
  · rcases hS with h | ⟨-, a, d, t, k, e, m1, m2⟩
    · exact .inl h
    · exact .inr ⟨a, d, t, k, e, m1, m2⟩
  · rcases hP with h | ⟨-, a, d, t, k1, k2, e, m1, m2⟩
    · exact .inl h
    · exact .inr ⟨a, d, _, po cs, t, k1, k2, e, m1, m2, KBa.ints_make (po_in fun c hc => ⟨(hb c hc).1, (hb c hc).2.1⟩), by have := po_length cs; omega, rd_po hb⟩
  · rcases hN with h | ⟨-, t, e⟩
    · exact .inl h
    · exact .inr ⟨t, e⟩
theorem root_of {w : World} {news : List (Addr × Obj)} {sh V tb R d0 tp rf d1 : Addr} {k3 k4 t1 t2 t3 k1 k2 : Tok} {oT oR : Obj} {n : Nat} (m3 : (sh, instObj 363 d0) ∈ news) (m4 : (d0, shD w tb R k3 k4) ∈ news) (m5 : (tb, oT) ∈ news) (e1 : Obj.IsDictOf (intKind pr w) oT [(1, .ref tp)]) (l1 : (tb == sysModules) = false) (m6 : (tp, tup2 (.int 0 t3) (.ref V) n) ∈ news)
    (m7 : (R, oR) ∈ news) (e3 : Obj.IsDictOf (PySem.strKind pr w) oR [(Str.ofString "Root", .ref rf)]) (l2 : (R == sysModules) = false) (m1 : (rf, instObj 254 d1) ∈ news) (m2 : (d1, rfD w t1 t2 k1 k2) ∈ news) : RootIn w news sh V :=
  ⟨tb, R, d0, k3, k4, tp, rf, d1, oT, oR, t1, t2, t3, k1, k2, n, ⟨m1, m2, m3, m4⟩, ⟨m5, m6, m7⟩, e1, l1, e3, l2⟩
theorem wl_ok {pv : Program} {w : World} {loose : List Str} {mean : ExcName → Option Value} {mg mb : Str → Option Value} {A₀ : Around} {dp un : Nat} {gd : Option (List Code)} {cn : Str} {cs₀ : Scope} {a : Addr} {ccd : Value} {cl : List (Str × Addr)} {outer : List Env} {base h₀ : Heap} {L : Addr} {m : Str → Option Value} {s : Shared} {Q E : Value → Shared → Prop}
   {rg t : Addr} {x : Str} {cs : List Int} {i n : Int} {ti tx tc tn : Tok} {k nt : Nat} {news : List (Addr × Obj)}
   (B : Below A₀ base outer h₀) (F : Fr h₀ L s.heap m) (X : (frag.heap_1 w.params).In h₀) (N : News h₀ L s.heap news) (T : Top pv loose mean mg mb h₀)
   (hk : cs₀.kind = .function) (hdp : dp + 8 < recursionLimit) (hun : un + 1100 < cLine)
   (C8 : CodeHd base 440 438) (m1 : (rg, lstO [.ref t] k) ∈ news) (m2 : (t, tup4 (.int i ti) (.str x tx) (.str (KStt.txt cs) tc) (.int n tn) nt) ∈ news) (m3 : (438, tabObj #[]) ∈ news) (hi : 0 ≤ i) (hx : styles.any (· == x) = true) (hn : 1 ≤ n) (hlen : cs.length ≤ 6) (hb : ∀ c ∈ cs, 0 ≤ c ∧ c < 1114112)
   (ret : ∀ D row lab k' tr ti' ps c h' tk', Fr h₀ L h' m → News h₀ L h' ((D, tr) :: (row, lstO [.int i ti', .ref lab] k') :: (438, tabObj ps) :: c) → Obj.IsDictOf (PySem.strKind pr w) tr [(Str.ofString "Nums", .ref row)] → (D == sysModules) = false → LabIn w c lab x cs n → Q (.ref D) {s with heap := h', toks := tk'}) :
   wpAny (model pr w) (ktrTop dp un gd cn cs₀ L a ccd cl outer) (call (.ref 491) [.ref rg]) Q E s :=
  wl_0 (rest := []) B F X (news_pick N m1 (news_pick N m2 (news_pick N m3 news_nil))) T hk hdp hun C8 (fun _ h => nomatch h) hi hx hn hlen hb fun D row lab k' tr ti' ps c h' tk' F' N' hd lo hL => ret D row lab k' tr ti' ps c h' tk' F' (by rw [List.append_nil] at N'; exact N') hd lo hL
theorem din_of {w : World} {news : List (Addr × Obj)} {a : Addr} {o : Obj} {kvs : List (Str × Value)} (hd : Obj.IsDictOf (PySem.strKind pr w) o kvs) (hm : (a, o) ∈ news) (lo : (a == sysModules) = false) : DIn w news a kvs := ⟨o, hm, hd, lo⟩
/-- the data of the law's own shelf: its root, its tree, its two labels -/
def RawF (w : World) (news : List (Addr × Obj)) (V : Addr) (ps : List (Int × Tok × Addr)) (rs : List Rg) : Prop := ∃ tr row k, DIn w news V [(Str.ofString "PageLabels", .ref tr)] ∧ DIn w news tr [(Str.ofString "Nums", .ref row)] ∧ (row, lstO (flatP ps) k) ∈ news ∧ ∀ (j : Nat) (a : Int) (t : Tok) (v : Addr) (r : Rg), ps[j]? = some (a, t, v) → rs[j]? = some r → r.1 = a ∧ ROK w news v r
theorem two_at {w : World} {news : List (Addr × Obj)} {a1 a2 : Int} {t1 t2 : Tok} {v1 v2 : Addr} {r1 r2 : Rg} (h1 : r1.1 = a1 ∧ ROK w news v1 r1) (h2 : r2.1 = a2 ∧ ROK w news v2 r2) : ∀ (j : Nat) (a : Int) (t : Tok) (v : Addr) (r : Rg), [(a1, t1, v1), (a2, t2, v2)][j]? = some (a, t, v) → [r1, r2][j]? = some r → r.1 = a ∧ ROK w news v r := by
  intro j a t v r e1 e2
  rcases j with _ | _ | j
  · cases e1; cases e2; exact h1
  · cases e1; cases e2; exact h2
  · cases e1
theorem one_at {w : World} {news : List (Addr × Obj)} {a1 : Int} {t1 : Tok} {v1 : Addr} {r1 : Rg} (h1 : r1.1 = a1 ∧ ROK w news v1 r1) : ∀ (j : Nat) (a : Int) (t : Tok) (v : Addr) (r : Rg), [(a1, t1, v1)][j]? = some (a, t, v) → [r1][j]? = some r → r.1 = a ∧ ROK w news v r := by
  intro j a t v r e1 e2
  rcases j with _ | j
  · cases e1; cases e2; exact h1
  · cases e1
theorem all_app {P : Addr × Obj → Prop} {x : Addr × Obj} {l : List (Addr × Obj)} (h : P x) (t : ∀ p ∈ l, P p) : ∀ p ∈ x :: l, P p := List.forall_mem_cons.mpr ⟨h, t⟩
theorem menu_whole : ∀ c ∈ menu, whole c := by
  unfold whole menu
  decide
theorem stl {y : Str} {t : Tok} (h : styles.any (· == y) = true) : ∃ y' t', Value.str y t = .str y' t' ∧ styles.any (· == y') = true := ⟨y, t, rfl, h⟩
theorem style_of {x : Value} {t0 t1 t2 t3 t4 t5 : Tok} (h : x ∈ [Value.str (Str.ofString "") t0, .str (Str.ofString "D") t1, .str (Str.ofString "R") t2, .str (Str.ofString "r") t3, .str (Str.ofString "A") t4, .str (Str.ofString "a") t5]) : ∃ y t, x = .str y t ∧ styles.any (· == y) = true :=
  (List.forall_mem_cons.mpr ⟨stl (by decide +kernel), List.forall_mem_cons.mpr ⟨stl (by decide +kernel), List.forall_mem_cons.mpr ⟨stl (by decide +kernel), List.forall_mem_cons.mpr ⟨stl (by decide +kernel), List.forall_mem_cons.mpr ⟨stl (by decide +kernel), List.forall_mem_cons.mpr ⟨stl (by decide +kernel), List.forall_mem_nil _⟩⟩⟩⟩⟩⟩ : ∀ x ∈ [Value.str (Str.ofString "") t0, .str (Str.ofString "D") t1, .str (Str.ofString "R") t2, .str (Str.ofString "r") t3, .str (Str.ofString "A") t4, .str (Str.ofString "a") t5], ∃ y t, x = .str y t ∧ styles.any (· == y) = true) x h
theorem srt {n : Int} {t : Tok} (h : 1 ≤ n) : ∃ n' t', Value.int n t = .int n' t' ∧ 1 ≤ n' := ⟨n, t, rfl, h⟩
theorem start_of {x : Value} {t0 t1 t2 : Tok} (h : x ∈ [Value.int 1 t0, .int 2 t1, .int 30 t2]) : ∃ n t, x = .int n t ∧ 1 ≤ n :=
  (List.forall_mem_cons.mpr ⟨srt (by decide), List.forall_mem_cons.mpr ⟨srt (by decide), List.forall_mem_cons.mpr ⟨srt (by decide), List.forall_mem_nil _⟩⟩⟩ : ∀ x ∈ [Value.int 1 t0, .int 2 t1, .int 30 t2], ∃ n t, x = .int n t ∧ 1 ≤ n) x h
/-- the tree of one range -/
def TreeF (w : World) (news : List (Addr × Obj)) (D : Addr) (i : Int) (x : Str) (cs : List Int) (n : Int) : Prop := (∃ ps, ((438 : Addr), tabObj ps) ∈ news) ∧ ∃ row lab u k, DIn w news D [(Str.ofString "Nums", .ref row)] ∧ (row, lstO [.int i u, .ref lab] k) ∈ news ∧ LabIn w news lab x cs n
theorem LabIn.mono {w : World} {news news' : List (Addr × Obj)} {v : Addr} {x : Str} {cs : List Int} {n : Int} (h : LabIn w news v x cs n) (hs : ∀ p ∈ news, p ∈ news') : LabIn w news' v x cs n := by
  obtain ⟨vS, vP, vN, h1, h2, h3, h4⟩ := h
  refine ⟨vS, vP, vN, h1.mono hs, ?_, ?_, h4⟩
  · rcases h2 with h | ⟨h, a, d, t, k, e, m1, m2⟩
    · exact .inl h
    · exact .inr ⟨h, a, d, t, k, e, hs _ m1, hs _ m2⟩
  · rcases h3 with h | ⟨h, a, d, t, k1, k2, e, m1, m2⟩
    · exact .inl h
    · exact .inr ⟨h, a, d, t, k1, k2, e, hs _ m1, hs _ m2⟩
theorem TreeF.mono {w : World} {news news' : List (Addr × Obj)} {D : Addr} {i : Int} {x : Str} {cs : List Int} {n : Int} (h : TreeF w news D i x cs n) (hs : ∀ p ∈ news, p ∈ news') : TreeF w news' D i x cs n := by
  obtain ⟨⟨ps, h0⟩, row, lab, u, k, h1, h2, h3⟩ := h
  exact ⟨⟨ps, hs _ h0⟩, row, lab, u, k, h1.mono hs, hs _ h2, LabIn.mono h3 hs⟩
theorem TreeF.tells {w : World} {news : List (Addr × Obj)} {D : Addr} {i : Int} {x : Str} {cs : List Int} {n : Int} (h : TreeF w news D i x cs n) : Tells w news 13 (.ref D) (treeD i x cs n) := by
  obtain ⟨-, row, lab, u, k, h1, h2, h3⟩ := h
  exact tells_tree h1 h2 h3
/-- what a statement on «due» leaves -/
def DueEnd (w : World) (h₀ : Heap) (L : Addr) (m : Str → Option Value) (s : Shared) (ds : List Dat) (D : Addr) (i : Int) (x : Str) (cs : List Int) (n : Int) (fl : Flow) (s' : Shared) : Prop := fl = .next ∧ ∃ due vs k top h' tk', s' = {s with heap := h', toks := tk'} ∧ Fr h₀ L h' (fun y => if y = Str.ofString "due" then some (.ref due) else m y) ∧ News h₀ L h' ((due, lstO vs k) :: top) ∧ DatAll top vs ds ∧ TreeF w top D i x cs n
theorem txt_beq {cs : List Int} (h : cs ≠ []) : ¬ (KStt.txt cs == Str.ofString "") = true := fun e => h (txt_nil (by simp only [bne, e, Bool.not_true]))
theorem hideN {h₀ h : Heap} {L : Addr} {c : List (Addr × Obj)} {w : World} {D row lab : Addr} {tr : Obj} {i : Int} {u : Tok} {k : Nat} {x : Str} {cs : List Int} {n : Int} {ps : Array Value} (N : News h₀ L h ((D, tr) :: (row, lstO [.int i u, .ref lab] k) :: (438, tabObj ps) :: c)) (hd : Obj.IsDictOf (PySem.strKind pr w) tr [(Str.ofString "Nums", .ref row)]) (lo : (D == sysModules) = false) (hL : LabIn w c lab x cs n) : ∃ top, News h₀ L h top ∧ TreeF w top D i x cs n :=
  ⟨_, N, ⟨ps, .tail _ (.tail _ (.head _))⟩, row, lab, u, k, din_of hd (.head _) lo, .tail _ (.head _), LabIn.mono hL (fun _ hp => .tail _ (.tail _ (.tail _ hp)))⟩
theorem due_cut {M : Model} {A : Around} {t : Sem Flow} {E : Value → Shared → Prop} {s : Shared} {Q : Flow → Shared → Prop} {w : World} {h₀ : Heap} {L : Addr} {m : Str → Option Value} {top0 : List (Addr × Obj)} {D : Addr} {i : Int} {x : Str} {cs : List Int} {n : Int} (_ : Fr h₀ L s.heap m) (_ : TreeF w top0 D i x cs n) (ds : List Dat) (h : wpAny M A t (DueEnd w h₀ L m s ds D i x cs n) E s)
    (k : ∀ due vs k top h' tk', Fr h₀ L h' (fun y => if y = Str.ofString "due" then some (.ref due) else m y) → News h₀ L h' ((due, lstO vs k) :: top) → DatAll top vs ds → TreeF w top D i x cs n → Q .next {s with heap := h', toks := tk'}) : wpAny M A t Q E s :=
  wpAny_mono h (fun _ _ q => by
    obtain ⟨rfl, due, vs, kk, top, h', tk', rfl, F', N', hd, hT⟩ := q
    exact k due vs kk top h' tk' F' N' hd hT) fun _ _ e => e
theorem hideT {h₀ h : Heap} {L : Addr} {c top : List (Addr × Obj)} {w : World} {D T : Addr} {i : Int} {x : Str} {cs : List Int} {n : Int} {d : Addr × Obj} {vs : List Value} {ds : List Dat} {tD : Dat} (N : News h₀ L h (c ++ (d :: top))) (hI : DatIn c (.ref T) tD) (hD : DatAll top vs ds) (hT : TreeF w top D i x cs n) : ∃ top', News h₀ L h (d :: top') ∧ DatIn top' (.ref T) tD ∧ DatAll top' vs ds ∧ TreeF w top' D i x cs n :=
  ⟨c ++ top, news_sub N fun y hy => by
    rcases hy with _ | ⟨_, hy⟩
    · exact List.mem_append_right _ (.head _)
    · rcases List.mem_append.mp hy with h | h
      · exact List.mem_append_left _ h
      · exact List.mem_append_right _ (.tail _ h), hI.mono (fun _ h => List.mem_append_left _ h), hD.mono (fun _ h => List.mem_append_right _ h), hT.mono (fun _ h => List.mem_append_right _ h)⟩
/-- the data of the told tree -/
def treeI (i : Int) (x : Str) (cs : List Int) (n : Int) : List Dat := [.str (Str.ofString "dict"), .tuple [.str (Str.ofString "Nums"), .tuple [.str (Str.ofString "array"), .tuple [.str (Str.ofString "int"), .int i], .tuple (.str (Str.ofString "dict") :: (dueP cs ++ (dueS x ++ dueN n)))]]]
theorem dep_tup {n : Nat} {ds : List Dat} (h : ∀ d ∈ ds, dep n d = true) : dep (n + 1) (.tuple ds) = true := List.all_eq_true.mpr h
theorem dep_dues {x : Str} {cs : List Int} {n : Int} : ∀ d ∈ dueP cs ++ (dueS x ++ dueN n), dep 2 d = true := fun d hd => by
  rcases List.mem_append.mp hd with hd | hd
  · unfold dueP at hd; split at hd
    · cases hd
    · rw [List.mem_singleton.mp hd]; rfl
  · rcases List.mem_append.mp hd with hd | hd
    · unfold dueS at hd; split at hd
      · cases hd
      · rw [List.mem_singleton.mp hd]; rfl
    · unfold dueN at hd; split at hd
      · cases hd
      · rw [List.mem_singleton.mp hd]; rfl
theorem all2 {P : Dat → Prop} {a b : Dat} (ha : P a) (hb : P b) : ∀ d ∈ [a, b], P d := List.forall_mem_cons.mpr ⟨ha, List.forall_mem_cons.mpr ⟨hb, List.forall_mem_nil _⟩⟩
theorem treeI_dep (i : Int) (x : Str) (cs : List Int) (n : Int) : ∀ d ∈ treeI i x cs n, dep 5 d = true :=
  all2 rfl (dep_tup (all2 rfl (dep_tup (List.forall_mem_cons.mpr ⟨rfl, all2 rfl (dep_tup (List.forall_mem_cons.mpr ⟨rfl, dep_dues⟩))⟩))))
theorem hideU {h₀ h : Heap} {L : Addr} {c l : List (Addr × Obj)} {w : World} {D T D4 D5 : Addr} {i : Int} {x : Str} {cs : List Int} {n : Int} {tD tA tB : Dat} (N : News h₀ L h (c ++ l)) (h1 : DatIn (c ++ l) (.ref D4) tA) (h2 : DatIn l (.ref D5) tB) (h3 : DatIn l (.ref T) tD) (hT : TreeF w l D i x cs n) : ∃ top', News h₀ L h top' ∧ DatIn top' (.ref D4) tA ∧ DatIn top' (.ref D5) tB ∧ DatIn top' (.ref T) tD ∧ TreeF w top' D i x cs n :=
  ⟨c ++ l, N, h1, h2.mono (fun _ h => List.mem_append_right _ h), h3.mono (fun _ h => List.mem_append_right _ h), hT.mono (fun _ h => List.mem_append_right _ h)⟩
theorem ne_allLt {d : Nat} : ∀ {l : List (Addr × Obj)}, AllLt d l → ∀ x ∈ l, @Ne Nat x.1 d
  | [], _, _, h => nomatch h
  | _ :: _, h, _, .head _ => Nat.ne_of_lt h.1
  | _ :: _, h, _, .tail _ m => ne_allLt h.2 _ m
theorem rotS {h₀ h : Heap} {L : Addr} {V R T s1 s2 : Addr × Obj} {top : List (Addr × Obj)} (N : News h₀ L h (V :: R :: T :: s1 :: s2 :: top)) : News h₀ L h (T :: R :: s1 :: s2 :: V :: top) :=
  news_sub N fun y hy => by
    simp only [List.mem_cons] at hy ⊢
    rcases hy with h | h | h | h | h | h <;> simp [h]
theorem upS {h₀ h : Heap} {L : Addr} {x1 x2 x3 x4 sR s1 s2 v : Addr × Obj} {top : List (Addr × Obj)} (_ : News h₀ L h (x1 :: x2 :: x3 :: x4 :: sR :: s1 :: s2 :: v :: top)) (ht : ∀ x ∈ top, x.1 ≠ sR.1) (h1 : s1.1 ≠ sR.1) (h2 : s2.1 ≠ sR.1) (h3 : v.1 ≠ sR.1) :
    ∀ x ∈ s1 :: s2 :: v :: top, x.1 ≠ sR.1 := all_app h1 (all_app h2 (all_app h3 ht))
theorem TreeF.opened {w : World} {news news' : List (Addr × Obj)} {D : Addr} {i : Int} {x : Str} {cs : List Int} {n : Int} (h : TreeF w news D i x cs n) (hb : ∀ c ∈ cs, whole c) (hl : cs.length ≤ 6) (hs : ∀ p ∈ news, p ∈ news') : (∃ ps, ((438 : Addr), tabObj ps) ∈ news') ∧ ∃ row a u k, DIn w news' D [(Str.ofString "Nums", .ref row)] ∧ (row, lstO (flatP [(i, u, a)]) k) ∈ news' ∧ ∀ (j : Nat) (a' : Int) (t : Tok) (v : Addr) (r : Rg), [(i, u, a)][j]? = some (a', t, v) → [((i, x, cs, n) : Rg)][j]? = some r → r.1 = a' ∧ ROK w news' v r := by
  obtain ⟨⟨ps, h0⟩, row, lab, u, k, h1, h2, h3⟩ := h
  exact ⟨⟨ps, hs _ h0⟩, row, lab, u, k, h1.mono hs, hs _ h2, one_at ⟨rfl, rok_L (LabIn.mono h3 hs) hb hl⟩⟩
theorem mem_of8 {h₀ h : Heap} {L : Addr} {x1 x2 x3 x4 x5 x6 x7 x8 : Addr × Obj} {top : List (Addr × Obj)} (_ : News h₀ L h (x1 :: x2 :: x3 :: x4 :: x5 :: x6 :: x7 :: x8 :: top)) : ∀ p ∈ top, p ∈ x1 :: x2 :: x3 :: x4 :: x5 :: x6 :: x7 :: x8 :: top := fun _ hp => .tail _ (.tail _ (.tail _ (.tail _ (.tail _ (.tail _ (.tail _ (.tail _ hp)))))))

end
section
theorem shelf_ok {pv : Program} {w : World} {loose : List Str} {mean : ExcName → Option Value} {mg mb : Str → Option Value} {A₀ : Around} {dp un : Nat} {gd : Option (List Code)} {cn : Str} {cs₀ : Scope} {a : Addr} {ccd : Value} {cl : List (Str × Addr)} {outer : List Env} {base h₀ : Heap} {L : Addr} {m : Str → Option Value} {s : Shared} {Q E : Value → Shared → Prop} {news : List (Addr × Obj)}
   (B : Below A₀ base outer h₀) (F : Fr h₀ L s.heap m) (X : (frag.heap_1 w.params).In h₀) (N : News h₀ L s.heap news) (T : Top pv loose mean mg mb h₀)
   (hk : cs₀.kind = .function) (hdp : dp + 4 < recursionLimit) (hun : un + 700 < cLine)
   (ret : ∀ sh d0 tb tr oT oR k3 k4 h' tk', Fr h₀ L h' m → News h₀ L h' ((tr, oR) :: (tb, oT) :: (sh, instObj 363 d0) :: (d0, shD w tb tr k3 k4) :: news) → Obj.IsDictOf (intKind pr w) oT [] → Obj.IsDictOf (PySem.strKind pr w) oR [] → (tb == sysModules) = false → (tr == sysModules) = false → (@LT.lt Nat _ sh tb ∧ @LT.lt Nat _ d0 tb ∧ AllLt tb news) → (@LT.lt Nat _ tb tr ∧ @LT.lt Nat _ sh tr ∧ @LT.lt Nat _ d0 tr ∧ AllLt tr news) → Q (.ref sh) {s with heap := h', toks := tk'}) :
   wpAny (model pr w) (ktrTop dp un gd cn cs₀ L a ccd cl outer) (call (.ref 363) []) Q E s := by
  k_dflt (refine' call_cls ?k1 ?k2 ?k3 ?k4 ?k5 ?k6 ?_)
  case k1 => k_asm
  case k2 => k_asm
  case k3 => k_asm
  case k4 => k_is
  case k5 => k_is
  case k6 => k_is
  k_whole
  intro x' d' h' F' N' l1 l2
  have l3 := allLt_all l1
  clear l1
  k_lt2 l2
  walk_at "MY CODE"
  (skip; repeat' (first | (k_unfold; (try dsimp only)) | (with_reducible refine gen3 ?_; intro _) | ((with_reducible show wpAny _ _ (exec (Stmt.Assign _ _ _) _) _ _ _); k_fold) | ((with_reducible show wpAny _ _ (exec (Stmt.Return _ _) _) _ _ _); k_fold) | ((with_reducible show wpAny _ _ (eval (PySem.Expr.Call _ _ _ _) _) _ _ _); k_fold) | with_reducible refine seq_next ?_ | with_reducible refine seq_ret ?_ | walk_at "MY STEP" | dsimp only | (leave1; (try dsimp only)) | fail "no step"))
  all_goals (try k_data)
  rename News _ _ _ _ => N9
  rename Fr _ _ _ _ => F9
  rename (_ < _ ∧ _ < _ ∧ _ < _ ∧ AllLt _ _) => lR
  rename (_ < _ ∧ _ < _ ∧ AllLt _ _) => lT
  exact ret _ _ _ _ _ _ _ _ _ _ F9 N9 (by assumption) (by assumption) (by assumption) (by assumption) lT lR

end
section
noncomputable def bodyOf (s : Stmt) : List Stmt := Stmt.casesOn (motive_2 := fun _ => List Stmt) s (fun _ _ b _ _ _ _ _ _ _ => b) (fun _ _ _ _ _ _ _ _ _ _ => []) (fun _ _ _ _ _ _ _ _ _ _ _ => []) (fun _ _ => []) (fun _ _ => []) (fun _ _ _ => []) (fun _ _ _ _ _ _ _ => []) (fun _ _ _ _ => []) (fun _ _ _ _ _ => []) (fun _ _ b _ _ => b) (fun _ _ _ _ _ => []) (fun _ _ _ _ => []) (fun _ _ _ _ => []) (fun _ _ _ => []) (fun _ _ _ => []) (fun _ _ _ => []) (fun _ _ _ => []) (fun _ _ _ _ _ => []) (fun _ _ _ _ _ => []) (fun _ _ _ => []) (fun _ _ => []) (fun _ _ _ _ => []) (fun _ _ => []) (fun _ _ => []) (fun _ _ => []) (fun _ => []) (fun _ => []) (fun _ => [])
noncomputable def scopeOf (s : Stmt) : Scope := Stmt.casesOn (motive_2 := fun _ => Scope) s (fun _ _ _ _ _ _ b _ _ _ => b) (fun _ _ _ _ _ _ _ _ _ _ => default) (fun _ _ _ _ _ _ _ _ _ _ _ => default) (fun _ _ => default) (fun _ _ => default) (fun _ _ _ => default) (fun _ _ _ _ _ _ _ => default) (fun _ _ _ _ => default) (fun _ _ _ _ _ => default) (fun _ _ _ _ _ => default) (fun _ _ _ _ _ => default) (fun _ _ _ _ => default) (fun _ _ _ _ => default) (fun _ _ _ => default) (fun _ _ _ => default) (fun _ _ _ => default) (fun _ _ _ => default) (fun _ _ _ _ _ => default) (fun _ _ _ _ _ => default) (fun _ _ _ => default) (fun _ _ => default) (fun _ _ _ _ => default) (fun _ _ => default) (fun _ _ => default) (fun _ _ => default) (fun _ => default) (fun _ => default) (fun _ => default)
/-- the law's own text, out of the given row -/
noncomputable def lawDef : Stmt := (PySem.Challenge.pw_nn0137_01.main.body.getLast?).getD (.Pass default)
noncomputable def lawBody : List Stmt := bodyOf lawDef
noncomputable def turnBody : List Stmt := bodyOf ((lawBody.drop 1).head?.getD (.Pass default))
def ShelfAt (w : World) (news : List (Addr × Obj)) (sh : Addr) (ps : List (Int × Tok × Addr)) (rs : List Rg) : Prop := ∃ tb R V, ShIn w news sh tb R ∧ RootIn w news sh V ∧ RawF w news V ps rs
section
variable {pv : Program} {w : World} {loose : List Str} {mean : ExcName → Option Value} {mg mb : Str → Option Value} {base h₀ : Heap} {L fa : Addr} {cd : Value} {m0 : Str → Option Value} {s : Shared} {Q : Flow → Shared → Prop} {E : Value → Shared → Prop} {sc : Scope} {ss : List Stmt} {news keep : List (Addr × Obj)}
theorem turnC {sh : Addr} {cs : List Int} {t t1 t2 : Tok} {v1 v2 : Addr} (hsc : sc = scopeOf lawDef) (hss : ss = turnBody.drop 4)
   (B : Below callerA base [] h₀) (F : Fr h₀ L s.heap (fun y => if y = "raw" then some (.ref sh) else if y = "data" then some (.bytes (byteArr cs) t) else m0 y)) (X : (frag.heap_1 w.params).In h₀) (N : News h₀ L s.heap news) (T : Top pv loose mean mg mb h₀)
   (hS : ShelfAt w news sh [(0, t1, v1), (4, t2, v2)] [(0, Str.ofString "", rdT cs, 1), (4, Str.ofString "D", [], 1)]) (hcl : cs.length ≤ 10) (hcm : KBa.In cs) (hkp : ∀ p ∈ keep, p ∈ news)
   (ret : ∀ h' tk', Fr h₀ L h' (fun y => if y = "raw" then some (.ref sh) else if y = "data" then some (.bytes (byteArr cs) t) else m0 y) → News h₀ L h' keep → Q .next { s with heap := h', toks := tk' }) :
   wpAny (model pr w) (callerA.deeper (envOf (Str.ofString "law") sc L fa cd)) (execs ss (envOf (Str.ofString "law") sc L fa cd)) Q E s := by
  conv at hsc => rhs; whnf
  conv at hss => rhs; whnf
  subst hsc hss
  obtain ⟨tb, R, V, hSh, hRt, tr, row, kk, hV, hN, hrow, hok⟩ := hS
  ((skip; repeat' ((first | (k_unfold; (try dsimp only)) | (with_reducible refine gen3 ?_; intro _) | ((with_reducible show wpAny _ _ (exec (Stmt.Assign _ _ _) _) _ _ _); k_fold) | ((with_reducible show wpAny _ _ (exec (Stmt.Return _ _) _) _ _ _); k_fold) | ((with_reducible show wpAny _ _ (eval (PySem.Expr.Call _ _ _ _) _) _ _ _); k_fold) | with_reducible refine seq_next ?_ | with_reducible refine seq_ret ?_ | ((fail_if_success (with_reducible show GrownAll _ _)); (fail_if_success (with_reducible show wpAny _ _ (compareOp _ (Value.ref _) (Value.ref _)) _ _ _)); (fail_if_success (with_reducible show wpAny _ _ (exec (Stmt.Assign [PySem.Expr.Name _ _] (PySem.Expr.IfExp _ _ _ _) _) _) _ _ _)); (fail_if_success (with_reducible show wpAny _ _ (exec (Stmt.Assign [PySem.Expr.Name _ _] (PySem.Expr.BinOp _ _ _ _) _) _) _ _ _)); first | (first | ((with_reducible show wpAny _ _ (binaryOp Operator.Add (Value.ref _) (Value.ref _)) _ _ _); with_reducible ((refine' r_addlist ?zzk1 ?zzk2 ?zzk3 ?zzk4 ?zzk5 ?_; (case zzk1 => k_asm); (case zzk2 => k_asm); (case zzk3 => k_dflt k_mem); (case zzk4 => k_dflt k_mem); (case zzk5 => (simp only [List.length_append, List.length_cons, List.length_nil]; omega)); intro zzD' zzh' zzF' zzN' zzhne'))) | ((with_reducible show wpAny _ _ (callWith _ (Value.ref _) _ (backTo _ (starEach [] _)) _) _ _ _); with_reducible ((k_dflt (refine' callWith_K0 ?zzk1 ?zzk2 ?_; (case zzk1 => k_in); (case zzk2 => k_is); k_whole); (try dsimp only)))) | walk_at "MY STEP") | (first | ((with_reducible show wpAny _ _ (call (Value.ref 363) _) _ _ _); k_dflt (refine' shelf_ok ?zzB ?zzF ?zzX ?zzN ?zzT ?zzhk ?zzhdp ?zzhun ?_; (case zzB => k_asm); (case zzF => k_asm); (case zzX => k_asm); (case zzN => k_asm); (case zzT => k_asm); (case zzhk => first | assumption | rfl); (case zzhdp => ktr_room); (case zzhun => units_room)); intro zzsh9 zzd9 zztb9 zztr9 zzoT9 zzoR9 zzk39 zzk49 zzh9 zztk9 zzF9 zzN9 zzhT9 zzhR9 zzlo9 zzlo99 zzlT9 zzlR9; (try dsimp only)) | ((with_reducible show wpAny _ _ (call (Value.ref 254) _) _ _ _); walk1) | ((with_reducible show wpAny _ _ (call (Value.ref 205) _) _ _ _); walk1) | ((with_reducible show wpAny _ _ (call (Value.ref 183) _) _ _ _); walk1) | ((with_reducible show wpAny _ _ (call (Value.ref 539) _) _ _ _); k_dflt (refine' lread_ok ?zzB ?zzF ?zzX ?zzN ?zzT ?zzhk ?zzhdp ?zzhun ?zzhks ?zzhlen ?_; (case zzB => k_asm); (case zzF => k_asm); (case zzX => k_asm); (case zzN => k_asm); (case zzT => k_asm); (case zzhk => first | assumption | rfl); (case zzhdp => ktr_room); (case zzhun => units_room); (case zzhks => exact KBa.ints_make (by assumption)); (case zzhlen => omega)); intro zzt9 zzh9 zztk9 zzF9 zzN9; (try dsimp only)) | ((with_reducible show wpAny _ _ (call (Value.ref 534) _) _ _ _); k_dflt (refine' lk_ok ?zzB ?zzF ?zzX ?zzN ?zzT ?zzhk ?zzhdp ?zzhun ?zzhks ?zzhlen ?zzhb ?_; (case zzB => k_asm); (case zzF => k_asm); (case zzX => k_asm); (case zzN => k_asm); (case zzT => k_asm); (case zzhk => first | assumption | rfl); (case zzhdp => ktr_room); (case zzhun => units_room); (case zzhks => with_reducible assumption); (case zzhlen => omega); (case zzhb => with_reducible assumption)); intro zzt9 zzh9 zztk9 zzF9 zzN9; (try dsimp only)) | ((with_reducible show wpAny _ _ (call (Value.ref 466) _) _ _ _); k_dflt (refine' po_ok ?zzB ?zzF ?zzX ?zzN ?zzT ?zzhk ?zzhdp ?zzhun ?zzhks ?zzhlen ?zzhb ?_; (case zzB => k_asm); (case zzF => k_asm); (case zzX => k_asm); (case zzN => k_asm); (case zzT => k_asm); (case zzhk => first | assumption | rfl); (case zzhdp => ktr_room); (case zzhun => units_room); (case zzhks => with_reducible assumption); (case zzhlen => omega); (case zzhb => with_reducible assumption)); intro zzt9 zzh9 zztk9 zzF9 zzN9; (try dsimp only)) | ((with_reducible show wpAny _ _ (call (Value.ref 478) _) _ _ _); k_dflt (refine' pt_ok ?zzB ?zzF ?zzX ?zzN ?zzT ?zzhk ?zzhdp ?zzhun ?zzhks ?zzhlen ?_; (case zzB => k_asm); (case zzF => k_asm); (case zzX => k_asm); (case zzN => k_asm); (case zzT => k_asm); (case zzhk => first | assumption | rfl); (case zzhdp => ktr_room); (case zzhun => units_room); (case zzhks => first | with_reducible assumption | exact KBa.ints_make (by assumption)); (case zzhlen => first | with_reducible assumption | omega)); intro zzt9 zzh9 zztk9 zzF9 zzN9; (try dsimp only)) | ((with_reducible show wpAny _ _ (call (Value.ref 549) _) _ _ _); k_dflt (refine' data2 ?zzB ?zzF ?zzX ?zzN ?zzT ?zzhk ?zzhdp ?zzhun ?zzhq ?zzU ?zzhi ?zzhlen ?zzhs0 ?zzhs1 ?_; (case zzB => k_asm); (case zzF => k_asm); (case zzX => k_asm); (case zzN => k_asm); (case zzT => k_asm); (case zzhk => first | assumption | rfl); (case zzhdp => ktr_room); (case zzhun => units_room); (case zzU => walk_at "MY UPDF"); (case zzhq => k_mem); (case zzhi => assumption); (case zzhlen => assumption); (case zzhs0 => omega); (case zzhs1 => omega)); intro zzcs9 zzt9 zzv9 zzh9 zztk9 zzhcl9 zzhcm9 zzhs0 zzhs1 zzF9 zzN9; (try dsimp only at zzN9); (try dsimp only)) | ((with_reducible show wpAny _ _ (call (Value.ref 522) _) _ _ _); k_dflt (refine' pick_ok ?zzB ?zzF ?zzX ?zzN ?zzT ?zzhk ?zzhdp ?zzhun ?zzhq ?zzhr ?zzhrp ?zzU ?zzhi ?zzhlen ?zzhm ?zzhm2 ?zzhs0 ?zzhs1 ?_; (case zzB => k_asm); (case zzF => k_asm); (case zzX => k_asm); (case zzN => k_asm); (case zzT => k_asm); (case zzhk => first | assumption | rfl); (case zzhdp => ktr_room); (case zzhun => units_room); (case zzU => walk_at "MY UPDF"); (case zzhq => k_mem); (case zzhi => assumption); (case zzhr => k_mem); (case zzhrp => k_ne); (case zzhlen => assumption); (case zzhm => first | omega | exact Nat.le_of_ble_eq_true rfl); (case zzhm2 => first | omega | exact Nat.le_of_ble_eq_true rfl); (case zzhs0 => omega); (case zzhs1 => omega)); intro zzx9 zzv9 zzh9 zztk9 zzhx9 zzhs0 zzhs1 zzF9 zzN9; (try dsimp only at zzN9); (try dsimp only)) | ((with_reducible show wpAny _ _ (call (Value.ref 515) _) _ _ _); k_dflt (refine' draw2 ?zzB ?zzF ?zzX ?zzN ?zzT ?zzhk ?zzhdp ?zzhun ?zzhq ?zzU ?zzhi ?zzhlen ?zzhm ?zzhm2 ?zzhs0 ?zzhs1 ?_; (case zzB => k_asm); (case zzF => k_asm); (case zzX => k_asm); (case zzN => k_asm); (case zzT => k_asm); (case zzhk => first | assumption | rfl); (case zzhdp => ktr_room); (case zzhun => units_room); (case zzU => walk_at "MY UPDF"); (case zzhq => k_mem); (case zzhi => assumption); (case zzhlen => assumption); (case zzhm => omega); (case zzhm2 => omega); (case zzhs0 => omega); (case zzhs1 => omega)); intro zzd9 zzt9 zzv9 zzh9 zztk9 zzhd0 zzhd1 zzhs0 zzhs1 zzF9 zzN9; (try dsimp only at zzN9); (try dsimp only))) | dsimp only | (leave1; (try dsimp only)) | fail "no step")))))
  all_goals (try k_data)
  k_dflt (refine' rl_ok ?bB ?bF ?bX ?bN ?bT ?bhk ?bhdp ?bhun hSh hRt hV hN hrow ?bp1 ?bps ?blr hok ?bo ?bret)
  case bB => k_asm
  case bF => k_asm
  case bX => k_asm
  case bN => k_asm
  case bT => k_asm
  case bhk => rfl
  case bhdp => ktr_room
  case bhun => units_room
  case bp1 => exact Nat.le_of_ble_eq_true rfl
  case bps => exact Nat.le_of_ble_eq_true rfl
  case blr => rfl
  case bo => exact ⟨by show (-1 : Int) < 0; decide, by show styles.any (· == Str.ofString "") = true; decide +kernel, by show (1 : Int) ≤ 1; decide, by show (0 : Int) < 4; decide, by decide +kernel, by decide +kernel, trivial⟩
  intro D ys n5 c5 h5 tk5 F5 N11 hT4
  obtain ⟨top, e⟩ : ∃ top, top = c5 ++ news := ⟨_, rfl⟩
  have hkp2 : ∀ p ∈ keep, p ∈ top := fun p hp => e ▸ List.mem_append_right _ (hkp p hp)
  rw [← e] at N11 hT4
  clear e hSh hRt hV hN hrow hok
  ((skip; repeat' ((first | (k_unfold; (try dsimp only)) | (with_reducible refine gen3 ?_; intro _) | ((with_reducible show wpAny _ _ (exec (Stmt.Assign _ _ _) _) _ _ _); k_fold) | ((with_reducible show wpAny _ _ (exec (Stmt.Return _ _) _) _ _ _); k_fold) | ((with_reducible show wpAny _ _ (eval (PySem.Expr.Call _ _ _ _) _) _ _ _); k_fold) | with_reducible refine seq_next ?_ | with_reducible refine seq_ret ?_ | ((fail_if_success (with_reducible show GrownAll _ _)); (fail_if_success (with_reducible show wpAny _ _ (compareOp _ (Value.ref _) (Value.ref _)) _ _ _)); (fail_if_success (with_reducible show wpAny _ _ (exec (Stmt.Assign [PySem.Expr.Name _ _] (PySem.Expr.IfExp _ _ _ _) _) _) _ _ _)); (fail_if_success (with_reducible show wpAny _ _ (exec (Stmt.Assign [PySem.Expr.Name _ _] (PySem.Expr.BinOp _ _ _ _) _) _) _ _ _)); first | (first | ((with_reducible show wpAny _ _ (binaryOp Operator.Add (Value.ref _) (Value.ref _)) _ _ _); with_reducible ((refine' r_addlist ?zzk1 ?zzk2 ?zzk3 ?zzk4 ?zzk5 ?_; (case zzk1 => k_asm); (case zzk2 => k_asm); (case zzk3 => k_dflt k_mem); (case zzk4 => k_dflt k_mem); (case zzk5 => (simp only [List.length_append, List.length_cons, List.length_nil]; omega)); intro zzD' zzh' zzF' zzN' zzhne'))) | ((with_reducible show wpAny _ _ (callWith _ (Value.ref _) _ (backTo _ (starEach [] _)) _) _ _ _); with_reducible ((k_dflt (refine' callWith_K0 ?zzk1 ?zzk2 ?_; (case zzk1 => k_in); (case zzk2 => k_is); k_whole); (try dsimp only)))) | walk_at "MY STEP") | (first | ((with_reducible show wpAny _ _ (call (Value.ref 363) _) _ _ _); k_dflt (refine' shelf_ok ?zzB ?zzF ?zzX ?zzN ?zzT ?zzhk ?zzhdp ?zzhun ?_; (case zzB => k_asm); (case zzF => k_asm); (case zzX => k_asm); (case zzN => k_asm); (case zzT => k_asm); (case zzhk => first | assumption | rfl); (case zzhdp => ktr_room); (case zzhun => units_room)); intro zzsh9 zzd9 zztb9 zztr9 zzoT9 zzoR9 zzk39 zzk49 zzh9 zztk9 zzF9 zzN9 zzhT9 zzhR9 zzlo9 zzlo99 zzlT9 zzlR9; (try dsimp only)) | ((with_reducible show wpAny _ _ (call (Value.ref 254) _) _ _ _); walk1) | ((with_reducible show wpAny _ _ (call (Value.ref 205) _) _ _ _); walk1) | ((with_reducible show wpAny _ _ (call (Value.ref 183) _) _ _ _); walk1) | ((with_reducible show wpAny _ _ (call (Value.ref 539) _) _ _ _); k_dflt (refine' lread_ok ?zzB ?zzF ?zzX ?zzN ?zzT ?zzhk ?zzhdp ?zzhun ?zzhks ?zzhlen ?_; (case zzB => k_asm); (case zzF => k_asm); (case zzX => k_asm); (case zzN => k_asm); (case zzT => k_asm); (case zzhk => first | assumption | rfl); (case zzhdp => ktr_room); (case zzhun => units_room); (case zzhks => exact KBa.ints_make (by assumption)); (case zzhlen => omega)); intro zzt9 zzh9 zztk9 zzF9 zzN9; (try dsimp only)) | ((with_reducible show wpAny _ _ (call (Value.ref 534) _) _ _ _); k_dflt (refine' lk_ok ?zzB ?zzF ?zzX ?zzN ?zzT ?zzhk ?zzhdp ?zzhun ?zzhks ?zzhlen ?zzhb ?_; (case zzB => k_asm); (case zzF => k_asm); (case zzX => k_asm); (case zzN => k_asm); (case zzT => k_asm); (case zzhk => first | assumption | rfl); (case zzhdp => ktr_room); (case zzhun => units_room); (case zzhks => with_reducible assumption); (case zzhlen => omega); (case zzhb => with_reducible assumption)); intro zzt9 zzh9 zztk9 zzF9 zzN9; (try dsimp only)) | ((with_reducible show wpAny _ _ (call (Value.ref 466) _) _ _ _); k_dflt (refine' po_ok ?zzB ?zzF ?zzX ?zzN ?zzT ?zzhk ?zzhdp ?zzhun ?zzhks ?zzhlen ?zzhb ?_; (case zzB => k_asm); (case zzF => k_asm); (case zzX => k_asm); (case zzN => k_asm); (case zzT => k_asm); (case zzhk => first | assumption | rfl); (case zzhdp => ktr_room); (case zzhun => units_room); (case zzhks => with_reducible assumption); (case zzhlen => omega); (case zzhb => with_reducible assumption)); intro zzt9 zzh9 zztk9 zzF9 zzN9; (try dsimp only)) | ((with_reducible show wpAny _ _ (call (Value.ref 478) _) _ _ _); k_dflt (refine' pt_ok ?zzB ?zzF ?zzX ?zzN ?zzT ?zzhk ?zzhdp ?zzhun ?zzhks ?zzhlen ?_; (case zzB => k_asm); (case zzF => k_asm); (case zzX => k_asm); (case zzN => k_asm); (case zzT => k_asm); (case zzhk => first | assumption | rfl); (case zzhdp => ktr_room); (case zzhun => units_room); (case zzhks => first | with_reducible assumption | exact KBa.ints_make (by assumption)); (case zzhlen => first | with_reducible assumption | omega)); intro zzt9 zzh9 zztk9 zzF9 zzN9; (try dsimp only)) | ((with_reducible show wpAny _ _ (call (Value.ref 549) _) _ _ _); k_dflt (refine' data2 ?zzB ?zzF ?zzX ?zzN ?zzT ?zzhk ?zzhdp ?zzhun ?zzhq ?zzU ?zzhi ?zzhlen ?zzhs0 ?zzhs1 ?_; (case zzB => k_asm); (case zzF => k_asm); (case zzX => k_asm); (case zzN => k_asm); (case zzT => k_asm); (case zzhk => first | assumption | rfl); (case zzhdp => ktr_room); (case zzhun => units_room); (case zzU => walk_at "MY UPDF"); (case zzhq => k_mem); (case zzhi => assumption); (case zzhlen => assumption); (case zzhs0 => omega); (case zzhs1 => omega)); intro zzcs9 zzt9 zzv9 zzh9 zztk9 zzhcl9 zzhcm9 zzhs0 zzhs1 zzF9 zzN9; (try dsimp only at zzN9); (try dsimp only)) | ((with_reducible show wpAny _ _ (call (Value.ref 522) _) _ _ _); k_dflt (refine' pick_ok ?zzB ?zzF ?zzX ?zzN ?zzT ?zzhk ?zzhdp ?zzhun ?zzhq ?zzhr ?zzhrp ?zzU ?zzhi ?zzhlen ?zzhm ?zzhm2 ?zzhs0 ?zzhs1 ?_; (case zzB => k_asm); (case zzF => k_asm); (case zzX => k_asm); (case zzN => k_asm); (case zzT => k_asm); (case zzhk => first | assumption | rfl); (case zzhdp => ktr_room); (case zzhun => units_room); (case zzU => walk_at "MY UPDF"); (case zzhq => k_mem); (case zzhi => assumption); (case zzhr => k_mem); (case zzhrp => k_ne); (case zzhlen => assumption); (case zzhm => first | omega | exact Nat.le_of_ble_eq_true rfl); (case zzhm2 => first | omega | exact Nat.le_of_ble_eq_true rfl); (case zzhs0 => omega); (case zzhs1 => omega)); intro zzx9 zzv9 zzh9 zztk9 zzhx9 zzhs0 zzhs1 zzF9 zzN9; (try dsimp only at zzN9); (try dsimp only)) | ((with_reducible show wpAny _ _ (call (Value.ref 515) _) _ _ _); k_dflt (refine' draw2 ?zzB ?zzF ?zzX ?zzN ?zzT ?zzhk ?zzhdp ?zzhun ?zzhq ?zzU ?zzhi ?zzhlen ?zzhm ?zzhm2 ?zzhs0 ?zzhs1 ?_; (case zzB => k_asm); (case zzF => k_asm); (case zzX => k_asm); (case zzN => k_asm); (case zzT => k_asm); (case zzhk => first | assumption | rfl); (case zzhdp => ktr_room); (case zzhun => units_room); (case zzU => walk_at "MY UPDF"); (case zzhq => k_mem); (case zzhi => assumption); (case zzhlen => assumption); (case zzhm => omega); (case zzhm2 => omega); (case zzhs0 => omega); (case zzhs1 => omega)); intro zzd9 zzt9 zzv9 zzh9 zztk9 zzhd0 zzhd1 zzhs0 zzhs1 zzF9 zzN9; (try dsimp only at zzN9); (try dsimp only))) | dsimp only | (leave1; (try dsimp only)) | fail "no step")))))
  all_goals (try k_data)
  rename News _ _ _ _ => N13
  refine' r_neList 2 N13 ?ca ?cb ?cva ?cua ?cd ?cA ?_
  case ca => k_dflt k_mem
  case cb => k_dflt k_mem
  case cva => exact Tup4s.dat (Tup4s.mono hT4 (fun p hp => .tail _ (.tail _ (.tail _ (.tail _ hp)))))
  case cua => exact .cons (.tuple (by k_dflt k_mem) (.cons (.int _ _) (.cons (.str _ _) (.cons (.str _ _) (.cons (.int _ _) .nil))))) (.cons (.tuple (by k_dflt k_mem) (.cons (.int _ _) (.cons (.str _ _) (.cons (.str _ _) (.cons (.int _ _) .nil))))) .nil)
  case cd => exact List.forall_mem_cons.mpr ⟨rfl, List.forall_mem_cons.mpr ⟨rfl, List.forall_mem_nil _⟩⟩
  case cA => units_room
  dsimp only
  ((skip; repeat' ((first | (k_unfold; (try dsimp only)) | (with_reducible refine gen3 ?_; intro _) | ((with_reducible show wpAny _ _ (exec (Stmt.Assign _ _ _) _) _ _ _); k_fold) | ((with_reducible show wpAny _ _ (exec (Stmt.Return _ _) _) _ _ _); k_fold) | ((with_reducible show wpAny _ _ (eval (PySem.Expr.Call _ _ _ _) _) _ _ _); k_fold) | with_reducible refine seq_next ?_ | with_reducible refine seq_ret ?_ | ((fail_if_success (with_reducible show GrownAll _ _)); (fail_if_success (with_reducible show wpAny _ _ (compareOp _ (Value.ref _) (Value.ref _)) _ _ _)); (fail_if_success (with_reducible show wpAny _ _ (exec (Stmt.Assign [PySem.Expr.Name _ _] (PySem.Expr.IfExp _ _ _ _) _) _) _ _ _)); (fail_if_success (with_reducible show wpAny _ _ (exec (Stmt.Assign [PySem.Expr.Name _ _] (PySem.Expr.BinOp _ _ _ _) _) _) _ _ _)); first | (first | ((with_reducible show wpAny _ _ (binaryOp Operator.Add (Value.ref _) (Value.ref _)) _ _ _); with_reducible ((refine' r_addlist ?zzk1 ?zzk2 ?zzk3 ?zzk4 ?zzk5 ?_; (case zzk1 => k_asm); (case zzk2 => k_asm); (case zzk3 => k_dflt k_mem); (case zzk4 => k_dflt k_mem); (case zzk5 => (simp only [List.length_append, List.length_cons, List.length_nil]; omega)); intro zzD' zzh' zzF' zzN' zzhne'))) | ((with_reducible show wpAny _ _ (callWith _ (Value.ref _) _ (backTo _ (starEach [] _)) _) _ _ _); with_reducible ((k_dflt (refine' callWith_K0 ?zzk1 ?zzk2 ?_; (case zzk1 => k_in); (case zzk2 => k_is); k_whole); (try dsimp only)))) | walk_at "MY STEP") | (first | ((with_reducible show wpAny _ _ (call (Value.ref 363) _) _ _ _); k_dflt (refine' shelf_ok ?zzB ?zzF ?zzX ?zzN ?zzT ?zzhk ?zzhdp ?zzhun ?_; (case zzB => k_asm); (case zzF => k_asm); (case zzX => k_asm); (case zzN => k_asm); (case zzT => k_asm); (case zzhk => first | assumption | rfl); (case zzhdp => ktr_room); (case zzhun => units_room)); intro zzsh9 zzd9 zztb9 zztr9 zzoT9 zzoR9 zzk39 zzk49 zzh9 zztk9 zzF9 zzN9 zzhT9 zzhR9 zzlo9 zzlo99 zzlT9 zzlR9; (try dsimp only)) | ((with_reducible show wpAny _ _ (call (Value.ref 254) _) _ _ _); walk1) | ((with_reducible show wpAny _ _ (call (Value.ref 205) _) _ _ _); walk1) | ((with_reducible show wpAny _ _ (call (Value.ref 183) _) _ _ _); walk1) | ((with_reducible show wpAny _ _ (call (Value.ref 539) _) _ _ _); k_dflt (refine' lread_ok ?zzB ?zzF ?zzX ?zzN ?zzT ?zzhk ?zzhdp ?zzhun ?zzhks ?zzhlen ?_; (case zzB => k_asm); (case zzF => k_asm); (case zzX => k_asm); (case zzN => k_asm); (case zzT => k_asm); (case zzhk => first | assumption | rfl); (case zzhdp => ktr_room); (case zzhun => units_room); (case zzhks => exact KBa.ints_make (by assumption)); (case zzhlen => omega)); intro zzt9 zzh9 zztk9 zzF9 zzN9; (try dsimp only)) | ((with_reducible show wpAny _ _ (call (Value.ref 534) _) _ _ _); k_dflt (refine' lk_ok ?zzB ?zzF ?zzX ?zzN ?zzT ?zzhk ?zzhdp ?zzhun ?zzhks ?zzhlen ?zzhb ?_; (case zzB => k_asm); (case zzF => k_asm); (case zzX => k_asm); (case zzN => k_asm); (case zzT => k_asm); (case zzhk => first | assumption | rfl); (case zzhdp => ktr_room); (case zzhun => units_room); (case zzhks => with_reducible assumption); (case zzhlen => omega); (case zzhb => with_reducible assumption)); intro zzt9 zzh9 zztk9 zzF9 zzN9; (try dsimp only)) | ((with_reducible show wpAny _ _ (call (Value.ref 466) _) _ _ _); k_dflt (refine' po_ok ?zzB ?zzF ?zzX ?zzN ?zzT ?zzhk ?zzhdp ?zzhun ?zzhks ?zzhlen ?zzhb ?_; (case zzB => k_asm); (case zzF => k_asm); (case zzX => k_asm); (case zzN => k_asm); (case zzT => k_asm); (case zzhk => first | assumption | rfl); (case zzhdp => ktr_room); (case zzhun => units_room); (case zzhks => with_reducible assumption); (case zzhlen => omega); (case zzhb => with_reducible assumption)); intro zzt9 zzh9 zztk9 zzF9 zzN9; (try dsimp only)) | ((with_reducible show wpAny _ _ (call (Value.ref 478) _) _ _ _); k_dflt (refine' pt_ok ?zzB ?zzF ?zzX ?zzN ?zzT ?zzhk ?zzhdp ?zzhun ?zzhks ?zzhlen ?_; (case zzB => k_asm); (case zzF => k_asm); (case zzX => k_asm); (case zzN => k_asm); (case zzT => k_asm); (case zzhk => first | assumption | rfl); (case zzhdp => ktr_room); (case zzhun => units_room); (case zzhks => first | with_reducible assumption | exact KBa.ints_make (by assumption)); (case zzhlen => first | with_reducible assumption | omega)); intro zzt9 zzh9 zztk9 zzF9 zzN9; (try dsimp only)) | ((with_reducible show wpAny _ _ (call (Value.ref 549) _) _ _ _); k_dflt (refine' data2 ?zzB ?zzF ?zzX ?zzN ?zzT ?zzhk ?zzhdp ?zzhun ?zzhq ?zzU ?zzhi ?zzhlen ?zzhs0 ?zzhs1 ?_; (case zzB => k_asm); (case zzF => k_asm); (case zzX => k_asm); (case zzN => k_asm); (case zzT => k_asm); (case zzhk => first | assumption | rfl); (case zzhdp => ktr_room); (case zzhun => units_room); (case zzU => walk_at "MY UPDF"); (case zzhq => k_mem); (case zzhi => assumption); (case zzhlen => assumption); (case zzhs0 => omega); (case zzhs1 => omega)); intro zzcs9 zzt9 zzv9 zzh9 zztk9 zzhcl9 zzhcm9 zzhs0 zzhs1 zzF9 zzN9; (try dsimp only at zzN9); (try dsimp only)) | ((with_reducible show wpAny _ _ (call (Value.ref 522) _) _ _ _); k_dflt (refine' pick_ok ?zzB ?zzF ?zzX ?zzN ?zzT ?zzhk ?zzhdp ?zzhun ?zzhq ?zzhr ?zzhrp ?zzU ?zzhi ?zzhlen ?zzhm ?zzhm2 ?zzhs0 ?zzhs1 ?_; (case zzB => k_asm); (case zzF => k_asm); (case zzX => k_asm); (case zzN => k_asm); (case zzT => k_asm); (case zzhk => first | assumption | rfl); (case zzhdp => ktr_room); (case zzhun => units_room); (case zzU => walk_at "MY UPDF"); (case zzhq => k_mem); (case zzhi => assumption); (case zzhr => k_mem); (case zzhrp => k_ne); (case zzhlen => assumption); (case zzhm => first | omega | exact Nat.le_of_ble_eq_true rfl); (case zzhm2 => first | omega | exact Nat.le_of_ble_eq_true rfl); (case zzhs0 => omega); (case zzhs1 => omega)); intro zzx9 zzv9 zzh9 zztk9 zzhx9 zzhs0 zzhs1 zzF9 zzN9; (try dsimp only at zzN9); (try dsimp only)) | ((with_reducible show wpAny _ _ (call (Value.ref 515) _) _ _ _); k_dflt (refine' draw2 ?zzB ?zzF ?zzX ?zzN ?zzT ?zzhk ?zzhdp ?zzhun ?zzhq ?zzU ?zzhi ?zzhlen ?zzhm ?zzhm2 ?zzhs0 ?zzhs1 ?_; (case zzB => k_asm); (case zzF => k_asm); (case zzX => k_asm); (case zzN => k_asm); (case zzT => k_asm); (case zzhk => first | assumption | rfl); (case zzhdp => ktr_room); (case zzhun => units_room); (case zzU => walk_at "MY UPDF"); (case zzhq => k_mem); (case zzhi => assumption); (case zzhlen => assumption); (case zzhm => omega); (case zzhm2 => omega); (case zzhs0 => omega); (case zzhs1 => omega)); intro zzd9 zzt9 zzv9 zzh9 zztk9 zzhd0 zzhd1 zzhs0 zzhs1 zzF9 zzN9; (try dsimp only at zzN9); (try dsimp only))) | dsimp only | (leave1; (try dsimp only)) | fail "no step")))))
  all_goals (try k_data)
  exact ret _ _ (by k_asm) (news_sub N13 fun p hp => .tail _ (.tail _ (.tail _ (.tail _ (hkp2 p hp)))))
theorem RawF.mono {news' : List (Addr × Obj)} {V : Addr} {ps : List (Int × Tok × Addr)} {rs : List Rg} (h : RawF w news V ps rs) (hs : ∀ p ∈ news, p ∈ news') : RawF w news' V ps rs :=
  let ⟨tr, row, k, a, b, c, d⟩ := h
  ⟨tr, row, k, a.mono hs, b.mono hs, hs _ c, fun j x t v r e1 e2 => ⟨(d j x t v r e1 e2).1, (d j x t v r e1 e2).2.mono hs⟩⟩
theorem hideK {h : Heap} {V : Addr} {ps : List (Int × Tok × Addr)} {rs : List Rg} {sR sT s1 s2 : Addr × Obj} (c : List (Addr × Obj)) (N : News h₀ L h (c ++ sR :: sT :: s1 :: s2 :: news)) (hF : RawF w c V ps rs) (ht : ∀ x ∈ c, x.1 ≠ sT.1) (hr : ∀ x ∈ c, x.1 ≠ sR.1) (lt : AllLt sT.1 news) (lr : AllLt sR.1 news) :
    ∃ top, News h₀ L h (sT :: sR :: s1 :: s2 :: top) ∧ RawF w top V ps rs ∧ (∀ x ∈ top, x.1 ≠ sT.1) ∧ (∀ x ∈ top, x.1 ≠ sR.1) ∧ ∀ x ∈ news, x ∈ top :=
  ⟨c ++ news, news_sub N fun y hy => by
    simp only [List.mem_cons, List.mem_append] at hy ⊢
    rcases hy with h | h | h | h | h | h <;> simp [h], hF.mono fun _ => List.mem_append_left _, fun x hx => (List.mem_append.mp hx).elim (ht x) (ne_allLt lt x), fun x hx => (List.mem_append.mp hx).elim (hr x) (ne_allLt lr x), fun _ => List.mem_append_right _⟩
theorem turnB {cs : List Int} {t : Tok} (hsc : sc = scopeOf lawDef) (hss : ss = turnBody.drop 2)
   (B : Below callerA base [] h₀) (F : Fr h₀ L s.heap (fun y => if y = "data" then some (.bytes (byteArr cs) t) else m0 y)) (X : (frag.heap_1 w.params).In h₀) (N : News h₀ L s.heap news) (T : Top pv loose mean mg mb h₀)
   (hcl : cs.length ≤ 10) (hcm : KBa.In cs)
   (ret : ∀ sh h' tk', Fr h₀ L h' (fun y => if y = "raw" then some (.ref sh) else if y = "data" then some (.bytes (byteArr cs) t) else m0 y) → News h₀ L h' news → Q .next { s with heap := h', toks := tk' }) :
   wpAny (model pr w) (callerA.deeper (envOf (Str.ofString "law") sc L fa cd)) (execs ss (envOf (Str.ofString "law") sc L fa cd)) Q E s := by
  have hsc' := hsc
  conv at hsc => rhs; whnf
  conv at hss => rhs; whnf
  subst hsc hss
  ((skip; repeat' ((first | (k_unfold; (try dsimp only)) | (with_reducible refine gen3 ?_; intro _) | ((with_reducible show wpAny _ _ (exec (Stmt.Assign _ _ _) _) _ _ _); k_fold) | ((with_reducible show wpAny _ _ (exec (Stmt.Return _ _) _) _ _ _); k_fold) | ((with_reducible show wpAny _ _ (eval (PySem.Expr.Call _ _ _ _) _) _ _ _); k_fold) | with_reducible refine seq_next ?_ | with_reducible refine seq_ret ?_ | ((fail_if_success (with_reducible show GrownAll _ _)); (fail_if_success (with_reducible show wpAny _ _ (compareOp _ (Value.ref _) (Value.ref _)) _ _ _)); (fail_if_success (with_reducible show wpAny _ _ (exec (Stmt.Assign [PySem.Expr.Name _ _] (PySem.Expr.IfExp _ _ _ _) _) _) _ _ _)); (fail_if_success (with_reducible show wpAny _ _ (exec (Stmt.Assign [PySem.Expr.Name _ _] (PySem.Expr.BinOp _ _ _ _) _) _) _ _ _)); first | (first | ((with_reducible show wpAny _ _ (binaryOp Operator.Add (Value.ref _) (Value.ref _)) _ _ _); with_reducible ((refine' r_addlist ?zzk1 ?zzk2 ?zzk3 ?zzk4 ?zzk5 ?_; (case zzk1 => k_asm); (case zzk2 => k_asm); (case zzk3 => k_dflt k_mem); (case zzk4 => k_dflt k_mem); (case zzk5 => (simp only [List.length_append, List.length_cons, List.length_nil]; omega)); intro zzD' zzh' zzF' zzN' zzhne'))) | ((with_reducible show wpAny _ _ (callWith _ (Value.ref _) _ (backTo _ (starEach [] _)) _) _ _ _); with_reducible ((k_dflt (refine' callWith_K0 ?zzk1 ?zzk2 ?_; (case zzk1 => k_in); (case zzk2 => k_is); k_whole); (try dsimp only)))) | walk_at "MY STEP") | (first | ((with_reducible show wpAny _ _ (call (Value.ref 363) _) _ _ _); k_dflt (refine' shelf_ok ?zzB ?zzF ?zzX ?zzN ?zzT ?zzhk ?zzhdp ?zzhun ?_; (case zzB => k_asm); (case zzF => k_asm); (case zzX => k_asm); (case zzN => k_asm); (case zzT => k_asm); (case zzhk => first | assumption | rfl); (case zzhdp => ktr_room); (case zzhun => units_room)); intro zzsh9 zzd9 zztb9 zztr9 zzoT9 zzoR9 zzk39 zzk49 zzh9 zztk9 zzF9 zzN9 zzhT9 zzhR9 zzlo9 zzlo99 zzlT9 zzlR9; (try dsimp only)) | ((with_reducible show wpAny _ _ (call (Value.ref 254) _) _ _ _); walk1) | ((with_reducible show wpAny _ _ (call (Value.ref 205) _) _ _ _); walk1) | ((with_reducible show wpAny _ _ (call (Value.ref 183) _) _ _ _); walk1) | ((with_reducible show wpAny _ _ (call (Value.ref 539) _) _ _ _); k_dflt (refine' lread_ok ?zzB ?zzF ?zzX ?zzN ?zzT ?zzhk ?zzhdp ?zzhun ?zzhks ?zzhlen ?_; (case zzB => k_asm); (case zzF => k_asm); (case zzX => k_asm); (case zzN => k_asm); (case zzT => k_asm); (case zzhk => first | assumption | rfl); (case zzhdp => ktr_room); (case zzhun => units_room); (case zzhks => exact KBa.ints_make (by assumption)); (case zzhlen => omega)); intro zzt9 zzh9 zztk9 zzF9 zzN9; (try dsimp only)) | ((with_reducible show wpAny _ _ (call (Value.ref 534) _) _ _ _); k_dflt (refine' lk_ok ?zzB ?zzF ?zzX ?zzN ?zzT ?zzhk ?zzhdp ?zzhun ?zzhks ?zzhlen ?zzhb ?_; (case zzB => k_asm); (case zzF => k_asm); (case zzX => k_asm); (case zzN => k_asm); (case zzT => k_asm); (case zzhk => first | assumption | rfl); (case zzhdp => ktr_room); (case zzhun => units_room); (case zzhks => with_reducible assumption); (case zzhlen => omega); (case zzhb => with_reducible assumption)); intro zzt9 zzh9 zztk9 zzF9 zzN9; (try dsimp only)) | ((with_reducible show wpAny _ _ (call (Value.ref 466) _) _ _ _); k_dflt (refine' po_ok ?zzB ?zzF ?zzX ?zzN ?zzT ?zzhk ?zzhdp ?zzhun ?zzhks ?zzhlen ?zzhb ?_; (case zzB => k_asm); (case zzF => k_asm); (case zzX => k_asm); (case zzN => k_asm); (case zzT => k_asm); (case zzhk => first | assumption | rfl); (case zzhdp => ktr_room); (case zzhun => units_room); (case zzhks => with_reducible assumption); (case zzhlen => omega); (case zzhb => with_reducible assumption)); intro zzt9 zzh9 zztk9 zzF9 zzN9; (try dsimp only)) | ((with_reducible show wpAny _ _ (call (Value.ref 478) _) _ _ _); k_dflt (refine' pt_ok ?zzB ?zzF ?zzX ?zzN ?zzT ?zzhk ?zzhdp ?zzhun ?zzhks ?zzhlen ?_; (case zzB => k_asm); (case zzF => k_asm); (case zzX => k_asm); (case zzN => k_asm); (case zzT => k_asm); (case zzhk => first | assumption | rfl); (case zzhdp => ktr_room); (case zzhun => units_room); (case zzhks => first | with_reducible assumption | exact KBa.ints_make (by assumption)); (case zzhlen => first | with_reducible assumption | omega)); intro zzt9 zzh9 zztk9 zzF9 zzN9; (try dsimp only)) | ((with_reducible show wpAny _ _ (call (Value.ref 549) _) _ _ _); k_dflt (refine' data2 ?zzB ?zzF ?zzX ?zzN ?zzT ?zzhk ?zzhdp ?zzhun ?zzhq ?zzU ?zzhi ?zzhlen ?zzhs0 ?zzhs1 ?_; (case zzB => k_asm); (case zzF => k_asm); (case zzX => k_asm); (case zzN => k_asm); (case zzT => k_asm); (case zzhk => first | assumption | rfl); (case zzhdp => ktr_room); (case zzhun => units_room); (case zzU => walk_at "MY UPDF"); (case zzhq => k_mem); (case zzhi => assumption); (case zzhlen => assumption); (case zzhs0 => omega); (case zzhs1 => omega)); intro zzcs9 zzt9 zzv9 zzh9 zztk9 zzhcl9 zzhcm9 zzhs0 zzhs1 zzF9 zzN9; (try dsimp only at zzN9); (try dsimp only)) | ((with_reducible show wpAny _ _ (call (Value.ref 522) _) _ _ _); k_dflt (refine' pick_ok ?zzB ?zzF ?zzX ?zzN ?zzT ?zzhk ?zzhdp ?zzhun ?zzhq ?zzhr ?zzhrp ?zzU ?zzhi ?zzhlen ?zzhm ?zzhm2 ?zzhs0 ?zzhs1 ?_; (case zzB => k_asm); (case zzF => k_asm); (case zzX => k_asm); (case zzN => k_asm); (case zzT => k_asm); (case zzhk => first | assumption | rfl); (case zzhdp => ktr_room); (case zzhun => units_room); (case zzU => walk_at "MY UPDF"); (case zzhq => k_mem); (case zzhi => assumption); (case zzhr => k_mem); (case zzhrp => k_ne); (case zzhlen => assumption); (case zzhm => first | omega | exact Nat.le_of_ble_eq_true rfl); (case zzhm2 => first | omega | exact Nat.le_of_ble_eq_true rfl); (case zzhs0 => omega); (case zzhs1 => omega)); intro zzx9 zzv9 zzh9 zztk9 zzhx9 zzhs0 zzhs1 zzF9 zzN9; (try dsimp only at zzN9); (try dsimp only)) | ((with_reducible show wpAny _ _ (call (Value.ref 515) _) _ _ _); k_dflt (refine' draw2 ?zzB ?zzF ?zzX ?zzN ?zzT ?zzhk ?zzhdp ?zzhun ?zzhq ?zzU ?zzhi ?zzhlen ?zzhm ?zzhm2 ?zzhs0 ?zzhs1 ?_; (case zzB => k_asm); (case zzF => k_asm); (case zzX => k_asm); (case zzN => k_asm); (case zzT => k_asm); (case zzhk => first | assumption | rfl); (case zzhdp => ktr_room); (case zzhun => units_room); (case zzU => walk_at "MY UPDF"); (case zzhq => k_mem); (case zzhi => assumption); (case zzhlen => assumption); (case zzhm => omega); (case zzhm2 => omega); (case zzhs0 => omega); (case zzhs1 => omega)); intro zzd9 zzt9 zzv9 zzh9 zztk9 zzhd0 zzhd1 zzhs0 zzhs1 zzF9 zzN9; (try dsimp only at zzN9); (try dsimp only))) | dsimp only | (leave1; (try dsimp only)) | fail "no step")))))
  all_goals (try k_data)
  rename News _ _ _ _ => N7
  obtain ⟨top, N8, hF, htT, htR, hnt⟩ := hideK (ps := [(0, _, _), (4, _, _)]) (rs := [(0, Str.ofString "", rdT _, 1), (4, Str.ofString "D", [], 1)]) [_, _, _, _, _, _, _, _, _] N7 ⟨_, _, _, din_of (by assumption) (by k_mem) (by assumption), din_of (by assumption) (by k_mem) (by assumption), by k_mem, two_at ⟨rfl, rok_P (din_of (by assumption) (by k_mem) (by assumption)) (by k_mem) (by k_mem) (by assumption) (by omega)⟩ ⟨rfl, rok_S (din_of (by assumption) (by k_mem) (by assumption)) (by k_mem) (by k_mem)⟩⟩ (by repeat (first | exact all0 | refine all_app (by k_ne) ?_)) (by repeat (first | exact all0 | refine all_app (by k_ne) ?_)) zzlT9.2.2 zzlR9.2.2.2
  clear N7
  dsimp only at htT htR N8
  k_dflt (refine' add_ok ?aB ?aF ?aX ?aN ?aT ?ahk ?ahdp ?ahun ?am1 ?am2 ?ahd ?alo ?ahr ?aret)
  case aB => k_asm
  case aF => k_asm
  case aX => k_asm
  case aN => exact N8
  case aT => k_asm
  case ahk => rfl
  case ahdp => ktr_room
  case ahun => units_room
  case am1 => k_mem
  case am2 => k_mem
  case ahd => assumption
  case alo => assumption
  case ahr => exact all_app (by k_ne) (all_app (by k_ne) (all_app (by k_ne) htT))
  intro rf d1 tp oT' t1 t2 t3 k1 k2 n4 h4 tk4 F4 N10 hdT lt1 lt2 lt3
  have hR : ∀ x ∈ (zzsh9, instObj 363 zzd9) :: (zzd9, shD w zztb9 zztr9 zzk39 zzk49) :: top, x.1 ≠ zztr9 := all_app (by k_ne) (all_app (by k_ne) htR)
  obtain ⟨la1, la2, la3, la9⟩ := lt1
  dsimp only at la1 la2 la3
  ((skip; repeat' ((fail_if_success (with_reducible show wpAny _ _ (execs [Stmt.If _ _ _ _] _) _ _ _)); ((first | (k_unfold; (try dsimp only)) | (with_reducible refine gen3 ?_; intro _) | ((with_reducible show wpAny _ _ (exec (Stmt.Assign _ _ _) _) _ _ _); k_fold) | ((with_reducible show wpAny _ _ (exec (Stmt.Return _ _) _) _ _ _); k_fold) | ((with_reducible show wpAny _ _ (eval (PySem.Expr.Call _ _ _ _) _) _ _ _); k_fold) | with_reducible refine seq_next ?_ | with_reducible refine seq_ret ?_ | ((fail_if_success (with_reducible show GrownAll _ _)); (fail_if_success (with_reducible show wpAny _ _ (compareOp _ (Value.ref _) (Value.ref _)) _ _ _)); (fail_if_success (with_reducible show wpAny _ _ (exec (Stmt.Assign [PySem.Expr.Name _ _] (PySem.Expr.IfExp _ _ _ _) _) _) _ _ _)); (fail_if_success (with_reducible show wpAny _ _ (exec (Stmt.Assign [PySem.Expr.Name _ _] (PySem.Expr.BinOp _ _ _ _) _) _) _ _ _)); first | (first | ((with_reducible show wpAny _ _ (binaryOp Operator.Add (Value.ref _) (Value.ref _)) _ _ _); with_reducible ((refine' r_addlist ?zzk1 ?zzk2 ?zzk3 ?zzk4 ?zzk5 ?_; (case zzk1 => k_asm); (case zzk2 => k_asm); (case zzk3 => k_dflt k_mem); (case zzk4 => k_dflt k_mem); (case zzk5 => (simp only [List.length_append, List.length_cons, List.length_nil]; omega)); intro zzD' zzh' zzF' zzN' zzhne'))) | ((with_reducible show wpAny _ _ (callWith _ (Value.ref _) _ (backTo _ (starEach [] _)) _) _ _ _); with_reducible ((k_dflt (refine' callWith_K0 ?zzk1 ?zzk2 ?_; (case zzk1 => k_in); (case zzk2 => k_is); k_whole); (try dsimp only)))) | walk_at "MY STEP") | (first | ((with_reducible show wpAny _ _ (call (Value.ref 363) _) _ _ _); k_dflt (refine' shelf_ok ?zzB ?zzF ?zzX ?zzN ?zzT ?zzhk ?zzhdp ?zzhun ?_; (case zzB => k_asm); (case zzF => k_asm); (case zzX => k_asm); (case zzN => k_asm); (case zzT => k_asm); (case zzhk => first | assumption | rfl); (case zzhdp => ktr_room); (case zzhun => units_room)); intro zzsh9 zzd9 zztb9 zztr9 zzoT9 zzoR9 zzk39 zzk49 zzh9 zztk9 zzF9 zzN9 zzhT9 zzhR9 zzlo9 zzlo99 zzlT9 zzlR9; (try dsimp only)) | ((with_reducible show wpAny _ _ (call (Value.ref 254) _) _ _ _); walk1) | ((with_reducible show wpAny _ _ (call (Value.ref 205) _) _ _ _); walk1) | ((with_reducible show wpAny _ _ (call (Value.ref 183) _) _ _ _); walk1) | ((with_reducible show wpAny _ _ (call (Value.ref 539) _) _ _ _); k_dflt (refine' lread_ok ?zzB ?zzF ?zzX ?zzN ?zzT ?zzhk ?zzhdp ?zzhun ?zzhks ?zzhlen ?_; (case zzB => k_asm); (case zzF => k_asm); (case zzX => k_asm); (case zzN => k_asm); (case zzT => k_asm); (case zzhk => first | assumption | rfl); (case zzhdp => ktr_room); (case zzhun => units_room); (case zzhks => exact KBa.ints_make (by assumption)); (case zzhlen => omega)); intro zzt9 zzh9 zztk9 zzF9 zzN9; (try dsimp only)) | ((with_reducible show wpAny _ _ (call (Value.ref 534) _) _ _ _); k_dflt (refine' lk_ok ?zzB ?zzF ?zzX ?zzN ?zzT ?zzhk ?zzhdp ?zzhun ?zzhks ?zzhlen ?zzhb ?_; (case zzB => k_asm); (case zzF => k_asm); (case zzX => k_asm); (case zzN => k_asm); (case zzT => k_asm); (case zzhk => first | assumption | rfl); (case zzhdp => ktr_room); (case zzhun => units_room); (case zzhks => with_reducible assumption); (case zzhlen => omega); (case zzhb => with_reducible assumption)); intro zzt9 zzh9 zztk9 zzF9 zzN9; (try dsimp only)) | ((with_reducible show wpAny _ _ (call (Value.ref 466) _) _ _ _); k_dflt (refine' po_ok ?zzB ?zzF ?zzX ?zzN ?zzT ?zzhk ?zzhdp ?zzhun ?zzhks ?zzhlen ?zzhb ?_; (case zzB => k_asm); (case zzF => k_asm); (case zzX => k_asm); (case zzN => k_asm); (case zzT => k_asm); (case zzhk => first | assumption | rfl); (case zzhdp => ktr_room); (case zzhun => units_room); (case zzhks => with_reducible assumption); (case zzhlen => omega); (case zzhb => with_reducible assumption)); intro zzt9 zzh9 zztk9 zzF9 zzN9; (try dsimp only)) | ((with_reducible show wpAny _ _ (call (Value.ref 478) _) _ _ _); k_dflt (refine' pt_ok ?zzB ?zzF ?zzX ?zzN ?zzT ?zzhk ?zzhdp ?zzhun ?zzhks ?zzhlen ?_; (case zzB => k_asm); (case zzF => k_asm); (case zzX => k_asm); (case zzN => k_asm); (case zzT => k_asm); (case zzhk => first | assumption | rfl); (case zzhdp => ktr_room); (case zzhun => units_room); (case zzhks => first | with_reducible assumption | exact KBa.ints_make (by assumption)); (case zzhlen => first | with_reducible assumption | omega)); intro zzt9 zzh9 zztk9 zzF9 zzN9; (try dsimp only)) | ((with_reducible show wpAny _ _ (call (Value.ref 549) _) _ _ _); k_dflt (refine' data2 ?zzB ?zzF ?zzX ?zzN ?zzT ?zzhk ?zzhdp ?zzhun ?zzhq ?zzU ?zzhi ?zzhlen ?zzhs0 ?zzhs1 ?_; (case zzB => k_asm); (case zzF => k_asm); (case zzX => k_asm); (case zzN => k_asm); (case zzT => k_asm); (case zzhk => first | assumption | rfl); (case zzhdp => ktr_room); (case zzhun => units_room); (case zzU => walk_at "MY UPDF"); (case zzhq => k_mem); (case zzhi => assumption); (case zzhlen => assumption); (case zzhs0 => omega); (case zzhs1 => omega)); intro zzcs9 zzt9 zzv9 zzh9 zztk9 zzhcl9 zzhcm9 zzhs0 zzhs1 zzF9 zzN9; (try dsimp only at zzN9); (try dsimp only)) | ((with_reducible show wpAny _ _ (call (Value.ref 522) _) _ _ _); k_dflt (refine' pick_ok ?zzB ?zzF ?zzX ?zzN ?zzT ?zzhk ?zzhdp ?zzhun ?zzhq ?zzhr ?zzhrp ?zzU ?zzhi ?zzhlen ?zzhm ?zzhm2 ?zzhs0 ?zzhs1 ?_; (case zzB => k_asm); (case zzF => k_asm); (case zzX => k_asm); (case zzN => k_asm); (case zzT => k_asm); (case zzhk => first | assumption | rfl); (case zzhdp => ktr_room); (case zzhun => units_room); (case zzU => walk_at "MY UPDF"); (case zzhq => k_mem); (case zzhi => assumption); (case zzhr => k_mem); (case zzhrp => k_ne); (case zzhlen => assumption); (case zzhm => first | omega | exact Nat.le_of_ble_eq_true rfl); (case zzhm2 => first | omega | exact Nat.le_of_ble_eq_true rfl); (case zzhs0 => omega); (case zzhs1 => omega)); intro zzx9 zzv9 zzh9 zztk9 zzhx9 zzhs0 zzhs1 zzF9 zzN9; (try dsimp only at zzN9); (try dsimp only)) | ((with_reducible show wpAny _ _ (call (Value.ref 515) _) _ _ _); k_dflt (refine' draw2 ?zzB ?zzF ?zzX ?zzN ?zzT ?zzhk ?zzhdp ?zzhun ?zzhq ?zzU ?zzhi ?zzhlen ?zzhm ?zzhm2 ?zzhs0 ?zzhs1 ?_; (case zzB => k_asm); (case zzF => k_asm); (case zzX => k_asm); (case zzN => k_asm); (case zzT => k_asm); (case zzhk => first | assumption | rfl); (case zzhdp => ktr_room); (case zzhun => units_room); (case zzU => walk_at "MY UPDF"); (case zzhq => k_mem); (case zzhi => assumption); (case zzhlen => assumption); (case zzhm => omega); (case zzhm2 => omega); (case zzhs0 => omega); (case zzhs1 => omega)); intro zzd9 zzt9 zzv9 zzh9 zztk9 zzhd0 zzhd1 zzhs0 zzhs1 zzF9 zzN9; (try dsimp only at zzN9); (try dsimp only))) | dsimp only | (leave1; (try dsimp only)) | fail "no step"))))))
  all_goals (try k_data)
  refine turnC hsc' rfl (by k_asm) (by k_asm) X (by k_asm) T ⟨_, _, _, ⟨_, _, _, by k_mem, by k_mem⟩, root_of (by k_mem) (by k_mem) (by k_mem) hdT (by assumption) (by k_mem) (by k_mem) (by assumption) (by assumption) (by k_mem) (by k_mem), hF.mono fun p hp => by repeat (first | exact hp | refine List.Mem.tail _ ?_)⟩ hcl hcm (fun p hp => by have hp := hnt p hp; repeat (first | exact hp | refine List.Mem.tail _ ?_)) fun h' tk' F' N' => ret _ h' tk' F' N'
section
theorem turnA {p q : Addr} {us : List Value} {ms : List Int} {k : Nat} {v : PenV} {news' : PenV → List (Addr × Obj)} (hsc : sc = scopeOf lawDef) (hss : ss = turnBody)
   (B : Below callerA base [] h₀) (F : Fr h₀ L s.heap m0) (X : (frag.heap_1 w.params).In h₀) (N : News h₀ L s.heap news) (T : Top pv loose mean mg mb h₀)
   (hpen : m0 (Str.ofString "pen") = some (.ref p)) (hq : (q, lstO us k) ∈ news) (U : UpdF p (penV q v) (penV q) news news') (hi : IntsAre us ms) (hlen : ms.length ≤ 40) (hs0 : 0 ≤ v.spot) (hs1 : v.spot ≤ 900)
   (ret : ∀ v' t cs sh h' tk', 0 ≤ v'.spot → v'.spot ≤ v.spot + 10 → Fr h₀ L h' (fun y => if y = "raw" then some (.ref sh) else if y = "data" then some (.bytes (byteArr cs) t) else m0 y) → News h₀ L h' (news' v') → Q .next { s with heap := h', toks := tk' }) :
   wpAny (model pr w) (callerA.deeper (envOf (Str.ofString "law") sc L fa cd)) (execs ss (envOf (Str.ofString "law") sc L fa cd)) Q E s := by
  have hsc' := hsc
  conv at hsc => rhs; whnf
  conv at hss => rhs; whnf
  subst hsc hss
  ((skip; repeat' ((fail_if_success (with_reducible show wpAny _ _ (execs (Stmt.Assign _ (PySem.Expr.Call _ [] [] _) _ :: _) _) _ _ _)); (fail_if_success (with_reducible show wpAny _ _ (call (Value.ref 549) _) _ _ _)); ((first | (k_unfold; (try dsimp only)) | (with_reducible refine gen3 ?_; intro _) | ((with_reducible show wpAny _ _ (exec (Stmt.Assign _ _ _) _) _ _ _); k_fold) | ((with_reducible show wpAny _ _ (exec (Stmt.Return _ _) _) _ _ _); k_fold) | ((with_reducible show wpAny _ _ (eval (PySem.Expr.Call _ _ _ _) _) _ _ _); k_fold) | with_reducible refine seq_next ?_ | with_reducible refine seq_ret ?_ | ((fail_if_success (with_reducible show GrownAll _ _)); (fail_if_success (with_reducible show wpAny _ _ (compareOp _ (Value.ref _) (Value.ref _)) _ _ _)); (fail_if_success (with_reducible show wpAny _ _ (exec (Stmt.Assign [PySem.Expr.Name _ _] (PySem.Expr.IfExp _ _ _ _) _) _) _ _ _)); (fail_if_success (with_reducible show wpAny _ _ (exec (Stmt.Assign [PySem.Expr.Name _ _] (PySem.Expr.BinOp _ _ _ _) _) _) _ _ _)); first | (first | ((with_reducible show wpAny _ _ (eval (PySem.Expr.Name _ _) _) _ _ _); (refine' ld ?zzk1 ?zzk2 ?_; (case zzk1 => with_reducible assumption); (case zzk2 => with_unfolding_all exact hpen); k_whole)) | ((with_reducible show wpAny _ _ (binaryOp Operator.Add (Value.ref _) (Value.ref _)) _ _ _); with_reducible ((refine' r_addlist ?zzk1 ?zzk2 ?zzk3 ?zzk4 ?zzk5 ?_; (case zzk1 => k_asm); (case zzk2 => k_asm); (case zzk3 => k_dflt k_mem); (case zzk4 => k_dflt k_mem); (case zzk5 => (simp only [List.length_append, List.length_cons, List.length_nil]; omega)); intro zzD' zzh' zzF' zzN' zzhne'))) | ((with_reducible show wpAny _ _ (callWith _ (Value.ref _) _ (backTo _ (starEach [] _)) _) _ _ _); with_reducible ((k_dflt (refine' callWith_K0 ?zzk1 ?zzk2 ?_; (case zzk1 => k_in); (case zzk2 => k_is); k_whole); (try dsimp only)))) | walk_at "MY STEP") | (first | ((with_reducible show wpAny _ _ (call (Value.ref 363) _) _ _ _); k_dflt (refine' shelf_ok ?zzB ?zzF ?zzX ?zzN ?zzT ?zzhk ?zzhdp ?zzhun ?_; (case zzB => k_asm); (case zzF => k_asm); (case zzX => k_asm); (case zzN => k_asm); (case zzT => k_asm); (case zzhk => first | assumption | rfl); (case zzhdp => ktr_room); (case zzhun => units_room)); intro zzsh9 zzd9 zztb9 zztr9 zzoT9 zzoR9 zzk39 zzk49 zzh9 zztk9 zzF9 zzN9 zzhT9 zzhR9 zzlo9 zzlo99 zzlT9 zzlR9; (try dsimp only)) | ((with_reducible show wpAny _ _ (call (Value.ref 254) _) _ _ _); walk1) | ((with_reducible show wpAny _ _ (call (Value.ref 205) _) _ _ _); walk1) | ((with_reducible show wpAny _ _ (call (Value.ref 183) _) _ _ _); walk1) | ((with_reducible show wpAny _ _ (call (Value.ref 539) _) _ _ _); k_dflt (refine' lread_ok ?zzB ?zzF ?zzX ?zzN ?zzT ?zzhk ?zzhdp ?zzhun ?zzhks ?zzhlen ?_; (case zzB => k_asm); (case zzF => k_asm); (case zzX => k_asm); (case zzN => k_asm); (case zzT => k_asm); (case zzhk => first | assumption | rfl); (case zzhdp => ktr_room); (case zzhun => units_room); (case zzhks => exact KBa.ints_make (by assumption)); (case zzhlen => omega)); intro zzt9 zzh9 zztk9 zzF9 zzN9; (try dsimp only)) | ((with_reducible show wpAny _ _ (call (Value.ref 534) _) _ _ _); k_dflt (refine' lk_ok ?zzB ?zzF ?zzX ?zzN ?zzT ?zzhk ?zzhdp ?zzhun ?zzhks ?zzhlen ?zzhb ?_; (case zzB => k_asm); (case zzF => k_asm); (case zzX => k_asm); (case zzN => k_asm); (case zzT => k_asm); (case zzhk => first | assumption | rfl); (case zzhdp => ktr_room); (case zzhun => units_room); (case zzhks => with_reducible assumption); (case zzhlen => omega); (case zzhb => with_reducible assumption)); intro zzt9 zzh9 zztk9 zzF9 zzN9; (try dsimp only)) | ((with_reducible show wpAny _ _ (call (Value.ref 466) _) _ _ _); k_dflt (refine' po_ok ?zzB ?zzF ?zzX ?zzN ?zzT ?zzhk ?zzhdp ?zzhun ?zzhks ?zzhlen ?zzhb ?_; (case zzB => k_asm); (case zzF => k_asm); (case zzX => k_asm); (case zzN => k_asm); (case zzT => k_asm); (case zzhk => first | assumption | rfl); (case zzhdp => ktr_room); (case zzhun => units_room); (case zzhks => with_reducible assumption); (case zzhlen => omega); (case zzhb => with_reducible assumption)); intro zzt9 zzh9 zztk9 zzF9 zzN9; (try dsimp only)) | ((with_reducible show wpAny _ _ (call (Value.ref 478) _) _ _ _); k_dflt (refine' pt_ok ?zzB ?zzF ?zzX ?zzN ?zzT ?zzhk ?zzhdp ?zzhun ?zzhks ?zzhlen ?_; (case zzB => k_asm); (case zzF => k_asm); (case zzX => k_asm); (case zzN => k_asm); (case zzT => k_asm); (case zzhk => first | assumption | rfl); (case zzhdp => ktr_room); (case zzhun => units_room); (case zzhks => first | with_reducible assumption | exact KBa.ints_make (by assumption)); (case zzhlen => first | with_reducible assumption | omega)); intro zzt9 zzh9 zztk9 zzF9 zzN9; (try dsimp only)) | ((with_reducible show wpAny _ _ (call (Value.ref 549) _) _ _ _); k_dflt (refine' data2 ?zzB ?zzF ?zzX ?zzN ?zzT ?zzhk ?zzhdp ?zzhun ?zzhq ?zzU ?zzhi ?zzhlen ?zzhs0 ?zzhs1 ?_; (case zzB => k_asm); (case zzF => k_asm); (case zzX => k_asm); (case zzN => k_asm); (case zzT => k_asm); (case zzhk => first | assumption | rfl); (case zzhdp => ktr_room); (case zzhun => units_room); (case zzU => walk_at "MY UPDF"); (case zzhq => k_mem); (case zzhi => assumption); (case zzhlen => assumption); (case zzhs0 => omega); (case zzhs1 => omega)); intro zzcs9 zzt9 zzv9 zzh9 zztk9 zzhcl9 zzhcm9 zzhs0 zzhs1 zzF9 zzN9; (try dsimp only at zzN9); (try dsimp only)) | ((with_reducible show wpAny _ _ (call (Value.ref 522) _) _ _ _); k_dflt (refine' pick_ok ?zzB ?zzF ?zzX ?zzN ?zzT ?zzhk ?zzhdp ?zzhun ?zzhq ?zzhr ?zzhrp ?zzU ?zzhi ?zzhlen ?zzhm ?zzhm2 ?zzhs0 ?zzhs1 ?_; (case zzB => k_asm); (case zzF => k_asm); (case zzX => k_asm); (case zzN => k_asm); (case zzT => k_asm); (case zzhk => first | assumption | rfl); (case zzhdp => ktr_room); (case zzhun => units_room); (case zzU => walk_at "MY UPDF"); (case zzhq => k_mem); (case zzhi => assumption); (case zzhr => k_mem); (case zzhrp => k_ne); (case zzhlen => assumption); (case zzhm => first | omega | exact Nat.le_of_ble_eq_true rfl); (case zzhm2 => first | omega | exact Nat.le_of_ble_eq_true rfl); (case zzhs0 => omega); (case zzhs1 => omega)); intro zzx9 zzv9 zzh9 zztk9 zzhx9 zzhs0 zzhs1 zzF9 zzN9; (try dsimp only at zzN9); (try dsimp only)) | ((with_reducible show wpAny _ _ (call (Value.ref 515) _) _ _ _); k_dflt (refine' draw2 ?zzB ?zzF ?zzX ?zzN ?zzT ?zzhk ?zzhdp ?zzhun ?zzhq ?zzU ?zzhi ?zzhlen ?zzhm ?zzhm2 ?zzhs0 ?zzhs1 ?_; (case zzB => k_asm); (case zzF => k_asm); (case zzX => k_asm); (case zzN => k_asm); (case zzT => k_asm); (case zzhk => first | assumption | rfl); (case zzhdp => ktr_room); (case zzhun => units_room); (case zzU => walk_at "MY UPDF"); (case zzhq => k_mem); (case zzhi => assumption); (case zzhlen => assumption); (case zzhm => omega); (case zzhm2 => omega); (case zzhs0 => omega); (case zzhs1 => omega)); intro zzd9 zzt9 zzv9 zzh9 zztk9 zzhd0 zzhd1 zzhs0 zzhs1 zzF9 zzN9; (try dsimp only at zzN9); (try dsimp only))) | dsimp only | (leave1; (try dsimp only)) | fail "no step"))))))
  all_goals (try k_data)
  k_dflt (refine' data2 ?tB ?tF ?tX ?tN ?tT ?thk ?thdp ?thun hq U hi hlen hs0 hs1 ?tret)
  case tB => k_asm
  case tF => k_asm
  case tX => k_asm
  case tN => k_asm
  case tT => k_asm
  case thk => rfl
  case thdp => ktr_room
  case thun => units_room
  intro cs t v' h' tk' hcl hcm hv0 hv1 F2 N2
  ((skip; repeat' ((fail_if_success (with_reducible show wpAny _ _ (execs (Stmt.Assign _ (PySem.Expr.Call _ [] [] _) _ :: _) _) _ _ _)); (fail_if_success (with_reducible show wpAny _ _ (call (Value.ref 549) _) _ _ _)); ((first | (k_unfold; (try dsimp only)) | (with_reducible refine gen3 ?_; intro _) | ((with_reducible show wpAny _ _ (exec (Stmt.Assign _ _ _) _) _ _ _); k_fold) | ((with_reducible show wpAny _ _ (exec (Stmt.Return _ _) _) _ _ _); k_fold) | ((with_reducible show wpAny _ _ (eval (PySem.Expr.Call _ _ _ _) _) _ _ _); k_fold) | with_reducible refine seq_next ?_ | with_reducible refine seq_ret ?_ | ((fail_if_success (with_reducible show GrownAll _ _)); (fail_if_success (with_reducible show wpAny _ _ (compareOp _ (Value.ref _) (Value.ref _)) _ _ _)); (fail_if_success (with_reducible show wpAny _ _ (exec (Stmt.Assign [PySem.Expr.Name _ _] (PySem.Expr.IfExp _ _ _ _) _) _) _ _ _)); (fail_if_success (with_reducible show wpAny _ _ (exec (Stmt.Assign [PySem.Expr.Name _ _] (PySem.Expr.BinOp _ _ _ _) _) _) _ _ _)); first | (first | ((with_reducible show wpAny _ _ (eval (PySem.Expr.Name _ _) _) _ _ _); (refine' ld ?zzk1 ?zzk2 ?_; (case zzk1 => with_reducible assumption); (case zzk2 => with_unfolding_all exact hpen); k_whole)) | ((with_reducible show wpAny _ _ (binaryOp Operator.Add (Value.ref _) (Value.ref _)) _ _ _); with_reducible ((refine' r_addlist ?zzk1 ?zzk2 ?zzk3 ?zzk4 ?zzk5 ?_; (case zzk1 => k_asm); (case zzk2 => k_asm); (case zzk3 => k_dflt k_mem); (case zzk4 => k_dflt k_mem); (case zzk5 => (simp only [List.length_append, List.length_cons, List.length_nil]; omega)); intro zzD' zzh' zzF' zzN' zzhne'))) | ((with_reducible show wpAny _ _ (callWith _ (Value.ref _) _ (backTo _ (starEach [] _)) _) _ _ _); with_reducible ((k_dflt (refine' callWith_K0 ?zzk1 ?zzk2 ?_; (case zzk1 => k_in); (case zzk2 => k_is); k_whole); (try dsimp only)))) | walk_at "MY STEP") | (first | ((with_reducible show wpAny _ _ (call (Value.ref 363) _) _ _ _); k_dflt (refine' shelf_ok ?zzB ?zzF ?zzX ?zzN ?zzT ?zzhk ?zzhdp ?zzhun ?_; (case zzB => k_asm); (case zzF => k_asm); (case zzX => k_asm); (case zzN => k_asm); (case zzT => k_asm); (case zzhk => first | assumption | rfl); (case zzhdp => ktr_room); (case zzhun => units_room)); intro zzsh9 zzd9 zztb9 zztr9 zzoT9 zzoR9 zzk39 zzk49 zzh9 zztk9 zzF9 zzN9 zzhT9 zzhR9 zzlo9 zzlo99 zzlT9 zzlR9; (try dsimp only)) | ((with_reducible show wpAny _ _ (call (Value.ref 254) _) _ _ _); walk1) | ((with_reducible show wpAny _ _ (call (Value.ref 205) _) _ _ _); walk1) | ((with_reducible show wpAny _ _ (call (Value.ref 183) _) _ _ _); walk1) | ((with_reducible show wpAny _ _ (call (Value.ref 539) _) _ _ _); k_dflt (refine' lread_ok ?zzB ?zzF ?zzX ?zzN ?zzT ?zzhk ?zzhdp ?zzhun ?zzhks ?zzhlen ?_; (case zzB => k_asm); (case zzF => k_asm); (case zzX => k_asm); (case zzN => k_asm); (case zzT => k_asm); (case zzhk => first | assumption | rfl); (case zzhdp => ktr_room); (case zzhun => units_room); (case zzhks => exact KBa.ints_make (by assumption)); (case zzhlen => omega)); intro zzt9 zzh9 zztk9 zzF9 zzN9; (try dsimp only)) | ((with_reducible show wpAny _ _ (call (Value.ref 534) _) _ _ _); k_dflt (refine' lk_ok ?zzB ?zzF ?zzX ?zzN ?zzT ?zzhk ?zzhdp ?zzhun ?zzhks ?zzhlen ?zzhb ?_; (case zzB => k_asm); (case zzF => k_asm); (case zzX => k_asm); (case zzN => k_asm); (case zzT => k_asm); (case zzhk => first | assumption | rfl); (case zzhdp => ktr_room); (case zzhun => units_room); (case zzhks => with_reducible assumption); (case zzhlen => omega); (case zzhb => with_reducible assumption)); intro zzt9 zzh9 zztk9 zzF9 zzN9; (try dsimp only)) | ((with_reducible show wpAny _ _ (call (Value.ref 466) _) _ _ _); k_dflt (refine' po_ok ?zzB ?zzF ?zzX ?zzN ?zzT ?zzhk ?zzhdp ?zzhun ?zzhks ?zzhlen ?zzhb ?_; (case zzB => k_asm); (case zzF => k_asm); (case zzX => k_asm); (case zzN => k_asm); (case zzT => k_asm); (case zzhk => first | assumption | rfl); (case zzhdp => ktr_room); (case zzhun => units_room); (case zzhks => with_reducible assumption); (case zzhlen => omega); (case zzhb => with_reducible assumption)); intro zzt9 zzh9 zztk9 zzF9 zzN9; (try dsimp only)) | ((with_reducible show wpAny _ _ (call (Value.ref 478) _) _ _ _); k_dflt (refine' pt_ok ?zzB ?zzF ?zzX ?zzN ?zzT ?zzhk ?zzhdp ?zzhun ?zzhks ?zzhlen ?_; (case zzB => k_asm); (case zzF => k_asm); (case zzX => k_asm); (case zzN => k_asm); (case zzT => k_asm); (case zzhk => first | assumption | rfl); (case zzhdp => ktr_room); (case zzhun => units_room); (case zzhks => first | with_reducible assumption | exact KBa.ints_make (by assumption)); (case zzhlen => first | with_reducible assumption | omega)); intro zzt9 zzh9 zztk9 zzF9 zzN9; (try dsimp only)) | ((with_reducible show wpAny _ _ (call (Value.ref 549) _) _ _ _); k_dflt (refine' data2 ?zzB ?zzF ?zzX ?zzN ?zzT ?zzhk ?zzhdp ?zzhun ?zzhq ?zzU ?zzhi ?zzhlen ?zzhs0 ?zzhs1 ?_; (case zzB => k_asm); (case zzF => k_asm); (case zzX => k_asm); (case zzN => k_asm); (case zzT => k_asm); (case zzhk => first | assumption | rfl); (case zzhdp => ktr_room); (case zzhun => units_room); (case zzU => walk_at "MY UPDF"); (case zzhq => k_mem); (case zzhi => assumption); (case zzhlen => assumption); (case zzhs0 => omega); (case zzhs1 => omega)); intro zzcs9 zzt9 zzv9 zzh9 zztk9 zzhcl9 zzhcm9 zzhs0 zzhs1 zzF9 zzN9; (try dsimp only at zzN9); (try dsimp only)) | ((with_reducible show wpAny _ _ (call (Value.ref 522) _) _ _ _); k_dflt (refine' pick_ok ?zzB ?zzF ?zzX ?zzN ?zzT ?zzhk ?zzhdp ?zzhun ?zzhq ?zzhr ?zzhrp ?zzU ?zzhi ?zzhlen ?zzhm ?zzhm2 ?zzhs0 ?zzhs1 ?_; (case zzB => k_asm); (case zzF => k_asm); (case zzX => k_asm); (case zzN => k_asm); (case zzT => k_asm); (case zzhk => first | assumption | rfl); (case zzhdp => ktr_room); (case zzhun => units_room); (case zzU => walk_at "MY UPDF"); (case zzhq => k_mem); (case zzhi => assumption); (case zzhr => k_mem); (case zzhrp => k_ne); (case zzhlen => assumption); (case zzhm => first | omega | exact Nat.le_of_ble_eq_true rfl); (case zzhm2 => first | omega | exact Nat.le_of_ble_eq_true rfl); (case zzhs0 => omega); (case zzhs1 => omega)); intro zzx9 zzv9 zzh9 zztk9 zzhx9 zzhs0 zzhs1 zzF9 zzN9; (try dsimp only at zzN9); (try dsimp only)) | ((with_reducible show wpAny _ _ (call (Value.ref 515) _) _ _ _); k_dflt (refine' draw2 ?zzB ?zzF ?zzX ?zzN ?zzT ?zzhk ?zzhdp ?zzhun ?zzhq ?zzU ?zzhi ?zzhlen ?zzhm ?zzhm2 ?zzhs0 ?zzhs1 ?_; (case zzB => k_asm); (case zzF => k_asm); (case zzX => k_asm); (case zzN => k_asm); (case zzT => k_asm); (case zzhk => first | assumption | rfl); (case zzhdp => ktr_room); (case zzhun => units_room); (case zzU => walk_at "MY UPDF"); (case zzhq => k_mem); (case zzhi => assumption); (case zzhlen => assumption); (case zzhm => omega); (case zzhm2 => omega); (case zzhs0 => omega); (case zzhs1 => omega)); intro zzd9 zzt9 zzv9 zzh9 zztk9 zzhd0 zzhd1 zzhs0 zzhs1 zzF9 zzN9; (try dsimp only at zzN9); (try dsimp only))) | dsimp only | (leave1; (try dsimp only)) | fail "no step"))))))
  all_goals (try k_data)
  · rename ((_ != _) = true) => hbad
    exact absurd hbad (by simp)
  refine turnB hsc' rfl (by k_asm) (by k_asm) X (by k_asm) T hcl hcm fun sh h' tk' F' N' => ret v' t cs sh h' tk' hv0 hv1 F' N'
end
abbrev tailM (D : Addr) (i : Int) (ti : Tok) (x : Str) (tx : Tok) (n : Int) (tn : Tok) (cs : List Int) (tc : Tok) (m0 : Str → Option Value) : Str → Option Value := fun y => if y = "tree" then some (.ref D) else if y = "first" then some (.int i ti) else if y = "style" then some (.str x tx) else if y = "start" then some (.int n tn) else if y = "text" then some (.str (KStt.txt cs) tc) else m0 y
theorem tailE {D sh : Addr} {i n : Int} {ti tx tn tc u : Tok} {x : Str} {cs : List Int} {v1 : Addr} {d1 d2 : Option Value} {ps8 : Array Value} (hsc : sc = scopeOf lawDef) (hss : ss = lawBody.drop 11)
   (B : Below callerA base [] h₀) (F : Fr h₀ L s.heap (fun y => if y = "shelf" then some (.ref sh) else if y = "due" then d1 else if y = "due" then d2 else tailM D i ti x tx n tn cs tc m0 y)) (X : (frag.heap_1 w.params).In h₀) (N : News h₀ L s.heap news) (T : Top pv loose mean mg mb h₀)
   (hS : ShelfAt w news sh [(i, u, v1)] [(i, x, cs, n)]) (hi : 0 ≤ i) (hx : styles.any (· == x) = true) (hn : 1 ≤ n) (h8 : (438, tabObj ps8) ∈ news)
   (ret : ∀ m' h' tk', Fr h₀ L h' m' → News h₀ L h' [(438, tabObj ps8)] → Q (.ret (.bool true)) { s with heap := h', toks := tk' }) :
   wpAny (model pr w) (callerA.deeper (envOf (Str.ofString "law") sc L fa cd)) (execs ss (envOf (Str.ofString "law") sc L fa cd)) Q E s := by
  conv at hsc => rhs; whnf
  conv at hss => rhs; whnf
  subst hsc hss
  obtain ⟨tb, R, V, hSh, hRt, tr, row, kk, hV, hN, hrow, hok⟩ := hS
  ((skip; repeat' ((first | (k_unfold; (try dsimp only)) | (with_reducible refine gen3 ?_; intro _) | ((with_reducible show wpAny _ _ (exec (Stmt.Assign _ _ _) _) _ _ _); k_fold) | ((with_reducible show wpAny _ _ (exec (Stmt.Return _ _) _) _ _ _); k_fold) | ((with_reducible show wpAny _ _ (eval (PySem.Expr.Call _ _ _ _) _) _ _ _); k_fold) | with_reducible refine seq_next ?_ | with_reducible refine seq_ret ?_ | ((fail_if_success (with_reducible show GrownAll _ _)); (fail_if_success (with_reducible show wpAny _ _ (compareOp _ (Value.ref _) (Value.ref _)) _ _ _)); (fail_if_success (with_reducible show wpAny _ _ (exec (Stmt.Assign [PySem.Expr.Name _ _] (PySem.Expr.IfExp _ _ _ _) _) _) _ _ _)); (fail_if_success (with_reducible show wpAny _ _ (exec (Stmt.Assign [PySem.Expr.Name _ _] (PySem.Expr.BinOp _ _ _ _) _) _) _ _ _)); first | (first | ((with_reducible show wpAny _ _ (binaryOp Operator.Add (Value.ref _) (Value.ref _)) _ _ _); with_reducible ((refine' r_addlist ?zzk1 ?zzk2 ?zzk3 ?zzk4 ?zzk5 ?_; (case zzk1 => k_asm); (case zzk2 => k_asm); (case zzk3 => k_dflt k_mem); (case zzk4 => k_dflt k_mem); (case zzk5 => (simp only [List.length_append, List.length_cons, List.length_nil]; omega)); intro zzD' zzh' zzF' zzN' zzhne'))) | ((with_reducible show wpAny _ _ (callWith _ (Value.ref _) _ (backTo _ (starEach [] _)) _) _ _ _); with_reducible ((k_dflt (refine' callWith_K0 ?zzk1 ?zzk2 ?_; (case zzk1 => k_in); (case zzk2 => k_is); k_whole); (try dsimp only)))) | walk_at "MY STEP") | (first | ((with_reducible show wpAny _ _ (call (Value.ref 363) _) _ _ _); k_dflt (refine' shelf_ok ?zzB ?zzF ?zzX ?zzN ?zzT ?zzhk ?zzhdp ?zzhun ?_; (case zzB => k_asm); (case zzF => k_asm); (case zzX => k_asm); (case zzN => k_asm); (case zzT => k_asm); (case zzhk => first | assumption | rfl); (case zzhdp => ktr_room); (case zzhun => units_room)); intro zzsh9 zzd9 zztb9 zztr9 zzoT9 zzoR9 zzk39 zzk49 zzh9 zztk9 zzF9 zzN9 zzhT9 zzhR9 zzlo9 zzlo99 zzlT9 zzlR9; (try dsimp only)) | ((with_reducible show wpAny _ _ (call (Value.ref 254) _) _ _ _); walk1) | ((with_reducible show wpAny _ _ (call (Value.ref 205) _) _ _ _); walk1) | ((with_reducible show wpAny _ _ (call (Value.ref 183) _) _ _ _); walk1) | ((with_reducible show wpAny _ _ (call (Value.ref 539) _) _ _ _); k_dflt (refine' lread_ok ?zzB ?zzF ?zzX ?zzN ?zzT ?zzhk ?zzhdp ?zzhun ?zzhks ?zzhlen ?_; (case zzB => k_asm); (case zzF => k_asm); (case zzX => k_asm); (case zzN => k_asm); (case zzT => k_asm); (case zzhk => first | assumption | rfl); (case zzhdp => ktr_room); (case zzhun => units_room); (case zzhks => exact KBa.ints_make (by assumption)); (case zzhlen => omega)); intro zzt9 zzh9 zztk9 zzF9 zzN9; (try dsimp only)) | ((with_reducible show wpAny _ _ (call (Value.ref 534) _) _ _ _); k_dflt (refine' lk_ok ?zzB ?zzF ?zzX ?zzN ?zzT ?zzhk ?zzhdp ?zzhun ?zzhks ?zzhlen ?zzhb ?_; (case zzB => k_asm); (case zzF => k_asm); (case zzX => k_asm); (case zzN => k_asm); (case zzT => k_asm); (case zzhk => first | assumption | rfl); (case zzhdp => ktr_room); (case zzhun => units_room); (case zzhks => with_reducible assumption); (case zzhlen => omega); (case zzhb => with_reducible assumption)); intro zzt9 zzh9 zztk9 zzF9 zzN9; (try dsimp only)) | ((with_reducible show wpAny _ _ (call (Value.ref 466) _) _ _ _); k_dflt (refine' po_ok ?zzB ?zzF ?zzX ?zzN ?zzT ?zzhk ?zzhdp ?zzhun ?zzhks ?zzhlen ?zzhb ?_; (case zzB => k_asm); (case zzF => k_asm); (case zzX => k_asm); (case zzN => k_asm); (case zzT => k_asm); (case zzhk => first | assumption | rfl); (case zzhdp => ktr_room); (case zzhun => units_room); (case zzhks => with_reducible assumption); (case zzhlen => omega); (case zzhb => with_reducible assumption)); intro zzt9 zzh9 zztk9 zzF9 zzN9; (try dsimp only)) | ((with_reducible show wpAny _ _ (call (Value.ref 478) _) _ _ _); k_dflt (refine' pt_ok ?zzB ?zzF ?zzX ?zzN ?zzT ?zzhk ?zzhdp ?zzhun ?zzhks ?zzhlen ?_; (case zzB => k_asm); (case zzF => k_asm); (case zzX => k_asm); (case zzN => k_asm); (case zzT => k_asm); (case zzhk => first | assumption | rfl); (case zzhdp => ktr_room); (case zzhun => units_room); (case zzhks => first | with_reducible assumption | exact KBa.ints_make (by assumption)); (case zzhlen => first | with_reducible assumption | omega)); intro zzt9 zzh9 zztk9 zzF9 zzN9; (try dsimp only)) | ((with_reducible show wpAny _ _ (call (Value.ref 549) _) _ _ _); k_dflt (refine' data2 ?zzB ?zzF ?zzX ?zzN ?zzT ?zzhk ?zzhdp ?zzhun ?zzhq ?zzU ?zzhi ?zzhlen ?zzhs0 ?zzhs1 ?_; (case zzB => k_asm); (case zzF => k_asm); (case zzX => k_asm); (case zzN => k_asm); (case zzT => k_asm); (case zzhk => first | assumption | rfl); (case zzhdp => ktr_room); (case zzhun => units_room); (case zzU => walk_at "MY UPDF"); (case zzhq => k_mem); (case zzhi => assumption); (case zzhlen => assumption); (case zzhs0 => omega); (case zzhs1 => omega)); intro zzcs9 zzt9 zzv9 zzh9 zztk9 zzhcl9 zzhcm9 zzhs0 zzhs1 zzF9 zzN9; (try dsimp only at zzN9); (try dsimp only)) | ((with_reducible show wpAny _ _ (call (Value.ref 522) _) _ _ _); k_dflt (refine' pick_ok ?zzB ?zzF ?zzX ?zzN ?zzT ?zzhk ?zzhdp ?zzhun ?zzhq ?zzhr ?zzhrp ?zzU ?zzhi ?zzhlen ?zzhm ?zzhm2 ?zzhs0 ?zzhs1 ?_; (case zzB => k_asm); (case zzF => k_asm); (case zzX => k_asm); (case zzN => k_asm); (case zzT => k_asm); (case zzhk => first | assumption | rfl); (case zzhdp => ktr_room); (case zzhun => units_room); (case zzU => walk_at "MY UPDF"); (case zzhq => k_mem); (case zzhi => assumption); (case zzhr => k_mem); (case zzhrp => k_ne); (case zzhlen => assumption); (case zzhm => first | omega | exact Nat.le_of_ble_eq_true rfl); (case zzhm2 => first | omega | exact Nat.le_of_ble_eq_true rfl); (case zzhs0 => omega); (case zzhs1 => omega)); intro zzx9 zzv9 zzh9 zztk9 zzhx9 zzhs0 zzhs1 zzF9 zzN9; (try dsimp only at zzN9); (try dsimp only)) | ((with_reducible show wpAny _ _ (call (Value.ref 515) _) _ _ _); k_dflt (refine' draw2 ?zzB ?zzF ?zzX ?zzN ?zzT ?zzhk ?zzhdp ?zzhun ?zzhq ?zzU ?zzhi ?zzhlen ?zzhm ?zzhm2 ?zzhs0 ?zzhs1 ?_; (case zzB => k_asm); (case zzF => k_asm); (case zzX => k_asm); (case zzN => k_asm); (case zzT => k_asm); (case zzhk => first | assumption | rfl); (case zzhdp => ktr_room); (case zzhun => units_room); (case zzU => walk_at "MY UPDF"); (case zzhq => k_mem); (case zzhi => assumption); (case zzhlen => assumption); (case zzhm => omega); (case zzhm2 => omega); (case zzhs0 => omega); (case zzhs1 => omega)); intro zzd9 zzt9 zzv9 zzh9 zztk9 zzhd0 zzhd1 zzhs0 zzhs1 zzF9 zzN9; (try dsimp only at zzN9); (try dsimp only))) | dsimp only | (leave1; (try dsimp only)) | fail "no step")))))
  all_goals (try k_data)
  k_dflt (refine' rl_ok ?bB ?bF ?bX ?bN ?bT ?bhk ?bhdp ?bhun hSh hRt hV hN hrow ?bp1 ?bps ?blr hok ?bo ?bret)
  case bB => k_asm
  case bF => k_asm
  case bX => k_asm
  case bN => k_asm
  case bT => k_asm
  case bhk => rfl
  case bhdp => ktr_room
  case bhun => units_room
  case bp1 => exact Nat.le_of_ble_eq_true rfl
  case bps => exact Nat.le_of_ble_eq_true rfl
  case blr => rfl
  case bo => exact ⟨by dsimp only; omega, hx, hn, trivial⟩
  intro Dl ys n5 c5 h5 tk5 F5 N11 hT4
  obtain ⟨top, e⟩ : ∃ top, top = c5 ++ news := ⟨_, rfl⟩
  have hkp2 : (438, tabObj ps8) ∈ top := e ▸ List.mem_append_right _ h8
  rw [← e] at N11 hT4
  clear e hSh hRt hV hN hrow hok
  ((skip; repeat' ((first | (k_unfold; (try dsimp only)) | (with_reducible refine gen3 ?_; intro _) | ((with_reducible show wpAny _ _ (exec (Stmt.Assign _ _ _) _) _ _ _); k_fold) | ((with_reducible show wpAny _ _ (exec (Stmt.Return _ _) _) _ _ _); k_fold) | ((with_reducible show wpAny _ _ (eval (PySem.Expr.Call _ _ _ _) _) _ _ _); k_fold) | with_reducible refine seq_next ?_ | with_reducible refine seq_ret ?_ | ((fail_if_success (with_reducible show GrownAll _ _)); (fail_if_success (with_reducible show wpAny _ _ (compareOp _ (Value.ref _) (Value.ref _)) _ _ _)); (fail_if_success (with_reducible show wpAny _ _ (exec (Stmt.Assign [PySem.Expr.Name _ _] (PySem.Expr.IfExp _ _ _ _) _) _) _ _ _)); (fail_if_success (with_reducible show wpAny _ _ (exec (Stmt.Assign [PySem.Expr.Name _ _] (PySem.Expr.BinOp _ _ _ _) _) _) _ _ _)); first | (first | ((with_reducible show wpAny _ _ (binaryOp Operator.Add (Value.ref _) (Value.ref _)) _ _ _); with_reducible ((refine' r_addlist ?zzk1 ?zzk2 ?zzk3 ?zzk4 ?zzk5 ?_; (case zzk1 => k_asm); (case zzk2 => k_asm); (case zzk3 => k_dflt k_mem); (case zzk4 => k_dflt k_mem); (case zzk5 => (simp only [List.length_append, List.length_cons, List.length_nil]; omega)); intro zzD' zzh' zzF' zzN' zzhne'))) | ((with_reducible show wpAny _ _ (callWith _ (Value.ref _) _ (backTo _ (starEach [] _)) _) _ _ _); with_reducible ((k_dflt (refine' callWith_K0 ?zzk1 ?zzk2 ?_; (case zzk1 => k_in); (case zzk2 => k_is); k_whole); (try dsimp only)))) | walk_at "MY STEP") | (first | ((with_reducible show wpAny _ _ (call (Value.ref 363) _) _ _ _); k_dflt (refine' shelf_ok ?zzB ?zzF ?zzX ?zzN ?zzT ?zzhk ?zzhdp ?zzhun ?_; (case zzB => k_asm); (case zzF => k_asm); (case zzX => k_asm); (case zzN => k_asm); (case zzT => k_asm); (case zzhk => first | assumption | rfl); (case zzhdp => ktr_room); (case zzhun => units_room)); intro zzsh9 zzd9 zztb9 zztr9 zzoT9 zzoR9 zzk39 zzk49 zzh9 zztk9 zzF9 zzN9 zzhT9 zzhR9 zzlo9 zzlo99 zzlT9 zzlR9; (try dsimp only)) | ((with_reducible show wpAny _ _ (call (Value.ref 254) _) _ _ _); walk1) | ((with_reducible show wpAny _ _ (call (Value.ref 205) _) _ _ _); walk1) | ((with_reducible show wpAny _ _ (call (Value.ref 183) _) _ _ _); walk1) | ((with_reducible show wpAny _ _ (call (Value.ref 539) _) _ _ _); k_dflt (refine' lread_ok ?zzB ?zzF ?zzX ?zzN ?zzT ?zzhk ?zzhdp ?zzhun ?zzhks ?zzhlen ?_; (case zzB => k_asm); (case zzF => k_asm); (case zzX => k_asm); (case zzN => k_asm); (case zzT => k_asm); (case zzhk => first | assumption | rfl); (case zzhdp => ktr_room); (case zzhun => units_room); (case zzhks => exact KBa.ints_make (by assumption)); (case zzhlen => omega)); intro zzt9 zzh9 zztk9 zzF9 zzN9; (try dsimp only)) | ((with_reducible show wpAny _ _ (call (Value.ref 534) _) _ _ _); k_dflt (refine' lk_ok ?zzB ?zzF ?zzX ?zzN ?zzT ?zzhk ?zzhdp ?zzhun ?zzhks ?zzhlen ?zzhb ?_; (case zzB => k_asm); (case zzF => k_asm); (case zzX => k_asm); (case zzN => k_asm); (case zzT => k_asm); (case zzhk => first | assumption | rfl); (case zzhdp => ktr_room); (case zzhun => units_room); (case zzhks => with_reducible assumption); (case zzhlen => omega); (case zzhb => with_reducible assumption)); intro zzt9 zzh9 zztk9 zzF9 zzN9; (try dsimp only)) | ((with_reducible show wpAny _ _ (call (Value.ref 466) _) _ _ _); k_dflt (refine' po_ok ?zzB ?zzF ?zzX ?zzN ?zzT ?zzhk ?zzhdp ?zzhun ?zzhks ?zzhlen ?zzhb ?_; (case zzB => k_asm); (case zzF => k_asm); (case zzX => k_asm); (case zzN => k_asm); (case zzT => k_asm); (case zzhk => first | assumption | rfl); (case zzhdp => ktr_room); (case zzhun => units_room); (case zzhks => with_reducible assumption); (case zzhlen => omega); (case zzhb => with_reducible assumption)); intro zzt9 zzh9 zztk9 zzF9 zzN9; (try dsimp only)) | ((with_reducible show wpAny _ _ (call (Value.ref 478) _) _ _ _); k_dflt (refine' pt_ok ?zzB ?zzF ?zzX ?zzN ?zzT ?zzhk ?zzhdp ?zzhun ?zzhks ?zzhlen ?_; (case zzB => k_asm); (case zzF => k_asm); (case zzX => k_asm); (case zzN => k_asm); (case zzT => k_asm); (case zzhk => first | assumption | rfl); (case zzhdp => ktr_room); (case zzhun => units_room); (case zzhks => first | with_reducible assumption | exact KBa.ints_make (by assumption)); (case zzhlen => first | with_reducible assumption | omega)); intro zzt9 zzh9 zztk9 zzF9 zzN9; (try dsimp only)) | ((with_reducible show wpAny _ _ (call (Value.ref 549) _) _ _ _); k_dflt (refine' data2 ?zzB ?zzF ?zzX ?zzN ?zzT ?zzhk ?zzhdp ?zzhun ?zzhq ?zzU ?zzhi ?zzhlen ?zzhs0 ?zzhs1 ?_; (case zzB => k_asm); (case zzF => k_asm); (case zzX => k_asm); (case zzN => k_asm); (case zzT => k_asm); (case zzhk => first | assumption | rfl); (case zzhdp => ktr_room); (case zzhun => units_room); (case zzU => walk_at "MY UPDF"); (case zzhq => k_mem); (case zzhi => assumption); (case zzhlen => assumption); (case zzhs0 => omega); (case zzhs1 => omega)); intro zzcs9 zzt9 zzv9 zzh9 zztk9 zzhcl9 zzhcm9 zzhs0 zzhs1 zzF9 zzN9; (try dsimp only at zzN9); (try dsimp only)) | ((with_reducible show wpAny _ _ (call (Value.ref 522) _) _ _ _); k_dflt (refine' pick_ok ?zzB ?zzF ?zzX ?zzN ?zzT ?zzhk ?zzhdp ?zzhun ?zzhq ?zzhr ?zzhrp ?zzU ?zzhi ?zzhlen ?zzhm ?zzhm2 ?zzhs0 ?zzhs1 ?_; (case zzB => k_asm); (case zzF => k_asm); (case zzX => k_asm); (case zzN => k_asm); (case zzT => k_asm); (case zzhk => first | assumption | rfl); (case zzhdp => ktr_room); (case zzhun => units_room); (case zzU => walk_at "MY UPDF"); (case zzhq => k_mem); (case zzhi => assumption); (case zzhr => k_mem); (case zzhrp => k_ne); (case zzhlen => assumption); (case zzhm => first | omega | exact Nat.le_of_ble_eq_true rfl); (case zzhm2 => first | omega | exact Nat.le_of_ble_eq_true rfl); (case zzhs0 => omega); (case zzhs1 => omega)); intro zzx9 zzv9 zzh9 zztk9 zzhx9 zzhs0 zzhs1 zzF9 zzN9; (try dsimp only at zzN9); (try dsimp only)) | ((with_reducible show wpAny _ _ (call (Value.ref 515) _) _ _ _); k_dflt (refine' draw2 ?zzB ?zzF ?zzX ?zzN ?zzT ?zzhk ?zzhdp ?zzhun ?zzhq ?zzU ?zzhi ?zzhlen ?zzhm ?zzhm2 ?zzhs0 ?zzhs1 ?_; (case zzB => k_asm); (case zzF => k_asm); (case zzX => k_asm); (case zzN => k_asm); (case zzT => k_asm); (case zzhk => first | assumption | rfl); (case zzhdp => ktr_room); (case zzhun => units_room); (case zzU => walk_at "MY UPDF"); (case zzhq => k_mem); (case zzhi => assumption); (case zzhlen => assumption); (case zzhm => omega); (case zzhm2 => omega); (case zzhs0 => omega); (case zzhs1 => omega)); intro zzd9 zzt9 zzv9 zzh9 zztk9 zzhd0 zzhd1 zzhs0 zzhs1 zzF9 zzN9; (try dsimp only at zzN9); (try dsimp only))) | dsimp only | (leave1; (try dsimp only)) | fail "no step")))))
  all_goals (try k_data)
  rename News _ _ _ _ => N21
  refine' r_eqList 2 N21 ?la ?lb ?lva ?lua ?ld ?lA ?_
  case la => k_dflt k_mem
  case lb => k_dflt k_mem
  case lua => exact .cons (.tuple (by k_dflt k_mem) (.cons (.int _ _) (.cons (.str _ _) (.cons (.str _ _) (.cons (.int _ _) .nil))))) .nil
  case lva => exact Tup4s.dat (Tup4s.mono hT4 (fun p hp => .tail _ (.tail _ (.tail _ hp))))
  case ld => exact List.forall_mem_cons.mpr ⟨rfl, List.forall_mem_nil _⟩
  case lA => units_room
  dsimp only
  ((skip; repeat' ((first | (k_unfold; (try dsimp only)) | (with_reducible refine gen3 ?_; intro _) | ((with_reducible show wpAny _ _ (exec (Stmt.Assign _ _ _) _) _ _ _); k_fold) | ((with_reducible show wpAny _ _ (exec (Stmt.Return _ _) _) _ _ _); k_fold) | ((with_reducible show wpAny _ _ (eval (PySem.Expr.Call _ _ _ _) _) _ _ _); k_fold) | with_reducible refine seq_next ?_ | with_reducible refine seq_ret ?_ | ((fail_if_success (with_reducible show GrownAll _ _)); (fail_if_success (with_reducible show wpAny _ _ (compareOp _ (Value.ref _) (Value.ref _)) _ _ _)); (fail_if_success (with_reducible show wpAny _ _ (exec (Stmt.Assign [PySem.Expr.Name _ _] (PySem.Expr.IfExp _ _ _ _) _) _) _ _ _)); (fail_if_success (with_reducible show wpAny _ _ (exec (Stmt.Assign [PySem.Expr.Name _ _] (PySem.Expr.BinOp _ _ _ _) _) _) _ _ _)); first | (first | ((with_reducible show wpAny _ _ (binaryOp Operator.Add (Value.ref _) (Value.ref _)) _ _ _); with_reducible ((refine' r_addlist ?zzk1 ?zzk2 ?zzk3 ?zzk4 ?zzk5 ?_; (case zzk1 => k_asm); (case zzk2 => k_asm); (case zzk3 => k_dflt k_mem); (case zzk4 => k_dflt k_mem); (case zzk5 => (simp only [List.length_append, List.length_cons, List.length_nil]; omega)); intro zzD' zzh' zzF' zzN' zzhne'))) | ((with_reducible show wpAny _ _ (callWith _ (Value.ref _) _ (backTo _ (starEach [] _)) _) _ _ _); with_reducible ((k_dflt (refine' callWith_K0 ?zzk1 ?zzk2 ?_; (case zzk1 => k_in); (case zzk2 => k_is); k_whole); (try dsimp only)))) | walk_at "MY STEP") | (first | ((with_reducible show wpAny _ _ (call (Value.ref 363) _) _ _ _); k_dflt (refine' shelf_ok ?zzB ?zzF ?zzX ?zzN ?zzT ?zzhk ?zzhdp ?zzhun ?_; (case zzB => k_asm); (case zzF => k_asm); (case zzX => k_asm); (case zzN => k_asm); (case zzT => k_asm); (case zzhk => first | assumption | rfl); (case zzhdp => ktr_room); (case zzhun => units_room)); intro zzsh9 zzd9 zztb9 zztr9 zzoT9 zzoR9 zzk39 zzk49 zzh9 zztk9 zzF9 zzN9 zzhT9 zzhR9 zzlo9 zzlo99 zzlT9 zzlR9; (try dsimp only)) | ((with_reducible show wpAny _ _ (call (Value.ref 254) _) _ _ _); walk1) | ((with_reducible show wpAny _ _ (call (Value.ref 205) _) _ _ _); walk1) | ((with_reducible show wpAny _ _ (call (Value.ref 183) _) _ _ _); walk1) | ((with_reducible show wpAny _ _ (call (Value.ref 539) _) _ _ _); k_dflt (refine' lread_ok ?zzB ?zzF ?zzX ?zzN ?zzT ?zzhk ?zzhdp ?zzhun ?zzhks ?zzhlen ?_; (case zzB => k_asm); (case zzF => k_asm); (case zzX => k_asm); (case zzN => k_asm); (case zzT => k_asm); (case zzhk => first | assumption | rfl); (case zzhdp => ktr_room); (case zzhun => units_room); (case zzhks => exact KBa.ints_make (by assumption)); (case zzhlen => omega)); intro zzt9 zzh9 zztk9 zzF9 zzN9; (try dsimp only)) | ((with_reducible show wpAny _ _ (call (Value.ref 534) _) _ _ _); k_dflt (refine' lk_ok ?zzB ?zzF ?zzX ?zzN ?zzT ?zzhk ?zzhdp ?zzhun ?zzhks ?zzhlen ?zzhb ?_; (case zzB => k_asm); (case zzF => k_asm); (case zzX => k_asm); (case zzN => k_asm); (case zzT => k_asm); (case zzhk => first | assumption | rfl); (case zzhdp => ktr_room); (case zzhun => units_room); (case zzhks => with_reducible assumption); (case zzhlen => omega); (case zzhb => with_reducible assumption)); intro zzt9 zzh9 zztk9 zzF9 zzN9; (try dsimp only)) | ((with_reducible show wpAny _ _ (call (Value.ref 466) _) _ _ _); k_dflt (refine' po_ok ?zzB ?zzF ?zzX ?zzN ?zzT ?zzhk ?zzhdp ?zzhun ?zzhks ?zzhlen ?zzhb ?_; (case zzB => k_asm); (case zzF => k_asm); (case zzX => k_asm); (case zzN => k_asm); (case zzT => k_asm); (case zzhk => first | assumption | rfl); (case zzhdp => ktr_room); (case zzhun => units_room); (case zzhks => with_reducible assumption); (case zzhlen => omega); (case zzhb => with_reducible assumption)); intro zzt9 zzh9 zztk9 zzF9 zzN9; (try dsimp only)) | ((with_reducible show wpAny _ _ (call (Value.ref 478) _) _ _ _); k_dflt (refine' pt_ok ?zzB ?zzF ?zzX ?zzN ?zzT ?zzhk ?zzhdp ?zzhun ?zzhks ?zzhlen ?_; (case zzB => k_asm); (case zzF => k_asm); (case zzX => k_asm); (case zzN => k_asm); (case zzT => k_asm); (case zzhk => first | assumption | rfl); (case zzhdp => ktr_room); (case zzhun => units_room); (case zzhks => first | with_reducible assumption | exact KBa.ints_make (by assumption)); (case zzhlen => first | with_reducible assumption | omega)); intro zzt9 zzh9 zztk9 zzF9 zzN9; (try dsimp only)) | ((with_reducible show wpAny _ _ (call (Value.ref 549) _) _ _ _); k_dflt (refine' data2 ?zzB ?zzF ?zzX ?zzN ?zzT ?zzhk ?zzhdp ?zzhun ?zzhq ?zzU ?zzhi ?zzhlen ?zzhs0 ?zzhs1 ?_; (case zzB => k_asm); (case zzF => k_asm); (case zzX => k_asm); (case zzN => k_asm); (case zzT => k_asm); (case zzhk => first | assumption | rfl); (case zzhdp => ktr_room); (case zzhun => units_room); (case zzU => walk_at "MY UPDF"); (case zzhq => k_mem); (case zzhi => assumption); (case zzhlen => assumption); (case zzhs0 => omega); (case zzhs1 => omega)); intro zzcs9 zzt9 zzv9 zzh9 zztk9 zzhcl9 zzhcm9 zzhs0 zzhs1 zzF9 zzN9; (try dsimp only at zzN9); (try dsimp only)) | ((with_reducible show wpAny _ _ (call (Value.ref 522) _) _ _ _); k_dflt (refine' pick_ok ?zzB ?zzF ?zzX ?zzN ?zzT ?zzhk ?zzhdp ?zzhun ?zzhq ?zzhr ?zzhrp ?zzU ?zzhi ?zzhlen ?zzhm ?zzhm2 ?zzhs0 ?zzhs1 ?_; (case zzB => k_asm); (case zzF => k_asm); (case zzX => k_asm); (case zzN => k_asm); (case zzT => k_asm); (case zzhk => first | assumption | rfl); (case zzhdp => ktr_room); (case zzhun => units_room); (case zzU => walk_at "MY UPDF"); (case zzhq => k_mem); (case zzhi => assumption); (case zzhr => k_mem); (case zzhrp => k_ne); (case zzhlen => assumption); (case zzhm => first | omega | exact Nat.le_of_ble_eq_true rfl); (case zzhm2 => first | omega | exact Nat.le_of_ble_eq_true rfl); (case zzhs0 => omega); (case zzhs1 => omega)); intro zzx9 zzv9 zzh9 zztk9 zzhx9 zzhs0 zzhs1 zzF9 zzN9; (try dsimp only at zzN9); (try dsimp only)) | ((with_reducible show wpAny _ _ (call (Value.ref 515) _) _ _ _); k_dflt (refine' draw2 ?zzB ?zzF ?zzX ?zzN ?zzT ?zzhk ?zzhdp ?zzhun ?zzhq ?zzU ?zzhi ?zzhlen ?zzhm ?zzhm2 ?zzhs0 ?zzhs1 ?_; (case zzB => k_asm); (case zzF => k_asm); (case zzX => k_asm); (case zzN => k_asm); (case zzT => k_asm); (case zzhk => first | assumption | rfl); (case zzhdp => ktr_room); (case zzhun => units_room); (case zzU => walk_at "MY UPDF"); (case zzhq => k_mem); (case zzhi => assumption); (case zzhlen => assumption); (case zzhm => omega); (case zzhm2 => omega); (case zzhs0 => omega); (case zzhs1 => omega)); intro zzd9 zzt9 zzv9 zzh9 zztk9 zzhd0 zzhd1 zzhs0 zzhs1 zzF9 zzN9; (try dsimp only at zzN9); (try dsimp only))) | dsimp only | (leave1; (try dsimp only)) | fail "no step")))))
  all_goals (try k_data)
  exact ret _ _ _ (by k_asm) (news_pick N21 (.tail _ (.tail _ (.tail _ hkp2))) news_nil)
section
theorem tailD {D : Addr} {i n : Int} {ti tx tn tc : Tok} {x : Str} {cs : List Int} {d1 d2 : Option Value} (hsc : sc = scopeOf lawDef) (hss : ss = lawBody.drop 9)
   (B : Below callerA base [] h₀) (F : Fr h₀ L s.heap (fun y => if y = "due" then d1 else if y = "due" then d2 else tailM D i ti x tx n tn cs tc m0 y)) (X : (frag.heap_1 w.params).In h₀) (N : News h₀ L s.heap news) (T : Top pv loose mean mg mb h₀)
   (hTF : TreeF w news D i x cs n) (hw : ∀ c ∈ cs, whole c) (hcl : cs.length ≤ 6) (hi : 0 ≤ i) (hx : styles.any (· == x) = true) (hn : 1 ≤ n)
   (ret : ∀ m' h' tk' ps8, Fr h₀ L h' m' → News h₀ L h' [(438, tabObj ps8)] → Q (.ret (.bool true)) { s with heap := h', toks := tk' }) :
   wpAny (model pr w) (callerA.deeper (envOf (Str.ofString "law") sc L fa cd)) (execs ss (envOf (Str.ofString "law") sc L fa cd)) Q E s := by
  have hsc' := hsc
  conv at hsc => rhs; whnf
  conv at hss => rhs; whnf
  subst hsc hss
  ((skip; repeat' ((fail_if_success (with_reducible show wpAny _ _ (execs [Stmt.Return _ _] _) _ _ _)); ((first | (k_unfold; (try dsimp only)) | (with_reducible refine gen3 ?_; intro _) | ((with_reducible show wpAny _ _ (exec (Stmt.Assign _ _ _) _) _ _ _); k_fold) | ((with_reducible show wpAny _ _ (exec (Stmt.Return _ _) _) _ _ _); k_fold) | ((with_reducible show wpAny _ _ (eval (PySem.Expr.Call _ _ _ _) _) _ _ _); k_fold) | with_reducible refine seq_next ?_ | with_reducible refine seq_ret ?_ | ((fail_if_success (with_reducible show GrownAll _ _)); (fail_if_success (with_reducible show wpAny _ _ (compareOp _ (Value.ref _) (Value.ref _)) _ _ _)); (fail_if_success (with_reducible show wpAny _ _ (exec (Stmt.Assign [PySem.Expr.Name _ _] (PySem.Expr.IfExp _ _ _ _) _) _) _ _ _)); (fail_if_success (with_reducible show wpAny _ _ (exec (Stmt.Assign [PySem.Expr.Name _ _] (PySem.Expr.BinOp _ _ _ _) _) _) _ _ _)); first | (first | ((with_reducible show wpAny _ _ (binaryOp Operator.Add (Value.ref _) (Value.ref _)) _ _ _); with_reducible ((refine' r_addlist ?zzk1 ?zzk2 ?zzk3 ?zzk4 ?zzk5 ?_; (case zzk1 => k_asm); (case zzk2 => k_asm); (case zzk3 => k_dflt k_mem); (case zzk4 => k_dflt k_mem); (case zzk5 => (simp only [List.length_append, List.length_cons, List.length_nil]; omega)); intro zzD' zzh' zzF' zzN' zzhne'))) | ((with_reducible show wpAny _ _ (callWith _ (Value.ref _) _ (backTo _ (starEach [] _)) _) _ _ _); with_reducible ((k_dflt (refine' callWith_K0 ?zzk1 ?zzk2 ?_; (case zzk1 => k_in); (case zzk2 => k_is); k_whole); (try dsimp only)))) | walk_at "MY STEP") | (first | ((with_reducible show wpAny _ _ (call (Value.ref 363) _) _ _ _); k_dflt (refine' shelf_ok ?zzB ?zzF ?zzX ?zzN ?zzT ?zzhk ?zzhdp ?zzhun ?_; (case zzB => k_asm); (case zzF => k_asm); (case zzX => k_asm); (case zzN => k_asm); (case zzT => k_asm); (case zzhk => first | assumption | rfl); (case zzhdp => ktr_room); (case zzhun => units_room)); intro zzsh9 zzd9 zztb9 zztr9 zzoT9 zzoR9 zzk39 zzk49 zzh9 zztk9 zzF9 zzN9 zzhT9 zzhR9 zzlo9 zzlo99 zzlT9 zzlR9; (try dsimp only)) | ((with_reducible show wpAny _ _ (call (Value.ref 254) _) _ _ _); walk1) | ((with_reducible show wpAny _ _ (call (Value.ref 205) _) _ _ _); walk1) | ((with_reducible show wpAny _ _ (call (Value.ref 183) _) _ _ _); walk1) | ((with_reducible show wpAny _ _ (call (Value.ref 539) _) _ _ _); k_dflt (refine' lread_ok ?zzB ?zzF ?zzX ?zzN ?zzT ?zzhk ?zzhdp ?zzhun ?zzhks ?zzhlen ?_; (case zzB => k_asm); (case zzF => k_asm); (case zzX => k_asm); (case zzN => k_asm); (case zzT => k_asm); (case zzhk => first | assumption | rfl); (case zzhdp => ktr_room); (case zzhun => units_room); (case zzhks => exact KBa.ints_make (by assumption)); (case zzhlen => omega)); intro zzt9 zzh9 zztk9 zzF9 zzN9; (try dsimp only)) | ((with_reducible show wpAny _ _ (call (Value.ref 534) _) _ _ _); k_dflt (refine' lk_ok ?zzB ?zzF ?zzX ?zzN ?zzT ?zzhk ?zzhdp ?zzhun ?zzhks ?zzhlen ?zzhb ?_; (case zzB => k_asm); (case zzF => k_asm); (case zzX => k_asm); (case zzN => k_asm); (case zzT => k_asm); (case zzhk => first | assumption | rfl); (case zzhdp => ktr_room); (case zzhun => units_room); (case zzhks => with_reducible assumption); (case zzhlen => omega); (case zzhb => with_reducible assumption)); intro zzt9 zzh9 zztk9 zzF9 zzN9; (try dsimp only)) | ((with_reducible show wpAny _ _ (call (Value.ref 466) _) _ _ _); k_dflt (refine' po_ok ?zzB ?zzF ?zzX ?zzN ?zzT ?zzhk ?zzhdp ?zzhun ?zzhks ?zzhlen ?zzhb ?_; (case zzB => k_asm); (case zzF => k_asm); (case zzX => k_asm); (case zzN => k_asm); (case zzT => k_asm); (case zzhk => first | assumption | rfl); (case zzhdp => ktr_room); (case zzhun => units_room); (case zzhks => with_reducible assumption); (case zzhlen => omega); (case zzhb => with_reducible assumption)); intro zzt9 zzh9 zztk9 zzF9 zzN9; (try dsimp only)) | ((with_reducible show wpAny _ _ (call (Value.ref 478) _) _ _ _); k_dflt (refine' pt_ok ?zzB ?zzF ?zzX ?zzN ?zzT ?zzhk ?zzhdp ?zzhun ?zzhks ?zzhlen ?_; (case zzB => k_asm); (case zzF => k_asm); (case zzX => k_asm); (case zzN => k_asm); (case zzT => k_asm); (case zzhk => first | assumption | rfl); (case zzhdp => ktr_room); (case zzhun => units_room); (case zzhks => first | with_reducible assumption | exact KBa.ints_make (by assumption)); (case zzhlen => first | with_reducible assumption | omega)); intro zzt9 zzh9 zztk9 zzF9 zzN9; (try dsimp only)) | ((with_reducible show wpAny _ _ (call (Value.ref 549) _) _ _ _); k_dflt (refine' data2 ?zzB ?zzF ?zzX ?zzN ?zzT ?zzhk ?zzhdp ?zzhun ?zzhq ?zzU ?zzhi ?zzhlen ?zzhs0 ?zzhs1 ?_; (case zzB => k_asm); (case zzF => k_asm); (case zzX => k_asm); (case zzN => k_asm); (case zzT => k_asm); (case zzhk => first | assumption | rfl); (case zzhdp => ktr_room); (case zzhun => units_room); (case zzU => walk_at "MY UPDF"); (case zzhq => k_mem); (case zzhi => assumption); (case zzhlen => assumption); (case zzhs0 => omega); (case zzhs1 => omega)); intro zzcs9 zzt9 zzv9 zzh9 zztk9 zzhcl9 zzhcm9 zzhs0 zzhs1 zzF9 zzN9; (try dsimp only at zzN9); (try dsimp only)) | ((with_reducible show wpAny _ _ (call (Value.ref 522) _) _ _ _); k_dflt (refine' pick_ok ?zzB ?zzF ?zzX ?zzN ?zzT ?zzhk ?zzhdp ?zzhun ?zzhq ?zzhr ?zzhrp ?zzU ?zzhi ?zzhlen ?zzhm ?zzhm2 ?zzhs0 ?zzhs1 ?_; (case zzB => k_asm); (case zzF => k_asm); (case zzX => k_asm); (case zzN => k_asm); (case zzT => k_asm); (case zzhk => first | assumption | rfl); (case zzhdp => ktr_room); (case zzhun => units_room); (case zzU => walk_at "MY UPDF"); (case zzhq => k_mem); (case zzhi => assumption); (case zzhr => k_mem); (case zzhrp => k_ne); (case zzhlen => assumption); (case zzhm => first | omega | exact Nat.le_of_ble_eq_true rfl); (case zzhm2 => first | omega | exact Nat.le_of_ble_eq_true rfl); (case zzhs0 => omega); (case zzhs1 => omega)); intro zzx9 zzv9 zzh9 zztk9 zzhx9 zzhs0 zzhs1 zzF9 zzN9; (try dsimp only at zzN9); (try dsimp only)) | ((with_reducible show wpAny _ _ (call (Value.ref 515) _) _ _ _); k_dflt (refine' draw2 ?zzB ?zzF ?zzX ?zzN ?zzT ?zzhk ?zzhdp ?zzhun ?zzhq ?zzU ?zzhi ?zzhlen ?zzhm ?zzhm2 ?zzhs0 ?zzhs1 ?_; (case zzB => k_asm); (case zzF => k_asm); (case zzX => k_asm); (case zzN => k_asm); (case zzT => k_asm); (case zzhk => first | assumption | rfl); (case zzhdp => ktr_room); (case zzhun => units_room); (case zzU => walk_at "MY UPDF"); (case zzhq => k_mem); (case zzhi => assumption); (case zzhlen => assumption); (case zzhm => omega); (case zzhm2 => omega); (case zzhs0 => omega); (case zzhs1 => omega)); intro zzd9 zzt9 zzv9 zzh9 zztk9 zzhd0 zzhd1 zzhs0 zzhs1 zzF9 zzN9; (try dsimp only at zzN9); (try dsimp only))) | dsimp only | (leave1; (try dsimp only)) | fail "no step"))))))
  all_goals (try k_data)
  rename News _ _ _ _ => N16
  have N17 := rotS N16
  clear N16
  k_dflt (refine' add_ok ?iB ?iF ?iX ?iN ?iT ?ihk ?ihdp ?ihun ?im1 ?im2 ?ihd ?ilo ?ihr ?iret)
  case iB => k_asm
  case iF => k_asm
  case iX => k_asm
  case iN => exact N17
  case iT => k_asm
  case ihk => rfl
  case ihdp => ktr_room
  case ihun => units_room
  case im1 => k_mem
  case im2 => k_mem
  case ihd => assumption
  case ilo => assumption
  case ihr => exact all_app (by k_ne) (all_app (by k_ne) (all_app (by k_ne) (all_app (by k_ne) (ne_allLt zzlT9.2.2))))
  intro rf d1 tp oT' t1 t2 t3 k1 k2 n4 h4 tk4 F16 N18 hdT lt1 lt2 lt3
  obtain ⟨la1, la2, la3, la4, la9⟩ := lt1
  dsimp only at la1 la2 la3 la4
  have hR := upS N18 (ne_allLt zzlR9.2.2.2) (by k_ne) (by k_ne) (by k_ne)
  dsimp only at hR
  ((skip; repeat' ((fail_if_success (with_reducible show wpAny _ _ (execs [Stmt.Return _ _] _) _ _ _)); ((first | (k_unfold; (try dsimp only)) | (with_reducible refine gen3 ?_; intro _) | ((with_reducible show wpAny _ _ (exec (Stmt.Assign _ _ _) _) _ _ _); k_fold) | ((with_reducible show wpAny _ _ (exec (Stmt.Return _ _) _) _ _ _); k_fold) | ((with_reducible show wpAny _ _ (eval (PySem.Expr.Call _ _ _ _) _) _ _ _); k_fold) | with_reducible refine seq_next ?_ | with_reducible refine seq_ret ?_ | ((fail_if_success (with_reducible show GrownAll _ _)); (fail_if_success (with_reducible show wpAny _ _ (compareOp _ (Value.ref _) (Value.ref _)) _ _ _)); (fail_if_success (with_reducible show wpAny _ _ (exec (Stmt.Assign [PySem.Expr.Name _ _] (PySem.Expr.IfExp _ _ _ _) _) _) _ _ _)); (fail_if_success (with_reducible show wpAny _ _ (exec (Stmt.Assign [PySem.Expr.Name _ _] (PySem.Expr.BinOp _ _ _ _) _) _) _ _ _)); first | (first | ((with_reducible show wpAny _ _ (binaryOp Operator.Add (Value.ref _) (Value.ref _)) _ _ _); with_reducible ((refine' r_addlist ?zzk1 ?zzk2 ?zzk3 ?zzk4 ?zzk5 ?_; (case zzk1 => k_asm); (case zzk2 => k_asm); (case zzk3 => k_dflt k_mem); (case zzk4 => k_dflt k_mem); (case zzk5 => (simp only [List.length_append, List.length_cons, List.length_nil]; omega)); intro zzD' zzh' zzF' zzN' zzhne'))) | ((with_reducible show wpAny _ _ (callWith _ (Value.ref _) _ (backTo _ (starEach [] _)) _) _ _ _); with_reducible ((k_dflt (refine' callWith_K0 ?zzk1 ?zzk2 ?_; (case zzk1 => k_in); (case zzk2 => k_is); k_whole); (try dsimp only)))) | walk_at "MY STEP") | (first | ((with_reducible show wpAny _ _ (call (Value.ref 363) _) _ _ _); k_dflt (refine' shelf_ok ?zzB ?zzF ?zzX ?zzN ?zzT ?zzhk ?zzhdp ?zzhun ?_; (case zzB => k_asm); (case zzF => k_asm); (case zzX => k_asm); (case zzN => k_asm); (case zzT => k_asm); (case zzhk => first | assumption | rfl); (case zzhdp => ktr_room); (case zzhun => units_room)); intro zzsh9 zzd9 zztb9 zztr9 zzoT9 zzoR9 zzk39 zzk49 zzh9 zztk9 zzF9 zzN9 zzhT9 zzhR9 zzlo9 zzlo99 zzlT9 zzlR9; (try dsimp only)) | ((with_reducible show wpAny _ _ (call (Value.ref 254) _) _ _ _); walk1) | ((with_reducible show wpAny _ _ (call (Value.ref 205) _) _ _ _); walk1) | ((with_reducible show wpAny _ _ (call (Value.ref 183) _) _ _ _); walk1) | ((with_reducible show wpAny _ _ (call (Value.ref 539) _) _ _ _); k_dflt (refine' lread_ok ?zzB ?zzF ?zzX ?zzN ?zzT ?zzhk ?zzhdp ?zzhun ?zzhks ?zzhlen ?_; (case zzB => k_asm); (case zzF => k_asm); (case zzX => k_asm); (case zzN => k_asm); (case zzT => k_asm); (case zzhk => first | assumption | rfl); (case zzhdp => ktr_room); (case zzhun => units_room); (case zzhks => exact KBa.ints_make (by assumption)); (case zzhlen => omega)); intro zzt9 zzh9 zztk9 zzF9 zzN9; (try dsimp only)) | ((with_reducible show wpAny _ _ (call (Value.ref 534) _) _ _ _); k_dflt (refine' lk_ok ?zzB ?zzF ?zzX ?zzN ?zzT ?zzhk ?zzhdp ?zzhun ?zzhks ?zzhlen ?zzhb ?_; (case zzB => k_asm); (case zzF => k_asm); (case zzX => k_asm); (case zzN => k_asm); (case zzT => k_asm); (case zzhk => first | assumption | rfl); (case zzhdp => ktr_room); (case zzhun => units_room); (case zzhks => with_reducible assumption); (case zzhlen => omega); (case zzhb => with_reducible assumption)); intro zzt9 zzh9 zztk9 zzF9 zzN9; (try dsimp only)) | ((with_reducible show wpAny _ _ (call (Value.ref 466) _) _ _ _); k_dflt (refine' po_ok ?zzB ?zzF ?zzX ?zzN ?zzT ?zzhk ?zzhdp ?zzhun ?zzhks ?zzhlen ?zzhb ?_; (case zzB => k_asm); (case zzF => k_asm); (case zzX => k_asm); (case zzN => k_asm); (case zzT => k_asm); (case zzhk => first | assumption | rfl); (case zzhdp => ktr_room); (case zzhun => units_room); (case zzhks => with_reducible assumption); (case zzhlen => omega); (case zzhb => with_reducible assumption)); intro zzt9 zzh9 zztk9 zzF9 zzN9; (try dsimp only)) | ((with_reducible show wpAny _ _ (call (Value.ref 478) _) _ _ _); k_dflt (refine' pt_ok ?zzB ?zzF ?zzX ?zzN ?zzT ?zzhk ?zzhdp ?zzhun ?zzhks ?zzhlen ?_; (case zzB => k_asm); (case zzF => k_asm); (case zzX => k_asm); (case zzN => k_asm); (case zzT => k_asm); (case zzhk => first | assumption | rfl); (case zzhdp => ktr_room); (case zzhun => units_room); (case zzhks => first | with_reducible assumption | exact KBa.ints_make (by assumption)); (case zzhlen => first | with_reducible assumption | omega)); intro zzt9 zzh9 zztk9 zzF9 zzN9; (try dsimp only)) | ((with_reducible show wpAny _ _ (call (Value.ref 549) _) _ _ _); k_dflt (refine' data2 ?zzB ?zzF ?zzX ?zzN ?zzT ?zzhk ?zzhdp ?zzhun ?zzhq ?zzU ?zzhi ?zzhlen ?zzhs0 ?zzhs1 ?_; (case zzB => k_asm); (case zzF => k_asm); (case zzX => k_asm); (case zzN => k_asm); (case zzT => k_asm); (case zzhk => first | assumption | rfl); (case zzhdp => ktr_room); (case zzhun => units_room); (case zzU => walk_at "MY UPDF"); (case zzhq => k_mem); (case zzhi => assumption); (case zzhlen => assumption); (case zzhs0 => omega); (case zzhs1 => omega)); intro zzcs9 zzt9 zzv9 zzh9 zztk9 zzhcl9 zzhcm9 zzhs0 zzhs1 zzF9 zzN9; (try dsimp only at zzN9); (try dsimp only)) | ((with_reducible show wpAny _ _ (call (Value.ref 522) _) _ _ _); k_dflt (refine' pick_ok ?zzB ?zzF ?zzX ?zzN ?zzT ?zzhk ?zzhdp ?zzhun ?zzhq ?zzhr ?zzhrp ?zzU ?zzhi ?zzhlen ?zzhm ?zzhm2 ?zzhs0 ?zzhs1 ?_; (case zzB => k_asm); (case zzF => k_asm); (case zzX => k_asm); (case zzN => k_asm); (case zzT => k_asm); (case zzhk => first | assumption | rfl); (case zzhdp => ktr_room); (case zzhun => units_room); (case zzU => walk_at "MY UPDF"); (case zzhq => k_mem); (case zzhi => assumption); (case zzhr => k_mem); (case zzhrp => k_ne); (case zzhlen => assumption); (case zzhm => first | omega | exact Nat.le_of_ble_eq_true rfl); (case zzhm2 => first | omega | exact Nat.le_of_ble_eq_true rfl); (case zzhs0 => omega); (case zzhs1 => omega)); intro zzx9 zzv9 zzh9 zztk9 zzhx9 zzhs0 zzhs1 zzF9 zzN9; (try dsimp only at zzN9); (try dsimp only)) | ((with_reducible show wpAny _ _ (call (Value.ref 515) _) _ _ _); k_dflt (refine' draw2 ?zzB ?zzF ?zzX ?zzN ?zzT ?zzhk ?zzhdp ?zzhun ?zzhq ?zzU ?zzhi ?zzhlen ?zzhm ?zzhm2 ?zzhs0 ?zzhs1 ?_; (case zzB => k_asm); (case zzF => k_asm); (case zzX => k_asm); (case zzN => k_asm); (case zzT => k_asm); (case zzhk => first | assumption | rfl); (case zzhdp => ktr_room); (case zzhun => units_room); (case zzU => walk_at "MY UPDF"); (case zzhq => k_mem); (case zzhi => assumption); (case zzhlen => assumption); (case zzhm => omega); (case zzhm2 => omega); (case zzhs0 => omega); (case zzhs1 => omega)); intro zzd9 zzt9 zzv9 zzh9 zztk9 zzhd0 zzhd1 zzhs0 zzhs1 zzF9 zzN9; (try dsimp only at zzN9); (try dsimp only))) | dsimp only | (leave1; (try dsimp only)) | fail "no step"))))))
  all_goals (try k_data)
  rename News _ _ _ _ => N19
  obtain ⟨⟨ps8, h8⟩, row, lab, u, kk, hN, hrow, hok⟩ := hTF.opened hw hcl (mem_of8 N19)
  refine tailE hsc' rfl (by k_asm) (by k_asm) X N19 T ⟨_, _, _, ⟨_, _, _, by k_mem, by k_mem⟩, root_of (by k_mem) (by k_mem) (by k_mem) hdT (by assumption) (by k_mem) (by k_mem) (by assumption) (by assumption) (by k_mem) (by k_mem), _, _, _, din_of (by assumption) (by k_mem) (by assumption), hN, hrow, hok⟩ hi hx hn h8 fun m' h' tk' F' N' => ret m' h' tk' ps8 F' N'
end
section
theorem tailC {D d9 : Addr} {i n : Int} {ti tx tn tc : Tok} {x : Str} {cs : List Int} {d2 : Option Value} {vs9 : List Value} {k9 : Nat} (hsc : sc = scopeOf lawDef) (hss : ss = lawBody.drop 8)
   (B : Below callerA base [] h₀) (F : Fr h₀ L s.heap (fun y => if y = "due" then some (.ref d9) else if y = "due" then d2 else tailM D i ti x tx n tn cs tc m0 y)) (X : (frag.heap_1 w.params).In h₀) (N : News h₀ L s.heap ((d9, lstO vs9 k9) :: news)) (T : Top pv loose mean mg mb h₀)
   (hD9 : DatAll news vs9 (dueP cs ++ (dueS x ++ dueN n))) (hTF : TreeF w news D i x cs n) (hw : ∀ c ∈ cs, whole c) (hcl : cs.length ≤ 6) (hi : 0 ≤ i) (hx : styles.any (· == x) = true) (hn : 1 ≤ n)
   (ret : ∀ m' h' tk' ps8, Fr h₀ L h' m' → News h₀ L h' [(438, tabObj ps8)] → Q (.ret (.bool true)) { s with heap := h', toks := tk' }) :
   wpAny (model pr w) (callerA.deeper (envOf (Str.ofString "law") sc L fa cd)) (execs ss (envOf (Str.ofString "law") sc L fa cd)) Q E s := by
  have hsc' := hsc
  conv at hsc => rhs; whnf
  conv at hss => rhs; whnf
  subst hsc hss
  ((skip; repeat' ((fail_if_success (with_reducible show wpAny _ _ (execs (Stmt.Assign _ (PySem.Expr.Call _ [] [] _) _ :: _) _) _ _ _)); (fail_if_success (with_reducible show wpAny _ _ (binaryOp Operator.Add (Value.ref _) (Value.ref _)) _ _ _)); ((first | (k_unfold; (try dsimp only)) | (with_reducible refine gen3 ?_; intro _) | ((with_reducible show wpAny _ _ (exec (Stmt.Assign _ _ _) _) _ _ _); k_fold) | ((with_reducible show wpAny _ _ (exec (Stmt.Return _ _) _) _ _ _); k_fold) | ((with_reducible show wpAny _ _ (eval (PySem.Expr.Call _ _ _ _) _) _ _ _); k_fold) | with_reducible refine seq_next ?_ | with_reducible refine seq_ret ?_ | ((fail_if_success (with_reducible show GrownAll _ _)); (fail_if_success (with_reducible show wpAny _ _ (compareOp _ (Value.ref _) (Value.ref _)) _ _ _)); (fail_if_success (with_reducible show wpAny _ _ (exec (Stmt.Assign [PySem.Expr.Name _ _] (PySem.Expr.IfExp _ _ _ _) _) _) _ _ _)); (fail_if_success (with_reducible show wpAny _ _ (exec (Stmt.Assign [PySem.Expr.Name _ _] (PySem.Expr.BinOp _ _ _ _) _) _) _ _ _)); first | (first | ((with_reducible show wpAny _ _ (binaryOp Operator.Add (Value.ref _) (Value.ref _)) _ _ _); with_reducible ((refine' r_addlist ?zzk1 ?zzk2 ?zzk3 ?zzk4 ?zzk5 ?_; (case zzk1 => k_asm); (case zzk2 => k_asm); (case zzk3 => k_dflt k_mem); (case zzk4 => k_dflt k_mem); (case zzk5 => (simp only [List.length_append, List.length_cons, List.length_nil]; omega)); intro zzD' zzh' zzF' zzN' zzhne'))) | ((with_reducible show wpAny _ _ (callWith _ (Value.ref _) _ (backTo _ (starEach [] _)) _) _ _ _); with_reducible ((k_dflt (refine' callWith_K0 ?zzk1 ?zzk2 ?_; (case zzk1 => k_in); (case zzk2 => k_is); k_whole); (try dsimp only)))) | walk_at "MY STEP") | (first | ((with_reducible show wpAny _ _ (call (Value.ref 363) _) _ _ _); k_dflt (refine' shelf_ok ?zzB ?zzF ?zzX ?zzN ?zzT ?zzhk ?zzhdp ?zzhun ?_; (case zzB => k_asm); (case zzF => k_asm); (case zzX => k_asm); (case zzN => k_asm); (case zzT => k_asm); (case zzhk => first | assumption | rfl); (case zzhdp => ktr_room); (case zzhun => units_room)); intro zzsh9 zzd9 zztb9 zztr9 zzoT9 zzoR9 zzk39 zzk49 zzh9 zztk9 zzF9 zzN9 zzhT9 zzhR9 zzlo9 zzlo99 zzlT9 zzlR9; (try dsimp only)) | ((with_reducible show wpAny _ _ (call (Value.ref 254) _) _ _ _); walk1) | ((with_reducible show wpAny _ _ (call (Value.ref 205) _) _ _ _); walk1) | ((with_reducible show wpAny _ _ (call (Value.ref 183) _) _ _ _); walk1) | ((with_reducible show wpAny _ _ (call (Value.ref 539) _) _ _ _); k_dflt (refine' lread_ok ?zzB ?zzF ?zzX ?zzN ?zzT ?zzhk ?zzhdp ?zzhun ?zzhks ?zzhlen ?_; (case zzB => k_asm); (case zzF => k_asm); (case zzX => k_asm); (case zzN => k_asm); (case zzT => k_asm); (case zzhk => first | assumption | rfl); (case zzhdp => ktr_room); (case zzhun => units_room); (case zzhks => exact KBa.ints_make (by assumption)); (case zzhlen => omega)); intro zzt9 zzh9 zztk9 zzF9 zzN9; (try dsimp only)) | ((with_reducible show wpAny _ _ (call (Value.ref 534) _) _ _ _); k_dflt (refine' lk_ok ?zzB ?zzF ?zzX ?zzN ?zzT ?zzhk ?zzhdp ?zzhun ?zzhks ?zzhlen ?zzhb ?_; (case zzB => k_asm); (case zzF => k_asm); (case zzX => k_asm); (case zzN => k_asm); (case zzT => k_asm); (case zzhk => first | assumption | rfl); (case zzhdp => ktr_room); (case zzhun => units_room); (case zzhks => with_reducible assumption); (case zzhlen => omega); (case zzhb => with_reducible assumption)); intro zzt9 zzh9 zztk9 zzF9 zzN9; (try dsimp only)) | ((with_reducible show wpAny _ _ (call (Value.ref 466) _) _ _ _); k_dflt (refine' po_ok ?zzB ?zzF ?zzX ?zzN ?zzT ?zzhk ?zzhdp ?zzhun ?zzhks ?zzhlen ?zzhb ?_; (case zzB => k_asm); (case zzF => k_asm); (case zzX => k_asm); (case zzN => k_asm); (case zzT => k_asm); (case zzhk => first | assumption | rfl); (case zzhdp => ktr_room); (case zzhun => units_room); (case zzhks => with_reducible assumption); (case zzhlen => omega); (case zzhb => with_reducible assumption)); intro zzt9 zzh9 zztk9 zzF9 zzN9; (try dsimp only)) | ((with_reducible show wpAny _ _ (call (Value.ref 478) _) _ _ _); k_dflt (refine' pt_ok ?zzB ?zzF ?zzX ?zzN ?zzT ?zzhk ?zzhdp ?zzhun ?zzhks ?zzhlen ?_; (case zzB => k_asm); (case zzF => k_asm); (case zzX => k_asm); (case zzN => k_asm); (case zzT => k_asm); (case zzhk => first | assumption | rfl); (case zzhdp => ktr_room); (case zzhun => units_room); (case zzhks => first | with_reducible assumption | exact KBa.ints_make (by assumption)); (case zzhlen => first | with_reducible assumption | omega)); intro zzt9 zzh9 zztk9 zzF9 zzN9; (try dsimp only)) | ((with_reducible show wpAny _ _ (call (Value.ref 549) _) _ _ _); k_dflt (refine' data2 ?zzB ?zzF ?zzX ?zzN ?zzT ?zzhk ?zzhdp ?zzhun ?zzhq ?zzU ?zzhi ?zzhlen ?zzhs0 ?zzhs1 ?_; (case zzB => k_asm); (case zzF => k_asm); (case zzX => k_asm); (case zzN => k_asm); (case zzT => k_asm); (case zzhk => first | assumption | rfl); (case zzhdp => ktr_room); (case zzhun => units_room); (case zzU => walk_at "MY UPDF"); (case zzhq => k_mem); (case zzhi => assumption); (case zzhlen => assumption); (case zzhs0 => omega); (case zzhs1 => omega)); intro zzcs9 zzt9 zzv9 zzh9 zztk9 zzhcl9 zzhcm9 zzhs0 zzhs1 zzF9 zzN9; (try dsimp only at zzN9); (try dsimp only)) | ((with_reducible show wpAny _ _ (call (Value.ref 522) _) _ _ _); k_dflt (refine' pick_ok ?zzB ?zzF ?zzX ?zzN ?zzT ?zzhk ?zzhdp ?zzhun ?zzhq ?zzhr ?zzhrp ?zzU ?zzhi ?zzhlen ?zzhm ?zzhm2 ?zzhs0 ?zzhs1 ?_; (case zzB => k_asm); (case zzF => k_asm); (case zzX => k_asm); (case zzN => k_asm); (case zzT => k_asm); (case zzhk => first | assumption | rfl); (case zzhdp => ktr_room); (case zzhun => units_room); (case zzU => walk_at "MY UPDF"); (case zzhq => k_mem); (case zzhi => assumption); (case zzhr => k_mem); (case zzhrp => k_ne); (case zzhlen => assumption); (case zzhm => first | omega | exact Nat.le_of_ble_eq_true rfl); (case zzhm2 => first | omega | exact Nat.le_of_ble_eq_true rfl); (case zzhs0 => omega); (case zzhs1 => omega)); intro zzx9 zzv9 zzh9 zztk9 zzhx9 zzhs0 zzhs1 zzF9 zzN9; (try dsimp only at zzN9); (try dsimp only)) | ((with_reducible show wpAny _ _ (call (Value.ref 515) _) _ _ _); k_dflt (refine' draw2 ?zzB ?zzF ?zzX ?zzN ?zzT ?zzhk ?zzhdp ?zzhun ?zzhq ?zzU ?zzhi ?zzhlen ?zzhm ?zzhm2 ?zzhs0 ?zzhs1 ?_; (case zzB => k_asm); (case zzF => k_asm); (case zzX => k_asm); (case zzN => k_asm); (case zzT => k_asm); (case zzhk => first | assumption | rfl); (case zzhdp => ktr_room); (case zzhun => units_room); (case zzU => walk_at "MY UPDF"); (case zzhq => k_mem); (case zzhi => assumption); (case zzhlen => assumption); (case zzhm => omega); (case zzhm2 => omega); (case zzhs0 => omega); (case zzhs1 => omega)); intro zzd9 zzt9 zzv9 zzh9 zztk9 zzhd0 zzhd1 zzhs0 zzhs1 zzF9 zzN9; (try dsimp only at zzN9); (try dsimp only))) | dsimp only | (leave1; (try dsimp only)) | fail "no step"))))))
  all_goals (try k_data)
  k_dflt (refine' hTF.tells.go _ ?eB ?eF ?eX N ?eT ?ehk ?ehdp ?ehun ?ehs ?eret)
  case eB => k_asm
  case eF => k_asm
  case eX => k_asm
  case eT => k_asm
  case ehk => rfl
  case ehdp => ktr_room
  case ehun => units_room
  case ehs => exact fun p hp => .tail _ hp
  intro T2 c9 h9 tk9 F9 N10 hI9 _
  obtain ⟨top10, N11, hI, hD10, hTF⟩ := hideT N10 hI9 hD9 hTF
  clear N10 hI9 hD9
  have hl9 : vs9.length ≤ 3 := by rw [hD10.length]; unfold dueP dueS dueN; split <;> split <;> split <;> simp
  ((skip; repeat' ((fail_if_success (with_reducible show wpAny _ _ (execs (Stmt.Assign _ (PySem.Expr.Call _ [] [] _) _ :: _) _) _ _ _)); (fail_if_success (with_reducible show wpAny _ _ (binaryOp Operator.Add (Value.ref _) (Value.ref _)) _ _ _)); ((first | (k_unfold; (try dsimp only)) | (with_reducible refine gen3 ?_; intro _) | ((with_reducible show wpAny _ _ (exec (Stmt.Assign _ _ _) _) _ _ _); k_fold) | ((with_reducible show wpAny _ _ (exec (Stmt.Return _ _) _) _ _ _); k_fold) | ((with_reducible show wpAny _ _ (eval (PySem.Expr.Call _ _ _ _) _) _ _ _); k_fold) | with_reducible refine seq_next ?_ | with_reducible refine seq_ret ?_ | ((fail_if_success (with_reducible show GrownAll _ _)); (fail_if_success (with_reducible show wpAny _ _ (compareOp _ (Value.ref _) (Value.ref _)) _ _ _)); (fail_if_success (with_reducible show wpAny _ _ (exec (Stmt.Assign [PySem.Expr.Name _ _] (PySem.Expr.IfExp _ _ _ _) _) _) _ _ _)); (fail_if_success (with_reducible show wpAny _ _ (exec (Stmt.Assign [PySem.Expr.Name _ _] (PySem.Expr.BinOp _ _ _ _) _) _) _ _ _)); first | (first | ((with_reducible show wpAny _ _ (binaryOp Operator.Add (Value.ref _) (Value.ref _)) _ _ _); with_reducible ((refine' r_addlist ?zzk1 ?zzk2 ?zzk3 ?zzk4 ?zzk5 ?_; (case zzk1 => k_asm); (case zzk2 => k_asm); (case zzk3 => k_dflt k_mem); (case zzk4 => k_dflt k_mem); (case zzk5 => (simp only [List.length_append, List.length_cons, List.length_nil]; omega)); intro zzD' zzh' zzF' zzN' zzhne'))) | ((with_reducible show wpAny _ _ (callWith _ (Value.ref _) _ (backTo _ (starEach [] _)) _) _ _ _); with_reducible ((k_dflt (refine' callWith_K0 ?zzk1 ?zzk2 ?_; (case zzk1 => k_in); (case zzk2 => k_is); k_whole); (try dsimp only)))) | walk_at "MY STEP") | (first | ((with_reducible show wpAny _ _ (call (Value.ref 363) _) _ _ _); k_dflt (refine' shelf_ok ?zzB ?zzF ?zzX ?zzN ?zzT ?zzhk ?zzhdp ?zzhun ?_; (case zzB => k_asm); (case zzF => k_asm); (case zzX => k_asm); (case zzN => k_asm); (case zzT => k_asm); (case zzhk => first | assumption | rfl); (case zzhdp => ktr_room); (case zzhun => units_room)); intro zzsh9 zzd9 zztb9 zztr9 zzoT9 zzoR9 zzk39 zzk49 zzh9 zztk9 zzF9 zzN9 zzhT9 zzhR9 zzlo9 zzlo99 zzlT9 zzlR9; (try dsimp only)) | ((with_reducible show wpAny _ _ (call (Value.ref 254) _) _ _ _); walk1) | ((with_reducible show wpAny _ _ (call (Value.ref 205) _) _ _ _); walk1) | ((with_reducible show wpAny _ _ (call (Value.ref 183) _) _ _ _); walk1) | ((with_reducible show wpAny _ _ (call (Value.ref 539) _) _ _ _); k_dflt (refine' lread_ok ?zzB ?zzF ?zzX ?zzN ?zzT ?zzhk ?zzhdp ?zzhun ?zzhks ?zzhlen ?_; (case zzB => k_asm); (case zzF => k_asm); (case zzX => k_asm); (case zzN => k_asm); (case zzT => k_asm); (case zzhk => first | assumption | rfl); (case zzhdp => ktr_room); (case zzhun => units_room); (case zzhks => exact KBa.ints_make (by assumption)); (case zzhlen => omega)); intro zzt9 zzh9 zztk9 zzF9 zzN9; (try dsimp only)) | ((with_reducible show wpAny _ _ (call (Value.ref 534) _) _ _ _); k_dflt (refine' lk_ok ?zzB ?zzF ?zzX ?zzN ?zzT ?zzhk ?zzhdp ?zzhun ?zzhks ?zzhlen ?zzhb ?_; (case zzB => k_asm); (case zzF => k_asm); (case zzX => k_asm); (case zzN => k_asm); (case zzT => k_asm); (case zzhk => first | assumption | rfl); (case zzhdp => ktr_room); (case zzhun => units_room); (case zzhks => with_reducible assumption); (case zzhlen => omega); (case zzhb => with_reducible assumption)); intro zzt9 zzh9 zztk9 zzF9 zzN9; (try dsimp only)) | ((with_reducible show wpAny _ _ (call (Value.ref 466) _) _ _ _); k_dflt (refine' po_ok ?zzB ?zzF ?zzX ?zzN ?zzT ?zzhk ?zzhdp ?zzhun ?zzhks ?zzhlen ?zzhb ?_; (case zzB => k_asm); (case zzF => k_asm); (case zzX => k_asm); (case zzN => k_asm); (case zzT => k_asm); (case zzhk => first | assumption | rfl); (case zzhdp => ktr_room); (case zzhun => units_room); (case zzhks => with_reducible assumption); (case zzhlen => omega); (case zzhb => with_reducible assumption)); intro zzt9 zzh9 zztk9 zzF9 zzN9; (try dsimp only)) | ((with_reducible show wpAny _ _ (call (Value.ref 478) _) _ _ _); k_dflt (refine' pt_ok ?zzB ?zzF ?zzX ?zzN ?zzT ?zzhk ?zzhdp ?zzhun ?zzhks ?zzhlen ?_; (case zzB => k_asm); (case zzF => k_asm); (case zzX => k_asm); (case zzN => k_asm); (case zzT => k_asm); (case zzhk => first | assumption | rfl); (case zzhdp => ktr_room); (case zzhun => units_room); (case zzhks => first | with_reducible assumption | exact KBa.ints_make (by assumption)); (case zzhlen => first | with_reducible assumption | omega)); intro zzt9 zzh9 zztk9 zzF9 zzN9; (try dsimp only)) | ((with_reducible show wpAny _ _ (call (Value.ref 549) _) _ _ _); k_dflt (refine' data2 ?zzB ?zzF ?zzX ?zzN ?zzT ?zzhk ?zzhdp ?zzhun ?zzhq ?zzU ?zzhi ?zzhlen ?zzhs0 ?zzhs1 ?_; (case zzB => k_asm); (case zzF => k_asm); (case zzX => k_asm); (case zzN => k_asm); (case zzT => k_asm); (case zzhk => first | assumption | rfl); (case zzhdp => ktr_room); (case zzhun => units_room); (case zzU => walk_at "MY UPDF"); (case zzhq => k_mem); (case zzhi => assumption); (case zzhlen => assumption); (case zzhs0 => omega); (case zzhs1 => omega)); intro zzcs9 zzt9 zzv9 zzh9 zztk9 zzhcl9 zzhcm9 zzhs0 zzhs1 zzF9 zzN9; (try dsimp only at zzN9); (try dsimp only)) | ((with_reducible show wpAny _ _ (call (Value.ref 522) _) _ _ _); k_dflt (refine' pick_ok ?zzB ?zzF ?zzX ?zzN ?zzT ?zzhk ?zzhdp ?zzhun ?zzhq ?zzhr ?zzhrp ?zzU ?zzhi ?zzhlen ?zzhm ?zzhm2 ?zzhs0 ?zzhs1 ?_; (case zzB => k_asm); (case zzF => k_asm); (case zzX => k_asm); (case zzN => k_asm); (case zzT => k_asm); (case zzhk => first | assumption | rfl); (case zzhdp => ktr_room); (case zzhun => units_room); (case zzU => walk_at "MY UPDF"); (case zzhq => k_mem); (case zzhi => assumption); (case zzhr => k_mem); (case zzhrp => k_ne); (case zzhlen => assumption); (case zzhm => first | omega | exact Nat.le_of_ble_eq_true rfl); (case zzhm2 => first | omega | exact Nat.le_of_ble_eq_true rfl); (case zzhs0 => omega); (case zzhs1 => omega)); intro zzx9 zzv9 zzh9 zztk9 zzhx9 zzhs0 zzhs1 zzF9 zzN9; (try dsimp only at zzN9); (try dsimp only)) | ((with_reducible show wpAny _ _ (call (Value.ref 515) _) _ _ _); k_dflt (refine' draw2 ?zzB ?zzF ?zzX ?zzN ?zzT ?zzhk ?zzhdp ?zzhun ?zzhq ?zzU ?zzhi ?zzhlen ?zzhm ?zzhm2 ?zzhs0 ?zzhs1 ?_; (case zzB => k_asm); (case zzF => k_asm); (case zzX => k_asm); (case zzN => k_asm); (case zzT => k_asm); (case zzhk => first | assumption | rfl); (case zzhdp => ktr_room); (case zzhun => units_room); (case zzU => walk_at "MY UPDF"); (case zzhq => k_mem); (case zzhi => assumption); (case zzhlen => assumption); (case zzhm => omega); (case zzhm2 => omega); (case zzhs0 => omega); (case zzhs1 => omega)); intro zzd9 zzt9 zzv9 zzh9 zztk9 zzhd0 zzhd1 zzhs0 zzhs1 zzF9 zzN9; (try dsimp only at zzN9); (try dsimp only))) | dsimp only | (leave1; (try dsimp only)) | fail "no step"))))))
  all_goals (try k_data)
  k_dflt (refine' r_addtup ?fF ?fN ?ft ?fb ?fz ?_)
  case fF => k_asm
  case fN => k_asm
  case ft => k_mem
  case fb => k_mem
  case fz => omega
  intro D4 c4 h4 F12 N12 m4 _
  obtain ⟨top11, N13, hA, hB, hI, hTF⟩ := hideU N12 (.tuple (List.mem_append_left _ m4) (.cons (.str _ _) (hD10.mono fun p hp => List.mem_append_right _ (by repeat (first | exact hp | refine List.Mem.tail _ ?_))))) (.tuple (by k_dflt k_mem) (.cons (.str _ _) (.cons (.int _ _) .nil))) (hI.mono fun p hp => by repeat (first | exact hp | refine List.Mem.tail _ ?_)) (hTF.mono fun p hp => by repeat (first | exact hp | refine List.Mem.tail _ ?_))
  clear N12 m4 hD10 hl9
  ((skip; repeat' ((fail_if_success (with_reducible show wpAny _ _ (execs (Stmt.Assign _ (PySem.Expr.Call _ [] [] _) _ :: _) _) _ _ _)); (fail_if_success (with_reducible show wpAny _ _ (binaryOp Operator.Add (Value.ref _) (Value.ref _)) _ _ _)); ((first | (k_unfold; (try dsimp only)) | (with_reducible refine gen3 ?_; intro _) | ((with_reducible show wpAny _ _ (exec (Stmt.Assign _ _ _) _) _ _ _); k_fold) | ((with_reducible show wpAny _ _ (exec (Stmt.Return _ _) _) _ _ _); k_fold) | ((with_reducible show wpAny _ _ (eval (PySem.Expr.Call _ _ _ _) _) _ _ _); k_fold) | with_reducible refine seq_next ?_ | with_reducible refine seq_ret ?_ | ((fail_if_success (with_reducible show GrownAll _ _)); (fail_if_success (with_reducible show wpAny _ _ (compareOp _ (Value.ref _) (Value.ref _)) _ _ _)); (fail_if_success (with_reducible show wpAny _ _ (exec (Stmt.Assign [PySem.Expr.Name _ _] (PySem.Expr.IfExp _ _ _ _) _) _) _ _ _)); (fail_if_success (with_reducible show wpAny _ _ (exec (Stmt.Assign [PySem.Expr.Name _ _] (PySem.Expr.BinOp _ _ _ _) _) _) _ _ _)); first | (first | ((with_reducible show wpAny _ _ (binaryOp Operator.Add (Value.ref _) (Value.ref _)) _ _ _); with_reducible ((refine' r_addlist ?zzk1 ?zzk2 ?zzk3 ?zzk4 ?zzk5 ?_; (case zzk1 => k_asm); (case zzk2 => k_asm); (case zzk3 => k_dflt k_mem); (case zzk4 => k_dflt k_mem); (case zzk5 => (simp only [List.length_append, List.length_cons, List.length_nil]; omega)); intro zzD' zzh' zzF' zzN' zzhne'))) | ((with_reducible show wpAny _ _ (callWith _ (Value.ref _) _ (backTo _ (starEach [] _)) _) _ _ _); with_reducible ((k_dflt (refine' callWith_K0 ?zzk1 ?zzk2 ?_; (case zzk1 => k_in); (case zzk2 => k_is); k_whole); (try dsimp only)))) | walk_at "MY STEP") | (first | ((with_reducible show wpAny _ _ (call (Value.ref 363) _) _ _ _); k_dflt (refine' shelf_ok ?zzB ?zzF ?zzX ?zzN ?zzT ?zzhk ?zzhdp ?zzhun ?_; (case zzB => k_asm); (case zzF => k_asm); (case zzX => k_asm); (case zzN => k_asm); (case zzT => k_asm); (case zzhk => first | assumption | rfl); (case zzhdp => ktr_room); (case zzhun => units_room)); intro zzsh9 zzd9 zztb9 zztr9 zzoT9 zzoR9 zzk39 zzk49 zzh9 zztk9 zzF9 zzN9 zzhT9 zzhR9 zzlo9 zzlo99 zzlT9 zzlR9; (try dsimp only)) | ((with_reducible show wpAny _ _ (call (Value.ref 254) _) _ _ _); walk1) | ((with_reducible show wpAny _ _ (call (Value.ref 205) _) _ _ _); walk1) | ((with_reducible show wpAny _ _ (call (Value.ref 183) _) _ _ _); walk1) | ((with_reducible show wpAny _ _ (call (Value.ref 539) _) _ _ _); k_dflt (refine' lread_ok ?zzB ?zzF ?zzX ?zzN ?zzT ?zzhk ?zzhdp ?zzhun ?zzhks ?zzhlen ?_; (case zzB => k_asm); (case zzF => k_asm); (case zzX => k_asm); (case zzN => k_asm); (case zzT => k_asm); (case zzhk => first | assumption | rfl); (case zzhdp => ktr_room); (case zzhun => units_room); (case zzhks => exact KBa.ints_make (by assumption)); (case zzhlen => omega)); intro zzt9 zzh9 zztk9 zzF9 zzN9; (try dsimp only)) | ((with_reducible show wpAny _ _ (call (Value.ref 534) _) _ _ _); k_dflt (refine' lk_ok ?zzB ?zzF ?zzX ?zzN ?zzT ?zzhk ?zzhdp ?zzhun ?zzhks ?zzhlen ?zzhb ?_; (case zzB => k_asm); (case zzF => k_asm); (case zzX => k_asm); (case zzN => k_asm); (case zzT => k_asm); (case zzhk => first | assumption | rfl); (case zzhdp => ktr_room); (case zzhun => units_room); (case zzhks => with_reducible assumption); (case zzhlen => omega); (case zzhb => with_reducible assumption)); intro zzt9 zzh9 zztk9 zzF9 zzN9; (try dsimp only)) | ((with_reducible show wpAny _ _ (call (Value.ref 466) _) _ _ _); k_dflt (refine' po_ok ?zzB ?zzF ?zzX ?zzN ?zzT ?zzhk ?zzhdp ?zzhun ?zzhks ?zzhlen ?zzhb ?_; (case zzB => k_asm); (case zzF => k_asm); (case zzX => k_asm); (case zzN => k_asm); (case zzT => k_asm); (case zzhk => first | assumption | rfl); (case zzhdp => ktr_room); (case zzhun => units_room); (case zzhks => with_reducible assumption); (case zzhlen => omega); (case zzhb => with_reducible assumption)); intro zzt9 zzh9 zztk9 zzF9 zzN9; (try dsimp only)) | ((with_reducible show wpAny _ _ (call (Value.ref 478) _) _ _ _); k_dflt (refine' pt_ok ?zzB ?zzF ?zzX ?zzN ?zzT ?zzhk ?zzhdp ?zzhun ?zzhks ?zzhlen ?_; (case zzB => k_asm); (case zzF => k_asm); (case zzX => k_asm); (case zzN => k_asm); (case zzT => k_asm); (case zzhk => first | assumption | rfl); (case zzhdp => ktr_room); (case zzhun => units_room); (case zzhks => first | with_reducible assumption | exact KBa.ints_make (by assumption)); (case zzhlen => first | with_reducible assumption | omega)); intro zzt9 zzh9 zztk9 zzF9 zzN9; (try dsimp only)) | ((with_reducible show wpAny _ _ (call (Value.ref 549) _) _ _ _); k_dflt (refine' data2 ?zzB ?zzF ?zzX ?zzN ?zzT ?zzhk ?zzhdp ?zzhun ?zzhq ?zzU ?zzhi ?zzhlen ?zzhs0 ?zzhs1 ?_; (case zzB => k_asm); (case zzF => k_asm); (case zzX => k_asm); (case zzN => k_asm); (case zzT => k_asm); (case zzhk => first | assumption | rfl); (case zzhdp => ktr_room); (case zzhun => units_room); (case zzU => walk_at "MY UPDF"); (case zzhq => k_mem); (case zzhi => assumption); (case zzhlen => assumption); (case zzhs0 => omega); (case zzhs1 => omega)); intro zzcs9 zzt9 zzv9 zzh9 zztk9 zzhcl9 zzhcm9 zzhs0 zzhs1 zzF9 zzN9; (try dsimp only at zzN9); (try dsimp only)) | ((with_reducible show wpAny _ _ (call (Value.ref 522) _) _ _ _); k_dflt (refine' pick_ok ?zzB ?zzF ?zzX ?zzN ?zzT ?zzhk ?zzhdp ?zzhun ?zzhq ?zzhr ?zzhrp ?zzU ?zzhi ?zzhlen ?zzhm ?zzhm2 ?zzhs0 ?zzhs1 ?_; (case zzB => k_asm); (case zzF => k_asm); (case zzX => k_asm); (case zzN => k_asm); (case zzT => k_asm); (case zzhk => first | assumption | rfl); (case zzhdp => ktr_room); (case zzhun => units_room); (case zzU => walk_at "MY UPDF"); (case zzhq => k_mem); (case zzhi => assumption); (case zzhr => k_mem); (case zzhrp => k_ne); (case zzhlen => assumption); (case zzhm => first | omega | exact Nat.le_of_ble_eq_true rfl); (case zzhm2 => first | omega | exact Nat.le_of_ble_eq_true rfl); (case zzhs0 => omega); (case zzhs1 => omega)); intro zzx9 zzv9 zzh9 zztk9 zzhx9 zzhs0 zzhs1 zzF9 zzN9; (try dsimp only at zzN9); (try dsimp only)) | ((with_reducible show wpAny _ _ (call (Value.ref 515) _) _ _ _); k_dflt (refine' draw2 ?zzB ?zzF ?zzX ?zzN ?zzT ?zzhk ?zzhdp ?zzhun ?zzhq ?zzU ?zzhi ?zzhlen ?zzhm ?zzhm2 ?zzhs0 ?zzhs1 ?_; (case zzB => k_asm); (case zzF => k_asm); (case zzX => k_asm); (case zzN => k_asm); (case zzT => k_asm); (case zzhk => first | assumption | rfl); (case zzhdp => ktr_room); (case zzhun => units_room); (case zzU => walk_at "MY UPDF"); (case zzhq => k_mem); (case zzhi => assumption); (case zzhlen => assumption); (case zzhm => omega); (case zzhm2 => omega); (case zzhs0 => omega); (case zzhs1 => omega)); intro zzd9 zzt9 zzv9 zzh9 zztk9 zzhd0 zzhd1 zzhs0 zzhs1 zzF9 zzN9; (try dsimp only at zzN9); (try dsimp only))) | dsimp only | (leave1; (try dsimp only)) | fail "no step"))))))
  all_goals (try k_data)
  rename News _ _ _ _ => N14
  refine' r_neTup (ds := treeI _ x cs n) 5 N14 ?ga ?gb (treeI_dep _ x cs n) ?gA ?_
  case ga => exact hI.mono fun p hp => .tail _ (.tail _ (.tail _ hp))
  case gb => exact .tuple (by k_dflt k_mem) (.cons (.str _ _) (.cons (.tuple (by k_dflt k_mem) (.cons (.str _ _) (.cons (.tuple (by k_dflt k_mem) (.cons (.str _ _) (.cons (hB.mono fun p hp => .tail _ (.tail _ (.tail _ hp))) (.cons (hA.mono fun p hp => .tail _ (.tail _ (.tail _ hp))) .nil)))) .nil))) .nil))
  case gA => units_room
  dsimp only
  have N15 := news_tail (news_tail (news_tail N14))
  clear N14 hA hB hI
  ((skip; repeat' ((fail_if_success (with_reducible show wpAny _ _ (execs (Stmt.Assign _ (PySem.Expr.Call _ [] [] _) _ :: _) _) _ _ _)); (fail_if_success (with_reducible show wpAny _ _ (binaryOp Operator.Add (Value.ref _) (Value.ref _)) _ _ _)); ((first | (k_unfold; (try dsimp only)) | (with_reducible refine gen3 ?_; intro _) | ((with_reducible show wpAny _ _ (exec (Stmt.Assign _ _ _) _) _ _ _); k_fold) | ((with_reducible show wpAny _ _ (exec (Stmt.Return _ _) _) _ _ _); k_fold) | ((with_reducible show wpAny _ _ (eval (PySem.Expr.Call _ _ _ _) _) _ _ _); k_fold) | with_reducible refine seq_next ?_ | with_reducible refine seq_ret ?_ | ((fail_if_success (with_reducible show GrownAll _ _)); (fail_if_success (with_reducible show wpAny _ _ (compareOp _ (Value.ref _) (Value.ref _)) _ _ _)); (fail_if_success (with_reducible show wpAny _ _ (exec (Stmt.Assign [PySem.Expr.Name _ _] (PySem.Expr.IfExp _ _ _ _) _) _) _ _ _)); (fail_if_success (with_reducible show wpAny _ _ (exec (Stmt.Assign [PySem.Expr.Name _ _] (PySem.Expr.BinOp _ _ _ _) _) _) _ _ _)); first | (first | ((with_reducible show wpAny _ _ (binaryOp Operator.Add (Value.ref _) (Value.ref _)) _ _ _); with_reducible ((refine' r_addlist ?zzk1 ?zzk2 ?zzk3 ?zzk4 ?zzk5 ?_; (case zzk1 => k_asm); (case zzk2 => k_asm); (case zzk3 => k_dflt k_mem); (case zzk4 => k_dflt k_mem); (case zzk5 => (simp only [List.length_append, List.length_cons, List.length_nil]; omega)); intro zzD' zzh' zzF' zzN' zzhne'))) | ((with_reducible show wpAny _ _ (callWith _ (Value.ref _) _ (backTo _ (starEach [] _)) _) _ _ _); with_reducible ((k_dflt (refine' callWith_K0 ?zzk1 ?zzk2 ?_; (case zzk1 => k_in); (case zzk2 => k_is); k_whole); (try dsimp only)))) | walk_at "MY STEP") | (first | ((with_reducible show wpAny _ _ (call (Value.ref 363) _) _ _ _); k_dflt (refine' shelf_ok ?zzB ?zzF ?zzX ?zzN ?zzT ?zzhk ?zzhdp ?zzhun ?_; (case zzB => k_asm); (case zzF => k_asm); (case zzX => k_asm); (case zzN => k_asm); (case zzT => k_asm); (case zzhk => first | assumption | rfl); (case zzhdp => ktr_room); (case zzhun => units_room)); intro zzsh9 zzd9 zztb9 zztr9 zzoT9 zzoR9 zzk39 zzk49 zzh9 zztk9 zzF9 zzN9 zzhT9 zzhR9 zzlo9 zzlo99 zzlT9 zzlR9; (try dsimp only)) | ((with_reducible show wpAny _ _ (call (Value.ref 254) _) _ _ _); walk1) | ((with_reducible show wpAny _ _ (call (Value.ref 205) _) _ _ _); walk1) | ((with_reducible show wpAny _ _ (call (Value.ref 183) _) _ _ _); walk1) | ((with_reducible show wpAny _ _ (call (Value.ref 539) _) _ _ _); k_dflt (refine' lread_ok ?zzB ?zzF ?zzX ?zzN ?zzT ?zzhk ?zzhdp ?zzhun ?zzhks ?zzhlen ?_; (case zzB => k_asm); (case zzF => k_asm); (case zzX => k_asm); (case zzN => k_asm); (case zzT => k_asm); (case zzhk => first | assumption | rfl); (case zzhdp => ktr_room); (case zzhun => units_room); (case zzhks => exact KBa.ints_make (by assumption)); (case zzhlen => omega)); intro zzt9 zzh9 zztk9 zzF9 zzN9; (try dsimp only)) | ((with_reducible show wpAny _ _ (call (Value.ref 534) _) _ _ _); k_dflt (refine' lk_ok ?zzB ?zzF ?zzX ?zzN ?zzT ?zzhk ?zzhdp ?zzhun ?zzhks ?zzhlen ?zzhb ?_; (case zzB => k_asm); (case zzF => k_asm); (case zzX => k_asm); (case zzN => k_asm); (case zzT => k_asm); (case zzhk => first | assumption | rfl); (case zzhdp => ktr_room); (case zzhun => units_room); (case zzhks => with_reducible assumption); (case zzhlen => omega); (case zzhb => with_reducible assumption)); intro zzt9 zzh9 zztk9 zzF9 zzN9; (try dsimp only)) | ((with_reducible show wpAny _ _ (call (Value.ref 466) _) _ _ _); k_dflt (refine' po_ok ?zzB ?zzF ?zzX ?zzN ?zzT ?zzhk ?zzhdp ?zzhun ?zzhks ?zzhlen ?zzhb ?_; (case zzB => k_asm); (case zzF => k_asm); (case zzX => k_asm); (case zzN => k_asm); (case zzT => k_asm); (case zzhk => first | assumption | rfl); (case zzhdp => ktr_room); (case zzhun => units_room); (case zzhks => with_reducible assumption); (case zzhlen => omega); (case zzhb => with_reducible assumption)); intro zzt9 zzh9 zztk9 zzF9 zzN9; (try dsimp only)) | ((with_reducible show wpAny _ _ (call (Value.ref 478) _) _ _ _); k_dflt (refine' pt_ok ?zzB ?zzF ?zzX ?zzN ?zzT ?zzhk ?zzhdp ?zzhun ?zzhks ?zzhlen ?_; (case zzB => k_asm); (case zzF => k_asm); (case zzX => k_asm); (case zzN => k_asm); (case zzT => k_asm); (case zzhk => first | assumption | rfl); (case zzhdp => ktr_room); (case zzhun => units_room); (case zzhks => first | with_reducible assumption | exact KBa.ints_make (by assumption)); (case zzhlen => first | with_reducible assumption | omega)); intro zzt9 zzh9 zztk9 zzF9 zzN9; (try dsimp only)) | ((with_reducible show wpAny _ _ (call (Value.ref 549) _) _ _ _); k_dflt (refine' data2 ?zzB ?zzF ?zzX ?zzN ?zzT ?zzhk ?zzhdp ?zzhun ?zzhq ?zzU ?zzhi ?zzhlen ?zzhs0 ?zzhs1 ?_; (case zzB => k_asm); (case zzF => k_asm); (case zzX => k_asm); (case zzN => k_asm); (case zzT => k_asm); (case zzhk => first | assumption | rfl); (case zzhdp => ktr_room); (case zzhun => units_room); (case zzU => walk_at "MY UPDF"); (case zzhq => k_mem); (case zzhi => assumption); (case zzhlen => assumption); (case zzhs0 => omega); (case zzhs1 => omega)); intro zzcs9 zzt9 zzv9 zzh9 zztk9 zzhcl9 zzhcm9 zzhs0 zzhs1 zzF9 zzN9; (try dsimp only at zzN9); (try dsimp only)) | ((with_reducible show wpAny _ _ (call (Value.ref 522) _) _ _ _); k_dflt (refine' pick_ok ?zzB ?zzF ?zzX ?zzN ?zzT ?zzhk ?zzhdp ?zzhun ?zzhq ?zzhr ?zzhrp ?zzU ?zzhi ?zzhlen ?zzhm ?zzhm2 ?zzhs0 ?zzhs1 ?_; (case zzB => k_asm); (case zzF => k_asm); (case zzX => k_asm); (case zzN => k_asm); (case zzT => k_asm); (case zzhk => first | assumption | rfl); (case zzhdp => ktr_room); (case zzhun => units_room); (case zzU => walk_at "MY UPDF"); (case zzhq => k_mem); (case zzhi => assumption); (case zzhr => k_mem); (case zzhrp => k_ne); (case zzhlen => assumption); (case zzhm => first | omega | exact Nat.le_of_ble_eq_true rfl); (case zzhm2 => first | omega | exact Nat.le_of_ble_eq_true rfl); (case zzhs0 => omega); (case zzhs1 => omega)); intro zzx9 zzv9 zzh9 zztk9 zzhx9 zzhs0 zzhs1 zzF9 zzN9; (try dsimp only at zzN9); (try dsimp only)) | ((with_reducible show wpAny _ _ (call (Value.ref 515) _) _ _ _); k_dflt (refine' draw2 ?zzB ?zzF ?zzX ?zzN ?zzT ?zzhk ?zzhdp ?zzhun ?zzhq ?zzU ?zzhi ?zzhlen ?zzhm ?zzhm2 ?zzhs0 ?zzhs1 ?_; (case zzB => k_asm); (case zzF => k_asm); (case zzX => k_asm); (case zzN => k_asm); (case zzT => k_asm); (case zzhk => first | assumption | rfl); (case zzhdp => ktr_room); (case zzhun => units_room); (case zzU => walk_at "MY UPDF"); (case zzhq => k_mem); (case zzhi => assumption); (case zzhlen => assumption); (case zzhm => omega); (case zzhm2 => omega); (case zzhs0 => omega); (case zzhs1 => omega)); intro zzd9 zzt9 zzv9 zzh9 zztk9 zzhd0 zzhd1 zzhs0 zzhs1 zzF9 zzN9; (try dsimp only at zzN9); (try dsimp only))) | dsimp only | (leave1; (try dsimp only)) | fail "no step"))))))
  all_goals (try k_data)
  exact tailD hsc' rfl (by k_asm) (by k_asm) X N15 T hTF hw hcl hi hx hn fun m' h' tk' ps8 F' N' => ret m' h' tk' ps8 F' N'
end
theorem tailB {i n : Int} {ti tx tn tc : Tok} {x : Str} {cs : List Int} (hsc : sc = scopeOf lawDef) (hss : ss = lawBody.drop 5)
   (B : Below callerA base [] h₀) (F : Fr h₀ L s.heap (fun y => if y = "first" then some (.int i ti) else if y = "style" then some (.str x tx) else if y = "start" then some (.int n tn) else if y = "text" then some (.str (KStt.txt cs) tc) else m0 y)) (X : (frag.heap_1 w.params).In h₀) (N : News h₀ L s.heap news) (T : Top pv loose mean mg mb h₀)
   (C8 : CodeHd base 440 438) (h8 : (438, tabObj #[]) ∈ news) (hw : ∀ c ∈ cs, whole c) (hcl : cs.length ≤ 6) (hi : 0 ≤ i) (hx : styles.any (· == x) = true) (hn : 1 ≤ n)
   (ret : ∀ m' h' tk' ps8, Fr h₀ L h' m' → News h₀ L h' [(438, tabObj ps8)] → Q (.ret (.bool true)) { s with heap := h', toks := tk' }) :
   wpAny (model pr w) (callerA.deeper (envOf (Str.ofString "law") sc L fa cd)) (execs ss (envOf (Str.ofString "law") sc L fa cd)) Q E s := by
  have hsc' := hsc
  conv at hsc => rhs; whnf
  conv at hss => rhs; whnf
  subst hsc hss
  have hb : ∀ c ∈ cs, 0 ≤ c ∧ c < 1114112 := fun c hc => ⟨(hw c hc).1, (hw c hc).2.1⟩
  have hcodes : KStt.codes (KStt.txt cs) = cs := codes_txt fun c hc => (hw c hc).1
  ((skip; repeat' ((first | (k_unfold; (try dsimp only)) | (with_reducible refine gen3 ?_; intro _) | ((with_reducible show wpAny _ _ (exec (Stmt.Assign _ _ _) _) _ _ _); k_fold) | ((with_reducible show wpAny _ _ (exec (Stmt.Return _ _) _) _ _ _); k_fold) | ((with_reducible show wpAny _ _ (eval (PySem.Expr.Call _ _ _ _) _) _ _ _); k_fold) | with_reducible refine seq_next ?_ | with_reducible refine seq_ret ?_ | ((fail_if_success (with_reducible show GrownAll _ _)); (fail_if_success (with_reducible show wpAny _ _ (compareOp _ (Value.ref _) (Value.ref _)) _ _ _)); (fail_if_success (with_reducible show wpAny _ _ (exec (Stmt.Assign [PySem.Expr.Name _ _] (PySem.Expr.IfExp _ _ _ _) _) _) _ _ _)); (fail_if_success (with_reducible show wpAny _ _ (exec (Stmt.Assign [PySem.Expr.Name _ _] (PySem.Expr.BinOp _ _ _ _) _) _) _ _ _)); first | (first | ((with_reducible show wpAny _ _ (binaryOp Operator.Add (Value.ref _) (Value.ref _)) _ _ _); with_reducible ((refine' r_addlist ?zzk1 ?zzk2 ?zzk3 ?zzk4 ?zzk5 ?_; (case zzk1 => k_asm); (case zzk2 => k_asm); (case zzk3 => k_dflt k_mem); (case zzk4 => k_dflt k_mem); (case zzk5 => (simp only [List.length_append, List.length_cons, List.length_nil]; omega)); intro zzD' zzh' zzF' zzN' zzhne'))) | ((with_reducible show wpAny _ _ (callWith _ (Value.ref _) _ (backTo _ (starEach [] _)) _) _ _ _); with_reducible ((k_dflt (refine' callWith_K0 ?zzk1 ?zzk2 ?_; (case zzk1 => k_in); (case zzk2 => k_is); k_whole); (try dsimp only)))) | walk_at "MY STEP") | (first | ((with_reducible show wpAny _ _ (call (Value.ref 363) _) _ _ _); k_dflt (refine' shelf_ok ?zzB ?zzF ?zzX ?zzN ?zzT ?zzhk ?zzhdp ?zzhun ?_; (case zzB => k_asm); (case zzF => k_asm); (case zzX => k_asm); (case zzN => k_asm); (case zzT => k_asm); (case zzhk => first | assumption | rfl); (case zzhdp => ktr_room); (case zzhun => units_room)); intro zzsh9 zzd9 zztb9 zztr9 zzoT9 zzoR9 zzk39 zzk49 zzh9 zztk9 zzF9 zzN9 zzhT9 zzhR9 zzlo9 zzlo99 zzlT9 zzlR9; (try dsimp only)) | ((with_reducible show wpAny _ _ (call (Value.ref 254) _) _ _ _); walk1) | ((with_reducible show wpAny _ _ (call (Value.ref 205) _) _ _ _); walk1) | ((with_reducible show wpAny _ _ (call (Value.ref 183) _) _ _ _); walk1) | ((with_reducible show wpAny _ _ (call (Value.ref 539) _) _ _ _); k_dflt (refine' lread_ok ?zzB ?zzF ?zzX ?zzN ?zzT ?zzhk ?zzhdp ?zzhun ?zzhks ?zzhlen ?_; (case zzB => k_asm); (case zzF => k_asm); (case zzX => k_asm); (case zzN => k_asm); (case zzT => k_asm); (case zzhk => first | assumption | rfl); (case zzhdp => ktr_room); (case zzhun => units_room); (case zzhks => exact KBa.ints_make (by assumption)); (case zzhlen => omega)); intro zzt9 zzh9 zztk9 zzF9 zzN9; (try dsimp only)) | ((with_reducible show wpAny _ _ (call (Value.ref 534) _) _ _ _); k_dflt (refine' lk_ok ?zzB ?zzF ?zzX ?zzN ?zzT ?zzhk ?zzhdp ?zzhun ?zzhks ?zzhlen ?zzhb ?_; (case zzB => k_asm); (case zzF => k_asm); (case zzX => k_asm); (case zzN => k_asm); (case zzT => k_asm); (case zzhk => first | assumption | rfl); (case zzhdp => ktr_room); (case zzhun => units_room); (case zzhks => with_reducible assumption); (case zzhlen => omega); (case zzhb => with_reducible assumption)); intro zzt9 zzh9 zztk9 zzF9 zzN9; (try dsimp only)) | ((with_reducible show wpAny _ _ (call (Value.ref 466) _) _ _ _); k_dflt (refine' po_ok ?zzB ?zzF ?zzX ?zzN ?zzT ?zzhk ?zzhdp ?zzhun ?zzhks ?zzhlen ?zzhb ?_; (case zzB => k_asm); (case zzF => k_asm); (case zzX => k_asm); (case zzN => k_asm); (case zzT => k_asm); (case zzhk => first | assumption | rfl); (case zzhdp => ktr_room); (case zzhun => units_room); (case zzhks => with_reducible assumption); (case zzhlen => omega); (case zzhb => with_reducible assumption)); intro zzt9 zzh9 zztk9 zzF9 zzN9; (try dsimp only)) | ((with_reducible show wpAny _ _ (call (Value.ref 478) _) _ _ _); k_dflt (refine' pt_ok ?zzB ?zzF ?zzX ?zzN ?zzT ?zzhk ?zzhdp ?zzhun ?zzhks ?zzhlen ?_; (case zzB => k_asm); (case zzF => k_asm); (case zzX => k_asm); (case zzN => k_asm); (case zzT => k_asm); (case zzhk => first | assumption | rfl); (case zzhdp => ktr_room); (case zzhun => units_room); (case zzhks => first | with_reducible assumption | exact KBa.ints_make (by assumption)); (case zzhlen => first | with_reducible assumption | omega)); intro zzt9 zzh9 zztk9 zzF9 zzN9; (try dsimp only)) | ((with_reducible show wpAny _ _ (call (Value.ref 549) _) _ _ _); k_dflt (refine' data2 ?zzB ?zzF ?zzX ?zzN ?zzT ?zzhk ?zzhdp ?zzhun ?zzhq ?zzU ?zzhi ?zzhlen ?zzhs0 ?zzhs1 ?_; (case zzB => k_asm); (case zzF => k_asm); (case zzX => k_asm); (case zzN => k_asm); (case zzT => k_asm); (case zzhk => first | assumption | rfl); (case zzhdp => ktr_room); (case zzhun => units_room); (case zzU => walk_at "MY UPDF"); (case zzhq => k_mem); (case zzhi => assumption); (case zzhlen => assumption); (case zzhs0 => omega); (case zzhs1 => omega)); intro zzcs9 zzt9 zzv9 zzh9 zztk9 zzhcl9 zzhcm9 zzhs0 zzhs1 zzF9 zzN9; (try dsimp only at zzN9); (try dsimp only)) | ((with_reducible show wpAny _ _ (call (Value.ref 522) _) _ _ _); k_dflt (refine' pick_ok ?zzB ?zzF ?zzX ?zzN ?zzT ?zzhk ?zzhdp ?zzhun ?zzhq ?zzhr ?zzhrp ?zzU ?zzhi ?zzhlen ?zzhm ?zzhm2 ?zzhs0 ?zzhs1 ?_; (case zzB => k_asm); (case zzF => k_asm); (case zzX => k_asm); (case zzN => k_asm); (case zzT => k_asm); (case zzhk => first | assumption | rfl); (case zzhdp => ktr_room); (case zzhun => units_room); (case zzU => walk_at "MY UPDF"); (case zzhq => k_mem); (case zzhi => assumption); (case zzhr => k_mem); (case zzhrp => k_ne); (case zzhlen => assumption); (case zzhm => first | omega | exact Nat.le_of_ble_eq_true rfl); (case zzhm2 => first | omega | exact Nat.le_of_ble_eq_true rfl); (case zzhs0 => omega); (case zzhs1 => omega)); intro zzx9 zzv9 zzh9 zztk9 zzhx9 zzhs0 zzhs1 zzF9 zzN9; (try dsimp only at zzN9); (try dsimp only)) | ((with_reducible show wpAny _ _ (call (Value.ref 515) _) _ _ _); k_dflt (refine' draw2 ?zzB ?zzF ?zzX ?zzN ?zzT ?zzhk ?zzhdp ?zzhun ?zzhq ?zzU ?zzhi ?zzhlen ?zzhm ?zzhm2 ?zzhs0 ?zzhs1 ?_; (case zzB => k_asm); (case zzF => k_asm); (case zzX => k_asm); (case zzN => k_asm); (case zzT => k_asm); (case zzhk => first | assumption | rfl); (case zzhdp => ktr_room); (case zzhun => units_room); (case zzU => walk_at "MY UPDF"); (case zzhq => k_mem); (case zzhi => assumption); (case zzhlen => assumption); (case zzhm => omega); (case zzhm2 => omega); (case zzhs0 => omega); (case zzhs1 => omega)); intro zzd9 zzt9 zzv9 zzh9 zztk9 zzhd0 zzhd1 zzhs0 zzhs1 zzF9 zzN9; (try dsimp only at zzN9); (try dsimp only))) | dsimp only | (leave1; (try dsimp only)) | fail "no step")))))
  all_goals (try k_data)
  k_dflt (refine' wl_ok ?dB ?dF ?dX ?dN ?dT ?dhk ?dhdp ?dhun C8 ?dm1 ?dm2 ?dm3 hi hx hn hcl hb ?dret)
  case dB => k_asm
  case dF => k_asm
  case dX => k_asm
  case dN => k_asm
  case dT => k_asm
  case dhk => rfl
  case dhdp => ktr_room
  case dhun => units_room
  case dm1 => k_mem
  case dm2 => k_mem
  case dm3 => first | k_mem | (repeat (first | exact h8 | refine List.Mem.tail _ ?_))
  intro D row lab k7 tr7 ti7 ps7 c7 h7 tk7 F7 N7 hd7 lo7 hL7
  obtain ⟨top7, N8, hTF⟩ := hideN N7 hd7 lo7 hL7
  clear N7 hd7 lo7 hL7
  ((skip; repeat' ((first | (k_unfold; (try dsimp only)) | (with_reducible refine gen3 ?_; intro _) | ((with_reducible show wpAny _ _ (exec (Stmt.Assign _ _ _) _) _ _ _); k_fold) | ((with_reducible show wpAny _ _ (exec (Stmt.Return _ _) _) _ _ _); k_fold) | ((with_reducible show wpAny _ _ (eval (PySem.Expr.Call _ _ _ _) _) _ _ _); k_fold) | with_reducible refine seq_next ?_ | with_reducible refine seq_ret ?_ | ((fail_if_success (with_reducible show GrownAll _ _)); (fail_if_success (with_reducible show wpAny _ _ (compareOp _ (Value.ref _) (Value.ref _)) _ _ _)); (fail_if_success (with_reducible show wpAny _ _ (exec (Stmt.Assign [PySem.Expr.Name _ _] (PySem.Expr.IfExp _ _ _ _) _) _) _ _ _)); (fail_if_success (with_reducible show wpAny _ _ (exec (Stmt.Assign [PySem.Expr.Name _ _] (PySem.Expr.BinOp _ _ _ _) _) _) _ _ _)); first | (first | ((with_reducible show wpAny _ _ (binaryOp Operator.Add (Value.ref _) (Value.ref _)) _ _ _); with_reducible ((refine' r_addlist ?zzk1 ?zzk2 ?zzk3 ?zzk4 ?zzk5 ?_; (case zzk1 => k_asm); (case zzk2 => k_asm); (case zzk3 => k_dflt k_mem); (case zzk4 => k_dflt k_mem); (case zzk5 => (simp only [List.length_append, List.length_cons, List.length_nil]; omega)); intro zzD' zzh' zzF' zzN' zzhne'))) | ((with_reducible show wpAny _ _ (callWith _ (Value.ref _) _ (backTo _ (starEach [] _)) _) _ _ _); with_reducible ((k_dflt (refine' callWith_K0 ?zzk1 ?zzk2 ?_; (case zzk1 => k_in); (case zzk2 => k_is); k_whole); (try dsimp only)))) | walk_at "MY STEP") | (first | ((with_reducible show wpAny _ _ (call (Value.ref 363) _) _ _ _); k_dflt (refine' shelf_ok ?zzB ?zzF ?zzX ?zzN ?zzT ?zzhk ?zzhdp ?zzhun ?_; (case zzB => k_asm); (case zzF => k_asm); (case zzX => k_asm); (case zzN => k_asm); (case zzT => k_asm); (case zzhk => first | assumption | rfl); (case zzhdp => ktr_room); (case zzhun => units_room)); intro zzsh9 zzd9 zztb9 zztr9 zzoT9 zzoR9 zzk39 zzk49 zzh9 zztk9 zzF9 zzN9 zzhT9 zzhR9 zzlo9 zzlo99 zzlT9 zzlR9; (try dsimp only)) | ((with_reducible show wpAny _ _ (call (Value.ref 254) _) _ _ _); walk1) | ((with_reducible show wpAny _ _ (call (Value.ref 205) _) _ _ _); walk1) | ((with_reducible show wpAny _ _ (call (Value.ref 183) _) _ _ _); walk1) | ((with_reducible show wpAny _ _ (call (Value.ref 539) _) _ _ _); k_dflt (refine' lread_ok ?zzB ?zzF ?zzX ?zzN ?zzT ?zzhk ?zzhdp ?zzhun ?zzhks ?zzhlen ?_; (case zzB => k_asm); (case zzF => k_asm); (case zzX => k_asm); (case zzN => k_asm); (case zzT => k_asm); (case zzhk => first | assumption | rfl); (case zzhdp => ktr_room); (case zzhun => units_room); (case zzhks => exact KBa.ints_make (by assumption)); (case zzhlen => omega)); intro zzt9 zzh9 zztk9 zzF9 zzN9; (try dsimp only)) | ((with_reducible show wpAny _ _ (call (Value.ref 534) _) _ _ _); k_dflt (refine' lk_ok ?zzB ?zzF ?zzX ?zzN ?zzT ?zzhk ?zzhdp ?zzhun ?zzhks ?zzhlen ?zzhb ?_; (case zzB => k_asm); (case zzF => k_asm); (case zzX => k_asm); (case zzN => k_asm); (case zzT => k_asm); (case zzhk => first | assumption | rfl); (case zzhdp => ktr_room); (case zzhun => units_room); (case zzhks => with_reducible assumption); (case zzhlen => omega); (case zzhb => with_reducible assumption)); intro zzt9 zzh9 zztk9 zzF9 zzN9; (try dsimp only)) | ((with_reducible show wpAny _ _ (call (Value.ref 466) _) _ _ _); k_dflt (refine' po_ok ?zzB ?zzF ?zzX ?zzN ?zzT ?zzhk ?zzhdp ?zzhun ?zzhks ?zzhlen ?zzhb ?_; (case zzB => k_asm); (case zzF => k_asm); (case zzX => k_asm); (case zzN => k_asm); (case zzT => k_asm); (case zzhk => first | assumption | rfl); (case zzhdp => ktr_room); (case zzhun => units_room); (case zzhks => with_reducible assumption); (case zzhlen => omega); (case zzhb => with_reducible assumption)); intro zzt9 zzh9 zztk9 zzF9 zzN9; (try dsimp only)) | ((with_reducible show wpAny _ _ (call (Value.ref 478) _) _ _ _); k_dflt (refine' pt_ok ?zzB ?zzF ?zzX ?zzN ?zzT ?zzhk ?zzhdp ?zzhun ?zzhks ?zzhlen ?_; (case zzB => k_asm); (case zzF => k_asm); (case zzX => k_asm); (case zzN => k_asm); (case zzT => k_asm); (case zzhk => first | assumption | rfl); (case zzhdp => ktr_room); (case zzhun => units_room); (case zzhks => first | with_reducible assumption | exact KBa.ints_make (by assumption)); (case zzhlen => first | with_reducible assumption | omega)); intro zzt9 zzh9 zztk9 zzF9 zzN9; (try dsimp only)) | ((with_reducible show wpAny _ _ (call (Value.ref 549) _) _ _ _); k_dflt (refine' data2 ?zzB ?zzF ?zzX ?zzN ?zzT ?zzhk ?zzhdp ?zzhun ?zzhq ?zzU ?zzhi ?zzhlen ?zzhs0 ?zzhs1 ?_; (case zzB => k_asm); (case zzF => k_asm); (case zzX => k_asm); (case zzN => k_asm); (case zzT => k_asm); (case zzhk => first | assumption | rfl); (case zzhdp => ktr_room); (case zzhun => units_room); (case zzU => walk_at "MY UPDF"); (case zzhq => k_mem); (case zzhi => assumption); (case zzhlen => assumption); (case zzhs0 => omega); (case zzhs1 => omega)); intro zzcs9 zzt9 zzv9 zzh9 zztk9 zzhcl9 zzhcm9 zzhs0 zzhs1 zzF9 zzN9; (try dsimp only at zzN9); (try dsimp only)) | ((with_reducible show wpAny _ _ (call (Value.ref 522) _) _ _ _); k_dflt (refine' pick_ok ?zzB ?zzF ?zzX ?zzN ?zzT ?zzhk ?zzhdp ?zzhun ?zzhq ?zzhr ?zzhrp ?zzU ?zzhi ?zzhlen ?zzhm ?zzhm2 ?zzhs0 ?zzhs1 ?_; (case zzB => k_asm); (case zzF => k_asm); (case zzX => k_asm); (case zzN => k_asm); (case zzT => k_asm); (case zzhk => first | assumption | rfl); (case zzhdp => ktr_room); (case zzhun => units_room); (case zzU => walk_at "MY UPDF"); (case zzhq => k_mem); (case zzhi => assumption); (case zzhr => k_mem); (case zzhrp => k_ne); (case zzhlen => assumption); (case zzhm => first | omega | exact Nat.le_of_ble_eq_true rfl); (case zzhm2 => first | omega | exact Nat.le_of_ble_eq_true rfl); (case zzhs0 => omega); (case zzhs1 => omega)); intro zzx9 zzv9 zzh9 zztk9 zzhx9 zzhs0 zzhs1 zzF9 zzN9; (try dsimp only at zzN9); (try dsimp only)) | ((with_reducible show wpAny _ _ (call (Value.ref 515) _) _ _ _); k_dflt (refine' draw2 ?zzB ?zzF ?zzX ?zzN ?zzT ?zzhk ?zzhdp ?zzhun ?zzhq ?zzU ?zzhi ?zzhlen ?zzhm ?zzhm2 ?zzhs0 ?zzhs1 ?_; (case zzB => k_asm); (case zzF => k_asm); (case zzX => k_asm); (case zzN => k_asm); (case zzT => k_asm); (case zzhk => first | assumption | rfl); (case zzhdp => ktr_room); (case zzhun => units_room); (case zzU => walk_at "MY UPDF"); (case zzhq => k_mem); (case zzhi => assumption); (case zzhlen => assumption); (case zzhm => omega); (case zzhm2 => omega); (case zzhs0 => omega); (case zzhs1 => omega)); intro zzd9 zzt9 zzv9 zzh9 zztk9 zzhd0 zzhd1 zzhs0 zzhs1 zzF9 zzN9; (try dsimp only at zzN9); (try dsimp only))) | dsimp only | (leave1; (try dsimp only)) | fail "no step")))))
  all_goals (try k_data)
  rename Fr _ _ _ _ => F8
  refine due_cut F8 hTF (dueP cs) ?due1 ?due1q
  case due1 =>
    by_cases hc : cs = []
    · have q3 : (KStt.txt cs == Str.ofString "") = true := by rw [hc]; decide +kernel
      (skip; repeat' (first | (k_unfold; (try dsimp only)) | (with_reducible refine gen3 ?_; intro _) | ((with_reducible show wpAny _ _ (exec (Stmt.Assign _ _ _) _) _ _ _); k_fold) | ((with_reducible show wpAny _ _ (exec (Stmt.Return _ _) _) _ _ _); k_fold) | ((with_reducible show wpAny _ _ (eval (PySem.Expr.Call _ _ _ _) _) _ _ _); k_fold) | with_reducible refine seq_next ?_ | with_reducible refine seq_ret ?_ | (first | ((with_reducible show wpAny _ _ (binaryOp Operator.Add (Value.ref _) (Value.ref _)) _ _ _); with_reducible ((refine' r_addlist ?zzk1 ?zzk2 ?zzk3 ?zzk4 ?zzk5 ?_; (case zzk1 => k_asm); (case zzk2 => k_asm); (case zzk3 => k_dflt k_mem); (case zzk4 => k_dflt k_mem); (case zzk5 => (simp only [List.length_append, List.length_cons, List.length_nil]; omega)); intro zzD' zzh' zzF' zzN' zzhne'))) | ((with_reducible show wpAny _ _ (callWith _ (Value.ref _) _ (backTo _ (starEach [] _)) _) _ _ _); with_reducible ((k_dflt (refine' callWith_K0 ?zzk1 ?zzk2 ?_; (case zzk1 => k_in); (case zzk2 => k_is); k_whole); (try dsimp only)))) | walk_at "MY STEP") | (first | ((with_reducible show wpAny _ _ (call (Value.ref 363) _) _ _ _); k_dflt (refine' shelf_ok ?zzB ?zzF ?zzX ?zzN ?zzT ?zzhk ?zzhdp ?zzhun ?_; (case zzB => k_asm); (case zzF => k_asm); (case zzX => k_asm); (case zzN => k_asm); (case zzT => k_asm); (case zzhk => first | assumption | rfl); (case zzhdp => ktr_room); (case zzhun => units_room)); intro zzsh9 zzd9 zztb9 zztr9 zzoT9 zzoR9 zzk39 zzk49 zzh9 zztk9 zzF9 zzN9 zzhT9 zzhR9 zzlo9 zzlo99 zzlT9 zzlR9; (try dsimp only)) | ((with_reducible show wpAny _ _ (call (Value.ref 254) _) _ _ _); walk1) | ((with_reducible show wpAny _ _ (call (Value.ref 205) _) _ _ _); walk1) | ((with_reducible show wpAny _ _ (call (Value.ref 183) _) _ _ _); walk1) | ((with_reducible show wpAny _ _ (call (Value.ref 539) _) _ _ _); k_dflt (refine' lread_ok ?zzB ?zzF ?zzX ?zzN ?zzT ?zzhk ?zzhdp ?zzhun ?zzhks ?zzhlen ?_; (case zzB => k_asm); (case zzF => k_asm); (case zzX => k_asm); (case zzN => k_asm); (case zzT => k_asm); (case zzhk => first | assumption | rfl); (case zzhdp => ktr_room); (case zzhun => units_room); (case zzhks => exact KBa.ints_make (by assumption)); (case zzhlen => omega)); intro zzt9 zzh9 zztk9 zzF9 zzN9; (try dsimp only)) | ((with_reducible show wpAny _ _ (call (Value.ref 534) _) _ _ _); k_dflt (refine' lk_ok ?zzB ?zzF ?zzX ?zzN ?zzT ?zzhk ?zzhdp ?zzhun ?zzhks ?zzhlen ?zzhb ?_; (case zzB => k_asm); (case zzF => k_asm); (case zzX => k_asm); (case zzN => k_asm); (case zzT => k_asm); (case zzhk => first | assumption | rfl); (case zzhdp => ktr_room); (case zzhun => units_room); (case zzhks => with_reducible assumption); (case zzhlen => omega); (case zzhb => with_reducible assumption)); intro zzt9 zzh9 zztk9 zzF9 zzN9; (try dsimp only)) | ((with_reducible show wpAny _ _ (call (Value.ref 466) _) _ _ _); k_dflt (refine' po_ok ?zzB ?zzF ?zzX ?zzN ?zzT ?zzhk ?zzhdp ?zzhun ?zzhks ?zzhlen ?zzhb ?_; (case zzB => k_asm); (case zzF => k_asm); (case zzX => k_asm); (case zzN => k_asm); (case zzT => k_asm); (case zzhk => first | assumption | rfl); (case zzhdp => ktr_room); (case zzhun => units_room); (case zzhks => with_reducible assumption); (case zzhlen => omega); (case zzhb => with_reducible assumption)); intro zzt9 zzh9 zztk9 zzF9 zzN9; (try dsimp only)) | ((with_reducible show wpAny _ _ (call (Value.ref 478) _) _ _ _); k_dflt (refine' pt_ok ?zzB ?zzF ?zzX ?zzN ?zzT ?zzhk ?zzhdp ?zzhun ?zzhks ?zzhlen ?_; (case zzB => k_asm); (case zzF => k_asm); (case zzX => k_asm); (case zzN => k_asm); (case zzT => k_asm); (case zzhk => first | assumption | rfl); (case zzhdp => ktr_room); (case zzhun => units_room); (case zzhks => first | with_reducible assumption | exact KBa.ints_make (by assumption)); (case zzhlen => first | with_reducible assumption | omega)); intro zzt9 zzh9 zztk9 zzF9 zzN9; (try dsimp only)) | ((with_reducible show wpAny _ _ (call (Value.ref 549) _) _ _ _); k_dflt (refine' data2 ?zzB ?zzF ?zzX ?zzN ?zzT ?zzhk ?zzhdp ?zzhun ?zzhq ?zzU ?zzhi ?zzhlen ?zzhs0 ?zzhs1 ?_; (case zzB => k_asm); (case zzF => k_asm); (case zzX => k_asm); (case zzN => k_asm); (case zzT => k_asm); (case zzhk => first | assumption | rfl); (case zzhdp => ktr_room); (case zzhun => units_room); (case zzU => walk_at "MY UPDF"); (case zzhq => k_mem); (case zzhi => assumption); (case zzhlen => assumption); (case zzhs0 => omega); (case zzhs1 => omega)); intro zzcs9 zzt9 zzv9 zzh9 zztk9 zzhcl9 zzhcm9 zzhs0 zzhs1 zzF9 zzN9; (try dsimp only at zzN9); (try dsimp only)) | ((with_reducible show wpAny _ _ (call (Value.ref 522) _) _ _ _); k_dflt (refine' pick_ok ?zzB ?zzF ?zzX ?zzN ?zzT ?zzhk ?zzhdp ?zzhun ?zzhq ?zzhr ?zzhrp ?zzU ?zzhi ?zzhlen ?zzhm ?zzhm2 ?zzhs0 ?zzhs1 ?_; (case zzB => k_asm); (case zzF => k_asm); (case zzX => k_asm); (case zzN => k_asm); (case zzT => k_asm); (case zzhk => first | assumption | rfl); (case zzhdp => ktr_room); (case zzhun => units_room); (case zzU => walk_at "MY UPDF"); (case zzhq => k_mem); (case zzhi => assumption); (case zzhr => k_mem); (case zzhrp => k_ne); (case zzhlen => assumption); (case zzhm => first | omega | exact Nat.le_of_ble_eq_true rfl); (case zzhm2 => first | omega | exact Nat.le_of_ble_eq_true rfl); (case zzhs0 => omega); (case zzhs1 => omega)); intro zzx9 zzv9 zzh9 zztk9 zzhx9 zzhs0 zzhs1 zzF9 zzN9; (try dsimp only at zzN9); (try dsimp only)) | ((with_reducible show wpAny _ _ (call (Value.ref 515) _) _ _ _); k_dflt (refine' draw2 ?zzB ?zzF ?zzX ?zzN ?zzT ?zzhk ?zzhdp ?zzhun ?zzhq ?zzU ?zzhi ?zzhlen ?zzhm ?zzhm2 ?zzhs0 ?zzhs1 ?_; (case zzB => k_asm); (case zzF => k_asm); (case zzX => k_asm); (case zzN => k_asm); (case zzT => k_asm); (case zzhk => first | assumption | rfl); (case zzhdp => ktr_room); (case zzhun => units_room); (case zzU => walk_at "MY UPDF"); (case zzhq => k_mem); (case zzhi => assumption); (case zzhlen => assumption); (case zzhm => omega); (case zzhm2 => omega); (case zzhs0 => omega); (case zzhs1 => omega)); intro zzd9 zzt9 zzv9 zzh9 zztk9 zzhd0 zzhd1 zzhs0 zzhs1 zzF9 zzN9; (try dsimp only at zzN9); (try dsimp only))) | dsimp only | (leave1; (try dsimp only)) | fail "no step"))
      all_goals (try k_data)
      refine' ⟨rfl, _, _, _, _, _, _, rfl, by k_asm, by k_asm, ?ed, ?et⟩
      case ed => rw [hc, dueP_nil]; exact .nil
      case et => exact hTF.mono fun p hp => by repeat (first | exact hp | refine List.Mem.tail _ ?_)
    · have q3 : ¬ (KStt.txt cs == Str.ofString "") = true := txt_beq hc
      (skip; repeat' (first | (k_unfold; (try dsimp only)) | (with_reducible refine gen3 ?_; intro _) | ((with_reducible show wpAny _ _ (exec (Stmt.Assign _ _ _) _) _ _ _); k_fold) | ((with_reducible show wpAny _ _ (exec (Stmt.Return _ _) _) _ _ _); k_fold) | ((with_reducible show wpAny _ _ (eval (PySem.Expr.Call _ _ _ _) _) _ _ _); k_fold) | with_reducible refine seq_next ?_ | with_reducible refine seq_ret ?_ | (first | ((with_reducible show wpAny _ _ (binaryOp Operator.Add (Value.ref _) (Value.ref _)) _ _ _); with_reducible ((refine' r_addlist ?zzk1 ?zzk2 ?zzk3 ?zzk4 ?zzk5 ?_; (case zzk1 => k_asm); (case zzk2 => k_asm); (case zzk3 => k_dflt k_mem); (case zzk4 => k_dflt k_mem); (case zzk5 => (simp only [List.length_append, List.length_cons, List.length_nil]; omega)); intro zzD' zzh' zzF' zzN' zzhne'))) | ((with_reducible show wpAny _ _ (callWith _ (Value.ref _) _ (backTo _ (starEach [] _)) _) _ _ _); with_reducible ((k_dflt (refine' callWith_K0 ?zzk1 ?zzk2 ?_; (case zzk1 => k_in); (case zzk2 => k_is); k_whole); (try dsimp only)))) | walk_at "MY STEP") | (first | ((with_reducible show wpAny _ _ (call (Value.ref 363) _) _ _ _); k_dflt (refine' shelf_ok ?zzB ?zzF ?zzX ?zzN ?zzT ?zzhk ?zzhdp ?zzhun ?_; (case zzB => k_asm); (case zzF => k_asm); (case zzX => k_asm); (case zzN => k_asm); (case zzT => k_asm); (case zzhk => first | assumption | rfl); (case zzhdp => ktr_room); (case zzhun => units_room)); intro zzsh9 zzd9 zztb9 zztr9 zzoT9 zzoR9 zzk39 zzk49 zzh9 zztk9 zzF9 zzN9 zzhT9 zzhR9 zzlo9 zzlo99 zzlT9 zzlR9; (try dsimp only)) | ((with_reducible show wpAny _ _ (call (Value.ref 254) _) _ _ _); walk1) | ((with_reducible show wpAny _ _ (call (Value.ref 205) _) _ _ _); walk1) | ((with_reducible show wpAny _ _ (call (Value.ref 183) _) _ _ _); walk1) | ((with_reducible show wpAny _ _ (call (Value.ref 539) _) _ _ _); k_dflt (refine' lread_ok ?zzB ?zzF ?zzX ?zzN ?zzT ?zzhk ?zzhdp ?zzhun ?zzhks ?zzhlen ?_; (case zzB => k_asm); (case zzF => k_asm); (case zzX => k_asm); (case zzN => k_asm); (case zzT => k_asm); (case zzhk => first | assumption | rfl); (case zzhdp => ktr_room); (case zzhun => units_room); (case zzhks => exact KBa.ints_make (by assumption)); (case zzhlen => omega)); intro zzt9 zzh9 zztk9 zzF9 zzN9; (try dsimp only)) | ((with_reducible show wpAny _ _ (call (Value.ref 534) _) _ _ _); k_dflt (refine' lk_ok ?zzB ?zzF ?zzX ?zzN ?zzT ?zzhk ?zzhdp ?zzhun ?zzhks ?zzhlen ?zzhb ?_; (case zzB => k_asm); (case zzF => k_asm); (case zzX => k_asm); (case zzN => k_asm); (case zzT => k_asm); (case zzhk => first | assumption | rfl); (case zzhdp => ktr_room); (case zzhun => units_room); (case zzhks => with_reducible assumption); (case zzhlen => omega); (case zzhb => with_reducible assumption)); intro zzt9 zzh9 zztk9 zzF9 zzN9; (try dsimp only)) | ((with_reducible show wpAny _ _ (call (Value.ref 466) _) _ _ _); k_dflt (refine' po_ok ?zzB ?zzF ?zzX ?zzN ?zzT ?zzhk ?zzhdp ?zzhun ?zzhks ?zzhlen ?zzhb ?_; (case zzB => k_asm); (case zzF => k_asm); (case zzX => k_asm); (case zzN => k_asm); (case zzT => k_asm); (case zzhk => first | assumption | rfl); (case zzhdp => ktr_room); (case zzhun => units_room); (case zzhks => with_reducible assumption); (case zzhlen => omega); (case zzhb => with_reducible assumption)); intro zzt9 zzh9 zztk9 zzF9 zzN9; (try dsimp only)) | ((with_reducible show wpAny _ _ (call (Value.ref 478) _) _ _ _); k_dflt (refine' pt_ok ?zzB ?zzF ?zzX ?zzN ?zzT ?zzhk ?zzhdp ?zzhun ?zzhks ?zzhlen ?_; (case zzB => k_asm); (case zzF => k_asm); (case zzX => k_asm); (case zzN => k_asm); (case zzT => k_asm); (case zzhk => first | assumption | rfl); (case zzhdp => ktr_room); (case zzhun => units_room); (case zzhks => first | with_reducible assumption | exact KBa.ints_make (by assumption)); (case zzhlen => first | with_reducible assumption | omega)); intro zzt9 zzh9 zztk9 zzF9 zzN9; (try dsimp only)) | ((with_reducible show wpAny _ _ (call (Value.ref 549) _) _ _ _); k_dflt (refine' data2 ?zzB ?zzF ?zzX ?zzN ?zzT ?zzhk ?zzhdp ?zzhun ?zzhq ?zzU ?zzhi ?zzhlen ?zzhs0 ?zzhs1 ?_; (case zzB => k_asm); (case zzF => k_asm); (case zzX => k_asm); (case zzN => k_asm); (case zzT => k_asm); (case zzhk => first | assumption | rfl); (case zzhdp => ktr_room); (case zzhun => units_room); (case zzU => walk_at "MY UPDF"); (case zzhq => k_mem); (case zzhi => assumption); (case zzhlen => assumption); (case zzhs0 => omega); (case zzhs1 => omega)); intro zzcs9 zzt9 zzv9 zzh9 zztk9 zzhcl9 zzhcm9 zzhs0 zzhs1 zzF9 zzN9; (try dsimp only at zzN9); (try dsimp only)) | ((with_reducible show wpAny _ _ (call (Value.ref 522) _) _ _ _); k_dflt (refine' pick_ok ?zzB ?zzF ?zzX ?zzN ?zzT ?zzhk ?zzhdp ?zzhun ?zzhq ?zzhr ?zzhrp ?zzU ?zzhi ?zzhlen ?zzhm ?zzhm2 ?zzhs0 ?zzhs1 ?_; (case zzB => k_asm); (case zzF => k_asm); (case zzX => k_asm); (case zzN => k_asm); (case zzT => k_asm); (case zzhk => first | assumption | rfl); (case zzhdp => ktr_room); (case zzhun => units_room); (case zzU => walk_at "MY UPDF"); (case zzhq => k_mem); (case zzhi => assumption); (case zzhr => k_mem); (case zzhrp => k_ne); (case zzhlen => assumption); (case zzhm => first | omega | exact Nat.le_of_ble_eq_true rfl); (case zzhm2 => first | omega | exact Nat.le_of_ble_eq_true rfl); (case zzhs0 => omega); (case zzhs1 => omega)); intro zzx9 zzv9 zzh9 zztk9 zzhx9 zzhs0 zzhs1 zzF9 zzN9; (try dsimp only at zzN9); (try dsimp only)) | ((with_reducible show wpAny _ _ (call (Value.ref 515) _) _ _ _); k_dflt (refine' draw2 ?zzB ?zzF ?zzX ?zzN ?zzT ?zzhk ?zzhdp ?zzhun ?zzhq ?zzU ?zzhi ?zzhlen ?zzhm ?zzhm2 ?zzhs0 ?zzhs1 ?_; (case zzB => k_asm); (case zzF => k_asm); (case zzX => k_asm); (case zzN => k_asm); (case zzT => k_asm); (case zzhk => first | assumption | rfl); (case zzhdp => ktr_room); (case zzhun => units_room); (case zzU => walk_at "MY UPDF"); (case zzhq => k_mem); (case zzhi => assumption); (case zzhlen => assumption); (case zzhm => omega); (case zzhm2 => omega); (case zzhs0 => omega); (case zzhs1 => omega)); intro zzd9 zzt9 zzv9 zzh9 zztk9 zzhd0 zzhd1 zzhs0 zzhs1 zzF9 zzN9; (try dsimp only at zzN9); (try dsimp only))) | dsimp only | (leave1; (try dsimp only)) | fail "no step"))
      all_goals (try k_data)
      refine' ⟨rfl, _, _, _, _, _, _, rfl, by k_asm, by k_asm, ?ed, ?et⟩
      case ed => rw [dueP_cons hc]; exact .cons (.tuple (by k_dflt k_mem) (.cons (.str _ _) (.cons (.tuple (by k_dflt k_mem) (.cons (.str _ _) (.cons (.bytes _ _) .nil))) .nil))) .nil
      case et => exact hTF.mono fun p hp => by repeat (first | exact hp | refine List.Mem.tail _ ?_)
  case due1q =>
  clear F8 hTF
  intro d8 vs8 k8 top8 h8 tk8 F8 N9 hD8 hTF
  ((skip; repeat' ((first | (k_unfold; (try dsimp only)) | (with_reducible refine gen3 ?_; intro _) | ((with_reducible show wpAny _ _ (exec (Stmt.Assign _ _ _) _) _ _ _); k_fold) | ((with_reducible show wpAny _ _ (exec (Stmt.Return _ _) _) _ _ _); k_fold) | ((with_reducible show wpAny _ _ (eval (PySem.Expr.Call _ _ _ _) _) _ _ _); k_fold) | with_reducible refine seq_next ?_ | with_reducible refine seq_ret ?_ | ((fail_if_success (with_reducible show GrownAll _ _)); (fail_if_success (with_reducible show wpAny _ _ (compareOp _ (Value.ref _) (Value.ref _)) _ _ _)); (fail_if_success (with_reducible show wpAny _ _ (exec (Stmt.Assign [PySem.Expr.Name _ _] (PySem.Expr.IfExp _ _ _ _) _) _) _ _ _)); (fail_if_success (with_reducible show wpAny _ _ (exec (Stmt.Assign [PySem.Expr.Name _ _] (PySem.Expr.BinOp _ _ _ _) _) _) _ _ _)); first | (first | ((with_reducible show wpAny _ _ (binaryOp Operator.Add (Value.ref _) (Value.ref _)) _ _ _); with_reducible ((refine' r_addlist ?zzk1 ?zzk2 ?zzk3 ?zzk4 ?zzk5 ?_; (case zzk1 => k_asm); (case zzk2 => k_asm); (case zzk3 => k_dflt k_mem); (case zzk4 => k_dflt k_mem); (case zzk5 => (simp only [List.length_append, List.length_cons, List.length_nil]; omega)); intro zzD' zzh' zzF' zzN' zzhne'))) | ((with_reducible show wpAny _ _ (callWith _ (Value.ref _) _ (backTo _ (starEach [] _)) _) _ _ _); with_reducible ((k_dflt (refine' callWith_K0 ?zzk1 ?zzk2 ?_; (case zzk1 => k_in); (case zzk2 => k_is); k_whole); (try dsimp only)))) | walk_at "MY STEP") | (first | ((with_reducible show wpAny _ _ (call (Value.ref 363) _) _ _ _); k_dflt (refine' shelf_ok ?zzB ?zzF ?zzX ?zzN ?zzT ?zzhk ?zzhdp ?zzhun ?_; (case zzB => k_asm); (case zzF => k_asm); (case zzX => k_asm); (case zzN => k_asm); (case zzT => k_asm); (case zzhk => first | assumption | rfl); (case zzhdp => ktr_room); (case zzhun => units_room)); intro zzsh9 zzd9 zztb9 zztr9 zzoT9 zzoR9 zzk39 zzk49 zzh9 zztk9 zzF9 zzN9 zzhT9 zzhR9 zzlo9 zzlo99 zzlT9 zzlR9; (try dsimp only)) | ((with_reducible show wpAny _ _ (call (Value.ref 254) _) _ _ _); walk1) | ((with_reducible show wpAny _ _ (call (Value.ref 205) _) _ _ _); walk1) | ((with_reducible show wpAny _ _ (call (Value.ref 183) _) _ _ _); walk1) | ((with_reducible show wpAny _ _ (call (Value.ref 539) _) _ _ _); k_dflt (refine' lread_ok ?zzB ?zzF ?zzX ?zzN ?zzT ?zzhk ?zzhdp ?zzhun ?zzhks ?zzhlen ?_; (case zzB => k_asm); (case zzF => k_asm); (case zzX => k_asm); (case zzN => k_asm); (case zzT => k_asm); (case zzhk => first | assumption | rfl); (case zzhdp => ktr_room); (case zzhun => units_room); (case zzhks => exact KBa.ints_make (by assumption)); (case zzhlen => omega)); intro zzt9 zzh9 zztk9 zzF9 zzN9; (try dsimp only)) | ((with_reducible show wpAny _ _ (call (Value.ref 534) _) _ _ _); k_dflt (refine' lk_ok ?zzB ?zzF ?zzX ?zzN ?zzT ?zzhk ?zzhdp ?zzhun ?zzhks ?zzhlen ?zzhb ?_; (case zzB => k_asm); (case zzF => k_asm); (case zzX => k_asm); (case zzN => k_asm); (case zzT => k_asm); (case zzhk => first | assumption | rfl); (case zzhdp => ktr_room); (case zzhun => units_room); (case zzhks => with_reducible assumption); (case zzhlen => omega); (case zzhb => with_reducible assumption)); intro zzt9 zzh9 zztk9 zzF9 zzN9; (try dsimp only)) | ((with_reducible show wpAny _ _ (call (Value.ref 466) _) _ _ _); k_dflt (refine' po_ok ?zzB ?zzF ?zzX ?zzN ?zzT ?zzhk ?zzhdp ?zzhun ?zzhks ?zzhlen ?zzhb ?_; (case zzB => k_asm); (case zzF => k_asm); (case zzX => k_asm); (case zzN => k_asm); (case zzT => k_asm); (case zzhk => first | assumption | rfl); (case zzhdp => ktr_room); (case zzhun => units_room); (case zzhks => with_reducible assumption); (case zzhlen => omega); (case zzhb => with_reducible assumption)); intro zzt9 zzh9 zztk9 zzF9 zzN9; (try dsimp only)) | ((with_reducible show wpAny _ _ (call (Value.ref 478) _) _ _ _); k_dflt (refine' pt_ok ?zzB ?zzF ?zzX ?zzN ?zzT ?zzhk ?zzhdp ?zzhun ?zzhks ?zzhlen ?_; (case zzB => k_asm); (case zzF => k_asm); (case zzX => k_asm); (case zzN => k_asm); (case zzT => k_asm); (case zzhk => first | assumption | rfl); (case zzhdp => ktr_room); (case zzhun => units_room); (case zzhks => first | with_reducible assumption | exact KBa.ints_make (by assumption)); (case zzhlen => first | with_reducible assumption | omega)); intro zzt9 zzh9 zztk9 zzF9 zzN9; (try dsimp only)) | ((with_reducible show wpAny _ _ (call (Value.ref 549) _) _ _ _); k_dflt (refine' data2 ?zzB ?zzF ?zzX ?zzN ?zzT ?zzhk ?zzhdp ?zzhun ?zzhq ?zzU ?zzhi ?zzhlen ?zzhs0 ?zzhs1 ?_; (case zzB => k_asm); (case zzF => k_asm); (case zzX => k_asm); (case zzN => k_asm); (case zzT => k_asm); (case zzhk => first | assumption | rfl); (case zzhdp => ktr_room); (case zzhun => units_room); (case zzU => walk_at "MY UPDF"); (case zzhq => k_mem); (case zzhi => assumption); (case zzhlen => assumption); (case zzhs0 => omega); (case zzhs1 => omega)); intro zzcs9 zzt9 zzv9 zzh9 zztk9 zzhcl9 zzhcm9 zzhs0 zzhs1 zzF9 zzN9; (try dsimp only at zzN9); (try dsimp only)) | ((with_reducible show wpAny _ _ (call (Value.ref 522) _) _ _ _); k_dflt (refine' pick_ok ?zzB ?zzF ?zzX ?zzN ?zzT ?zzhk ?zzhdp ?zzhun ?zzhq ?zzhr ?zzhrp ?zzU ?zzhi ?zzhlen ?zzhm ?zzhm2 ?zzhs0 ?zzhs1 ?_; (case zzB => k_asm); (case zzF => k_asm); (case zzX => k_asm); (case zzN => k_asm); (case zzT => k_asm); (case zzhk => first | assumption | rfl); (case zzhdp => ktr_room); (case zzhun => units_room); (case zzU => walk_at "MY UPDF"); (case zzhq => k_mem); (case zzhi => assumption); (case zzhr => k_mem); (case zzhrp => k_ne); (case zzhlen => assumption); (case zzhm => first | omega | exact Nat.le_of_ble_eq_true rfl); (case zzhm2 => first | omega | exact Nat.le_of_ble_eq_true rfl); (case zzhs0 => omega); (case zzhs1 => omega)); intro zzx9 zzv9 zzh9 zztk9 zzhx9 zzhs0 zzhs1 zzF9 zzN9; (try dsimp only at zzN9); (try dsimp only)) | ((with_reducible show wpAny _ _ (call (Value.ref 515) _) _ _ _); k_dflt (refine' draw2 ?zzB ?zzF ?zzX ?zzN ?zzT ?zzhk ?zzhdp ?zzhun ?zzhq ?zzU ?zzhi ?zzhlen ?zzhm ?zzhm2 ?zzhs0 ?zzhs1 ?_; (case zzB => k_asm); (case zzF => k_asm); (case zzX => k_asm); (case zzN => k_asm); (case zzT => k_asm); (case zzhk => first | assumption | rfl); (case zzhdp => ktr_room); (case zzhun => units_room); (case zzU => walk_at "MY UPDF"); (case zzhq => k_mem); (case zzhi => assumption); (case zzhlen => assumption); (case zzhm => omega); (case zzhm2 => omega); (case zzhs0 => omega); (case zzhs1 => omega)); intro zzd9 zzt9 zzv9 zzh9 zztk9 zzhd0 zzhd1 zzhs0 zzhs1 zzF9 zzN9; (try dsimp only at zzN9); (try dsimp only))) | dsimp only | (leave1; (try dsimp only)) | fail "no step")))))
  all_goals (try k_data)
  have hl8 : vs8.length ≤ 1 := by rw [hD8.length]; unfold dueP; split <;> simp
  refine due_cut F8 hTF (dueP cs ++ (dueS x ++ dueN n)) ?due2 ?due2q
  case due2 =>
    have q4 : x = Str.ofString "" → ¬ (x != Str.ofString "") = true := fun e => by rw [e]; decide +kernel
    have q5 : x ≠ Str.ofString "" → (x != Str.ofString "") = true := fun e => by simpa [bne] using e
    by_cases hx1 : x = Str.ofString "" <;> by_cases hn1 : n = 1
    all_goals first | replace q4 := q4 hx1 | replace q5 := q5 hx1
    · (skip; repeat' (first | (k_unfold; (try dsimp only)) | (with_reducible refine gen3 ?_; intro _) | ((with_reducible show wpAny _ _ (exec (Stmt.Assign _ _ _) _) _ _ _); k_fold) | ((with_reducible show wpAny _ _ (exec (Stmt.Return _ _) _) _ _ _); k_fold) | ((with_reducible show wpAny _ _ (eval (PySem.Expr.Call _ _ _ _) _) _ _ _); k_fold) | with_reducible refine seq_next ?_ | with_reducible refine seq_ret ?_ | (first | ((with_reducible show wpAny _ _ (binaryOp Operator.Add (Value.ref _) (Value.ref _)) _ _ _); with_reducible ((refine' r_addlist ?zzk1 ?zzk2 ?zzk3 ?zzk4 ?zzk5 ?_; (case zzk1 => k_asm); (case zzk2 => k_asm); (case zzk3 => k_dflt k_mem); (case zzk4 => k_dflt k_mem); (case zzk5 => (simp only [List.length_append, List.length_cons, List.length_nil]; omega)); intro zzD' zzh' zzF' zzN' zzhne'))) | ((with_reducible show wpAny _ _ (callWith _ (Value.ref _) _ (backTo _ (starEach [] _)) _) _ _ _); with_reducible ((k_dflt (refine' callWith_K0 ?zzk1 ?zzk2 ?_; (case zzk1 => k_in); (case zzk2 => k_is); k_whole); (try dsimp only)))) | walk_at "MY STEP") | (first | ((with_reducible show wpAny _ _ (call (Value.ref 363) _) _ _ _); k_dflt (refine' shelf_ok ?zzB ?zzF ?zzX ?zzN ?zzT ?zzhk ?zzhdp ?zzhun ?_; (case zzB => k_asm); (case zzF => k_asm); (case zzX => k_asm); (case zzN => k_asm); (case zzT => k_asm); (case zzhk => first | assumption | rfl); (case zzhdp => ktr_room); (case zzhun => units_room)); intro zzsh9 zzd9 zztb9 zztr9 zzoT9 zzoR9 zzk39 zzk49 zzh9 zztk9 zzF9 zzN9 zzhT9 zzhR9 zzlo9 zzlo99 zzlT9 zzlR9; (try dsimp only)) | ((with_reducible show wpAny _ _ (call (Value.ref 254) _) _ _ _); walk1) | ((with_reducible show wpAny _ _ (call (Value.ref 205) _) _ _ _); walk1) | ((with_reducible show wpAny _ _ (call (Value.ref 183) _) _ _ _); walk1) | ((with_reducible show wpAny _ _ (call (Value.ref 539) _) _ _ _); k_dflt (refine' lread_ok ?zzB ?zzF ?zzX ?zzN ?zzT ?zzhk ?zzhdp ?zzhun ?zzhks ?zzhlen ?_; (case zzB => k_asm); (case zzF => k_asm); (case zzX => k_asm); (case zzN => k_asm); (case zzT => k_asm); (case zzhk => first | assumption | rfl); (case zzhdp => ktr_room); (case zzhun => units_room); (case zzhks => exact KBa.ints_make (by assumption)); (case zzhlen => omega)); intro zzt9 zzh9 zztk9 zzF9 zzN9; (try dsimp only)) | ((with_reducible show wpAny _ _ (call (Value.ref 534) _) _ _ _); k_dflt (refine' lk_ok ?zzB ?zzF ?zzX ?zzN ?zzT ?zzhk ?zzhdp ?zzhun ?zzhks ?zzhlen ?zzhb ?_; (case zzB => k_asm); (case zzF => k_asm); (case zzX => k_asm); (case zzN => k_asm); (case zzT => k_asm); (case zzhk => first | assumption | rfl); (case zzhdp => ktr_room); (case zzhun => units_room); (case zzhks => with_reducible assumption); (case zzhlen => omega); (case zzhb => with_reducible assumption)); intro zzt9 zzh9 zztk9 zzF9 zzN9; (try dsimp only)) | ((with_reducible show wpAny _ _ (call (Value.ref 466) _) _ _ _); k_dflt (refine' po_ok ?zzB ?zzF ?zzX ?zzN ?zzT ?zzhk ?zzhdp ?zzhun ?zzhks ?zzhlen ?zzhb ?_; (case zzB => k_asm); (case zzF => k_asm); (case zzX => k_asm); (case zzN => k_asm); (case zzT => k_asm); (case zzhk => first | assumption | rfl); (case zzhdp => ktr_room); (case zzhun => units_room); (case zzhks => with_reducible assumption); (case zzhlen => omega); (case zzhb => with_reducible assumption)); intro zzt9 zzh9 zztk9 zzF9 zzN9; (try dsimp only)) | ((with_reducible show wpAny _ _ (call (Value.ref 478) _) _ _ _); k_dflt (refine' pt_ok ?zzB ?zzF ?zzX ?zzN ?zzT ?zzhk ?zzhdp ?zzhun ?zzhks ?zzhlen ?_; (case zzB => k_asm); (case zzF => k_asm); (case zzX => k_asm); (case zzN => k_asm); (case zzT => k_asm); (case zzhk => first | assumption | rfl); (case zzhdp => ktr_room); (case zzhun => units_room); (case zzhks => first | with_reducible assumption | exact KBa.ints_make (by assumption)); (case zzhlen => first | with_reducible assumption | omega)); intro zzt9 zzh9 zztk9 zzF9 zzN9; (try dsimp only)) | ((with_reducible show wpAny _ _ (call (Value.ref 549) _) _ _ _); k_dflt (refine' data2 ?zzB ?zzF ?zzX ?zzN ?zzT ?zzhk ?zzhdp ?zzhun ?zzhq ?zzU ?zzhi ?zzhlen ?zzhs0 ?zzhs1 ?_; (case zzB => k_asm); (case zzF => k_asm); (case zzX => k_asm); (case zzN => k_asm); (case zzT => k_asm); (case zzhk => first | assumption | rfl); (case zzhdp => ktr_room); (case zzhun => units_room); (case zzU => walk_at "MY UPDF"); (case zzhq => k_mem); (case zzhi => assumption); (case zzhlen => assumption); (case zzhs0 => omega); (case zzhs1 => omega)); intro zzcs9 zzt9 zzv9 zzh9 zztk9 zzhcl9 zzhcm9 zzhs0 zzhs1 zzF9 zzN9; (try dsimp only at zzN9); (try dsimp only)) | ((with_reducible show wpAny _ _ (call (Value.ref 522) _) _ _ _); k_dflt (refine' pick_ok ?zzB ?zzF ?zzX ?zzN ?zzT ?zzhk ?zzhdp ?zzhun ?zzhq ?zzhr ?zzhrp ?zzU ?zzhi ?zzhlen ?zzhm ?zzhm2 ?zzhs0 ?zzhs1 ?_; (case zzB => k_asm); (case zzF => k_asm); (case zzX => k_asm); (case zzN => k_asm); (case zzT => k_asm); (case zzhk => first | assumption | rfl); (case zzhdp => ktr_room); (case zzhun => units_room); (case zzU => walk_at "MY UPDF"); (case zzhq => k_mem); (case zzhi => assumption); (case zzhr => k_mem); (case zzhrp => k_ne); (case zzhlen => assumption); (case zzhm => first | omega | exact Nat.le_of_ble_eq_true rfl); (case zzhm2 => first | omega | exact Nat.le_of_ble_eq_true rfl); (case zzhs0 => omega); (case zzhs1 => omega)); intro zzx9 zzv9 zzh9 zztk9 zzhx9 zzhs0 zzhs1 zzF9 zzN9; (try dsimp only at zzN9); (try dsimp only)) | ((with_reducible show wpAny _ _ (call (Value.ref 515) _) _ _ _); k_dflt (refine' draw2 ?zzB ?zzF ?zzX ?zzN ?zzT ?zzhk ?zzhdp ?zzhun ?zzhq ?zzU ?zzhi ?zzhlen ?zzhm ?zzhm2 ?zzhs0 ?zzhs1 ?_; (case zzB => k_asm); (case zzF => k_asm); (case zzX => k_asm); (case zzN => k_asm); (case zzT => k_asm); (case zzhk => first | assumption | rfl); (case zzhdp => ktr_room); (case zzhun => units_room); (case zzU => walk_at "MY UPDF"); (case zzhq => k_mem); (case zzhi => assumption); (case zzhlen => assumption); (case zzhm => omega); (case zzhm2 => omega); (case zzhs0 => omega); (case zzhs1 => omega)); intro zzd9 zzt9 zzv9 zzh9 zztk9 zzhd0 zzhd1 zzhs0 zzhs1 zzF9 zzN9; (try dsimp only at zzN9); (try dsimp only))) | dsimp only | (leave1; (try dsimp only)) | fail "no step"))
      all_goals (try k_data)
      refine' ⟨rfl, _, _, _, _, _, _, rfl, by k_asm, by k_asm, ?ed, ?et⟩
      case ed =>
        rw [show dueS x = _ from if_pos hx1, show dueN n = _ from if_pos hn1, ← List.append_assoc]
        exact ((hD8.mono fun p hp => by repeat (first | exact hp | refine List.Mem.tail _ ?_)).append .nil).append .nil
      case et => exact hTF.mono fun p hp => by repeat (first | exact hp | refine List.Mem.tail _ ?_)
    · (skip; repeat' (first | (k_unfold; (try dsimp only)) | (with_reducible refine gen3 ?_; intro _) | ((with_reducible show wpAny _ _ (exec (Stmt.Assign _ _ _) _) _ _ _); k_fold) | ((with_reducible show wpAny _ _ (exec (Stmt.Return _ _) _) _ _ _); k_fold) | ((with_reducible show wpAny _ _ (eval (PySem.Expr.Call _ _ _ _) _) _ _ _); k_fold) | with_reducible refine seq_next ?_ | with_reducible refine seq_ret ?_ | (first | ((with_reducible show wpAny _ _ (binaryOp Operator.Add (Value.ref _) (Value.ref _)) _ _ _); with_reducible ((refine' r_addlist ?zzk1 ?zzk2 ?zzk3 ?zzk4 ?zzk5 ?_; (case zzk1 => k_asm); (case zzk2 => k_asm); (case zzk3 => k_dflt k_mem); (case zzk4 => k_dflt k_mem); (case zzk5 => (simp only [List.length_append, List.length_cons, List.length_nil]; omega)); intro zzD' zzh' zzF' zzN' zzhne'))) | ((with_reducible show wpAny _ _ (callWith _ (Value.ref _) _ (backTo _ (starEach [] _)) _) _ _ _); with_reducible ((k_dflt (refine' callWith_K0 ?zzk1 ?zzk2 ?_; (case zzk1 => k_in); (case zzk2 => k_is); k_whole); (try dsimp only)))) | walk_at "MY STEP") | (first | ((with_reducible show wpAny _ _ (call (Value.ref 363) _) _ _ _); k_dflt (refine' shelf_ok ?zzB ?zzF ?zzX ?zzN ?zzT ?zzhk ?zzhdp ?zzhun ?_; (case zzB => k_asm); (case zzF => k_asm); (case zzX => k_asm); (case zzN => k_asm); (case zzT => k_asm); (case zzhk => first | assumption | rfl); (case zzhdp => ktr_room); (case zzhun => units_room)); intro zzsh9 zzd9 zztb9 zztr9 zzoT9 zzoR9 zzk39 zzk49 zzh9 zztk9 zzF9 zzN9 zzhT9 zzhR9 zzlo9 zzlo99 zzlT9 zzlR9; (try dsimp only)) | ((with_reducible show wpAny _ _ (call (Value.ref 254) _) _ _ _); walk1) | ((with_reducible show wpAny _ _ (call (Value.ref 205) _) _ _ _); walk1) | ((with_reducible show wpAny _ _ (call (Value.ref 183) _) _ _ _); walk1) | ((with_reducible show wpAny _ _ (call (Value.ref 539) _) _ _ _); k_dflt (refine' lread_ok ?zzB ?zzF ?zzX ?zzN ?zzT ?zzhk ?zzhdp ?zzhun ?zzhks ?zzhlen ?_; (case zzB => k_asm); (case zzF => k_asm); (case zzX => k_asm); (case zzN => k_asm); (case zzT => k_asm); (case zzhk => first | assumption | rfl); (case zzhdp => ktr_room); (case zzhun => units_room); (case zzhks => exact KBa.ints_make (by assumption)); (case zzhlen => omega)); intro zzt9 zzh9 zztk9 zzF9 zzN9; (try dsimp only)) | ((with_reducible show wpAny _ _ (call (Value.ref 534) _) _ _ _); k_dflt (refine' lk_ok ?zzB ?zzF ?zzX ?zzN ?zzT ?zzhk ?zzhdp ?zzhun ?zzhks ?zzhlen ?zzhb ?_; (case zzB => k_asm); (case zzF => k_asm); (case zzX => k_asm); (case zzN => k_asm); (case zzT => k_asm); (case zzhk => first | assumption | rfl); (case zzhdp => ktr_room); (case zzhun => units_room); (case zzhks => with_reducible assumption); (case zzhlen => omega); (case zzhb => with_reducible assumption)); intro zzt9 zzh9 zztk9 zzF9 zzN9; (try dsimp only)) | ((with_reducible show wpAny _ _ (call (Value.ref 466) _) _ _ _); k_dflt (refine' po_ok ?zzB ?zzF ?zzX ?zzN ?zzT ?zzhk ?zzhdp ?zzhun ?zzhks ?zzhlen ?zzhb ?_; (case zzB => k_asm); (case zzF => k_asm); (case zzX => k_asm); (case zzN => k_asm); (case zzT => k_asm); (case zzhk => first | assumption | rfl); (case zzhdp => ktr_room); (case zzhun => units_room); (case zzhks => with_reducible assumption); (case zzhlen => omega); (case zzhb => with_reducible assumption)); intro zzt9 zzh9 zztk9 zzF9 zzN9; (try dsimp only)) | ((with_reducible show wpAny _ _ (call (Value.ref 478) _) _ _ _); k_dflt (refine' pt_ok ?zzB ?zzF ?zzX ?zzN ?zzT ?zzhk ?zzhdp ?zzhun ?zzhks ?zzhlen ?_; (case zzB => k_asm); (case zzF => k_asm); (case zzX => k_asm); (case zzN => k_asm); (case zzT => k_asm); (case zzhk => first | assumption | rfl); (case zzhdp => ktr_room); (case zzhun => units_room); (case zzhks => first | with_reducible assumption | exact KBa.ints_make (by assumption)); (case zzhlen => first | with_reducible assumption | omega)); intro zzt9 zzh9 zztk9 zzF9 zzN9; (try dsimp only)) | ((with_reducible show wpAny _ _ (call (Value.ref 549) _) _ _ _); k_dflt (refine' data2 ?zzB ?zzF ?zzX ?zzN ?zzT ?zzhk ?zzhdp ?zzhun ?zzhq ?zzU ?zzhi ?zzhlen ?zzhs0 ?zzhs1 ?_; (case zzB => k_asm); (case zzF => k_asm); (case zzX => k_asm); (case zzN => k_asm); (case zzT => k_asm); (case zzhk => first | assumption | rfl); (case zzhdp => ktr_room); (case zzhun => units_room); (case zzU => walk_at "MY UPDF"); (case zzhq => k_mem); (case zzhi => assumption); (case zzhlen => assumption); (case zzhs0 => omega); (case zzhs1 => omega)); intro zzcs9 zzt9 zzv9 zzh9 zztk9 zzhcl9 zzhcm9 zzhs0 zzhs1 zzF9 zzN9; (try dsimp only at zzN9); (try dsimp only)) | ((with_reducible show wpAny _ _ (call (Value.ref 522) _) _ _ _); k_dflt (refine' pick_ok ?zzB ?zzF ?zzX ?zzN ?zzT ?zzhk ?zzhdp ?zzhun ?zzhq ?zzhr ?zzhrp ?zzU ?zzhi ?zzhlen ?zzhm ?zzhm2 ?zzhs0 ?zzhs1 ?_; (case zzB => k_asm); (case zzF => k_asm); (case zzX => k_asm); (case zzN => k_asm); (case zzT => k_asm); (case zzhk => first | assumption | rfl); (case zzhdp => ktr_room); (case zzhun => units_room); (case zzU => walk_at "MY UPDF"); (case zzhq => k_mem); (case zzhi => assumption); (case zzhr => k_mem); (case zzhrp => k_ne); (case zzhlen => assumption); (case zzhm => first | omega | exact Nat.le_of_ble_eq_true rfl); (case zzhm2 => first | omega | exact Nat.le_of_ble_eq_true rfl); (case zzhs0 => omega); (case zzhs1 => omega)); intro zzx9 zzv9 zzh9 zztk9 zzhx9 zzhs0 zzhs1 zzF9 zzN9; (try dsimp only at zzN9); (try dsimp only)) | ((with_reducible show wpAny _ _ (call (Value.ref 515) _) _ _ _); k_dflt (refine' draw2 ?zzB ?zzF ?zzX ?zzN ?zzT ?zzhk ?zzhdp ?zzhun ?zzhq ?zzU ?zzhi ?zzhlen ?zzhm ?zzhm2 ?zzhs0 ?zzhs1 ?_; (case zzB => k_asm); (case zzF => k_asm); (case zzX => k_asm); (case zzN => k_asm); (case zzT => k_asm); (case zzhk => first | assumption | rfl); (case zzhdp => ktr_room); (case zzhun => units_room); (case zzU => walk_at "MY UPDF"); (case zzhq => k_mem); (case zzhi => assumption); (case zzhlen => assumption); (case zzhm => omega); (case zzhm2 => omega); (case zzhs0 => omega); (case zzhs1 => omega)); intro zzd9 zzt9 zzv9 zzh9 zztk9 zzhd0 zzhd1 zzhs0 zzhs1 zzF9 zzN9; (try dsimp only at zzN9); (try dsimp only))) | dsimp only | (leave1; (try dsimp only)) | fail "no step"))
      all_goals (try k_data)
      refine' ⟨rfl, _, _, _, _, _, _, rfl, by k_asm, by k_asm, ?ed, ?et⟩
      case ed =>
        rw [show dueS x = _ from if_pos hx1, show dueN n = _ from if_neg hn1, ← List.append_assoc]
        exact ((hD8.mono fun p hp => by repeat (first | exact hp | refine List.Mem.tail _ ?_)).append .nil).append (.cons (.tuple (by k_dflt k_mem) (.cons (.str _ _) (.cons (.tuple (by k_dflt k_mem) (.cons (.str _ _) (.cons (.int _ _) .nil))) .nil))) .nil)
      case et => exact hTF.mono fun p hp => by repeat (first | exact hp | refine List.Mem.tail _ ?_)
    · (skip; repeat' (first | (k_unfold; (try dsimp only)) | (with_reducible refine gen3 ?_; intro _) | ((with_reducible show wpAny _ _ (exec (Stmt.Assign _ _ _) _) _ _ _); k_fold) | ((with_reducible show wpAny _ _ (exec (Stmt.Return _ _) _) _ _ _); k_fold) | ((with_reducible show wpAny _ _ (eval (PySem.Expr.Call _ _ _ _) _) _ _ _); k_fold) | with_reducible refine seq_next ?_ | with_reducible refine seq_ret ?_ | (first | ((with_reducible show wpAny _ _ (binaryOp Operator.Add (Value.ref _) (Value.ref _)) _ _ _); with_reducible ((refine' r_addlist ?zzk1 ?zzk2 ?zzk3 ?zzk4 ?zzk5 ?_; (case zzk1 => k_asm); (case zzk2 => k_asm); (case zzk3 => k_dflt k_mem); (case zzk4 => k_dflt k_mem); (case zzk5 => (simp only [List.length_append, List.length_cons, List.length_nil]; omega)); intro zzD' zzh' zzF' zzN' zzhne'))) | ((with_reducible show wpAny _ _ (callWith _ (Value.ref _) _ (backTo _ (starEach [] _)) _) _ _ _); with_reducible ((k_dflt (refine' callWith_K0 ?zzk1 ?zzk2 ?_; (case zzk1 => k_in); (case zzk2 => k_is); k_whole); (try dsimp only)))) | walk_at "MY STEP") | (first | ((with_reducible show wpAny _ _ (call (Value.ref 363) _) _ _ _); k_dflt (refine' shelf_ok ?zzB ?zzF ?zzX ?zzN ?zzT ?zzhk ?zzhdp ?zzhun ?_; (case zzB => k_asm); (case zzF => k_asm); (case zzX => k_asm); (case zzN => k_asm); (case zzT => k_asm); (case zzhk => first | assumption | rfl); (case zzhdp => ktr_room); (case zzhun => units_room)); intro zzsh9 zzd9 zztb9 zztr9 zzoT9 zzoR9 zzk39 zzk49 zzh9 zztk9 zzF9 zzN9 zzhT9 zzhR9 zzlo9 zzlo99 zzlT9 zzlR9; (try dsimp only)) | ((with_reducible show wpAny _ _ (call (Value.ref 254) _) _ _ _); walk1) | ((with_reducible show wpAny _ _ (call (Value.ref 205) _) _ _ _); walk1) | ((with_reducible show wpAny _ _ (call (Value.ref 183) _) _ _ _); walk1) | ((with_reducible show wpAny _ _ (call (Value.ref 539) _) _ _ _); k_dflt (refine' lread_ok ?zzB ?zzF ?zzX ?zzN ?zzT ?zzhk ?zzhdp ?zzhun ?zzhks ?zzhlen ?_; (case zzB => k_asm); (case zzF => k_asm); (case zzX => k_asm); (case zzN => k_asm); (case zzT => k_asm); (case zzhk => first | assumption | rfl); (case zzhdp => ktr_room); (case zzhun => units_room); (case zzhks => exact KBa.ints_make (by assumption)); (case zzhlen => omega)); intro zzt9 zzh9 zztk9 zzF9 zzN9; (try dsimp only)) | ((with_reducible show wpAny _ _ (call (Value.ref 534) _) _ _ _); k_dflt (refine' lk_ok ?zzB ?zzF ?zzX ?zzN ?zzT ?zzhk ?zzhdp ?zzhun ?zzhks ?zzhlen ?zzhb ?_; (case zzB => k_asm); (case zzF => k_asm); (case zzX => k_asm); (case zzN => k_asm); (case zzT => k_asm); (case zzhk => first | assumption | rfl); (case zzhdp => ktr_room); (case zzhun => units_room); (case zzhks => with_reducible assumption); (case zzhlen => omega); (case zzhb => with_reducible assumption)); intro zzt9 zzh9 zztk9 zzF9 zzN9; (try dsimp only)) | ((with_reducible show wpAny _ _ (call (Value.ref 466) _) _ _ _); k_dflt (refine' po_ok ?zzB ?zzF ?zzX ?zzN ?zzT ?zzhk ?zzhdp ?zzhun ?zzhks ?zzhlen ?zzhb ?_; (case zzB => k_asm); (case zzF => k_asm); (case zzX => k_asm); (case zzN => k_asm); (case zzT => k_asm); (case zzhk => first | assumption | rfl); (case zzhdp => ktr_room); (case zzhun => units_room); (case zzhks => with_reducible assumption); (case zzhlen => omega); (case zzhb => with_reducible assumption)); intro zzt9 zzh9 zztk9 zzF9 zzN9; (try dsimp only)) | ((with_reducible show wpAny _ _ (call (Value.ref 478) _) _ _ _); k_dflt (refine' pt_ok ?zzB ?zzF ?zzX ?zzN ?zzT ?zzhk ?zzhdp ?zzhun ?zzhks ?zzhlen ?_; (case zzB => k_asm); (case zzF => k_asm); (case zzX => k_asm); (case zzN => k_asm); (case zzT => k_asm); (case zzhk => first | assumption | rfl); (case zzhdp => ktr_room); (case zzhun => units_room); (case zzhks => first | with_reducible assumption | exact KBa.ints_make (by assumption)); (case zzhlen => first | with_reducible assumption | omega)); intro zzt9 zzh9 zztk9 zzF9 zzN9; (try dsimp only)) | ((with_reducible show wpAny _ _ (call (Value.ref 549) _) _ _ _); k_dflt (refine' data2 ?zzB ?zzF ?zzX ?zzN ?zzT ?zzhk ?zzhdp ?zzhun ?zzhq ?zzU ?zzhi ?zzhlen ?zzhs0 ?zzhs1 ?_; (case zzB => k_asm); (case zzF => k_asm); (case zzX => k_asm); (case zzN => k_asm); (case zzT => k_asm); (case zzhk => first | assumption | rfl); (case zzhdp => ktr_room); (case zzhun => units_room); (case zzU => walk_at "MY UPDF"); (case zzhq => k_mem); (case zzhi => assumption); (case zzhlen => assumption); (case zzhs0 => omega); (case zzhs1 => omega)); intro zzcs9 zzt9 zzv9 zzh9 zztk9 zzhcl9 zzhcm9 zzhs0 zzhs1 zzF9 zzN9; (try dsimp only at zzN9); (try dsimp only)) | ((with_reducible show wpAny _ _ (call (Value.ref 522) _) _ _ _); k_dflt (refine' pick_ok ?zzB ?zzF ?zzX ?zzN ?zzT ?zzhk ?zzhdp ?zzhun ?zzhq ?zzhr ?zzhrp ?zzU ?zzhi ?zzhlen ?zzhm ?zzhm2 ?zzhs0 ?zzhs1 ?_; (case zzB => k_asm); (case zzF => k_asm); (case zzX => k_asm); (case zzN => k_asm); (case zzT => k_asm); (case zzhk => first | assumption | rfl); (case zzhdp => ktr_room); (case zzhun => units_room); (case zzU => walk_at "MY UPDF"); (case zzhq => k_mem); (case zzhi => assumption); (case zzhr => k_mem); (case zzhrp => k_ne); (case zzhlen => assumption); (case zzhm => first | omega | exact Nat.le_of_ble_eq_true rfl); (case zzhm2 => first | omega | exact Nat.le_of_ble_eq_true rfl); (case zzhs0 => omega); (case zzhs1 => omega)); intro zzx9 zzv9 zzh9 zztk9 zzhx9 zzhs0 zzhs1 zzF9 zzN9; (try dsimp only at zzN9); (try dsimp only)) | ((with_reducible show wpAny _ _ (call (Value.ref 515) _) _ _ _); k_dflt (refine' draw2 ?zzB ?zzF ?zzX ?zzN ?zzT ?zzhk ?zzhdp ?zzhun ?zzhq ?zzU ?zzhi ?zzhlen ?zzhm ?zzhm2 ?zzhs0 ?zzhs1 ?_; (case zzB => k_asm); (case zzF => k_asm); (case zzX => k_asm); (case zzN => k_asm); (case zzT => k_asm); (case zzhk => first | assumption | rfl); (case zzhdp => ktr_room); (case zzhun => units_room); (case zzU => walk_at "MY UPDF"); (case zzhq => k_mem); (case zzhi => assumption); (case zzhlen => assumption); (case zzhm => omega); (case zzhm2 => omega); (case zzhs0 => omega); (case zzhs1 => omega)); intro zzd9 zzt9 zzv9 zzh9 zztk9 zzhd0 zzhd1 zzhs0 zzhs1 zzF9 zzN9; (try dsimp only at zzN9); (try dsimp only))) | dsimp only | (leave1; (try dsimp only)) | fail "no step"))
      all_goals (try k_data)
      refine' ⟨rfl, _, _, _, _, _, _, rfl, by k_asm, by k_asm, ?ed, ?et⟩
      case ed =>
        rw [show dueS x = _ from if_neg hx1, show dueN n = _ from if_pos hn1, ← List.append_assoc]
        exact ((hD8.mono fun p hp => by repeat (first | exact hp | refine List.Mem.tail _ ?_)).append (.cons (.tuple (by k_dflt k_mem) (.cons (.str _ _) (.cons (.tuple (by k_dflt k_mem) (.cons (.str _ _) (.cons (.str _ _) .nil))) .nil))) .nil)).append .nil
      case et => exact hTF.mono fun p hp => by repeat (first | exact hp | refine List.Mem.tail _ ?_)
    · (skip; repeat' (first | (k_unfold; (try dsimp only)) | (with_reducible refine gen3 ?_; intro _) | ((with_reducible show wpAny _ _ (exec (Stmt.Assign _ _ _) _) _ _ _); k_fold) | ((with_reducible show wpAny _ _ (exec (Stmt.Return _ _) _) _ _ _); k_fold) | ((with_reducible show wpAny _ _ (eval (PySem.Expr.Call _ _ _ _) _) _ _ _); k_fold) | with_reducible refine seq_next ?_ | with_reducible refine seq_ret ?_ | (first | ((with_reducible show wpAny _ _ (binaryOp Operator.Add (Value.ref _) (Value.ref _)) _ _ _); with_reducible ((refine' r_addlist ?zzk1 ?zzk2 ?zzk3 ?zzk4 ?zzk5 ?_; (case zzk1 => k_asm); (case zzk2 => k_asm); (case zzk3 => k_dflt k_mem); (case zzk4 => k_dflt k_mem); (case zzk5 => (simp only [List.length_append, List.length_cons, List.length_nil]; omega)); intro zzD' zzh' zzF' zzN' zzhne'))) | ((with_reducible show wpAny _ _ (callWith _ (Value.ref _) _ (backTo _ (starEach [] _)) _) _ _ _); with_reducible ((k_dflt (refine' callWith_K0 ?zzk1 ?zzk2 ?_; (case zzk1 => k_in); (case zzk2 => k_is); k_whole); (try dsimp only)))) | walk_at "MY STEP") | (first | ((with_reducible show wpAny _ _ (call (Value.ref 363) _) _ _ _); k_dflt (refine' shelf_ok ?zzB ?zzF ?zzX ?zzN ?zzT ?zzhk ?zzhdp ?zzhun ?_; (case zzB => k_asm); (case zzF => k_asm); (case zzX => k_asm); (case zzN => k_asm); (case zzT => k_asm); (case zzhk => first | assumption | rfl); (case zzhdp => ktr_room); (case zzhun => units_room)); intro zzsh9 zzd9 zztb9 zztr9 zzoT9 zzoR9 zzk39 zzk49 zzh9 zztk9 zzF9 zzN9 zzhT9 zzhR9 zzlo9 zzlo99 zzlT9 zzlR9; (try dsimp only)) | ((with_reducible show wpAny _ _ (call (Value.ref 254) _) _ _ _); walk1) | ((with_reducible show wpAny _ _ (call (Value.ref 205) _) _ _ _); walk1) | ((with_reducible show wpAny _ _ (call (Value.ref 183) _) _ _ _); walk1) | ((with_reducible show wpAny _ _ (call (Value.ref 539) _) _ _ _); k_dflt (refine' lread_ok ?zzB ?zzF ?zzX ?zzN ?zzT ?zzhk ?zzhdp ?zzhun ?zzhks ?zzhlen ?_; (case zzB => k_asm); (case zzF => k_asm); (case zzX => k_asm); (case zzN => k_asm); (case zzT => k_asm); (case zzhk => first | assumption | rfl); (case zzhdp => ktr_room); (case zzhun => units_room); (case zzhks => exact KBa.ints_make (by assumption)); (case zzhlen => omega)); intro zzt9 zzh9 zztk9 zzF9 zzN9; (try dsimp only)) | ((with_reducible show wpAny _ _ (call (Value.ref 534) _) _ _ _); k_dflt (refine' lk_ok ?zzB ?zzF ?zzX ?zzN ?zzT ?zzhk ?zzhdp ?zzhun ?zzhks ?zzhlen ?zzhb ?_; (case zzB => k_asm); (case zzF => k_asm); (case zzX => k_asm); (case zzN => k_asm); (case zzT => k_asm); (case zzhk => first | assumption | rfl); (case zzhdp => ktr_room); (case zzhun => units_room); (case zzhks => with_reducible assumption); (case zzhlen => omega); (case zzhb => with_reducible assumption)); intro zzt9 zzh9 zztk9 zzF9 zzN9; (try dsimp only)) | ((with_reducible show wpAny _ _ (call (Value.ref 466) _) _ _ _); k_dflt (refine' po_ok ?zzB ?zzF ?zzX ?zzN ?zzT ?zzhk ?zzhdp ?zzhun ?zzhks ?zzhlen ?zzhb ?_; (case zzB => k_asm); (case zzF => k_asm); (case zzX => k_asm); (case zzN => k_asm); (case zzT => k_asm); (case zzhk => first | assumption | rfl); (case zzhdp => ktr_room); (case zzhun => units_room); (case zzhks => with_reducible assumption); (case zzhlen => omega); (case zzhb => with_reducible assumption)); intro zzt9 zzh9 zztk9 zzF9 zzN9; (try dsimp only)) | ((with_reducible show wpAny _ _ (call (Value.ref 478) _) _ _ _); k_dflt (refine' pt_ok ?zzB ?zzF ?zzX ?zzN ?zzT ?zzhk ?zzhdp ?zzhun ?zzhks ?zzhlen ?_; (case zzB => k_asm); (case zzF => k_asm); (case zzX => k_asm); (case zzN => k_asm); (case zzT => k_asm); (case zzhk => first | assumption | rfl); (case zzhdp => ktr_room); (case zzhun => units_room); (case zzhks => first | with_reducible assumption | exact KBa.ints_make (by assumption)); (case zzhlen => first | with_reducible assumption | omega)); intro zzt9 zzh9 zztk9 zzF9 zzN9; (try dsimp only)) | ((with_reducible show wpAny _ _ (call (Value.ref 549) _) _ _ _); k_dflt (refine' data2 ?zzB ?zzF ?zzX ?zzN ?zzT ?zzhk ?zzhdp ?zzhun ?zzhq ?zzU ?zzhi ?zzhlen ?zzhs0 ?zzhs1 ?_; (case zzB => k_asm); (case zzF => k_asm); (case zzX => k_asm); (case zzN => k_asm); (case zzT => k_asm); (case zzhk => first | assumption | rfl); (case zzhdp => ktr_room); (case zzhun => units_room); (case zzU => walk_at "MY UPDF"); (case zzhq => k_mem); (case zzhi => assumption); (case zzhlen => assumption); (case zzhs0 => omega); (case zzhs1 => omega)); intro zzcs9 zzt9 zzv9 zzh9 zztk9 zzhcl9 zzhcm9 zzhs0 zzhs1 zzF9 zzN9; (try dsimp only at zzN9); (try dsimp only)) | ((with_reducible show wpAny _ _ (call (Value.ref 522) _) _ _ _); k_dflt (refine' pick_ok ?zzB ?zzF ?zzX ?zzN ?zzT ?zzhk ?zzhdp ?zzhun ?zzhq ?zzhr ?zzhrp ?zzU ?zzhi ?zzhlen ?zzhm ?zzhm2 ?zzhs0 ?zzhs1 ?_; (case zzB => k_asm); (case zzF => k_asm); (case zzX => k_asm); (case zzN => k_asm); (case zzT => k_asm); (case zzhk => first | assumption | rfl); (case zzhdp => ktr_room); (case zzhun => units_room); (case zzU => walk_at "MY UPDF"); (case zzhq => k_mem); (case zzhi => assumption); (case zzhr => k_mem); (case zzhrp => k_ne); (case zzhlen => assumption); (case zzhm => first | omega | exact Nat.le_of_ble_eq_true rfl); (case zzhm2 => first | omega | exact Nat.le_of_ble_eq_true rfl); (case zzhs0 => omega); (case zzhs1 => omega)); intro zzx9 zzv9 zzh9 zztk9 zzhx9 zzhs0 zzhs1 zzF9 zzN9; (try dsimp only at zzN9); (try dsimp only)) | ((with_reducible show wpAny _ _ (call (Value.ref 515) _) _ _ _); k_dflt (refine' draw2 ?zzB ?zzF ?zzX ?zzN ?zzT ?zzhk ?zzhdp ?zzhun ?zzhq ?zzU ?zzhi ?zzhlen ?zzhm ?zzhm2 ?zzhs0 ?zzhs1 ?_; (case zzB => k_asm); (case zzF => k_asm); (case zzX => k_asm); (case zzN => k_asm); (case zzT => k_asm); (case zzhk => first | assumption | rfl); (case zzhdp => ktr_room); (case zzhun => units_room); (case zzU => walk_at "MY UPDF"); (case zzhq => k_mem); (case zzhi => assumption); (case zzhlen => assumption); (case zzhm => omega); (case zzhm2 => omega); (case zzhs0 => omega); (case zzhs1 => omega)); intro zzd9 zzt9 zzv9 zzh9 zztk9 zzhd0 zzhd1 zzhs0 zzhs1 zzF9 zzN9; (try dsimp only at zzN9); (try dsimp only))) | dsimp only | (leave1; (try dsimp only)) | fail "no step"))
      all_goals (try k_data)
      refine' ⟨rfl, _, _, _, _, _, _, rfl, by k_asm, by k_asm, ?ed, ?et⟩
      case ed =>
        rw [show dueS x = _ from if_neg hx1, show dueN n = _ from if_neg hn1, ← List.append_assoc]
        exact ((hD8.mono fun p hp => by repeat (first | exact hp | refine List.Mem.tail _ ?_)).append (.cons (.tuple (by k_dflt k_mem) (.cons (.str _ _) (.cons (.tuple (by k_dflt k_mem) (.cons (.str _ _) (.cons (.str _ _) .nil))) .nil))) .nil)).append (.cons (.tuple (by k_dflt k_mem) (.cons (.str _ _) (.cons (.tuple (by k_dflt k_mem) (.cons (.str _ _) (.cons (.int _ _) .nil))) .nil))) .nil)
      case et => exact hTF.mono fun p hp => by repeat (first | exact hp | refine List.Mem.tail _ ?_)
  case due2q =>
  clear F8 hTF hD8 hl8 N9
  intro d9 vs9 k9 top9 h9 tk9 F8 N9 hD9 hTF
  exact tailC hsc' rfl (by k_asm) (by k_asm) X N9 T hD9 hTF hw hcl hi hx hn fun m' h' tk' ps8 F' N' => ret m' h' tk' ps8 F' N'
section
theorem tailA {p q : Addr} {us : List Value} {ms : List Int} {k : Nat} {v : PenV} (hsc : sc = scopeOf lawDef) (hss : ss = lawBody.drop 2)
   (B : Below callerA base [] h₀) (F : Fr h₀ L s.heap m0) (X : (frag.heap_1 w.params).In h₀) (N : News h₀ L s.heap [(p, penV q v), (q, lstO us k), (438, tabObj #[])]) (T : Top pv loose mean mg mb h₀)
   (hpen : m0 (Str.ofString "pen") = some (.ref p)) (C8 : CodeHd base 440 438) (hqp : @Ne Nat q p) (h8p : @Ne Nat 438 p) (hi : IntsAre us ms) (hlen : ms.length ≤ 40) (hs0 : 0 ≤ v.spot) (hs1 : v.spot ≤ 900)
   (ret : ∀ m' h' tk' ps8, Fr h₀ L h' m' → News h₀ L h' [(438, tabObj ps8)] → Q (.ret (.bool true)) { s with heap := h', toks := tk' }) :
   wpAny (model pr w) (callerA.deeper (envOf (Str.ofString "law") sc L fa cd)) (execs ss (envOf (Str.ofString "law") sc L fa cd)) Q E s := by
  have hsc' := hsc
  conv at hsc => rhs; whnf
  conv at hss => rhs; whnf
  subst hsc hss
  ((skip; repeat' ((fail_if_success (with_reducible show wpAny _ _ (execs (Stmt.Assign _ (PySem.Expr.Call _ [PySem.Expr.List _ _] [] _) _ :: _) _) _ _ _)); (fail_if_success (with_reducible show wpAny _ _ (call (Value.ref 544) _) _ _ _)); ((first | (k_unfold; (try dsimp only)) | (with_reducible refine gen3 ?_; intro _) | ((with_reducible show wpAny _ _ (exec (Stmt.Assign _ _ _) _) _ _ _); k_fold) | ((with_reducible show wpAny _ _ (exec (Stmt.Return _ _) _) _ _ _); k_fold) | ((with_reducible show wpAny _ _ (eval (PySem.Expr.Call _ _ _ _) _) _ _ _); k_fold) | with_reducible refine seq_next ?_ | with_reducible refine seq_ret ?_ | ((fail_if_success (with_reducible show GrownAll _ _)); (fail_if_success (with_reducible show wpAny _ _ (compareOp _ (Value.ref _) (Value.ref _)) _ _ _)); (fail_if_success (with_reducible show wpAny _ _ (exec (Stmt.Assign [PySem.Expr.Name _ _] (PySem.Expr.IfExp _ _ _ _) _) _) _ _ _)); (fail_if_success (with_reducible show wpAny _ _ (exec (Stmt.Assign [PySem.Expr.Name _ _] (PySem.Expr.BinOp _ _ _ _) _) _) _ _ _)); first | (first | ((with_reducible show wpAny _ _ (eval (PySem.Expr.Name _ _) _) _ _ _); (refine' ld ?zzk1 ?zzk2 ?_; (case zzk1 => with_reducible assumption); (case zzk2 => with_unfolding_all exact hpen); k_whole)) | ((with_reducible show wpAny _ _ (binaryOp Operator.Add (Value.ref _) (Value.ref _)) _ _ _); with_reducible ((refine' r_addlist ?zzk1 ?zzk2 ?zzk3 ?zzk4 ?zzk5 ?_; (case zzk1 => k_asm); (case zzk2 => k_asm); (case zzk3 => k_dflt k_mem); (case zzk4 => k_dflt k_mem); (case zzk5 => (simp only [List.length_append, List.length_cons, List.length_nil]; omega)); intro zzD' zzh' zzF' zzN' zzhne'))) | ((with_reducible show wpAny _ _ (callWith _ (Value.ref _) _ (backTo _ (starEach [] _)) _) _ _ _); with_reducible ((k_dflt (refine' callWith_K0 ?zzk1 ?zzk2 ?_; (case zzk1 => k_in); (case zzk2 => k_is); k_whole); (try dsimp only)))) | walk_at "MY STEP") | (first | ((with_reducible show wpAny _ _ (call (Value.ref 363) _) _ _ _); k_dflt (refine' shelf_ok ?zzB ?zzF ?zzX ?zzN ?zzT ?zzhk ?zzhdp ?zzhun ?_; (case zzB => k_asm); (case zzF => k_asm); (case zzX => k_asm); (case zzN => k_asm); (case zzT => k_asm); (case zzhk => first | assumption | rfl); (case zzhdp => ktr_room); (case zzhun => units_room)); intro zzsh9 zzd9 zztb9 zztr9 zzoT9 zzoR9 zzk39 zzk49 zzh9 zztk9 zzF9 zzN9 zzhT9 zzhR9 zzlo9 zzlo99 zzlT9 zzlR9; (try dsimp only)) | ((with_reducible show wpAny _ _ (call (Value.ref 254) _) _ _ _); walk1) | ((with_reducible show wpAny _ _ (call (Value.ref 205) _) _ _ _); walk1) | ((with_reducible show wpAny _ _ (call (Value.ref 183) _) _ _ _); walk1) | ((with_reducible show wpAny _ _ (call (Value.ref 539) _) _ _ _); k_dflt (refine' lread_ok ?zzB ?zzF ?zzX ?zzN ?zzT ?zzhk ?zzhdp ?zzhun ?zzhks ?zzhlen ?_; (case zzB => k_asm); (case zzF => k_asm); (case zzX => k_asm); (case zzN => k_asm); (case zzT => k_asm); (case zzhk => first | assumption | rfl); (case zzhdp => ktr_room); (case zzhun => units_room); (case zzhks => exact KBa.ints_make (by assumption)); (case zzhlen => omega)); intro zzt9 zzh9 zztk9 zzF9 zzN9; (try dsimp only)) | ((with_reducible show wpAny _ _ (call (Value.ref 534) _) _ _ _); k_dflt (refine' lk_ok ?zzB ?zzF ?zzX ?zzN ?zzT ?zzhk ?zzhdp ?zzhun ?zzhks ?zzhlen ?zzhb ?_; (case zzB => k_asm); (case zzF => k_asm); (case zzX => k_asm); (case zzN => k_asm); (case zzT => k_asm); (case zzhk => first | assumption | rfl); (case zzhdp => ktr_room); (case zzhun => units_room); (case zzhks => with_reducible assumption); (case zzhlen => omega); (case zzhb => with_reducible assumption)); intro zzt9 zzh9 zztk9 zzF9 zzN9; (try dsimp only)) | ((with_reducible show wpAny _ _ (call (Value.ref 466) _) _ _ _); k_dflt (refine' po_ok ?zzB ?zzF ?zzX ?zzN ?zzT ?zzhk ?zzhdp ?zzhun ?zzhks ?zzhlen ?zzhb ?_; (case zzB => k_asm); (case zzF => k_asm); (case zzX => k_asm); (case zzN => k_asm); (case zzT => k_asm); (case zzhk => first | assumption | rfl); (case zzhdp => ktr_room); (case zzhun => units_room); (case zzhks => with_reducible assumption); (case zzhlen => omega); (case zzhb => with_reducible assumption)); intro zzt9 zzh9 zztk9 zzF9 zzN9; (try dsimp only)) | ((with_reducible show wpAny _ _ (call (Value.ref 478) _) _ _ _); k_dflt (refine' pt_ok ?zzB ?zzF ?zzX ?zzN ?zzT ?zzhk ?zzhdp ?zzhun ?zzhks ?zzhlen ?_; (case zzB => k_asm); (case zzF => k_asm); (case zzX => k_asm); (case zzN => k_asm); (case zzT => k_asm); (case zzhk => first | assumption | rfl); (case zzhdp => ktr_room); (case zzhun => units_room); (case zzhks => first | with_reducible assumption | exact KBa.ints_make (by assumption)); (case zzhlen => first | with_reducible assumption | omega)); intro zzt9 zzh9 zztk9 zzF9 zzN9; (try dsimp only)) | ((with_reducible show wpAny _ _ (call (Value.ref 549) _) _ _ _); k_dflt (refine' data2 ?zzB ?zzF ?zzX ?zzN ?zzT ?zzhk ?zzhdp ?zzhun ?zzhq ?zzU ?zzhi ?zzhlen ?zzhs0 ?zzhs1 ?_; (case zzB => k_asm); (case zzF => k_asm); (case zzX => k_asm); (case zzN => k_asm); (case zzT => k_asm); (case zzhk => first | assumption | rfl); (case zzhdp => ktr_room); (case zzhun => units_room); (case zzU => walk_at "MY UPDF"); (case zzhq => k_mem); (case zzhi => assumption); (case zzhlen => assumption); (case zzhs0 => omega); (case zzhs1 => omega)); intro zzcs9 zzt9 zzv9 zzh9 zztk9 zzhcl9 zzhcm9 zzhs0 zzhs1 zzF9 zzN9; (try dsimp only at zzN9); (try dsimp only)) | ((with_reducible show wpAny _ _ (call (Value.ref 522) _) _ _ _); k_dflt (refine' pick_ok ?zzB ?zzF ?zzX ?zzN ?zzT ?zzhk ?zzhdp ?zzhun ?zzhq ?zzhr ?zzhrp ?zzU ?zzhi ?zzhlen ?zzhm ?zzhm2 ?zzhs0 ?zzhs1 ?_; (case zzB => k_asm); (case zzF => k_asm); (case zzX => k_asm); (case zzN => k_asm); (case zzT => k_asm); (case zzhk => first | assumption | rfl); (case zzhdp => ktr_room); (case zzhun => units_room); (case zzU => walk_at "MY UPDF"); (case zzhq => k_mem); (case zzhi => assumption); (case zzhr => k_mem); (case zzhrp => k_ne); (case zzhlen => assumption); (case zzhm => first | omega | exact Nat.le_of_ble_eq_true rfl); (case zzhm2 => first | omega | exact Nat.le_of_ble_eq_true rfl); (case zzhs0 => omega); (case zzhs1 => omega)); intro zzx9 zzv9 zzh9 zztk9 zzhx9 zzhs0 zzhs1 zzF9 zzN9; (try dsimp only at zzN9); (try dsimp only)) | ((with_reducible show wpAny _ _ (call (Value.ref 515) _) _ _ _); k_dflt (refine' draw2 ?zzB ?zzF ?zzX ?zzN ?zzT ?zzhk ?zzhdp ?zzhun ?zzhq ?zzU ?zzhi ?zzhlen ?zzhm ?zzhm2 ?zzhs0 ?zzhs1 ?_; (case zzB => k_asm); (case zzF => k_asm); (case zzX => k_asm); (case zzN => k_asm); (case zzT => k_asm); (case zzhk => first | assumption | rfl); (case zzhdp => ktr_room); (case zzhun => units_room); (case zzU => walk_at "MY UPDF"); (case zzhq => k_mem); (case zzhi => assumption); (case zzhlen => assumption); (case zzhm => omega); (case zzhm2 => omega); (case zzhs0 => omega); (case zzhs1 => omega)); intro zzd9 zzt9 zzv9 zzh9 zztk9 zzhd0 zzhd1 zzhs0 zzhs1 zzF9 zzN9; (try dsimp only at zzN9); (try dsimp only))) | dsimp only | (leave1; (try dsimp only)) | fail "no step"))))))
  all_goals (try k_data)
  k_dflt (refine' text2 ?tB ?tF ?tX ?tN ?tT ?thk ?thdp ?thun ?thq ?tU hi hlen hs0 hs1 ?tret)
  case tB => k_asm
  case tF => k_asm
  case tX => k_asm
  case tN => k_asm
  case tT => k_asm
  case thk => rfl
  case thdp => ktr_room
  case thun => units_room
  case tU => walk_at "MY UPDF"
  case thq => k_mem
  intro cs t6 v6 h6 tk6 hcl hcm hs0 hs1 F6 N6
  (try dsimp only at N6)
  have hw : ∀ c ∈ cs, whole c := fun c hc => menu_whole c (hcm c hc)
  have hb : ∀ c ∈ cs, 0 ≤ c ∧ c < 1114112 := fun c hc => ⟨(hw c hc).1, (hw c hc).2.1⟩
  have hcodes : KStt.codes (KStt.txt cs) = cs := codes_txt fun c hc => (hw c hc).1
  have hpo : KBw.bInts (byteArr (po cs)) = po cs := KBa.ints_make (po_in hb)
  have hpl : (po cs).length ≤ 1000 := by have := po_length cs; omega
  have q1 : ¬ ((byteArr (po cs)).toList != (byteArr (po cs)).toList) = true := by simp
  have q2 : ¬ (KStt.txt (rdT (po cs)) != KStt.txt cs) = true := by rw [rd_po hw]; simp
  ((skip; repeat' ((fail_if_success (with_reducible show wpAny _ _ (execs (Stmt.Assign _ (PySem.Expr.Call _ [PySem.Expr.List _ _] [] _) _ :: _) _) _ _ _)); (fail_if_success (with_reducible show wpAny _ _ (call (Value.ref 544) _) _ _ _)); ((first | (k_unfold; (try dsimp only)) | (with_reducible refine gen3 ?_; intro _) | ((with_reducible show wpAny _ _ (exec (Stmt.Assign _ _ _) _) _ _ _); k_fold) | ((with_reducible show wpAny _ _ (exec (Stmt.Return _ _) _) _ _ _); k_fold) | ((with_reducible show wpAny _ _ (eval (PySem.Expr.Call _ _ _ _) _) _ _ _); k_fold) | with_reducible refine seq_next ?_ | with_reducible refine seq_ret ?_ | ((fail_if_success (with_reducible show GrownAll _ _)); (fail_if_success (with_reducible show wpAny _ _ (compareOp _ (Value.ref _) (Value.ref _)) _ _ _)); (fail_if_success (with_reducible show wpAny _ _ (exec (Stmt.Assign [PySem.Expr.Name _ _] (PySem.Expr.IfExp _ _ _ _) _) _) _ _ _)); (fail_if_success (with_reducible show wpAny _ _ (exec (Stmt.Assign [PySem.Expr.Name _ _] (PySem.Expr.BinOp _ _ _ _) _) _) _ _ _)); first | (first | ((with_reducible show wpAny _ _ (eval (PySem.Expr.Name _ _) _) _ _ _); (refine' ld ?zzk1 ?zzk2 ?_; (case zzk1 => with_reducible assumption); (case zzk2 => with_unfolding_all exact hpen); k_whole)) | ((with_reducible show wpAny _ _ (binaryOp Operator.Add (Value.ref _) (Value.ref _)) _ _ _); with_reducible ((refine' r_addlist ?zzk1 ?zzk2 ?zzk3 ?zzk4 ?zzk5 ?_; (case zzk1 => k_asm); (case zzk2 => k_asm); (case zzk3 => k_dflt k_mem); (case zzk4 => k_dflt k_mem); (case zzk5 => (simp only [List.length_append, List.length_cons, List.length_nil]; omega)); intro zzD' zzh' zzF' zzN' zzhne'))) | ((with_reducible show wpAny _ _ (callWith _ (Value.ref _) _ (backTo _ (starEach [] _)) _) _ _ _); with_reducible ((k_dflt (refine' callWith_K0 ?zzk1 ?zzk2 ?_; (case zzk1 => k_in); (case zzk2 => k_is); k_whole); (try dsimp only)))) | walk_at "MY STEP") | (first | ((with_reducible show wpAny _ _ (call (Value.ref 363) _) _ _ _); k_dflt (refine' shelf_ok ?zzB ?zzF ?zzX ?zzN ?zzT ?zzhk ?zzhdp ?zzhun ?_; (case zzB => k_asm); (case zzF => k_asm); (case zzX => k_asm); (case zzN => k_asm); (case zzT => k_asm); (case zzhk => first | assumption | rfl); (case zzhdp => ktr_room); (case zzhun => units_room)); intro zzsh9 zzd9 zztb9 zztr9 zzoT9 zzoR9 zzk39 zzk49 zzh9 zztk9 zzF9 zzN9 zzhT9 zzhR9 zzlo9 zzlo99 zzlT9 zzlR9; (try dsimp only)) | ((with_reducible show wpAny _ _ (call (Value.ref 254) _) _ _ _); walk1) | ((with_reducible show wpAny _ _ (call (Value.ref 205) _) _ _ _); walk1) | ((with_reducible show wpAny _ _ (call (Value.ref 183) _) _ _ _); walk1) | ((with_reducible show wpAny _ _ (call (Value.ref 539) _) _ _ _); k_dflt (refine' lread_ok ?zzB ?zzF ?zzX ?zzN ?zzT ?zzhk ?zzhdp ?zzhun ?zzhks ?zzhlen ?_; (case zzB => k_asm); (case zzF => k_asm); (case zzX => k_asm); (case zzN => k_asm); (case zzT => k_asm); (case zzhk => first | assumption | rfl); (case zzhdp => ktr_room); (case zzhun => units_room); (case zzhks => exact KBa.ints_make (by assumption)); (case zzhlen => omega)); intro zzt9 zzh9 zztk9 zzF9 zzN9; (try dsimp only)) | ((with_reducible show wpAny _ _ (call (Value.ref 534) _) _ _ _); k_dflt (refine' lk_ok ?zzB ?zzF ?zzX ?zzN ?zzT ?zzhk ?zzhdp ?zzhun ?zzhks ?zzhlen ?zzhb ?_; (case zzB => k_asm); (case zzF => k_asm); (case zzX => k_asm); (case zzN => k_asm); (case zzT => k_asm); (case zzhk => first | assumption | rfl); (case zzhdp => ktr_room); (case zzhun => units_room); (case zzhks => with_reducible assumption); (case zzhlen => omega); (case zzhb => with_reducible assumption)); intro zzt9 zzh9 zztk9 zzF9 zzN9; (try dsimp only)) | ((with_reducible show wpAny _ _ (call (Value.ref 466) _) _ _ _); k_dflt (refine' po_ok ?zzB ?zzF ?zzX ?zzN ?zzT ?zzhk ?zzhdp ?zzhun ?zzhks ?zzhlen ?zzhb ?_; (case zzB => k_asm); (case zzF => k_asm); (case zzX => k_asm); (case zzN => k_asm); (case zzT => k_asm); (case zzhk => first | assumption | rfl); (case zzhdp => ktr_room); (case zzhun => units_room); (case zzhks => with_reducible assumption); (case zzhlen => omega); (case zzhb => with_reducible assumption)); intro zzt9 zzh9 zztk9 zzF9 zzN9; (try dsimp only)) | ((with_reducible show wpAny _ _ (call (Value.ref 478) _) _ _ _); k_dflt (refine' pt_ok ?zzB ?zzF ?zzX ?zzN ?zzT ?zzhk ?zzhdp ?zzhun ?zzhks ?zzhlen ?_; (case zzB => k_asm); (case zzF => k_asm); (case zzX => k_asm); (case zzN => k_asm); (case zzT => k_asm); (case zzhk => first | assumption | rfl); (case zzhdp => ktr_room); (case zzhun => units_room); (case zzhks => first | with_reducible assumption | exact KBa.ints_make (by assumption)); (case zzhlen => first | with_reducible assumption | omega)); intro zzt9 zzh9 zztk9 zzF9 zzN9; (try dsimp only)) | ((with_reducible show wpAny _ _ (call (Value.ref 549) _) _ _ _); k_dflt (refine' data2 ?zzB ?zzF ?zzX ?zzN ?zzT ?zzhk ?zzhdp ?zzhun ?zzhq ?zzU ?zzhi ?zzhlen ?zzhs0 ?zzhs1 ?_; (case zzB => k_asm); (case zzF => k_asm); (case zzX => k_asm); (case zzN => k_asm); (case zzT => k_asm); (case zzhk => first | assumption | rfl); (case zzhdp => ktr_room); (case zzhun => units_room); (case zzU => walk_at "MY UPDF"); (case zzhq => k_mem); (case zzhi => assumption); (case zzhlen => assumption); (case zzhs0 => omega); (case zzhs1 => omega)); intro zzcs9 zzt9 zzv9 zzh9 zztk9 zzhcl9 zzhcm9 zzhs0 zzhs1 zzF9 zzN9; (try dsimp only at zzN9); (try dsimp only)) | ((with_reducible show wpAny _ _ (call (Value.ref 522) _) _ _ _); k_dflt (refine' pick_ok ?zzB ?zzF ?zzX ?zzN ?zzT ?zzhk ?zzhdp ?zzhun ?zzhq ?zzhr ?zzhrp ?zzU ?zzhi ?zzhlen ?zzhm ?zzhm2 ?zzhs0 ?zzhs1 ?_; (case zzB => k_asm); (case zzF => k_asm); (case zzX => k_asm); (case zzN => k_asm); (case zzT => k_asm); (case zzhk => first | assumption | rfl); (case zzhdp => ktr_room); (case zzhun => units_room); (case zzU => walk_at "MY UPDF"); (case zzhq => k_mem); (case zzhi => assumption); (case zzhr => k_mem); (case zzhrp => k_ne); (case zzhlen => assumption); (case zzhm => first | omega | exact Nat.le_of_ble_eq_true rfl); (case zzhm2 => first | omega | exact Nat.le_of_ble_eq_true rfl); (case zzhs0 => omega); (case zzhs1 => omega)); intro zzx9 zzv9 zzh9 zztk9 zzhx9 zzhs0 zzhs1 zzF9 zzN9; (try dsimp only at zzN9); (try dsimp only)) | ((with_reducible show wpAny _ _ (call (Value.ref 515) _) _ _ _); k_dflt (refine' draw2 ?zzB ?zzF ?zzX ?zzN ?zzT ?zzhk ?zzhdp ?zzhun ?zzhq ?zzU ?zzhi ?zzhlen ?zzhm ?zzhm2 ?zzhs0 ?zzhs1 ?_; (case zzB => k_asm); (case zzF => k_asm); (case zzX => k_asm); (case zzN => k_asm); (case zzT => k_asm); (case zzhk => first | assumption | rfl); (case zzhdp => ktr_room); (case zzhun => units_room); (case zzU => walk_at "MY UPDF"); (case zzhq => k_mem); (case zzhi => assumption); (case zzhlen => assumption); (case zzhm => omega); (case zzhm2 => omega); (case zzhs0 => omega); (case zzhs1 => omega)); intro zzd9 zzt9 zzv9 zzh9 zztk9 zzhd0 zzhd1 zzhs0 zzhs1 zzF9 zzN9; (try dsimp only at zzN9); (try dsimp only))) | dsimp only | (leave1; (try dsimp only)) | fail "no step"))))))
  all_goals (try k_data)
  rename (_ ∈ [Value.str _ _, _, _, _, _, _]) => hst
  obtain ⟨x, tx, rfl, hx⟩ := style_of hst
  rename (_ ∈ [Value.int _ _, _, _]) => hsn
  obtain ⟨n, tn, rfl, hn⟩ := start_of hsn
  clear hst hsn
  rename Fr _ _ _ _ => F7
  rename News _ _ _ _ => N7
  exact tailB hsc' rfl (by k_asm) F7 X N7 T C8 (by k_dflt k_mem) hw hcl (by assumption) hx hn fun m' h' tk' ps8 F' N' => ret m' h' tk' ps8 F' N'
end
end

end
section
structure LwS where
  v : PenV
  x1 : Option Value
  x2 : Option Value
  x3 : Option Value
theorem main.tw13962693860625380366 : True := trivial
theorem main.tw2852251193174398662 : True := trivial
theorem main.tw8260724100714396741 : True := trivial
theorem main.tw11273777480241942364 : True := trivial
theorem main.tw5084117380071580128 : True := trivial
theorem main.tw1900339198761634783 : True := trivial
theorem main.tw14080665800827857628 : True := trivial
theorem main.tw14646587721710459877 : True := trivial
theorem main.tw13626721169425172152 : True := trivial
theorem main.tw7083192437325867461 : True := trivial
theorem main.tw16798622893749714585 : True := trivial
theorem main.tw11857135199678951331 : True := trivial
theorem main.tw15803610866087392283 : True := trivial
theorem main.tw15491723280356408159 : True := trivial
theorem main.tw3259492374427675482 : True := trivial
theorem main.tw12298629886278197574 : True := trivial
theorem main.tw10896356407431480244 : True := trivial
theorem main.tw6801380410627298636 : True := trivial
theorem main.tw10114013102757674387 : True := trivial
theorem main.tw18431692314602308842 : True := trivial
theorem main.tw4300332693827490752 : True := trivial
theorem main.tw17403433191596464782 : True := trivial
theorem main.tw5418533224930618480 : True := trivial
theorem main.tw15510692781650021527 : True := trivial
theorem main.tw1390771862084280389 : True := trivial
theorem main.tw8905464785575363620 : True := trivial
theorem main.tw15365013842991253249 : True := trivial
theorem main.tw4573282807186111410 : True := trivial
theorem main.tw9498315638749924794 : True := trivial
theorem main.tw2230630471586527498 : True := trivial
theorem main.tw471287901995484742 : True := trivial
theorem main.tw13974046611088194958 : True := trivial
theorem main.tw12872379398031375081 : True := trivial
theorem main.tw8930851030842425676 : True := trivial
theorem main.tw7794525885065308317 : True := trivial
theorem main.tw2156534451787437564 : True := trivial
theorem main.tw2744014450722944760 : True := trivial
theorem main.tw5665406974723832613 : True := trivial
theorem main.tw1306636233014830658 : True := trivial
theorem main.tw16008457594558532635 : True := trivial
theorem main.tw9274054859765456524 : True := trivial
theorem main.tw4650958065196391918 : True := trivial
theorem main.tw31828345220925962 : True := trivial
theorem main.tw18287795668848337631 : True := trivial
theorem main.tw365850788961202214 : True := trivial
theorem main.tw5240779543111244032 : True := trivial
theorem main.tw14457758005677747962 : True := trivial
theorem main.tw15734200111481486640 : True := trivial
theorem main.tw16035907590883218939 : True := trivial
theorem main.tw14539993770535171780 : True := trivial
theorem main.tw17665120845849184447 : True := trivial
theorem main.tw1099256609624015869 : True := trivial
theorem main.tw3549514262204291990 : True := trivial
theorem main.tw7113585516715319716 : True := trivial
theorem main.tw17708487481403421675 : True := trivial
theorem main.tw9563168847844234846 : True := trivial
theorem main.tw1429040668314091153 : True := trivial
theorem main.tw3864431920445960829 : True := trivial
theorem main.tw17146568849442343683 : True := trivial
theorem main.tw15624239662980076321 : True := trivial
theorem main.tw12093647306153771053 : True := trivial
theorem main.tw14722489848711283861 : True := trivial
theorem main.tw13180746182150919023 : True := trivial
theorem main.tw4637267157515435788 : True := trivial
theorem main.tw5532463470591059822 : True := trivial
theorem main.tw3045742163950154196 : True := trivial
theorem main.tw6697339332421208802 : True := trivial
theorem main.tw10450603732522932521 : True := trivial
theorem main.tw7380652910202371479 : True := trivial
theorem main.tw9994787619460420439 : True := trivial
theorem main.tw9483120023164983764 : True := trivial
theorem main.tw1678875084529416142 : True := trivial
theorem main.tw15737690656516749961 : True := trivial
theorem main.tw12623159325031504133 : True := trivial
theorem main.tw10140136200207757160 : True := trivial
theorem main.tw8844999433837080629 : True := trivial
theorem main.tw11135027115929721415 : True := trivial
theorem main.tw2629084897520917108 : True := trivial
theorem main.tw5127751686995613262 : True := trivial
theorem main.tw6557543464795787104 : True := trivial
theorem main.tw1139638089617837720 : True := trivial
theorem main.tw13803360072150633466 : True := trivial
theorem main.tw11461230924637031220 : True := trivial
theorem main.tw16721930046160240684 : True := trivial
theorem main.tw12273490649430754879 : True := trivial
theorem main.tw10877679251791092727 : True := trivial
theorem main.tw6449824600675878752 : True := trivial
theorem main.tw7647378279178456250 : True := trivial
theorem main.tw15649996292582860464 : True := trivial
theorem main.tw5061512775090418087 : True := trivial
theorem main.tw10094358506670053839 : True := trivial
theorem main.tw11752208632293872130 : True := trivial
theorem main.tw3848698983108048278 : True := trivial
theorem main.tw8118072479153026202 : True := trivial
theorem main.tw6044114016751833949 : True := trivial
theorem main.tw16356685582667847594 : True := trivial
theorem main.tw13406003279186336099 : True := trivial
theorem main.tw6334894449686545209 : True := trivial
theorem main.tw3570300971023340979 : True := trivial
theorem main.tw4324958949535026087 : True := trivial
theorem main.tw13995172100960836882 : True := trivial
theorem main.tw11101190512080308003 : True := trivial
theorem main.tw9942282790977331292 : True := trivial
theorem main.tw10298723112805639129 : True := trivial
theorem main.tw11716418206903941319 : True := trivial
theorem main.tw13838900630717943254 : True := trivial
theorem main.tw2406621943657119228 : True := trivial
theorem main.tw13157206579259725088 : True := trivial
theorem main.tw13132915859168520264 : True := trivial
theorem main.tw16187894506366716058 : True := trivial
theorem main.tw6910295442248876197 : True := trivial
theorem main.tw1615956725737779560 : True := trivial
theorem main.tw17236958762192778904 : True := trivial
theorem main.tw9561784451562097942 : True := trivial
theorem main.tw962032349192862916 : True := trivial
theorem main.tw4775608329324902142 : True := trivial
theorem main.tw12361340156312767134 : True := trivial
theorem main.tw7308723440029596264 : True := trivial
theorem main.tw17297283025540448806 : True := trivial
theorem main.tw9925469786538053656 : True := trivial
theorem main.tw5518243967957118194 : True := trivial
theorem main.tw8748973510418095054 : True := trivial
theorem main.tw16572128252103988241 : True := trivial
theorem main.tw4812270449578504274 : True := trivial
theorem main.tw13547569757486424058 : True := trivial
theorem main.tw10047389527955405517 : True := trivial
theorem main.tw1496695287857109588 : True := trivial
theorem main.tw9848185148710128376 : True := trivial
theorem main.tw12646911602827044314 : True := trivial
theorem main.tw7332552209862256014 : True := trivial
theorem main.tw18403998269306519403 : True := trivial
theorem main.tw10642606787283503386 : True := trivial
theorem main.tw16819838333489098493 : True := trivial
theorem main.tw16656740534632174751 : True := trivial
theorem main.tw11407399753219959037 : True := trivial
theorem main.tw221909299271738847 : True := trivial
theorem main.tw8436210846270712021 : True := trivial
theorem main.tw7221758910455160077 : True := trivial
theorem main.tw9361300454564663673 : True := trivial
theorem main.tw12608185968620612914 : True := trivial
theorem main.tw7237411587787531456 : True := trivial
theorem main.tw452746233719593009 : True := trivial
theorem main.tw4585930131862741453 : True := trivial
theorem main.tw3298483428156984901 : True := trivial
theorem main.tw16965079339398995527 : True := trivial
theorem main.tw14798791472264738832 : True := trivial
theorem main.tw10609540516017602915 : True := trivial
theorem main.tw6886502059237256666 : True := trivial
theorem main.tw4072190877284726289 : True := trivial
theorem main.tw1632041292262086317 : True := trivial
theorem main.tw9189880136782149556 : True := trivial
theorem main.tw14313897822631088780 : True := trivial
theorem main.tw12252054271945606052 : True := trivial
theorem main.tw16451033083921036709 : True := trivial
theorem main.tw9369988214560726041 : True := trivial
theorem main.tw9121559901702372667 : True := trivial
theorem main.tw18218335207050127959 : True := trivial
theorem main.tw6389877041954997217 : True := trivial
theorem main.tw13098927220819541539 : True := trivial
theorem main.tw8207831470162742035 : True := trivial
theorem main.tw17336282652733537790 : True := trivial
theorem main.tw1980160206288974728 : True := trivial
theorem main.tw6855474311058116810 : True := trivial
theorem main.tw453184122279072053 : True := trivial
theorem main.tw10199874654664476236 : True := trivial
theorem main.tw8466321980469482115 : True := trivial
theorem main.tw6112859857366181021 : True := trivial
theorem main.tw5372645768047454471 : True := trivial
theorem main.tw1777545030009416734 : True := trivial
theorem main.tw11646826074482590764 : True := trivial
theorem main.tw3491332818749588091 : True := trivial
theorem main.tw7074144079889050967 : True := trivial
theorem main.tw17453503289922162039 : True := trivial
theorem main.tw15651024617767166033 : True := trivial
theorem main.tw1270039299266317192 : True := trivial
theorem main.tw18421580907717582127 : True := trivial
theorem main.tw12343854547171428336 : True := trivial
theorem main.tw14027531716089632829 : True := trivial
theorem main.tw9957550378297406723 : True := trivial
theorem main.tw7698036289167662538 : True := trivial
theorem main.tw341453280667917650 : True := trivial
theorem main.tw12139096438432415106 : True := trivial
theorem main.tw14672674291997333471 : True := trivial
theorem main.tw4452170602077327944 : True := trivial
theorem main.tw4766233809647381661 : True := trivial
theorem main.tw18190005008629794160 : True := trivial
theorem main.tw6981815665589151136 : True := trivial
theorem main.tw11251407683458634364 : True := trivial
theorem main.tw3613476055612923068 : True := trivial
theorem main.tw10231336680788121439 : True := trivial
theorem main.tw10669944970481658594 : True := trivial
theorem main.tw9897820754763898449 : True := trivial
theorem main.tw16480584520131690045 : True := trivial
theorem main.tw12224747205274536944 : True := trivial
theorem main.tw9515011664573035354 : True := trivial
theorem main.tw11962923498438245051 : True := trivial
theorem main.tw13667920496262714385 : True := trivial
theorem main.tw11261727412033496967 : True := trivial
theorem main.tw3454311308915712629 : True := trivial
theorem main.tw12885673836220544336 : True := trivial
theorem main.tw9268297945177815525 : True := trivial
theorem main.tw6297291884283926583 : True := trivial
theorem main.tw5473700226181020891 : True := trivial
theorem main.tw18031918436515192882 : True := trivial
theorem main.tw16922381011570985944 : True := trivial
theorem main.tw9302470337196694018 : True := trivial
theorem main.tw8729708805864041840 : True := trivial
theorem main.tw2583023086579268501 : True := trivial
theorem main.tw7214478077546791972 : True := trivial
theorem main.tw12941917028564957548 : True := trivial
theorem main.tw11476092923266045095 : True := trivial
theorem main.tw1098248734344127483 : True := trivial
theorem main.tw7186131708394509389 : True := trivial
theorem main.tw6075091234017535682 : True := trivial
theorem main.tw3934531018447913466 : True := trivial
theorem main.tw5234446048077146213 : True := trivial
theorem main.tw2110754180369666209 : True := trivial
theorem main.tw2007339730380871907 : True := trivial
theorem main.tw17561526911342447988 : True := trivial
theorem main.tw14562738103837258888 : True := trivial
theorem main.tw16629339528299215175 : True := trivial
theorem main.tw11092141859048813250 : True := trivial
theorem main.tw3557749057250611081 : True := trivial
theorem main.tw979501456738626862 : True := trivial
theorem main.tw17715262827843222689 : True := trivial
theorem main.tw5400957986263281647 : True := trivial
theorem main.tw834873547066669988 : True := trivial
theorem main.tw14439473939278146460 : True := trivial
theorem main.tw6222487380544312443 : True := trivial
theorem main.tw1628013610222277130 : True := trivial
theorem main.tw3796207824708393856 : True := trivial
theorem main.tw11221353774195762014 : True := trivial
theorem main.tw9512817274939609580 : True := trivial
theorem main.tw12922898485456448571 : True := trivial
theorem main.tw6785657489111691699 : True := trivial
theorem main.tw9670510015898674028 : True := trivial
theorem main.tw3137596982192898869 : True := trivial
theorem main.tw13590572293223372214 : True := trivial
theorem main.tw1130211791997205004 : True := trivial
theorem main.tw16778611742570070204 : True := trivial
theorem main.tw17450470499104002142 : True := trivial
theorem main.tw12260438938755061251 : True := trivial
theorem main.tw6912675738884088206 : True := trivial
theorem main.tw10204856939554784155 : True := trivial
theorem main.tw451873465583785326 : True := trivial
theorem main.tw18332899500509843999 : True := trivial
theorem main.tw11001617756164336837 : True := trivial
theorem main.tw13116522157475607773 : True := trivial
theorem main.tw5243159528196176124 : True := trivial
theorem main.tw13503263706703578961 : True := trivial
theorem main.tw10334261112615635914 : True := trivial
theorem main.tw12483276189755474720 : True := trivial
theorem main.tw5240536507193477226 : True := trivial
theorem main.tw4297412468100583042 : True := trivial
theorem main.tw3829396358689915599 : True := trivial
theorem main.tw18120430973489738927 : True := trivial
theorem main.tw13876859957761632879 : True := trivial
theorem main.tw6877560268529008848 : True := trivial
theorem main.tw8627561154394265716 : True := trivial
theorem main.tw10455743928339290457 : True := trivial
theorem main.tw9557352009045844224 : True := trivial
theorem main.tw3583811862363856187 : True := trivial
theorem main.tw14064073609400967072 : True := trivial
theorem main.tw12518504611687188807 : True := trivial
theorem main.tw8478376212529829071 : True := trivial
theorem main.tw16135426469972691074 : True := trivial
theorem main.tw11544348965984651327 : True := trivial
theorem main.tw7590696779544312186 : True := trivial
theorem main.tw13348322127785295214 : True := trivial
theorem main.tw5677329702179833609 : True := trivial
theorem main.tw10363585996791799541 : True := trivial
theorem main.tw14510055921401542917 : True := trivial
theorem main.tw11501822485730972192 : True := trivial
theorem main.tw9406782406253462049 : True := trivial
theorem main.tw3466206800631347469 : True := trivial
theorem main.tw18238007617527299592 : True := trivial
theorem main.tw9602689044206250138 : True := trivial
theorem main.tw18302796317244248524 : True := trivial
theorem main.tw11120327062377616369 : True := trivial
theorem main.tw12543713266681445118 : True := trivial
theorem main.tw9658885295015712986 : True := trivial
theorem main.tw3706830351922483016 : True := trivial
theorem main.tw13350764725976880583 : True := trivial
theorem main.tw18178676814319149831 : True := trivial
theorem main.tw9417822746687237092 : True := trivial
theorem main.tw12885385263037960081 : True := trivial
theorem main.tw4287590628605421168 : True := trivial
theorem main.tw16102231251864390963 : True := trivial
theorem main.tw4500915450034043215 : True := trivial
theorem main.tw1156462466702112376 : True := trivial
theorem main.tw3562595001068472590 : True := trivial
theorem main.tw2496676261509829067 : True := trivial
theorem main.tw6635558491612396129 : True := trivial
theorem main.tw3027586509356016917 : True := trivial
theorem main.tw13402765919934010277 : True := trivial
theorem main.tw10234815189450012239 : True := trivial
theorem main.tw2724176850512262202 : True := trivial
theorem main.tw17477492558424962760 : True := trivial
theorem main.tw15270170921892066516 : True := trivial
theorem main.tw6519269512792494810 : True := trivial
theorem main.tw8475525182357872103 : True := trivial
theorem main.tw6508729118710982530 : True := trivial
theorem main.tw2702614204127132176 : True := trivial
theorem main.tw3905226178654972811 : True := trivial
theorem main.tw14907226015203709474 : True := trivial
theorem main.tw330327031418712150 : True := trivial
theorem main.tw1886080085820668685 : True := trivial
theorem main.tw104360540948158410 : True := trivial
theorem main.tw17403364634526059139 : True := trivial
theorem main.tw7293298908176781663 : True := trivial
theorem main.tw11554813239044494598 : True := trivial
theorem main.tw15734660467963936456 : True := trivial
theorem main.tw5102693214775723256 : True := trivial
theorem main.tw3960113756560652017 : True := trivial
theorem main.tw16689149305811164139 : True := trivial
theorem main.tw4749052000479324790 : True := trivial
theorem main.tw11982392923317675503 : True := trivial
theorem main.tw6565609875121592624 : True := trivial
theorem main.tw16923884221124529275 : True := trivial
theorem main.tw8652556701797213591 : True := trivial
theorem main.tw17223442867436993403 : True := trivial
theorem main.tw12455012482086183272 : True := trivial
theorem main.tw18244272662864393019 : True := trivial
theorem main.tw12839114828313443825 : True := trivial
theorem main.tw9656510801202774680 : True := trivial
theorem main.tw13676971244355772609 : True := trivial
theorem main.tw18325589031809861271 : True := trivial
theorem main.tw16950194794029067938 : True := trivial
theorem main.tw2544328076492683441 : True := trivial
theorem main.tw7719453753418645345 : True := trivial
theorem main.tw9756827057097773860 : True := trivial
theorem main.tw52199770228462824 : True := trivial
theorem main.tw73751810991705359 : True := trivial
theorem main.tw3648158268668610041 : True := trivial
theorem main.tw716429049611869786 : True := trivial
theorem main.tw1054321117371714560 : True := trivial
theorem main.tw9976160756891316704 : True := trivial
theorem main.tw3314904115985164895 : True := trivial
theorem main.tw48596604365144762 : True := trivial
theorem main.tw961187720498965250 : True := trivial
theorem main.tw6862492499505807319 : True := trivial
theorem main.tw13219505800766818778 : True := trivial
theorem main.tw5250897040903982647 : True := trivial
theorem main.tw3779293765908593550 : True := trivial
theorem main.tw14504180641510445567 : True := trivial
theorem main.tw11987853993630220354 : True := trivial
theorem main.tw15595112118272840620 : True := trivial
theorem main.tw9360745474812902239 : True := trivial
theorem main.tw7411558596216406370 : True := trivial
theorem main.tw2895952525429962455 : True := trivial
theorem main.tw7093617532817203218 : True := trivial
theorem main.tw11815829001073249272 : True := trivial
theorem main.tw12670839924663504800 : True := trivial
theorem main.tw2759098988195820126 : True := trivial
theorem main.tw14759895335926876869 : True := trivial
theorem main.tw4039676971129161736 : True := trivial
theorem main.tw11710404883906591787 : True := trivial
theorem main.tw15514936471743626214 : True := trivial
theorem main.tw4261964983698606537 : True := trivial
theorem main.tw1236483940969888574 : True := trivial
theorem main.tw5613160597433933154 : True := trivial
theorem main.tw14909365282108701170 : True := trivial
theorem main.tw4839478117068044826 : True := trivial
theorem main.tw9730157408454304684 : True := trivial
theorem main.tw7439787175107056256 : True := trivial
theorem main.tw65644731488775911 : True := trivial
theorem main.tw11003572833241299968 : True := trivial
theorem main.tw3626430660855392483 : True := trivial
theorem main.tw12027323910402764344 : True := trivial
theorem main.tw11785714552879321826 : True := trivial
theorem main.tw12702744160499308131 : True := trivial
theorem main.tw16008252555379753968 : True := trivial
theorem main.tw10665089971535097683 : True := trivial
theorem main.tw4900431672193113347 : True := trivial
theorem main.tw5968803625530292463 : True := trivial
theorem main.tw13591255225166038476 : True := trivial
theorem main.tw6657087868060814 : True := trivial
theorem main.tw8467378866343419333 : True := trivial
theorem main.tw15079240505294077160 : True := trivial
theorem main.tw4189750870438640210 : True := trivial
theorem main.tw13777938177461255882 : True := trivial
theorem main.tw16952715711813285254 : True := trivial
theorem main.tw8952462522180670554 : True := trivial
theorem main.tw16049902774474827687 : True := trivial
theorem main.tw302440914744352476 : True := trivial
theorem main.tw18284262389922463811 : True := trivial
theorem main.tw10177057350305019805 : True := trivial
theorem main.tw17644181745481072423 : True := trivial
theorem main.tw10053885025685028911 : True := trivial
theorem main.tw6674386428176565332 : True := trivial
theorem main.tw18418235949754561950 : True := trivial
theorem main.tw8484041278411425421 : True := trivial
theorem main.tw1453356044741674121 : True := trivial
theorem main.tw2647654807098235363 : True := trivial
theorem main.tw17298425922696826006 : True := trivial
theorem main.tw3343439749351644125 : True := trivial
theorem main.tw6696893160125735727 : True := trivial
theorem main.tw9376575566392132001 : True := trivial
theorem main.tw2195194259037543316 : True := trivial
theorem main.tw17201416709059790184 : True := trivial
theorem main.tw10159738436595150677 : True := trivial
theorem main.tw12732289081945773324 : True := trivial
theorem main.tw16193401482309157537 : True := trivial
theorem main.tw10625486282989778954 : True := trivial
theorem main.tw13293747886898857621 : True := trivial
theorem main.tw13270728482189477470 : True := trivial
theorem main.tw2279707942289718827 : True := trivial
theorem main.tw15465920861327815835 : True := trivial
theorem main.tw12057704586751987240 : True := trivial
theorem main.tw10463206416058312583 : True := trivial
theorem main.tw17272174723667511238 : True := trivial
theorem main.tw7235775444256392728 : True := trivial
theorem main.tw1118068078248606362 : True := trivial
theorem main.tw17737603089517620647 : True := trivial
theorem main.tw10864377008497418100 : True := trivial
theorem main.tw9381277316556691805 : True := trivial
theorem main.tw9530904737401383074 : True := trivial
theorem main.tw9840939614602229412 : True := trivial
theorem main.tw387501639795913443 : True := trivial
theorem main.tw11403851563620829512 : True := trivial
theorem main.tw15017983477296125989 : True := trivial
theorem main.tw645136716886899192 : True := trivial
theorem main.tw7846812961960373227 : True := trivial
theorem main.tw2075378649607365068 : True := trivial
theorem main.tw18315214858253571532 : True := trivial
theorem main.tw11487549891475536569 : True := trivial
theorem main.tw8557395850702784662 : True := trivial
theorem main.tw6542085627976250192 : True := trivial
theorem main.tw15410482203810522393 : True := trivial
theorem main.tw1850612553970854742 : True := trivial
theorem main.tw4365514962571936147 : True := trivial
theorem main.tw4038153913678941442 : True := trivial
theorem main.tw10821422270917381399 : True := trivial
theorem main.tw5160751907100791332 : True := trivial
theorem main.tw13678406521842155018 : True := trivial
theorem main.tw12077450504624328385 : True := trivial
theorem main.tw2433702464844828792 : True := trivial
theorem main.tw10665469846841522134 : True := trivial
theorem main.tw16320729459185622934 : True := trivial
theorem main.tw15806524323241146399 : True := trivial
theorem main.tw5313077928689804226 : True := trivial
theorem main.tw8079908401900000222 : True := trivial
theorem main.tw14218914174604095658 : True := trivial
theorem main.tw5797031442667253490 : True := trivial
theorem main.tw17974016328880235120 : True := trivial
theorem main.tw16153842264607907944 : True := trivial
theorem main.tw16046730324260685337 : True := trivial
theorem main.tw1615045767204293396 : True := trivial
theorem main.tw6379557931619253226 : True := trivial
theorem main.tw10825838108423173272 : True := trivial
theorem main.tw7153082081811710619 : True := trivial
theorem main.tw2921958311620399285 : True := trivial
theorem main.tw2287757881348798766 : True := trivial
theorem main.tw3234112476842188716 : True := trivial
theorem main.tw11595355409239048105 : True := trivial
theorem main.tw2190695567426971638 : True := trivial
theorem main.tw18134284020713443437 : True := trivial
theorem main.tw1714950047550659301 : True := trivial
theorem main.tw18442785490491869365 : True := trivial
theorem main.tw7691172733374981047 : True := trivial
theorem main.tw4475767826048309731 : True := trivial
theorem main.tw12205347405646519318 : True := trivial
theorem main.tw10391951854915411234 : True := trivial
theorem main.tw14788915703135433725 : True := trivial
theorem main.tw6183352029847204284 : True := trivial
theorem main.tw3627144658338631552 : True := trivial
theorem main.tw1157997071576566072 : True := trivial
theorem main.tw17402982504261768225 : True := trivial
theorem main.tw8707812797481193996 : True := trivial
theorem main.tw14009396871252706886 : True := trivial
theorem main.tw14639212616227390028 : True := trivial
theorem main.tw6162249291895867263 : True := trivial
theorem main.tw2821470743931037460 : True := trivial
theorem main.tw14061640607465278742 : True := trivial
theorem main.tw6053611964639427726 : True := trivial
theorem main.tw17091655785135471103 : True := trivial
theorem main.tw7514964652732493775 : True := trivial
theorem main.tw6545385358150927430 : True := trivial
theorem main.tw2921621734765799159 : True := trivial
theorem main.tw2225956059507018244 : True := trivial
theorem main.tw3299218664060906527 : True := trivial
theorem main.tw16411370214107742406 : True := trivial
theorem main.tw11374851513655246148 : True := trivial
theorem main.tw7974275031393228247 : True := trivial
theorem main.tw7332330508316399935 : True := trivial
theorem main.tw8663697691656813868 : True := trivial
theorem main.tw6511744376749373798 : True := trivial
theorem main.tw17725498274588495791 : True := trivial
theorem main.tw15467891735981029475 : True := trivial
theorem main.tw9253799994812790149 : True := trivial
theorem main.tw2906824675625879941 : True := trivial
theorem main.tw832900586485598795 : True := trivial
theorem main.tw12915833801598196605 : True := trivial
theorem main.tw5665735395497279834 : True := trivial
theorem main.tw17699438841360665129 : True := trivial
theorem main.tw17118054049896295152 : True := trivial
theorem main.tw15131278010643852716 : True := trivial
theorem main.tw7173623326730630234 : True := trivial
theorem main.tw15342904991969174519 : True := trivial
theorem main.tw15984706205718930553 : True := trivial
theorem main.tw13642826006792871662 : True := trivial
theorem main.tw4681395471914393968 : True := trivial
theorem main.tw12900284412222446716 : True := trivial
theorem main.tw6596593509180878263 : True := trivial
theorem main.tw9682133043923132273 : True := trivial
theorem main.tw14161005256144132680 : True := trivial
theorem main.tw4990475226369331113 : True := trivial
theorem main.tw4605139254293405059 : True := trivial
theorem main.tw5781596087445459943 : True := trivial
theorem main.tw10663580350406149668 : True := trivial
theorem main.tw14662554035588321541 : True := trivial
theorem main.tw5649967823195072380 : True := trivial
theorem main.tw15485851114877660061 : True := trivial
theorem main.tw14097447854668400296 : True := trivial
theorem main.tw2238316416991798583 : True := trivial
theorem main.tw5203219222101121401 : True := trivial
theorem main.tw4126091431370883743 : True := trivial
theorem main.tw4458048076830672230 : True := trivial
theorem main.tw17767330081159143506 : True := trivial
theorem main.tw15068483726869450994 : True := trivial
set_option Elab.async true in
theorem main : PySem.Challenge.rw_nn0137_01.Holds := by
  w_on
  o_law
  o_head (kmHook frag.heap_1 (2 :: 3 :: 15 :: 17 :: 18 :: 20 :: 21 :: 22 :: 29 :: 30 :: 32 :: 33 :: 35 :: 36 :: 37 :: 39 :: 40 :: 42 :: 43 :: 44 :: 45 :: 46 :: 47 :: 50 :: 57 :: 58 :: 59 :: 69 :: 71 :: 72 :: 74 :: 75 :: 76 :: 78 :: 79 :: 81 :: 82 :: 83 :: 85 :: 86 :: 88 :: 89 :: 90 :: 92 :: 93 :: 95 :: 96 :: 97 :: 99 :: 100 :: 102 :: 103 :: 104 :: 106 :: 107 :: 109 :: 110 :: 111 :: 113 :: 114 :: 116 :: 117 :: 118 :: 120 :: 121 :: 123 :: 124 :: 125 :: 127 :: 128 :: 130 :: 131 :: 132 :: 134 :: 135 :: 137 :: 138 :: 139 :: 141 :: 142 :: 144 :: 145 :: 146 :: 148 :: 149 :: 151 :: 152 :: 153 :: 154 :: 155 :: 156 :: 157 :: 160 :: 162 :: 163 :: 165 :: 166 :: 174 :: 176 :: 177 :: 179 :: 180 :: 181 :: 182 :: 183 :: 184 :: 185 :: 195 :: 196 :: 198 :: 199 :: 201 :: 202 :: 203 :: 204 :: 205 :: 206 :: 207 :: 217 :: 219 :: 220 :: 222 :: 223 :: 224 :: 225 :: 226 :: 227 :: 228 :: 238 :: 240 :: 241 :: 243 :: 244 :: 245 :: 247 :: 248 :: 250 :: 251 :: 252 :: 253 :: 254 :: 255 :: 256 :: 259 :: 261 :: 262 :: 264 :: 265 :: 266 :: 268 :: 269 :: 271 :: 272 :: 273 :: 276 :: 277 :: 285 :: 286 :: 288 :: 289 :: 291 :: 292 :: 293 :: 295 :: 296 :: 298 :: 299 :: 300 :: 302 :: 303 :: 305 :: 306 :: 307 :: 308 :: 309 :: 310 :: 311 :: 314 :: 321 :: 323 :: 324 :: 326 :: 327 :: 328 :: 330 :: 331 :: 333 :: 334 :: 335 :: 337 :: 338 :: 340 :: 341 :: 342 :: 344 :: 345 :: 347 :: 348 :: 349 :: 351 :: 352 :: 354 :: 355 :: 356 :: 359 :: 360 :: 361 :: 362 :: 363 :: 366 :: 368 :: 369 :: 371 :: 372 :: 373 :: 375 :: 376 :: 378 :: 379 :: 380 :: 382 :: 383 :: 385 :: 386 :: 387 :: 389 :: 390 :: 392 :: 393 :: 394 :: 397 :: 398 :: 399 :: 401 :: 402 :: 404 :: 405 :: 406 :: 409 :: 410 :: 411 :: 413 :: 414 :: 416 :: 417 :: 418 :: 420 :: 421 :: 423 :: 424 :: 425 :: 427 :: 428 :: 430 :: 431 :: 432 :: 435 :: 436 :: 437 :: 440 :: 441 :: 442 :: 448 :: 450 :: 451 :: 453 :: 454 :: 455 :: 457 :: 458 :: 460 :: 461 :: 462 :: 465 :: 466 :: 467 :: 469 :: 470 :: 472 :: 473 :: 474 :: 477 :: 478 :: 479 :: 481 :: 482 :: 484 :: 485 :: 486 :: 487 :: 490 :: 491 :: 492 :: 494 :: 495 :: 497 :: 498 :: 499 :: 502 :: 503 :: 504 :: 507 :: 508 :: 509 :: 511 :: 512 :: 514 :: 515 :: 516 :: 518 :: 519 :: 521 :: 522 :: 523 :: 525 :: 526 :: 528 :: 529 :: 530 :: 533 :: 534 :: 535 :: 538 :: 539 :: 540 :: 543 :: 544 :: 545 :: 548 :: 549 :: 550 :: 552 :: 553 :: 555 :: 556 :: []) (fun _ => by kernel_rfl) [438])
  (case hw => w_witness2)
  k_go0
  all_goals try k_fold
  rename Heap.CodeRec _ _ _ => hcd
  clear hcd
  rename Dflts _ _ _ _ _ _ => hdf
  clear hdf
  (skip; repeat' (first | (k_unfold; (try dsimp only)) | (with_reducible refine gen3 ?_; intro _) | ((with_reducible show wpAny _ _ (exec (Stmt.Assign _ _ _) _) _ _ _); k_fold) | ((with_reducible show wpAny _ _ (exec (Stmt.Return _ _) _) _ _ _); k_fold) | ((with_reducible show wpAny _ _ (eval (PySem.Expr.Call _ _ _ _) _) _ _ _); k_fold) | with_reducible refine seq_next ?_ | with_reducible refine seq_ret ?_ | (first | ((with_reducible show wpAny _ _ (binaryOp Operator.Add (Value.ref _) (Value.ref _)) _ _ _); with_reducible ((refine' r_addlist ?zzk1 ?zzk2 ?zzk3 ?zzk4 ?zzk5 ?_; (case zzk1 => k_asm); (case zzk2 => k_asm); (case zzk3 => k_dflt k_mem); (case zzk4 => k_dflt k_mem); (case zzk5 => (simp only [List.length_append, List.length_cons, List.length_nil]; omega)); intro zzD' zzh' zzF' zzN' zzhne'))) | ((with_reducible show wpAny _ _ (callWith _ (Value.ref _) _ (backTo _ (starEach [] _)) _) _ _ _); with_reducible ((k_dflt (refine' callWith_K0 ?zzk1 ?zzk2 ?_; (case zzk1 => k_in); (case zzk2 => k_is); k_whole); (try dsimp only)))) | walk_at "MY STEP") | (first | ((with_reducible show wpAny _ _ (call (Value.ref 363) _) _ _ _); k_dflt (refine' shelf_ok ?zzB ?zzF ?zzX ?zzN ?zzT ?zzhk ?zzhdp ?zzhun ?_; (case zzB => k_asm); (case zzF => k_asm); (case zzX => k_asm); (case zzN => k_asm); (case zzT => k_asm); (case zzhk => first | assumption | rfl); (case zzhdp => ktr_room); (case zzhun => units_room)); intro zzsh9 zzd9 zztb9 zztr9 zzoT9 zzoR9 zzk39 zzk49 zzh9 zztk9 zzF9 zzN9 zzhT9 zzhR9 zzlo9 zzlo99 zzlT9 zzlR9; (try dsimp only)) | ((with_reducible show wpAny _ _ (call (Value.ref 254) _) _ _ _); walk1) | ((with_reducible show wpAny _ _ (call (Value.ref 205) _) _ _ _); walk1) | ((with_reducible show wpAny _ _ (call (Value.ref 183) _) _ _ _); walk1) | ((with_reducible show wpAny _ _ (call (Value.ref 539) _) _ _ _); k_dflt (refine' lread_ok ?zzB ?zzF ?zzX ?zzN ?zzT ?zzhk ?zzhdp ?zzhun ?zzhks ?zzhlen ?_; (case zzB => k_asm); (case zzF => k_asm); (case zzX => k_asm); (case zzN => k_asm); (case zzT => k_asm); (case zzhk => first | assumption | rfl); (case zzhdp => ktr_room); (case zzhun => units_room); (case zzhks => exact KBa.ints_make (by assumption)); (case zzhlen => omega)); intro zzt9 zzh9 zztk9 zzF9 zzN9; (try dsimp only)) | ((with_reducible show wpAny _ _ (call (Value.ref 534) _) _ _ _); k_dflt (refine' lk_ok ?zzB ?zzF ?zzX ?zzN ?zzT ?zzhk ?zzhdp ?zzhun ?zzhks ?zzhlen ?zzhb ?_; (case zzB => k_asm); (case zzF => k_asm); (case zzX => k_asm); (case zzN => k_asm); (case zzT => k_asm); (case zzhk => first | assumption | rfl); (case zzhdp => ktr_room); (case zzhun => units_room); (case zzhks => with_reducible assumption); (case zzhlen => omega); (case zzhb => with_reducible assumption)); intro zzt9 zzh9 zztk9 zzF9 zzN9; (try dsimp only)) | ((with_reducible show wpAny _ _ (call (Value.ref 466) _) _ _ _); k_dflt (refine' po_ok ?zzB ?zzF ?zzX ?zzN ?zzT ?zzhk ?zzhdp ?zzhun ?zzhks ?zzhlen ?zzhb ?_; (case zzB => k_asm); (case zzF => k_asm); (case zzX => k_asm); (case zzN => k_asm); (case zzT => k_asm); (case zzhk => first | assumption | rfl); (case zzhdp => ktr_room); (case zzhun => units_room); (case zzhks => with_reducible assumption); (case zzhlen => omega); (case zzhb => with_reducible assumption)); intro zzt9 zzh9 zztk9 zzF9 zzN9; (try dsimp only)) | ((with_reducible show wpAny _ _ (call (Value.ref 478) _) _ _ _); k_dflt (refine' pt_ok ?zzB ?zzF ?zzX ?zzN ?zzT ?zzhk ?zzhdp ?zzhun ?zzhks ?zzhlen ?_; (case zzB => k_asm); (case zzF => k_asm); (case zzX => k_asm); (case zzN => k_asm); (case zzT => k_asm); (case zzhk => first | assumption | rfl); (case zzhdp => ktr_room); (case zzhun => units_room); (case zzhks => first | with_reducible assumption | exact KBa.ints_make (by assumption)); (case zzhlen => first | with_reducible assumption | omega)); intro zzt9 zzh9 zztk9 zzF9 zzN9; (try dsimp only)) | ((with_reducible show wpAny _ _ (call (Value.ref 549) _) _ _ _); k_dflt (refine' data2 ?zzB ?zzF ?zzX ?zzN ?zzT ?zzhk ?zzhdp ?zzhun ?zzhq ?zzU ?zzhi ?zzhlen ?zzhs0 ?zzhs1 ?_; (case zzB => k_asm); (case zzF => k_asm); (case zzX => k_asm); (case zzN => k_asm); (case zzT => k_asm); (case zzhk => first | assumption | rfl); (case zzhdp => ktr_room); (case zzhun => units_room); (case zzU => walk_at "MY UPDF"); (case zzhq => k_mem); (case zzhi => assumption); (case zzhlen => assumption); (case zzhs0 => omega); (case zzhs1 => omega)); intro zzcs9 zzt9 zzv9 zzh9 zztk9 zzhcl9 zzhcm9 zzhs0 zzhs1 zzF9 zzN9; (try dsimp only at zzN9); (try dsimp only)) | ((with_reducible show wpAny _ _ (call (Value.ref 522) _) _ _ _); k_dflt (refine' pick_ok ?zzB ?zzF ?zzX ?zzN ?zzT ?zzhk ?zzhdp ?zzhun ?zzhq ?zzhr ?zzhrp ?zzU ?zzhi ?zzhlen ?zzhm ?zzhm2 ?zzhs0 ?zzhs1 ?_; (case zzB => k_asm); (case zzF => k_asm); (case zzX => k_asm); (case zzN => k_asm); (case zzT => k_asm); (case zzhk => first | assumption | rfl); (case zzhdp => ktr_room); (case zzhun => units_room); (case zzU => walk_at "MY UPDF"); (case zzhq => k_mem); (case zzhi => assumption); (case zzhr => k_mem); (case zzhrp => k_ne); (case zzhlen => assumption); (case zzhm => first | omega | exact Nat.le_of_ble_eq_true rfl); (case zzhm2 => first | omega | exact Nat.le_of_ble_eq_true rfl); (case zzhs0 => omega); (case zzhs1 => omega)); intro zzx9 zzv9 zzh9 zztk9 zzhx9 zzhs0 zzhs1 zzF9 zzN9; (try dsimp only at zzN9); (try dsimp only)) | ((with_reducible show wpAny _ _ (call (Value.ref 515) _) _ _ _); k_dflt (refine' draw2 ?zzB ?zzF ?zzX ?zzN ?zzT ?zzhk ?zzhdp ?zzhun ?zzhq ?zzU ?zzhi ?zzhlen ?zzhm ?zzhm2 ?zzhs0 ?zzhs1 ?_; (case zzB => k_asm); (case zzF => k_asm); (case zzX => k_asm); (case zzN => k_asm); (case zzT => k_asm); (case zzhk => first | assumption | rfl); (case zzhdp => ktr_room); (case zzhun => units_room); (case zzU => walk_at "MY UPDF"); (case zzhq => k_mem); (case zzhi => assumption); (case zzhlen => assumption); (case zzhm => omega); (case zzhm2 => omega); (case zzhs0 => omega); (case zzhs1 => omega)); intro zzd9 zzt9 zzv9 zzh9 zztk9 zzhd0 zzhd1 zzhs0 zzhs1 zzF9 zzN9; (try dsimp only at zzN9); (try dsimp only))) | dsimp only | (leave1; (try dsimp only)) | fail "no step"))
  all_goals (try k_data)
  k_dflt (refine' pen_ok ?wwB ?wwF ?wwX ?wwN ?wwT ?wwhk ?wwhdp ?wwhun ?wwhl ?wwhi ?wwhlen ?wwret)
  case wwB => k_asm
  case wwF => k_asm
  case wwX => k_asm
  case wwN => k_asm
  case wwT => k_asm
  case wwhk => rfl
  case wwhdp => ktr_room
  case wwhun => units_room
  case wwhl => assumption
  case wwhi => assumption
  case wwhlen => omega
  intro p q v us ms k h2 tk2 hus hms hv0 hv1 hp hq hqp F2 N2
  simp only [LCg.Off1] at hp hq
  (skip; repeat' (first | (k_unfold; (try dsimp only)) | (with_reducible refine gen3 ?_; intro _) | ((with_reducible show wpAny _ _ (exec (Stmt.Assign _ _ _) _) _ _ _); k_fold) | ((with_reducible show wpAny _ _ (exec (Stmt.Return _ _) _) _ _ _); k_fold) | ((with_reducible show wpAny _ _ (eval (PySem.Expr.Call _ _ _ _) _) _ _ _); k_fold) | with_reducible refine seq_next ?_ | with_reducible refine seq_ret ?_ | (first | ((with_reducible show wpAny _ _ (binaryOp Operator.Add (Value.ref _) (Value.ref _)) _ _ _); with_reducible ((refine' r_addlist ?zzk1 ?zzk2 ?zzk3 ?zzk4 ?zzk5 ?_; (case zzk1 => k_asm); (case zzk2 => k_asm); (case zzk3 => k_dflt k_mem); (case zzk4 => k_dflt k_mem); (case zzk5 => (simp only [List.length_append, List.length_cons, List.length_nil]; omega)); intro zzD' zzh' zzF' zzN' zzhne'))) | ((with_reducible show wpAny _ _ (callWith _ (Value.ref _) _ (backTo _ (starEach [] _)) _) _ _ _); with_reducible ((k_dflt (refine' callWith_K0 ?zzk1 ?zzk2 ?_; (case zzk1 => k_in); (case zzk2 => k_is); k_whole); (try dsimp only)))) | walk_at "MY STEP") | (first | ((with_reducible show wpAny _ _ (call (Value.ref 363) _) _ _ _); k_dflt (refine' shelf_ok ?zzB ?zzF ?zzX ?zzN ?zzT ?zzhk ?zzhdp ?zzhun ?_; (case zzB => k_asm); (case zzF => k_asm); (case zzX => k_asm); (case zzN => k_asm); (case zzT => k_asm); (case zzhk => first | assumption | rfl); (case zzhdp => ktr_room); (case zzhun => units_room)); intro zzsh9 zzd9 zztb9 zztr9 zzoT9 zzoR9 zzk39 zzk49 zzh9 zztk9 zzF9 zzN9 zzhT9 zzhR9 zzlo9 zzlo99 zzlT9 zzlR9; (try dsimp only)) | ((with_reducible show wpAny _ _ (call (Value.ref 254) _) _ _ _); walk1) | ((with_reducible show wpAny _ _ (call (Value.ref 205) _) _ _ _); walk1) | ((with_reducible show wpAny _ _ (call (Value.ref 183) _) _ _ _); walk1) | ((with_reducible show wpAny _ _ (call (Value.ref 539) _) _ _ _); k_dflt (refine' lread_ok ?zzB ?zzF ?zzX ?zzN ?zzT ?zzhk ?zzhdp ?zzhun ?zzhks ?zzhlen ?_; (case zzB => k_asm); (case zzF => k_asm); (case zzX => k_asm); (case zzN => k_asm); (case zzT => k_asm); (case zzhk => first | assumption | rfl); (case zzhdp => ktr_room); (case zzhun => units_room); (case zzhks => exact KBa.ints_make (by assumption)); (case zzhlen => omega)); intro zzt9 zzh9 zztk9 zzF9 zzN9; (try dsimp only)) | ((with_reducible show wpAny _ _ (call (Value.ref 534) _) _ _ _); k_dflt (refine' lk_ok ?zzB ?zzF ?zzX ?zzN ?zzT ?zzhk ?zzhdp ?zzhun ?zzhks ?zzhlen ?zzhb ?_; (case zzB => k_asm); (case zzF => k_asm); (case zzX => k_asm); (case zzN => k_asm); (case zzT => k_asm); (case zzhk => first | assumption | rfl); (case zzhdp => ktr_room); (case zzhun => units_room); (case zzhks => with_reducible assumption); (case zzhlen => omega); (case zzhb => with_reducible assumption)); intro zzt9 zzh9 zztk9 zzF9 zzN9; (try dsimp only)) | ((with_reducible show wpAny _ _ (call (Value.ref 466) _) _ _ _); k_dflt (refine' po_ok ?zzB ?zzF ?zzX ?zzN ?zzT ?zzhk ?zzhdp ?zzhun ?zzhks ?zzhlen ?zzhb ?_; (case zzB => k_asm); (case zzF => k_asm); (case zzX => k_asm); (case zzN => k_asm); (case zzT => k_asm); (case zzhk => first | assumption | rfl); (case zzhdp => ktr_room); (case zzhun => units_room); (case zzhks => with_reducible assumption); (case zzhlen => omega); (case zzhb => with_reducible assumption)); intro zzt9 zzh9 zztk9 zzF9 zzN9; (try dsimp only)) | ((with_reducible show wpAny _ _ (call (Value.ref 478) _) _ _ _); k_dflt (refine' pt_ok ?zzB ?zzF ?zzX ?zzN ?zzT ?zzhk ?zzhdp ?zzhun ?zzhks ?zzhlen ?_; (case zzB => k_asm); (case zzF => k_asm); (case zzX => k_asm); (case zzN => k_asm); (case zzT => k_asm); (case zzhk => first | assumption | rfl); (case zzhdp => ktr_room); (case zzhun => units_room); (case zzhks => first | with_reducible assumption | exact KBa.ints_make (by assumption)); (case zzhlen => first | with_reducible assumption | omega)); intro zzt9 zzh9 zztk9 zzF9 zzN9; (try dsimp only)) | ((with_reducible show wpAny _ _ (call (Value.ref 549) _) _ _ _); k_dflt (refine' data2 ?zzB ?zzF ?zzX ?zzN ?zzT ?zzhk ?zzhdp ?zzhun ?zzhq ?zzU ?zzhi ?zzhlen ?zzhs0 ?zzhs1 ?_; (case zzB => k_asm); (case zzF => k_asm); (case zzX => k_asm); (case zzN => k_asm); (case zzT => k_asm); (case zzhk => first | assumption | rfl); (case zzhdp => ktr_room); (case zzhun => units_room); (case zzU => walk_at "MY UPDF"); (case zzhq => k_mem); (case zzhi => assumption); (case zzhlen => assumption); (case zzhs0 => omega); (case zzhs1 => omega)); intro zzcs9 zzt9 zzv9 zzh9 zztk9 zzhcl9 zzhcm9 zzhs0 zzhs1 zzF9 zzN9; (try dsimp only at zzN9); (try dsimp only)) | ((with_reducible show wpAny _ _ (call (Value.ref 522) _) _ _ _); k_dflt (refine' pick_ok ?zzB ?zzF ?zzX ?zzN ?zzT ?zzhk ?zzhdp ?zzhun ?zzhq ?zzhr ?zzhrp ?zzU ?zzhi ?zzhlen ?zzhm ?zzhm2 ?zzhs0 ?zzhs1 ?_; (case zzB => k_asm); (case zzF => k_asm); (case zzX => k_asm); (case zzN => k_asm); (case zzT => k_asm); (case zzhk => first | assumption | rfl); (case zzhdp => ktr_room); (case zzhun => units_room); (case zzU => walk_at "MY UPDF"); (case zzhq => k_mem); (case zzhi => assumption); (case zzhr => k_mem); (case zzhrp => k_ne); (case zzhlen => assumption); (case zzhm => first | omega | exact Nat.le_of_ble_eq_true rfl); (case zzhm2 => first | omega | exact Nat.le_of_ble_eq_true rfl); (case zzhs0 => omega); (case zzhs1 => omega)); intro zzx9 zzv9 zzh9 zztk9 zzhx9 zzhs0 zzhs1 zzF9 zzN9; (try dsimp only at zzN9); (try dsimp only)) | ((with_reducible show wpAny _ _ (call (Value.ref 515) _) _ _ _); k_dflt (refine' draw2 ?zzB ?zzF ?zzX ?zzN ?zzT ?zzhk ?zzhdp ?zzhun ?zzhq ?zzU ?zzhi ?zzhlen ?zzhm ?zzhm2 ?zzhs0 ?zzhs1 ?_; (case zzB => k_asm); (case zzF => k_asm); (case zzX => k_asm); (case zzN => k_asm); (case zzT => k_asm); (case zzhk => first | assumption | rfl); (case zzhdp => ktr_room); (case zzhun => units_room); (case zzU => walk_at "MY UPDF"); (case zzhq => k_mem); (case zzhi => assumption); (case zzhlen => assumption); (case zzhm => omega); (case zzhm2 => omega); (case zzhs0 => omega); (case zzhs1 => omega)); intro zzd9 zzt9 zzv9 zzh9 zztk9 zzhd0 zzhd1 zzhs0 zzhs1 zzF9 zzN9; (try dsimp only at zzN9); (try dsimp only))) | dsimp only | (leave1; (try dsimp only)) | fail "no step"))
  all_goals (try k_data)
  refine' r_forstmt ?wwkF (by rfl) (by rfl) (by intro _; rfl) ?wwkE ?_
  case wwkF => k_asm
  case wwkE => passes_own
  (skip; repeat' (first | (k_unfold; (try dsimp only)) | (with_reducible refine gen3 ?_; intro _) | ((with_reducible show wpAny _ _ (exec (Stmt.Assign _ _ _) _) _ _ _); k_fold) | ((with_reducible show wpAny _ _ (exec (Stmt.Return _ _) _) _ _ _); k_fold) | ((with_reducible show wpAny _ _ (eval (PySem.Expr.Call _ _ _ _) _) _ _ _); k_fold) | with_reducible refine seq_next ?_ | with_reducible refine seq_ret ?_ | (first | ((with_reducible show wpAny _ _ (binaryOp Operator.Add (Value.ref _) (Value.ref _)) _ _ _); with_reducible ((refine' r_addlist ?zzk1 ?zzk2 ?zzk3 ?zzk4 ?zzk5 ?_; (case zzk1 => k_asm); (case zzk2 => k_asm); (case zzk3 => k_dflt k_mem); (case zzk4 => k_dflt k_mem); (case zzk5 => (simp only [List.length_append, List.length_cons, List.length_nil]; omega)); intro zzD' zzh' zzF' zzN' zzhne'))) | ((with_reducible show wpAny _ _ (callWith _ (Value.ref _) _ (backTo _ (starEach [] _)) _) _ _ _); with_reducible ((k_dflt (refine' callWith_K0 ?zzk1 ?zzk2 ?_; (case zzk1 => k_in); (case zzk2 => k_is); k_whole); (try dsimp only)))) | walk_at "MY STEP") | (first | ((with_reducible show wpAny _ _ (call (Value.ref 363) _) _ _ _); k_dflt (refine' shelf_ok ?zzB ?zzF ?zzX ?zzN ?zzT ?zzhk ?zzhdp ?zzhun ?_; (case zzB => k_asm); (case zzF => k_asm); (case zzX => k_asm); (case zzN => k_asm); (case zzT => k_asm); (case zzhk => first | assumption | rfl); (case zzhdp => ktr_room); (case zzhun => units_room)); intro zzsh9 zzd9 zztb9 zztr9 zzoT9 zzoR9 zzk39 zzk49 zzh9 zztk9 zzF9 zzN9 zzhT9 zzhR9 zzlo9 zzlo99 zzlT9 zzlR9; (try dsimp only)) | ((with_reducible show wpAny _ _ (call (Value.ref 254) _) _ _ _); walk1) | ((with_reducible show wpAny _ _ (call (Value.ref 205) _) _ _ _); walk1) | ((with_reducible show wpAny _ _ (call (Value.ref 183) _) _ _ _); walk1) | ((with_reducible show wpAny _ _ (call (Value.ref 539) _) _ _ _); k_dflt (refine' lread_ok ?zzB ?zzF ?zzX ?zzN ?zzT ?zzhk ?zzhdp ?zzhun ?zzhks ?zzhlen ?_; (case zzB => k_asm); (case zzF => k_asm); (case zzX => k_asm); (case zzN => k_asm); (case zzT => k_asm); (case zzhk => first | assumption | rfl); (case zzhdp => ktr_room); (case zzhun => units_room); (case zzhks => exact KBa.ints_make (by assumption)); (case zzhlen => omega)); intro zzt9 zzh9 zztk9 zzF9 zzN9; (try dsimp only)) | ((with_reducible show wpAny _ _ (call (Value.ref 534) _) _ _ _); k_dflt (refine' lk_ok ?zzB ?zzF ?zzX ?zzN ?zzT ?zzhk ?zzhdp ?zzhun ?zzhks ?zzhlen ?zzhb ?_; (case zzB => k_asm); (case zzF => k_asm); (case zzX => k_asm); (case zzN => k_asm); (case zzT => k_asm); (case zzhk => first | assumption | rfl); (case zzhdp => ktr_room); (case zzhun => units_room); (case zzhks => with_reducible assumption); (case zzhlen => omega); (case zzhb => with_reducible assumption)); intro zzt9 zzh9 zztk9 zzF9 zzN9; (try dsimp only)) | ((with_reducible show wpAny _ _ (call (Value.ref 466) _) _ _ _); k_dflt (refine' po_ok ?zzB ?zzF ?zzX ?zzN ?zzT ?zzhk ?zzhdp ?zzhun ?zzhks ?zzhlen ?zzhb ?_; (case zzB => k_asm); (case zzF => k_asm); (case zzX => k_asm); (case zzN => k_asm); (case zzT => k_asm); (case zzhk => first | assumption | rfl); (case zzhdp => ktr_room); (case zzhun => units_room); (case zzhks => with_reducible assumption); (case zzhlen => omega); (case zzhb => with_reducible assumption)); intro zzt9 zzh9 zztk9 zzF9 zzN9; (try dsimp only)) | ((with_reducible show wpAny _ _ (call (Value.ref 478) _) _ _ _); k_dflt (refine' pt_ok ?zzB ?zzF ?zzX ?zzN ?zzT ?zzhk ?zzhdp ?zzhun ?zzhks ?zzhlen ?_; (case zzB => k_asm); (case zzF => k_asm); (case zzX => k_asm); (case zzN => k_asm); (case zzT => k_asm); (case zzhk => first | assumption | rfl); (case zzhdp => ktr_room); (case zzhun => units_room); (case zzhks => first | with_reducible assumption | exact KBa.ints_make (by assumption)); (case zzhlen => first | with_reducible assumption | omega)); intro zzt9 zzh9 zztk9 zzF9 zzN9; (try dsimp only)) | ((with_reducible show wpAny _ _ (call (Value.ref 549) _) _ _ _); k_dflt (refine' data2 ?zzB ?zzF ?zzX ?zzN ?zzT ?zzhk ?zzhdp ?zzhun ?zzhq ?zzU ?zzhi ?zzhlen ?zzhs0 ?zzhs1 ?_; (case zzB => k_asm); (case zzF => k_asm); (case zzX => k_asm); (case zzN => k_asm); (case zzT => k_asm); (case zzhk => first | assumption | rfl); (case zzhdp => ktr_room); (case zzhun => units_room); (case zzU => walk_at "MY UPDF"); (case zzhq => k_mem); (case zzhi => assumption); (case zzhlen => assumption); (case zzhs0 => omega); (case zzhs1 => omega)); intro zzcs9 zzt9 zzv9 zzh9 zztk9 zzhcl9 zzhcm9 zzhs0 zzhs1 zzF9 zzN9; (try dsimp only at zzN9); (try dsimp only)) | ((with_reducible show wpAny _ _ (call (Value.ref 522) _) _ _ _); k_dflt (refine' pick_ok ?zzB ?zzF ?zzX ?zzN ?zzT ?zzhk ?zzhdp ?zzhun ?zzhq ?zzhr ?zzhrp ?zzU ?zzhi ?zzhlen ?zzhm ?zzhm2 ?zzhs0 ?zzhs1 ?_; (case zzB => k_asm); (case zzF => k_asm); (case zzX => k_asm); (case zzN => k_asm); (case zzT => k_asm); (case zzhk => first | assumption | rfl); (case zzhdp => ktr_room); (case zzhun => units_room); (case zzU => walk_at "MY UPDF"); (case zzhq => k_mem); (case zzhi => assumption); (case zzhr => k_mem); (case zzhrp => k_ne); (case zzhlen => assumption); (case zzhm => first | omega | exact Nat.le_of_ble_eq_true rfl); (case zzhm2 => first | omega | exact Nat.le_of_ble_eq_true rfl); (case zzhs0 => omega); (case zzhs1 => omega)); intro zzx9 zzv9 zzh9 zztk9 zzhx9 zzhs0 zzhs1 zzF9 zzN9; (try dsimp only at zzN9); (try dsimp only)) | ((with_reducible show wpAny _ _ (call (Value.ref 515) _) _ _ _); k_dflt (refine' draw2 ?zzB ?zzF ?zzX ?zzN ?zzT ?zzhk ?zzhdp ?zzhun ?zzhq ?zzU ?zzhi ?zzhlen ?zzhm ?zzhm2 ?zzhs0 ?zzhs1 ?_; (case zzB => k_asm); (case zzF => k_asm); (case zzX => k_asm); (case zzN => k_asm); (case zzT => k_asm); (case zzhk => first | assumption | rfl); (case zzhdp => ktr_room); (case zzhun => units_room); (case zzU => walk_at "MY UPDF"); (case zzhq => k_mem); (case zzhi => assumption); (case zzhlen => assumption); (case zzhm => omega); (case zzhm2 => omega); (case zzhs0 => omega); (case zzhs1 => omega)); intro zzd9 zzt9 zzv9 zzh9 zztk9 zzhd0 zzhd1 zzhs0 zzhs1 zzF9 zzN9; (try dsimp only at zzN9); (try dsimp only))) | dsimp only | (leave1; (try dsimp only)) | fail "no step"))
  all_goals (try k_data)
  rename Fr _ _ _ _ => F3
  rename News _ _ _ _ => N3
  rename IsRange _ _ _ _ _ _ _ _ => hrg
  dsimp only at F3 N3
  refine' for_src (σ := LwS) (fun c y => if y = "raw" then c.x3 else if y = "data" then c.x2 else if y = "turn" then c.x1 else if y = "pen" then some (.ref p) else List.lookup y [(Str.ofString "script", _)])
    (fun c => [(p, penV q c.v), (q, lstO us k), (438, tabObj #[])]) (fun i c => 0 ≤ c.v.spot ∧ c.v.spot ≤ 10 * i) ⟨v, none, none, none⟩ (src_range (by rfl) hrg (small0 _ (by decide) (by decide)) (range0 _ (by decide))) ?wwqF ?wwqN ?wwqp ?wwqturn ?wwqdone
  case wwqF =>
    refine fr_cast (by k_asm) ?_
    intro y
    dsimp only
    by_cases h0 : y = "raw"
    · subst h0; rfl
    by_cases h1 : y = "data"
    · subst h1; rfl
    by_cases h2 : y = "turn"
    · subst h2; rfl
    simp only [if_neg h0, if_neg h1, if_neg h2]
    rfl
  case wwqN => k_asm
  case wwqp => exact ⟨hv0, by dsimp only; omega⟩
  case wwqturn =>
    rintro I i x ⟨v, x1, x2, x3⟩ oI h tk hi ⟨t9, rfl⟩ ⟨hc0, hc1⟩ hoff F9 N9
    dsimp only at hc0 hc1 hoff F9 N9 ⊢
    have hoI : @Ne Nat p I := hoff _ (.head _)
    have hoI2 : @Ne Nat q I := hoff _ (.tail _ (.head _))
    have hoI3 : @Ne Nat 438 I := hoff _ (.tail _ (.tail _ (.head _)))
    refine turnA rfl rfl (by k_asm) F9 (by k_asm) N9 (by k_asm) rfl (.tail _ (.tail _ (.head _))) (.tail (Ne.symm hoI) (.head ?wwu)) (by assumption) (by assumption) hc0 (by omega) ?wwaret
    case wwu => exact List.forall_mem_cons.mpr ⟨hqp, List.forall_mem_cons.mpr ⟨hp.1, List.forall_mem_nil _⟩⟩
    intro v' t cs sh h' tk' hv0 hv1 F' N'
    refine' ⟨⟨v', _, _, _⟩, _, _, rfl, fr_cast F' ?wweF, ?wweN, ?wweo, ?wweP⟩
    case wweN => exact news_sub N' fun p hp => by rcases hp with _ | ⟨_, _ | ⟨_, _ | ⟨_, _ | ⟨_, hp⟩⟩⟩⟩ <;> first | exact .head _ | exact .tail _ (.head _) | exact .tail _ (.tail _ (.head _)) | exact .tail _ (.tail _ (.tail _ (.head _))) | cases hp
    case wweF =>
      intro y
      dsimp only
      by_cases h0 : y = "raw"
      · subst h0; exact rfl
      by_cases h1 : y = "data"
      · subst h1; exact rfl
      by_cases h2 : y = "turn"
      · subst h2; exact rfl
      simp only [if_neg h0, if_neg h1, if_neg h2]
    case wweo => exact List.forall_mem_cons.mpr ⟨hoI, List.forall_mem_cons.mpr ⟨hoI2, List.forall_mem_cons.mpr ⟨hoI3, List.forall_mem_nil _⟩⟩⟩
    case wweP => exact ⟨by dsimp only; omega, by dsimp only; omega⟩
  case wwqdone =>
    rintro ⟨v5, y1, y2, y3⟩ h tk ⟨hv5, hv6⟩ F5 N5
    dsimp only at hv5 hv6 F5 N5 ⊢
    refine tailA rfl rfl (by k_asm) F5 (by k_asm) N5 (by k_asm) rfl codeHd ?wwzq ?wwz8 (by assumption) (by assumption) hv5 (by omega) ?wwbret
    case wwzq => k_ne
    case wwz8 => k_ne
    intro m' h' tk' ps8 F' N'
    refine ⟨goodW_bool F' (by assumption) (raisesW_false ?_) ?_ rfl, GrownAt.of N' (.head _), trivial⟩
    · wrow_none_raised
    · wrow_post

end
end Mine
theorem PySem.Challenge.cw_nn0137_01_holds : PySem.Challenge.rw_nn0137_01.Holds :=
  Mine.main
