import PyProof.Rows.All
import Wide.All
import OpenK.AllK
import Wide.FinOn
import PySem.Challenge.RW_nt0585_01
set_option Elab.async false
set_option linter.unusedVariables false
section
open PySem PySem.W PyProof.Rows
set_option maxRecDepth 100000
set_option maxHeartbeats 8000000
namespace Mine
open_top hd for PySem.Challenge.rw_nt0585_01
end Mine
end
section
open PySem PySem.W PyProof.Rows
set_option maxRecDepth 100000
set_option maxHeartbeats 8000000
namespace Mine
def Tell (w : World) (f : Addr) (args : List Value) (Pre : Heap → List (Addr × Obj) → Prop) (Post : List (Addr × Obj) → List (Addr × Obj) → Value → Prop) : Prop :=
  ∀ (dp un : Nat) (gd : Option (List Code)) (cn : Str) (cs : Scope) (a : Addr) (ccd : Value) (cl : List (Str × Addr)) (outer : List Env) (A₀ : Around) (base h₀ : Heap) (L : Addr) (m : Str → Option Value) (news : List (Addr × Obj)) (s : Shared)
    (p : Program) (loose : List Str) (mean : ExcName → Option Value) (mg mb : Str → Option Value) (Q E : Value → Shared → Prop),
    Below A₀ base outer h₀ → Fr h₀ L s.heap m → (hd.heap_39 w.params).In h₀ → News h₀ L s.heap news → Top p loose mean mg mb h₀ → cs.kind = .function →
    dp + 40 < recursionLimit → un + 200 < cLine → Pre base news →
    (∀ v news' h' tk', Fr h₀ L h' m → News h₀ L h' news' → Post news news' v → Q v { s with heap := h', toks := tk' }) →
    wpAny (model PySem.Challenge.rw_nt0585_01.row.prog w) (ktrTop dp un gd cn cs L a ccd cl outer) (call (.ref f) args) Q E s
theorem tk_gen {α : Type} {M : Model} {A : Around} {t : Sem α} {Q : α → Shared → Prop} {E : Value → Shared → Prop} {s : Shared} (hx : 1 ≤ s.toks) (h : ∀ tk, 1 ≤ tk → wpAny M A t Q E { s with toks := tk }) : wpAny M A t Q E s := h s.toks hx
abbrev linesOf (x : Str) : Str := Txt.replace (Txt.replace x (Str.ofString "\r\n") (Str.ofString "\n")) (Str.ofString "\r") (Str.ofString "\n")
theorem replaceK {prog : Program} {w : World} {A : Around} {E : Value → Shared → Prop} {s : Shared} {x y z : Str} {t : Tok} {u v : Nat} {Q : Value → Shared → Prop} (hu : 1 ≤ u) (huv : u < v) (hyz : (y == z) = false) (hx : x.length ≤ 1048576) (hz : z.length ≤ 14) (hn : 1 ≤ s.toks)
    (hq : ∀ t' k, 1 ≤ k → Q (.str (Txt.replace x y z) t') { s with toks := k }) : wpAny (model prog w) A (PySem.call (.builtin "str.replace") [.str x t, .str y u, .str z v]) Q E s :=
  wpAny_with_toks hn (SC.replaceW (Nat.ne_of_gt hu) (Nat.ne_of_gt (Nat.lt_of_lt_of_le hu (Nat.le_of_lt huv))) (Nat.ne_of_lt huv) hyz hx hz fun t' k => fun hk => hq t' k hk)
end Mine
end
section
open PySem PySem.W PyProof.Rows PyProof.V PySem.Spec
set_option maxRecDepth 100000
set_option maxHeartbeats 8000000
namespace Mine

structure Mark (P : Prop) : Prop where
  out : P
theorem unmark {P : Prop} (h : Mark P) : P := h.out
theorem Fr_also {h₀ : Heap} {L : Addr} {h : Heap} {m : Str → Option Value} {x : Str} {v : Value} (F : Fr h₀ L h m) (hx : m x = some v) : Fr h₀ L h (fun y => if y = x then some v else m y) := by
  have e : (fun y => if y = x then some v else m y) = m := by
    funext y
    by_cases hy : y = x
    · rw [if_pos hy, hy, hx]
    · rw [if_neg hy]
  rw [e]; exact F
theorem News_sub {h₀ : Heap} {L : Addr} {h : Heap} {a b : List (Addr × Obj)} (N : News h₀ L h a) (hs : ∀ p ∈ b, p ∈ a) : News h₀ L h b := fun p hp => N p (hs p hp)
theorem allLt_to {d : Addr} : ∀ {l : List (Addr × Obj)}, AllLt d l → ∀ p ∈ l, p.1 < d
  | [], _, _, hp => nomatch hp
  | q :: r, h, p, hp => by
    rcases List.mem_cons.mp hp with rfl | hp
    · exact h.1
    · exact allLt_to h.2 p hp

theorem isList_of {h₀ : Heap} {L : Addr} {h : Heap} {news : List (Addr × Obj)} {e : Addr} {vs : Array Value} {n : Nat} (N : News h₀ L h news) (hm : (e, listOf vs n) ∈ news) : h.IsList e vs := ⟨_, (N _ hm).1, rfl, _, rfl⟩
section
variable {prog : Program} {w : World} {A : Around} {E : Value → Shared → Prop} {s : Shared} {env : Env} {h₀ : Heap} {x : Str} {body : List Stmt} {Q : Flow → Shared → Prop} {σ : Type}

def LJ (Led : σ → List (Addr × Obj)) (adr : List Addr) (Inv : Nat → List (Addr × Obj) → σ → (Str → Option Value) → Prop) (i : Nat) (m : Str → Option Value) (nx : List (Addr × Obj)) : Prop :=
  ∃ c tl, nx = Led c ++ tl ∧ OwnOff tl adr ∧ Inv i tl c m
def LEnd (h₀ : Heap) (L : Addr) (Led : σ → List (Addr × Obj)) (adr : List Addr) (Inv : Nat → List (Addr × Obj) → σ → (Str → Option Value) → Prop) (i : Nat) (tl rest : List (Addr × Obj)) (s₁ s₂ : Shared) : Prop :=
  ∃ c' add h' tk' m', s₂ = { s₁ with heap := h', toks := tk' } ∧ Fr h₀ L h' m' ∧ News h₀ L h' (Led c' ++ (add ++ rest)) ∧ (∀ q ∈ add, ∀ p ∈ rest, p.1 ≠ q.1) ∧ OwnOff add adr ∧ Inv i (add ++ tl) c' m'
def LPost (h₀ : Heap) (L : Addr) (Led : σ → List (Addr × Obj)) (adr : List Addr) (Inv : Nat → List (Addr × Obj) → σ → (Str → Option Value) → Prop) (i : Nat) (tl rest : List (Addr × Obj)) (s₁ : Shared) (Q : Flow → Shared → Prop) (f : Flow) (s₂ : Shared) : Prop :=
  match f with
  | .ret v => Q (.ret v) s₂
  | .brk => Q .next s₂
  | _ => LEnd h₀ L Led adr Inv i tl rest s₁ s₂

variable {Led : σ → List (Addr × Obj)} {adr : List Addr} {Inv : Nat → List (Addr × Obj) → σ → (Str → Option Value) → Prop}

theorem LEnd_intro {L : Addr} {i : Nat} {tl rest : List (Addr × Obj)} {s₁ : Shared} (c' : σ) (add : List (Addr × Obj)) {h' : Heap} {tk' : Nat} {m' : Str → Option Value} {news' : List (Addr × Obj)} (F : Fr h₀ L h' m') (N : News h₀ L h' news')
    (hn : ∀ p ∈ Led c' ++ (add ++ rest), p ∈ news') (h1 : ∀ q ∈ add, ∀ p ∈ rest, p.1 < q.1) (h2 : ∀ q ∈ add, ∀ b ∈ adr, b < q.1) (hI : Inv i (add ++ tl) c' m') : LEnd h₀ L Led adr Inv i tl rest s₁ { s₁ with heap := h', toks := tk' } :=
  ⟨c', add, h', tk', m', rfl, F, News_sub N hn, fun q hq p hp => Nat.ne_of_lt (h1 q hq p hp), fun q hq b hb => Nat.ne_of_gt (h2 q hq b hb), hI⟩

theorem LEnd_toG {L : Addr} {i : Nat} {tl own : List (Addr × Obj)} {s₁ s₂ : Shared} (hadr : ∀ c, (Led c).map (·.1) = adr) (h1 : OwnOff own adr) (h2 : OwnOff own (tl.map (·.1))) (h3 : OwnOff tl adr)
    (e : LEnd h₀ L Led adr Inv i tl (tl ++ own) s₁ s₂) : InvEndG h₀ L (LJ Led adr Inv i) own s₁ s₂ := by
  obtain ⟨c', add, h', tk', m', rfl, F, N, ha, hb, hI⟩ := e
  refine InvEndG.intro (nx := Led c' ++ (add ++ tl)) F N ⟨c', add ++ tl, rfl, ?_, hI⟩ ?_ ?_ ?_
  · intro p hp
    rcases List.mem_append.mp hp with hp | hp
    · exact hb p hp
    · exact h3 p hp
  · intro p hp b hbm
    obtain ⟨q, hq, rfl⟩ := List.mem_map.mp hbm
    rcases List.mem_append.mp hq with hq | hq
    · exact h1 p hp _ (hadr c' ▸ List.mem_map.mpr ⟨q, hq, rfl⟩)
    · rcases List.mem_append.mp hq with hq | hq
      · exact ha q hq p (List.mem_append.mpr (.inr hp))
      · exact h2 p hp _ (List.mem_map.mpr ⟨q, hq, rfl⟩)
  · intro p hp
    rcases List.mem_append.mp hp with hp | hp
    · exact List.mem_append.mpr (.inl hp)
    · rcases List.mem_append.mp hp with hp | hp
      · exact List.mem_append.mpr (.inr (List.mem_append.mpr (.inl hp)))
      · exact List.mem_append.mpr (.inr (List.mem_append.mpr (.inr (List.mem_append.mpr (.inl hp)))))
  · intro p hp
    exact List.mem_append.mpr (.inr (List.mem_append.mpr (.inr (List.mem_append.mpr (.inr hp)))))

theorem LPost_toG {L : Addr} {i : Nat} {tl own : List (Addr × Obj)} {s₁ s₂ : Shared} {f : Flow} (hadr : ∀ c, (Led c).map (·.1) = adr) (h1 : OwnOff own adr) (h2 : OwnOff own (tl.map (·.1))) (h3 : OwnOff tl adr)
    (e : LPost h₀ L Led adr Inv i tl (tl ++ own) s₁ Q f s₂) : InvPostG h₀ L (LJ Led adr Inv i) own s₁ Q f s₂ := by
  cases f with
  | ret v => exact e
  | brk => exact e
  | next => exact LEnd_toG hadr h1 h2 h3 e
  | cont => exact LEnd_toG hadr h1 h2 h3 e

theorem off_split {c : σ} {tl own : List (Addr × Obj)} (hadr : ∀ c, (Led c).map (·.1) = adr) (h : OwnOff own ((Led c ++ tl).map (·.1))) : OwnOff own adr ∧ OwnOff own (tl.map (·.1)) :=
  ⟨fun p hp b hb => h p hp b (by rw [List.map_append, hadr c]; exact List.mem_append.mpr (.inl hb)), fun p hp b hb => h p hp b (by rw [List.map_append]; exact List.mem_append.mpr (.inr hb))⟩
theorem off_app {a b : List (Addr × Obj)} (h1 : OwnOff a adr) (h2 : OwnOff b adr) : OwnOff (a ++ b) adr := fun p hp q hq =>
  (List.mem_append.mp hp).elim (fun h => h1 p h q hq) fun h => h2 p h q hq

/-- a loop over any walk whose only object is its iterator -/
theorem loop_walk {I : Addr} {n : Nat} {P : Nat → Value → Prop} {St : Nat → Heap → Prop} {m₀ : Str → Option Value} {c₀ : σ} {tl₀ : List (Addr × Obj)} (hadr : ∀ c, (Led c).map (·.1) = adr)
    (W : Walks prog w A I [I] [I] n P St) (hob : ∀ i h, St i h → ∃ o, h.get? I = some o) (hLf : env.locals ≠ I) (hwr : h₀.get? I = none) (hnw : ∀ p ∈ Led c₀ ++ tl₀, p.1 ≠ I) (hst : St 0 s.heap)
    (F : Fr h₀ env.locals s.heap m₀) (N : News h₀ env.locals s.heap (Led c₀ ++ tl₀)) (ho : OwnOff tl₀ adr) (hj : Inv 0 tl₀ c₀ m₀)
    (turn : ∀ i v c tl rest m₁ h tk, i < n → P i v → (∀ p ∈ tl, p ∈ rest) → OwnOff rest adr → Inv i tl c m₁ → Fr h₀ env.locals h (fun y => if y = x then some v else m₁ y) → News h₀ env.locals h (Led c ++ rest) →
      wpAny (model prog w) A (execs body env) (LPost h₀ env.locals Led adr Inv (i + 1) tl rest { s with heap := h, toks := tk } Q) E { s with heap := h, toks := tk })
    (done : ∀ c tl m₁ h tk, OwnOff tl adr → Inv n tl c m₁ → Fr h₀ env.locals h m₁ → News h₀ env.locals h (Led c ++ tl) → Q .next { s with heap := h, toks := tk }) :
    LoopAtV prog w A h₀ env x body Q E (.ref I) s := by
  refine kdr_loop (fun i m nx => LJ Led adr Inv i m nx) W (fun _ h => h) (fun _ h => h) (fun i h st b hb => by rw [List.mem_singleton.mp hb]; exact hob i h st) (fun h => hLf (List.mem_singleton.mp h)) (fun b hb => by rw [List.mem_singleton.mp hb]; exact hwr)
    (fun p hp h => hnw p hp (List.mem_singleton.mp h)) hst F N ⟨c₀, tl₀, rfl, ho, hj⟩ ?_ ?_
  · rintro i v m₁ nx h tk own hi hP hoff ⟨c, tl, rfl, ht, hI⟩ F₁ N₁
    obtain ⟨o1, o2⟩ := off_split hadr hoff
    rw [List.append_assoc] at N₁
    exact wpAny_mono (turn i v c tl (tl ++ own) m₁ h tk hi hP (fun p hp => List.mem_append.mpr (.inl hp)) (off_app ht o1) hI F₁ N₁) (fun f s₂ e => LPost_toG hadr o1 o2 ht e) fun _ _ e => e
  · rintro m₁ nx h tk ⟨c, tl, rfl, ht, hI⟩ F₁ N₁
    exact done c tl m₁ h tk ht hI F₁ N₁

theorem loop_range {r : Addr} {a₀ b₀ : Int} {t₀ u₀ v₀ : Tok} {n : Nat} {m₀ : Str → Option Value} {c₀ : σ} {tl₀ : List (Addr × Obj)} (hadr : ∀ c, (Led c).map (·.1) = adr)
    (hh : A.handled = none) (hr : IsRange s.heap r a₀ b₀ 1 t₀ u₀ v₀) (hsmall : Builtin.Range.small a₀ b₀ 1 = true) (hsz : Builtin.Range.rangeSize a₀ b₀ 1 = (n : Int))
    (F : Fr h₀ env.locals s.heap m₀) (N : News h₀ env.locals s.heap (Led c₀ ++ tl₀)) (ho : OwnOff tl₀ adr) (hj : Inv 0 tl₀ c₀ m₀)
    (turn : ∀ i t c tl rest m₁ h tk, i < n → (∀ p ∈ tl, p ∈ rest) → OwnOff rest adr → Inv i tl c m₁ → Fr h₀ env.locals h (fun y => if y = x then some (.int (a₀ + (i : Int)) t) else m₁ y) → News h₀ env.locals h (Led c ++ rest) →
      wpAny (model prog w) A (execs body env) (LPost h₀ env.locals Led adr Inv (i + 1) tl rest { s with heap := h, toks := tk } Q) E { s with heap := h, toks := tk })
    (done : ∀ c tl m₁ h tk, OwnOff tl adr → Inv n tl c m₁ → Fr h₀ env.locals h m₁ → News h₀ env.locals h (Led c ++ tl) → Q .next { s with heap := h, toks := tk }) :
    wpAny (model prog w) A (pyIter (.ref r)) (fun it s₂ => LoopAtV prog w A h₀ env x body Q E it s₂) E s := by
  refine wpAny_pyIter_range hr hsmall ?_
  have W : Walks prog w A s.heap.objs.size [s.heap.objs.size] [s.heap.objs.size] n (fun i v => i < n ∧ ∃ t, v = .int (a₀ + i * 1) t)
      (fun i h => IsRangeIter h s.heap.objs.size (a₀ + (i : Nat) * 1) ((n : Int) - (i : Nat)) 1) := (Walks.range hh _ a₀ 1 n).bound
  refine loop_walk hadr W (fun i h st => ⟨_, st⟩) (Nat.ne_of_lt F.ns.lt) (next_is_new F) (fun p hp => Nat.ne_of_lt (Heap.lt_size (N p hp).1)) (by show IsRangeIter _ _ _ _ _; rw [hsz]; simpa using Heap.get?_push_size _ rfl) (F.push _)
    (fun p hp => ⟨Heap.get?_push_of_some _ (N p hp).1, (N p hp).2⟩) ho hj ?_ ?_
  · rintro i v c tl rest m₁ h tk hi ⟨_, t, rfl⟩ hs hoff hI F₁ N₁
    have e1 : a₀ + (i : Int) * 1 = a₀ + (i : Int) := by omega
    rw [e1] at F₁
    exact turn i t c tl rest m₁ h tk hi hs hoff hI F₁ N₁
  · intro c tl m₁ h tk ht hI F₁ N₁
    exact done c tl m₁ h tk ht hI F₁ N₁

theorem loop_str {xt : Str} {tx : Tok} {m₀ : Str → Option Value} {c₀ : σ} {tl₀ : List (Addr × Obj)} (hadr : ∀ c, (Led c).map (·.1) = adr)
    (hh : A.handled = none) (F : Fr h₀ env.locals s.heap m₀) (N : News h₀ env.locals s.heap (Led c₀ ++ tl₀)) (ho : OwnOff tl₀ adr) (hj : Inv 0 tl₀ c₀ m₀)
    (turn : ∀ i (k : Nat) t c tl rest m₁ h tk, xt.cps[i]? = some k → (∀ p ∈ tl, p ∈ rest) → OwnOff rest adr → Inv i tl c m₁ → Fr h₀ env.locals h (fun y => if y = x then some (.str ⟨#[k]⟩ t) else m₁ y) → News h₀ env.locals h (Led c ++ rest) →
      wpAny (model prog w) A (execs body env) (LPost h₀ env.locals Led adr Inv (i + 1) tl rest { s with heap := h, toks := tk } Q) E { s with heap := h, toks := tk })
    (done : ∀ c tl m₁ h tk, OwnOff tl adr → Inv xt.cps.size tl c m₁ → Fr h₀ env.locals h m₁ → News h₀ env.locals h (Led c ++ tl) → Q .next { s with heap := h, toks := tk }) :
    wpAny (model prog w) A (pyIter (.str xt tx)) (fun it s₂ => LoopAtV prog w A h₀ env x body Q E it s₂) E s := by
  have fin : ∀ (o : Obj) (St : Nat → Heap → Prop), (Walks prog w A s.heap.objs.size [s.heap.objs.size] [s.heap.objs.size] xt.cps.size (SignAt xt) St) → (∀ i h, St i h → ∃ o, h.get? s.heap.objs.size = some o) → St 0 (s.heap.push o) →
      LoopAtV prog w A h₀ env x body Q E (.ref s.heap.objs.size) { s with heap := s.heap.push o } := by
    intro o St W hob hst
    refine loop_walk hadr W hob (Nat.ne_of_lt F.ns.lt) (next_is_new F) (fun p hp => Nat.ne_of_lt (Heap.lt_size (N p hp).1)) hst (F.push _)
      (fun p hp => ⟨Heap.get?_push_of_some _ (N p hp).1, (N p hp).2⟩) ho hj ?_ ?_
    · rintro i v c tl rest m₁ h tk hi ⟨k, u, hk, rfl⟩ hs hoff hI F₁ N₁
      exact turn i k u c tl rest m₁ h tk hk hs hoff hI F₁ N₁
    · intro c tl m₁ h tk ht hI F₁ N₁
      exact done c tl m₁ h tk ht hI F₁ N₁
  cases ha : xt.cps.all (· < 128)
  · exact wpAny_pyIter_wide ha (fin _ _ (Walks.strWide hh _ xt tx) (fun i h st => let ⟨o, ho, _⟩ := st; ⟨o, ho⟩) ⟨_, Heap.get?_push_size _ rfl, rfl, rfl⟩)
  · exact wpAny_pyIter_ascii ha (fin _ _ (Walks.strAscii hh _ xt tx) (fun i h st => let ⟨o, ho, _⟩ := st; ⟨o, ho⟩) ⟨_, Heap.get?_push_size _ rfl, rfl, rfl⟩)

theorem loop_list {l : Addr} {vs : List Value} {nn : Nat} {m₀ : Str → Option Value} {c₀ : σ} {tl₀ : List (Addr × Obj)} (hadr : ∀ c, (Led c).map (·.1) = adr)
    (hh : A.handled = none) (hl : (l, listOf vs.toArray nn) ∈ tl₀) (hla : l ∉ adr) (F : Fr h₀ env.locals s.heap m₀) (N : News h₀ env.locals s.heap (Led c₀ ++ tl₀)) (ho : OwnOff tl₀ adr) (hj : Inv 0 tl₀ c₀ m₀)
    (turn : ∀ i v c tl rest m₁ h tk, vs[i]? = some v → (l, listOf vs.toArray nn) ∈ tl → (∀ p ∈ tl, p ∈ rest) → OwnOff rest adr → Inv i tl c m₁ → Fr h₀ env.locals h (fun y => if y = x then some v else m₁ y) → News h₀ env.locals h (Led c ++ rest) →
      wpAny (model prog w) A (execs body env) (LPost h₀ env.locals Led adr Inv (i + 1) tl rest { s with heap := h, toks := tk } Q) E { s with heap := h, toks := tk })
    (done : ∀ c tl m₁ h tk, OwnOff tl adr → Inv vs.length tl c m₁ → Fr h₀ env.locals h m₁ → News h₀ env.locals h (Led c ++ tl) → Q .next { s with heap := h, toks := tk }) :
    wpAny (model prog w) A (pyIter (.ref l)) (fun it s₂ => LoopAtV prog w A h₀ env x body Q E it s₂) E s := by
  refine kdl_iter (fun i m nx => LJ Led adr Inv i m nx) hh (List.mem_append.mpr (.inr hl)) F N ⟨c₀, tl₀, rfl, ho, hj⟩ ?_ ?_
  · rintro i v m₁ nx h tk own hv hoff hlm ⟨c, tl, rfl, ht, hI⟩ F₁ N₁
    obtain ⟨o1, o2⟩ := off_split hadr hoff
    rw [List.append_assoc] at N₁
    have hlt : (l, listOf vs.toArray nn) ∈ tl := (List.mem_append.mp hlm).elim (fun h => absurd (hadr c ▸ List.mem_map.mpr ⟨_, h, rfl⟩) hla) id
    refine wpAny_mono (turn i v c tl (tl ++ own) m₁ h tk hv hlt (fun p hp => List.mem_append.mpr (.inl hp)) (off_app ht o1) hI F₁ N₁) (fun f s₂ e => ?_) fun _ _ e => e
    have up : ∀ s₂, LEnd h₀ env.locals Led adr Inv (i + 1) tl (tl ++ own) { s with heap := h, toks := tk } s₂ → InvEndG h₀ env.locals (fun m' nx => (l, listOf vs.toArray nn) ∈ nx ∧ LJ Led adr Inv (i + 1) m' nx) own { s with heap := h, toks := tk } s₂ := by
      intro s₂ e
      obtain ⟨c', add, h', tk', m', rfl, F', N', ha, hb, hI'⟩ := e
      obtain ⟨h1, tk1, m1, news1, nx1, e1, F1, N1, a1, a2, a3, a4⟩ := LEnd_toG (Inv := fun k t c m => Inv k t c m ∧ t = add ++ tl) hadr o1 o2 ht ⟨c', add, h', tk', m', rfl, F', N', ha, hb, hI', rfl⟩
      refine ⟨h1, tk1, m1, news1, nx1, e1, F1, N1, a1, a2, a3, ?_, ?_⟩
      · obtain ⟨c2, t2, rfl, _, _, rfl⟩ := a4
        exact List.mem_append.mpr (.inr (List.mem_append.mpr (.inr hlt)))
      · obtain ⟨c2, t2, e2, x2, y2, _⟩ := a4
        exact ⟨c2, t2, e2, x2, y2⟩
    cases f with
    | ret v => exact e
    | brk => exact e
    | next => exact up _ e
    | cont => exact up _ e
  · rintro m₁ nx h tk ⟨c, tl, rfl, ht, hI⟩ F₁ N₁
    exact done c tl m₁ h tk ht hI F₁ N₁

abbrev Led1 (D : Addr) (c : List Value × Nat) : List (Addr × Obj) := [(D, listOf c.1.toArray c.2)]
theorem loop_range1 {D : Addr} {vs : List Value} {k : Nat} (Inv : Addr → Nat → List (Addr × Obj) → List Value × Nat → (Str → Option Value) → Prop) {r : Addr} {a₀ b₀ : Int} {t₀ u₀ v₀ : Tok} (n : Nat) {m₀ : Str → Option Value} {tl₀ : List (Addr × Obj)}
    (hh : A.handled = none) (hr : IsRange s.heap r a₀ b₀ 1 t₀ u₀ v₀) (hsmall : Builtin.Range.small a₀ b₀ 1 = true) (hsz : Builtin.Range.rangeSize a₀ b₀ 1 = (n : Int))
    (F : Fr h₀ env.locals s.heap m₀) (N : News h₀ env.locals s.heap ((D, listOf vs.toArray k) :: tl₀)) (ho : ∀ p ∈ tl₀, p.1 ≠ D) (hj : Inv D 0 tl₀ (vs, k) m₀)
    (turn : ∀ i t vs k tl rest m₁ h tk, i < n → (∀ p ∈ tl, p ∈ rest) → (∀ p ∈ rest, p.1 ≠ D) → Inv D i tl (vs, k) m₁ → Fr h₀ env.locals h (fun y => if y = x then some (.int (a₀ + (i : Int)) t) else m₁ y) → News h₀ env.locals h ((D, listOf vs.toArray k) :: rest) →
      wpAny (model prog w) A (execs body env) (LPost h₀ env.locals (Led1 D) [D] (Inv D) (i + 1) tl rest { s with heap := h, toks := tk } Q) E { s with heap := h, toks := tk })
    (done : ∀ vs k tl m₁ h tk, (∀ p ∈ tl, p.1 ≠ D) → Inv D n tl (vs, k) m₁ → Fr h₀ env.locals h m₁ → News h₀ env.locals h ((D, listOf vs.toArray k) :: tl) → Q .next { s with heap := h, toks := tk }) :
    wpAny (model prog w) A (pyIter (.ref r)) (fun it s₂ => LoopAtV prog w A h₀ env x body Q E it s₂) E s :=
  loop_range (Led := Led1 D) (adr := [D]) (Inv := Inv D) (c₀ := (vs, k)) (tl₀ := tl₀) (n := n) (fun _ => rfl) hh hr hsmall hsz F N (fun p hp b hb => by rw [List.mem_singleton.mp hb]; exact ho p hp) hj
    (fun i t c tl rest m₁ h tk hi hs hoff hI F₁ N₁ => turn i t c.1 c.2 tl rest m₁ h tk hi hs (fun p hp => hoff p hp D (List.mem_singleton.mpr rfl)) hI F₁ N₁)
    (fun c tl m₁ h tk hoff hI F₁ N₁ => done c.1 c.2 tl m₁ h tk (fun p hp => hoff p hp D (List.mem_singleton.mpr rfl)) hI F₁ N₁)

theorem LEnd1_new {D L : Addr} {Inv : Nat → List (Addr × Obj) → List Value × Nat → (Str → Option Value) → Prop} {i : Nat} {tl rest : List (Addr × Obj)} {s₁ : Shared} {h' : Heap} {tk' k' : Nat} {m' : Str → Option Value} {T : Addr} {o : Obj} {vs : List Value} {v : Value}
    (F : Fr h₀ L h' m') (N : News h₀ L h' ((T, o) :: (D, listOf (vs.toArray.push v) k') :: rest)) (hT : D < T ∧ AllLt T rest) (hI : Inv i ((T, o) :: tl) (vs ++ [v], k') m') : LEnd h₀ L (Led1 D) [D] Inv i tl rest s₁ { s₁ with heap := h', toks := tk' } := by
  refine LEnd_intro (vs ++ [v], k') [(T, o)] F N ?_ ?_ ?_ hI
  · intro p hp
    have e : listOf (vs ++ [v]).toArray k' = listOf (vs.toArray.push v) k' := by rw [List.push_toArray]
    simp only [Led1, e, List.cons_append, List.nil_append] at hp
    rcases List.mem_cons.mp hp with rfl | hp
    · exact .tail _ (.head _)
    · rcases List.mem_cons.mp hp with rfl | hp
      · exact .head _
      · exact .tail _ (.tail _ hp)
  · intro q hq p hp
    rw [List.mem_singleton.mp hq]
    exact allLt_to hT.2 p hp
  · intro q hq b hb
    rw [List.mem_singleton.mp hq, List.mem_singleton.mp hb]
    exact hT.1
theorem LEnd1_same {D L : Addr} {Inv : Nat → List (Addr × Obj) → List Value × Nat → (Str → Option Value) → Prop} {i : Nat} {tl rest : List (Addr × Obj)} {s₁ : Shared} {h' : Heap} {tk' k' : Nat} {m' : Str → Option Value} {vs : List Value}
    (F : Fr h₀ L h' m') (N : News h₀ L h' ((D, listOf vs.toArray k') :: rest)) (hI : Inv i tl (vs, k') m') : LEnd h₀ L (Led1 D) [D] Inv i tl rest s₁ { s₁ with heap := h', toks := tk' } :=
  LEnd_intro (vs, k') [] F N (fun _ hp => hp) (fun _ hq => nomatch hq) (fun _ hq => nomatch hq) hI

/-- a loop over a made list whose target is any expression -/
theorem loop_rows {target : Expr} {l : Addr} {vs : List Value} {nn : Nat} {m₀ : Str → Option Value} {c₀ : σ} {tl₀ : List (Addr × Obj)} (hadr : ∀ c, (Led c).map (·.1) = adr)
    (hh : A.handled = none) (hl : (l, listOf vs.toArray nn) ∈ tl₀) (F : Fr h₀ env.locals s.heap m₀) (N : News h₀ env.locals s.heap (Led c₀ ++ tl₀)) (ho : OwnOff tl₀ adr) (hj : Inv 0 tl₀ c₀ m₀)
    (turn : ∀ i v c tl rest m₁ h tk, vs[i]? = some v → (l, listOf vs.toArray nn) ∈ tl → (∀ p ∈ tl, p ∈ rest) → OwnOff rest adr → Inv i tl c m₁ → Fr h₀ env.locals h m₁ → News h₀ env.locals h (Led c ++ rest) →
      wpAny (model prog w) A (assign target env v) (fun _ s₃ => wpAny (model prog w) A (execs body env) (LPost h₀ env.locals Led adr Inv (i + 1) tl rest { s with heap := h, toks := tk } Q) E s₃) E { s with heap := h, toks := tk })
    (done : ∀ c tl m₁ h tk, OwnOff tl adr → Inv vs.length tl c m₁ → Fr h₀ env.locals h m₁ → News h₀ env.locals h (Led c ++ tl) → Q .next { s with heap := h, toks := tk }) :
    wpAny (model prog w) A (pyIter (.ref l)) (fun it s₂ => TurnsAt prog w A h₀ env target body Q E it s₂) E s := by
  have hol : s.heap.get? l = some (listOf vs.toArray nn) := (N _ (List.mem_append.mpr (.inr hl))).1
  have hls : s.heap.IsList l vs.toArray := ⟨_, hol, rfl, nn, rfl⟩
  have hne : l ≠ s.heap.objs.size := Nat.ne_of_lt (Heap.lt_size hol)
  refine wpAny_pyIter_list hls ?_
  have W := Walks.list (prog := prog) (w := w) hh s.heap.objs.size l hne vs.toArray
  have hlen : vs.toArray.size = vs.length := by simp
  rw [hlen] at W
  refine ⟨s.heap.objs.size, _, _, vs.length, _, _, _, m₀, Led c₀ ++ tl₀, (fun i m nx => ∃ c tl, nx = Led c ++ tl ∧ OwnOff tl adr ∧ Inv i tl c m ∧ (l, listOf vs.toArray nn) ∈ tl), rfl, KTurns.ofWalks W (fun i v s Q E st q => letGo_listiter st.1 q), ?_, ?_, ?_, ⟨⟨_, Heap.get?_push_size _ rfl, rfl, rfl⟩, hls.at fun o e => Heap.get?_push_of_some _ e⟩, F.push _, (fun p hp => ⟨Heap.get?_push_of_some _ (N p hp).1, (N p hp).2⟩), ⟨c₀, tl₀, rfl, ho, hj, hl⟩, ?_, ?_⟩
  · intro hm
    rcases List.mem_cons.mp hm with e | hm
    · exact absurd F.ns.lt (e ▸ Nat.lt_irrefl _)
    · exact (N _ (List.mem_append.mpr (.inr hl))).2.1 ((List.mem_singleton.mp hm).symm)
  · intro b hb
    rw [List.mem_singleton.mp hb]
    exact next_is_new F
  · intro p hp hI
    exact absurd (Heap.lt_size (N p hp).1) ((List.mem_singleton.mp hI) ▸ Nat.lt_irrefl _)
  · rintro i v m₁ nx h₁ tk₁ own hi hP ⟨c, tl, rfl, ht, hI, hlt⟩ hoff hown hget hfp hst F₁ N₁
    have hP' : vs.toArray[i]? = some v := hP
    have hv : vs[i]? = some v := by simpa using hP'
    have hI0 : h₀.get? s.heap.objs.size = none := next_is_new F
    obtain ⟨⟨oI, hoI, _⟩, _⟩ := id hst
    have hIm : (s.heap.objs.size, oI) ∈ own := hfp _ (List.mem_cons.mpr (.inl rfl)) hI0 _ hoI
    have hlo : h₁.get? l = some (listOf vs.toArray nn) := (N₁ _ (List.mem_append.mpr (.inr (List.mem_append.mpr (.inr hlt))))).1
    have hown' : ∀ p ∈ own, p = (s.heap.objs.size, oI) ∨ p = (l, listOf vs.toArray nn) := by
      intro p hp
      rcases List.mem_cons.mp (hown p hp) with e | e
      · have := hget p hp
        rw [e, hoI] at this
        exact .inl (Prod.ext e (Option.some.inj this).symm)
      · have e := List.mem_singleton.mp e
        have := hget p hp
        rw [e, hlo] at this
        exact .inr (Prod.ext e (Option.some.inj this).symm)
    have hadrI : ∀ b ∈ adr, b ≠ s.heap.objs.size := by
      intro b hb e
      rw [← hadr c] at hb
      obtain ⟨q, hq, rfl⟩ := List.mem_map.mp hb
      exact hoff q (List.mem_append.mpr (.inl hq)) (List.mem_singleton.mpr e)
    have N₂ : News h₀ env.locals h₁ (Led c ++ (tl ++ [(s.heap.objs.size, oI)])) := by
      intro p hp
      rcases List.mem_append.mp hp with hp | hp
      · exact N₁ p (List.mem_append.mpr (.inr (List.mem_append.mpr (.inl hp))))
      · rcases List.mem_append.mp hp with hp | hp
        · exact N₁ p (List.mem_append.mpr (.inr (List.mem_append.mpr (.inr hp))))
        · exact N₁ p (List.mem_append.mpr (.inl (List.mem_singleton.mp hp ▸ hIm)))
    have hoffR : OwnOff (tl ++ [(s.heap.objs.size, oI)]) adr := off_app ht fun p hp b hb e => hadrI b hb (by rw [List.mem_singleton.mp hp] at e; exact e.symm)
    refine wpAny_mono (turn i v c tl (tl ++ [(s.heap.objs.size, oI)]) m₁ h₁ tk₁ hv hlt (fun p hp => List.mem_append.mpr (.inl hp)) hoffR hI F₁ N₂) (fun _ s₂ hs₂ => wpAny_mono hs₂ (fun f s₃ e => ?_) fun _ _ e => e) fun _ _ e => e
    have up : ∀ s₃, LEnd h₀ env.locals Led adr Inv (i + 1) tl (tl ++ [(s.heap.objs.size, oI)]) { s with heap := h₁, toks := tk₁ } s₃ →
        LoopStepU h₀ env.locals [s.heap.objs.size] own (fun m nx => ∃ c tl, nx = Led c ++ tl ∧ OwnOff tl adr ∧ Inv (i + 1) tl c m ∧ (l, listOf vs.toArray nn) ∈ tl) { s with heap := h₁, toks := tk₁ } .next s₃ := by
      rintro s₃ ⟨c', add, h', tk', m', rfl, F', N', ha, hb, hI'⟩
      refine ⟨rfl, h', tk', m', Led c' ++ (add ++ tl), rfl, F', ?_, ?_, c', add ++ tl, rfl, off_app hb ht, hI', List.mem_append.mpr (.inr hlt)⟩
      · intro p hp
        rcases List.mem_append.mp hp with hp | hp
        · rcases hown' p hp with e | e
          · exact N' p (List.mem_append.mpr (.inr (List.mem_append.mpr (.inr (List.mem_append.mpr (.inr (List.mem_singleton.mpr e)))))))
          · exact N' p (List.mem_append.mpr (.inr (List.mem_append.mpr (.inr (List.mem_append.mpr (.inl (e ▸ hlt)))))))
        · rcases List.mem_append.mp hp with hp | hp
          · exact N' p (List.mem_append.mpr (.inl hp))
          · rcases List.mem_append.mp hp with hp | hp
            · exact N' p (List.mem_append.mpr (.inr (List.mem_append.mpr (.inl hp))))
            · exact N' p (List.mem_append.mpr (.inr (List.mem_append.mpr (.inr (List.mem_append.mpr (.inl hp))))))
      · intro p hp hw
        have hw := List.mem_singleton.mp hw
        rcases List.mem_append.mp hp with hp | hp
        · exact hadrI p.1 (hadr c' ▸ List.mem_map.mpr ⟨p, hp, rfl⟩) hw
        · rcases List.mem_append.mp hp with hp | hp
          · exact ha p hp (s.heap.objs.size, oI) (List.mem_append.mpr (.inr (List.mem_singleton.mpr rfl))) hw.symm
          · exact hoff p (List.mem_append.mpr (.inr hp)) (List.mem_singleton.mpr hw)
    cases f with
    | ret v => exact .ret e
    | brk => exact .brk e
    | next => exact .next (up _ e)
    | cont => exact .cont (up _ e)
  · rintro h' tk m' nx F' N' _ ⟨c, tl, rfl, ht, hI, _⟩
    exact done c tl m' h' tk ht hI F' N'

abbrev Led0 (_ : Unit) : List (Addr × Obj) := []
theorem LEnd0_intro {Inv : Nat → List (Addr × Obj) → Unit → (Str → Option Value) → Prop} {L : Addr} {i : Nat} {tl rest : List (Addr × Obj)} {s₁ : Shared} (add : List (Addr × Obj)) {h' : Heap} {tk' : Nat} {m' : Str → Option Value} {news' : List (Addr × Obj)} (F : Fr h₀ L h' m') (N : News h₀ L h' news')
    (hn : ∀ p ∈ add ++ rest, p ∈ news') (h1 : ∀ q ∈ add, ∀ p ∈ rest, p.1 < q.1) (hI : Inv i (add ++ tl) () m') : LEnd h₀ L Led0 [] Inv i tl rest s₁ { s₁ with heap := h', toks := tk' } :=
  LEnd_intro () add F N hn h1 (fun _ _ _ hb => nomatch hb) hI
theorem loop_rows0 {target : Expr} {l : Addr} {vs : List Value} {nn : Nat} {m₀ : Str → Option Value} {tl₀ : List (Addr × Obj)} (Inv : Nat → List (Addr × Obj) → Unit → (Str → Option Value) → Prop)
    (hh : A.handled = none) (hl : (l, listOf vs.toArray nn) ∈ tl₀) (F : Fr h₀ env.locals s.heap m₀) (N : News h₀ env.locals s.heap tl₀) (hj : Inv 0 tl₀ () m₀)
    (turn : ∀ i v tl rest m₁ h tk, vs[i]? = some v → (l, listOf vs.toArray nn) ∈ tl → (∀ p ∈ tl, p ∈ rest) → Inv i tl () m₁ → Fr h₀ env.locals h m₁ → News h₀ env.locals h rest →
      wpAny (model prog w) A (assign target env v) (fun _ s₃ => wpAny (model prog w) A (execs body env) (LPost h₀ env.locals Led0 [] Inv (i + 1) tl rest { s with heap := h, toks := tk } Q) E s₃) E { s with heap := h, toks := tk })
    (done : ∀ tl m₁ h tk, Inv vs.length tl () m₁ → Fr h₀ env.locals h m₁ → News h₀ env.locals h tl → Q .next { s with heap := h, toks := tk }) :
    wpAny (model prog w) A (pyIter (.ref l)) (fun it s₂ => TurnsAt prog w A h₀ env target body Q E it s₂) E s :=
  loop_rows (Led := Led0) (adr := []) (Inv := Inv) (c₀ := ()) (tl₀ := tl₀) (fun _ => rfl) hh hl F N (fun _ _ _ hb => nomatch hb) hj
    (fun i v _ tl rest m₁ h tk hv hl hs _ hI F₁ N₁ => turn i v tl rest m₁ h tk hv hl hs hI F₁ N₁)
    (fun _ tl m₁ h tk _ hI F₁ N₁ => done tl m₁ h tk hI F₁ N₁)

theorem loop_range0 {r : Addr} {a₀ b₀ : Int} {t₀ u₀ v₀ : Tok} (n : Nat) {m₀ : Str → Option Value} {tl₀ : List (Addr × Obj)} (Inv : Nat → List (Addr × Obj) → Unit → (Str → Option Value) → Prop)
    (hh : A.handled = none) (hr : IsRange s.heap r a₀ b₀ 1 t₀ u₀ v₀) (hsmall : Builtin.Range.small a₀ b₀ 1 = true) (hsz : Builtin.Range.rangeSize a₀ b₀ 1 = (n : Int))
    (F : Fr h₀ env.locals s.heap m₀) (N : News h₀ env.locals s.heap tl₀) (hj : Inv 0 tl₀ () m₀)
    (turn : ∀ i t tl rest m₁ h tk, i < n → (∀ p ∈ tl, p ∈ rest) → Inv i tl () m₁ → Fr h₀ env.locals h (fun y => if y = x then some (.int (a₀ + (i : Int)) t) else m₁ y) → News h₀ env.locals h rest →
      wpAny (model prog w) A (execs body env) (LPost h₀ env.locals Led0 [] Inv (i + 1) tl rest { s with heap := h, toks := tk } Q) E { s with heap := h, toks := tk })
    (done : ∀ tl m₁ h tk, Inv n tl () m₁ → Fr h₀ env.locals h m₁ → News h₀ env.locals h tl → Q .next { s with heap := h, toks := tk }) :
    wpAny (model prog w) A (pyIter (.ref r)) (fun it s₂ => LoopAtV prog w A h₀ env x body Q E it s₂) E s :=
  loop_range (Led := Led0) (adr := []) (Inv := Inv) (c₀ := ()) (tl₀ := tl₀) (n := n) (fun _ => rfl) hh hr hsmall hsz F N (fun _ _ _ hb => nomatch hb) hj
    (fun i t _ tl rest m₁ h tk hi hs _ hI F₁ N₁ => turn i t tl rest m₁ h tk hi hs hI F₁ N₁)
    (fun _ tl m₁ h tk _ hI F₁ N₁ => done tl m₁ h tk hI F₁ N₁)
end
section
variable {prog : Program} {w : World} {A : Around} {E : Value → Shared → Prop} {s : Shared} {h₀ : Heap} {L : Addr}
/-- an item of a made list of ints -/
theorem item_ints {value slice : PySem.Expr} {l : Addr} {vs : List Value} {ns : List Int} {n : Nat} {news : List (Addr × Obj)} {k : Int} {u : Tok} {Q : Value → Shared → Prop} (N : News h₀ L s.heap news) (hm : (l, listOf vs.toArray n) ∈ news) (hi : IntsAre vs ns)
    (h0 : 0 ≤ k) (hk : k < ns.length) (hb : ns.length < 2 ^ 62) (h : ∀ v t, v ∈ ns → Q (.int v t) s) (hs : subscripted slice false (.ref l) (.int k u) = operate [.ref l, .int k u] (getItem (.ref l) (.int k u))) :
    wpAny (model prog w) A (subscriptTail value slice (.ref l) (.int k u)) Q E s := by
  have hl := isList_of N hm
  have hlt : k.toNat < ns.length := by omega
  obtain ⟨t, ht⟩ := hi.get k.toNat (ns[k.toNat]'hlt) (List.getElem?_eq_getElem hlt)
  exact tail_any hl.typeIs slot_list_getitem.lookup (wpAny_getItem_list hl h0 (by have : (ns.length : Int) < 2 ^ 62 := by exact_mod_cast hb
                                                                                  omega) (by simpa using ht) (h _ _ (List.getElem_mem hlt))) hs

theorem len_made {l : Addr} {vs : List Value} {n c : Nat} {news : List (Addr × Obj)} {Q : Value → Shared → Prop} (N : News h₀ L s.heap news) (hm : (l, listOf vs.toArray n) ∈ news) (hc : vs.length = c) (hb : c < 2 ^ 62)
    (h : ∀ t k, Q (.int (c : Int) t) { s with toks := k }) : wpAny (model prog w) A (PySem.call (.builtin "len") [.ref l]) Q E s := by
  refine PyProof.Rows.len_list (isList_of N hm) ?_ ?_
  · rw [List.size_toArray, hc]
    have : (c : Int) < 2 ^ 62 := by exact_mod_cast hb
    omega
  · rw [List.size_toArray, hc]
    exact h _ _
end
end Mine
end
section
open PySem PySem.W PyProof.Rows
set_option maxRecDepth 100000
set_option maxHeartbeats 8000000
namespace Mine
local macro_rules | `(tactic| walk_at "call builtin:str.replace") => `(tactic| (refine replaceK ?a1 ?a2 ?a3 ?a4 ?a5 ?a6 ?_; (case a1 => omega); (case a2 => omega); (case a3 => decide); (case a4 => omega); (case a5 => decide); (case a6 => (dsimp only; omega)); intro t1 k1 hk1))
theorem lines_t (w : World) (x : Str) (t : Tok) : Tell w 158 [.str x t] (fun _ _ => x.length ≤ 18 ∧ (Txt.replace x (Str.ofString "\r\n") (Str.ofString "\n")).length ≤ 18) (fun news news' v => news' = news ∧ ∃ t', v = .str (linesOf x) t') := by
  unfold Tell
  w_top off
  k_fill
  intro dp un gd cn cs a ccd cl outer A₀ base h₀ L m news s p loose mean mg mb Q E B F X N T hk hd hu hpre hret
  obtain ⟨hpre, hpre2⟩ := hpre
  refine wpAny_call ?_
  k_dflt ktr_enter
  refine tk_gen (by show 1 ≤ s.toks + 1; omega) ?_
  intro tk htk
  refine wpAny_execs_cons ?_
  k_steps
  exact hret _ _ _ _ (by assumption) (by assumption) ⟨rfl, _, rfl⟩
end Mine
end
section
open PySem PySem.W PyProof.Rows
set_option maxRecDepth 100000
set_option maxHeartbeats 8000000
namespace Mine
local macro_rules | `(tactic| k_room) => `(tactic| ((try simp only [depth_under_make, depth_under_kw, depth_in1, depth_deeper, depth_caller]); (try dsimp only [ktrTop]); omega))
local macro_rules | `(tactic| k_units) => `(tactic| ((try simp only [units_in1, units_deeper, Around.mark_units, units_caller]); (try dsimp only [ktrTop]); omega))
def inputErr (n : Int) : Str :=
  if 55296 ≤ n ∧ n ≤ 57343 then Str.ofString "surrogate-in-input-stream"
  else if (64976 ≤ n ∧ n ≤ 65007) ∨ (0 ≤ n ∧ n ≤ 1114111 ∧ 65534 ≤ n % 65536) then Str.ofString "noncharacter-in-input-stream"
  else if ((0 ≤ n ∧ n ≤ 31) ∨ (127 ≤ n ∧ n ≤ 159)) ∧ ¬ (n = 0 ∨ n = 9 ∨ n = 10 ∨ n = 12 ∨ n = 13) then Str.ofString "control-character-in-input-stream"
  else Str.ofString ""
theorem input_error_t (w : World) (n : Int) (t : Tok) : Tell w 74 [.int n t] (fun _ _ => 0 ≤ n ∧ n ≤ 1114111) (fun news news' v => news' = news ∧ ∃ t', v = .str (inputErr n) t') := by
  unfold Tell
  w_top off
  k_fill
  intro dp un gd cn cs a ccd cl outer A₀ base h₀ L m news s p loose mean mg mb Q E B F X N T hk hd hu hpre hret
  obtain ⟨hn0, hn1⟩ := hpre
  refine wpAny_call ?_
  k_dflt ktr_enter
  k_steps
  all_goals (
    refine hret _ _ _ _ ?ff ?nn ⟨rfl, _, congrArg (fun z => Value.str z _) ?_⟩
    (case ff => assumption)
    (case nn => first | assumption | (refine cb_drop (news' := (_ , _) :: _) (by assumption) ?_; intro p hp; exact List.mem_cons_of_mem _ hp)))
  all_goals (
    have hfm : n.fmod 65536 = n % 65536 := Int.fmod_eq_emod_of_nonneg n (by decide)
    unfold inputErr
    try ((rename (List.any _ _ = _) => ha); simp only [List.any_cons, List.any_nil, Bool.or_false, Bool.or_eq_true, Bool.or_eq_false_iff, beq_iff_eq, beq_eq_false_iff_ne, ne_eq] at ha)
    (repeat' split) <;> first
      | rfl
      | (exfalso; omega)
      | (exfalso; (rename (ite _ _ _ = _) => hc); (try rw [hfm] at hc); (split at hc) <;> (try (split at hc)) <;> (simp only [decide_eq_true_eq, decide_eq_false_iff_not] at hc) <;> omega)
      )
end Mine
end
section
open PySem PySem.W PyProof.Rows
set_option maxRecDepth 100000
set_option maxHeartbeats 8000000
namespace Mine
local macro_rules | `(tactic| k_room) => `(tactic| ((try simp only [depth_under_make, depth_under_kw, depth_in1, depth_deeper, depth_caller]); (try dsimp only [ktrTop]); omega))
local macro_rules | `(tactic| k_units) => `(tactic| ((try simp only [units_in1, units_deeper, Around.mark_units, units_caller]); (try dsimp only [ktrTop]); omega))
local macro_rules | `(tactic| k_all) => `(tactic| assumption)
local macro_rules | `(tactic| size_fits) => `(tactic| (rw [List.size_toArray, sizeLine_eq]; omega))
def row (s : Str) (a b : Int) : Dat := .tuple [.str s, .int a, .int b]
abbrev sCtl : Str := Str.ofString "control-character-in-input-stream"
abbrev sSur : Str := Str.ofString "surrogate-in-input-stream"
abbrev sNon : Str := Str.ofString "noncharacter-in-input-stream"
def rowsHead : List Dat := [row sCtl 1 8, row sCtl 11 11, row sCtl 14 31, row sCtl 127 159, row sSur 55296 57343, row sNon 64976 65007]
def planes (k : Nat) : List Dat := (List.range k).map fun (k : Nat) => row sNon (65536 * (k : Int) + 65534) (65536 * (k : Int) + 65535)
def rowsD : List Dat := rowsHead ++ planes 17
theorem planes_succ (i : Nat) : planes (i + 1) = planes i ++ [row sNon (65536 * (i : Int) + 65534) (65536 * (i : Int) + 65535)] := by
  simp [planes, List.range_succ]
def RowsInv (D : Addr) (news : List (Addr × Obj)) (i : Nat) (tl : List (Addr × Obj)) (c : List Value × Nat) (m : Str → Option Value) : Prop :=
  DatAll tl c.1 (rowsHead ++ planes i) ∧ (∀ p ∈ news, p ∈ tl) ∧ m (Str.ofString "rows") = some (.ref D) ∧ ∃ t, m (Str.ofString "other") = some (.str sNon t)
section
local macro_rules | `(tactic| walk_at "pyIter ref") => `(tactic| refine unmark ?_)
theorem rows_t (w : World) : Tell w 130 [] (fun _ _ => True) (fun news news' v => ∃ a vs n, v = .ref a ∧ (a, listOf vs.toArray n) ∈ news' ∧ (∀ p ∈ news, p ∈ news') ∧ DatAll news' vs rowsD) := by
  unfold Tell
  w_top off
  k_fill
  intro dp un gd cn cs a ccd cl outer A₀ base h₀ L m news s p loose mean mg mb Q E B F X N T hk hd hu hpre hret
  refine wpAny_call ?_
  k_dflt ktr_enter
  k_steps
  refine Mark.mk ?_
  rename Fr _ _ _ _ => kF
  rename News _ _ _ _ => kN
  rename IsRange _ _ _ _ _ _ _ _ => kR
  refine loop_range1 (fun D => RowsInv D news) 17 rfl kR (by decide) (by decide) kF kN ?ho ?hj ?turn ?done
  case ho => exact fun p hp => Nat.ne_of_lt (allLt_to (by assumption) p hp)
  case hj =>
    refine ⟨?_, fun p hp => ?_, rfl, _, rfl⟩
    · (repeat (first | exact DatAll.nil | refine DatAll.cons ?_ ?_ | exact DatIn.str _ _ | exact DatIn.int _ _ | refine DatIn.tuple (by k_mem) ?_))
    · (repeat (first | assumption | refine List.Mem.tail _ ?_))
  case turn =>
    rintro i t vs k tl rest m₁ h tk hi hs hoff ⟨hD, hsub, hrows, t2, hother⟩ F₁ N₁
    have F₂ := Fr_also (Fr_also F₁ (x := Str.ofString "other") ((if_neg (by decide)).trans hother)) (x := Str.ofString "rows") ((if_neg (by decide)).trans ((if_neg (by decide)).trans hrows))
    clear F₁ kF kN kR
    have hlen : vs.length = 6 + i := by have := hD.length; rw [this]; simp [rowsHead, planes]; omega
    show wpAny _ _ _ _ _ _
    k_fold
    k_steps
    refine LEnd1_new (by assumption) (by assumption) (by assumption) ⟨?_, fun p hp => .tail _ (hsub p hp), rfl, _, rfl⟩
    simp only [Int.zero_add]
    rw [planes_succ, ← List.append_assoc]
    exact (DatAll.mono (fun _ hp => .tail _ hp) hD).append (DatAll.one (.tuple (.head _) (.cons (.str _ _) (.cons (.int _ _) (.cons (.int _ _) .nil)))))
  case done =>
    rintro vs k tl m₁ h tk hoff ⟨hD, hsub, hrows, t2, hother⟩ F₁ N₁
    have F₂ := Fr_also F₁ hrows
    clear F₁ kF kN kR
    dsimp only
    k_steps
    exact hret _ _ _ _ (by assumption) (by assumption) ⟨_, vs, k, rfl, .head _, fun p hp => .tail _ (hsub p hp), DatAll.mono (fun _ hp => .tail _ hp) hD⟩
end
end Mine
end
section
open PySem PySem.W PyProof.Rows
set_option maxRecDepth 100000
set_option maxHeartbeats 8000000
namespace Mine
local macro_rules | `(tactic| walk_at "pad") => `(tactic| fail "pad")
local macro_rules | `(tactic| k_room) => `(tactic| ((try simp only [depth_under_make, depth_under_kw, depth_in1, depth_deeper, depth_caller]); (try dsimp only [ktrTop]); omega))
local macro_rules | `(tactic| k_units) => `(tactic| ((try simp only [units_in1, units_deeper, Around.mark_units, units_caller]); (try dsimp only [ktrTop]); omega))
local macro_rules | `(tactic| k_all) => `(tactic| assumption)
local macro_rules | `(tactic| k_mem) => `(tactic| assumption)
noncomputable def rowErr : List Dat → Int → Str
  | [], _ => Str.ofString ""
  | .tuple [.str s, .int a, .int b] :: r, p => if a ≤ p ∧ p ≤ b then s else rowErr r p
  | _ :: r, p => rowErr r p
theorem rowErr_row (s : Str) (a b : Int) (r : List Dat) (p : Int) : rowErr (row s a b :: r) p = if a ≤ p ∧ p ≤ b then s else rowErr r p := by
  rw [row, rowErr]
theorem planes_shape (k : Nat) : ∀ d ∈ planes k, ∃ s a b, d = row s a b := by
  intro d hd
  obtain ⟨i, _, rfl⟩ := List.mem_map.mp hd
  exact ⟨_, _, _, rfl⟩
theorem rows_shape : ∀ d ∈ rowsD, ∃ s a b, d = row s a b := by
  intro d hd
  rcases List.mem_append.mp hd with hd | hd
  · simp only [rowsHead, List.mem_cons, List.not_mem_nil, or_false] at hd
    rcases hd with rfl | rfl | rfl | rfl | rfl | rfl <;> exact ⟨_, _, _, rfl⟩
  · exact planes_shape _ d hd
def ErrInv (news : List (Addr × Obj)) (pt : Int) (t : Tok) (i : Nat) (tl : List (Addr × Obj)) (_ : Unit) (m : Str → Option Value) : Prop :=
  (∀ p ∈ news, p ∈ tl) ∧ m (Str.ofString "point") = some (.int pt t) ∧ rowErr rowsD pt = rowErr (rowsD.drop i) pt
theorem row_in {news : List (Addr × Obj)} {v : Value} {s : Str} {a b : Int} (h : DatIn news v (row s a b)) : ∃ T n t1 t2 t3, v = .ref T ∧ (T, ({ cls := .type "tuple", data := .seq #[.str s t1, .int a t2, .int b t3] n } : Obj)) ∈ news := by
  unfold row at h
  cases h with
  | tuple hm hd =>
    cases hd with
    | cons h1 hd => cases h1; cases hd with
      | cons h2 hd => cases h2; cases hd with
        | cons h3 hd => cases h3; cases hd; exact ⟨_, _, _, _, _, rfl, hm⟩
section
local macro_rules | `(tactic| walk_at "exec For Tuple Name cons nil") => `(tactic| refine unmark ?_)
theorem error_t (w : World) (rl : Addr) (vs : List Value) (n : Nat) (pt : Int) (t : Tok) : Tell w 137 [.ref rl, .int pt t] (fun _ news => (rl, listOf vs.toArray n) ∈ news ∧ DatAll news vs rowsD) (fun news news' v => news' = news ∧ ∃ t', v = .str (rowErr rowsD pt) t') := by
  unfold Tell
  w_top off
  k_fill
  intro dp un gd cn cs a ccd cl outer A₀ base h₀ L m news s p loose mean mg mb Q E B F X N T hk hd hu hpre hret
  obtain ⟨hrl, hdat⟩ := hpre
  refine wpAny_call ?_
  k_dflt ktr_enter
  k_steps
  refine Mark.mk ?_
  rename Fr _ _ _ _ => kF
  rename News _ _ _ _ => kN
  refine For_turns kF ?_
  refine ld kF (by rfl) ?_
  refine loop_rows0 (ErrInv news pt t) rfl hrl kF kN ⟨fun _ h => h, rfl, rfl⟩ ?turn ?done
  case turn =>
    rintro i v tl rest m₁ h tk hv hl hs ⟨hsub, hpt, hre⟩ F₁ N₁
    have hlen : vs.length = rowsD.length := hdat.length
    have hi : i < rowsD.length := by rw [← hlen]; exact (List.getElem?_eq_some_iff.mp hv).1
    obtain ⟨v', hv', hD⟩ := hdat.get hi
    have ev : v' = v := by rw [hv] at hv'; exact (Option.some.inj hv').symm
    rw [ev] at hD
    obtain ⟨rs, ra, rb, hr⟩ := rows_shape _ (List.getElem_mem hi)
    rw [hr] at hD
    obtain ⟨T1, n1, t1, t2, t3, rfl, hT⟩ := row_in hD
    have hT' := hs _ (hsub _ hT)
    have hdrop : rowsD.drop i = row rs ra rb :: rowsD.drop (i + 1) := by rw [← hr]; exact List.drop_eq_getElem_cons hi
    have F₂ := Fr_also F₁ hpt
    clear F₁ kF kN
    show wpAny _ _ _ _ _ _
    k_fold
    k_steps
    · dsimp only [LPost]
      k_steps
      refine hret _ news _ _ (by assumption) (News_sub (by assumption) fun p hp => hs p (hsub p hp)) ⟨rfl, _, congrArg (fun z => Value.str z _) ?_⟩
      rw [hre, hdrop, rowErr_row, if_pos (by omega)]
    all_goals (
      refine LEnd0_intro [] (by assumption) (by assumption) (fun _ hp => hp) (fun _ hq => nomatch hq) ⟨hsub, rfl, ?_⟩
      rw [hre, hdrop, rowErr_row, if_neg (by omega)])
  case done =>
    rintro tl m₁ h tk ⟨hsub, hpt, hre⟩ F₁ N₁
    dsimp only
    k_steps
    refine hret _ news _ _ (by assumption) (News_sub (by assumption) hsub) ⟨rfl, _, congrArg (fun z => Value.str z _) ?_⟩
    rw [hre, hdat.length, List.drop_length]
    rfl
end
end Mine
end
section
open PySem PySem.W PyProof.Rows
set_option maxRecDepth 100000
set_option maxHeartbeats 8000000
namespace Mine
local macro_rules | `(tactic| k_room) => `(tactic| ((try simp only [depth_under_make, depth_under_kw, depth_in1, depth_deeper, depth_caller]); (try dsimp only [ktrTop]); omega))
local macro_rules | `(tactic| k_units) => `(tactic| ((try simp only [units_in1, units_deeper, Around.mark_units, units_caller]); (try dsimp only [ktrTop]); omega))
local macro_rules | `(tactic| k_all) => `(tactic| assumption)
local macro_rules | `(tactic| k_mem) => `(tactic| assumption)
def edge4 : Dat → List Int
  | .tuple [.str _, .int a, .int b] => [a - 1, a, b, b + 1]
  | _ => []
def edgesOf (l : List Dat) : List Int := l.flatMap edge4
def edgesL : List Int := (edgesOf rowsD).take 91
theorem edgesOf_snoc (l : List Dat) (s : Str) (a b : Int) : edgesOf (l ++ [row s a b]) = edgesOf l ++ [a - 1, a, b, b + 1] := by
  simp [edgesOf, row, edge4]
theorem rows_len : rowsD.length = 23 := by simp [rowsD, rowsHead, planes]
theorem edges_len (i : Nat) (hi : i ≤ rowsD.length) : (edgesOf (rowsD.take i)).length = 4 * i := by
  induction i with
  | zero => rfl
  | succ i ih =>
    have hi' : i < rowsD.length := hi
    obtain ⟨rs, ra, rb, hr⟩ := rows_shape _ (List.getElem_mem hi')
    have htake : rowsD.take (i + 1) = rowsD.take i ++ [row rs ra rb] := by rw [← hr, List.take_add_one, List.getElem?_eq_getElem hi']; rfl
    rw [htake, edgesOf_snoc, List.length_append, ih (Nat.le_of_lt hi')]
    simp
    omega
def EdgeInv (news : List (Addr × Obj)) (i : Nat) (tl : List (Addr × Obj)) (_ : Unit) (m : Str → Option Value) : Prop :=
  (∀ p ∈ news, p ∈ tl) ∧ ∃ e es k, m (Str.ofString "edges") = some (.ref e) ∧ (e, listOf es.toArray k) ∈ tl ∧ IntsAre es (edgesOf (rowsD.take i))
section
local macro_rules | `(tactic| walk_at "exec For Tuple Name cons nil") => `(tactic| refine unmark ?_)
theorem edges_t (w : World) (rl : Addr) (vs : List Value) (n : Nat) : Tell w 144 [.ref rl] (fun _ news => (rl, listOf vs.toArray n) ∈ news ∧ DatAll news vs rowsD) (fun news news' v => (∀ p ∈ news, p ∈ news') ∧ ∃ e es k, v = .ref e ∧ (e, listOf es.toArray k) ∈ news' ∧ IntsAre es edgesL) := by
  unfold Tell
  w_top off
  k_fill
  intro dp un gd cn cs a ccd cl outer A₀ base h₀ L m news s p loose mean mg mb Q E B F X N T hk hd hu hpre hret
  obtain ⟨hrl, hdat⟩ := hpre
  refine wpAny_call ?_
  k_dflt ktr_enter
  k_steps
  refine Mark.mk ?_
  rename Fr _ _ _ _ => kF
  rename News _ _ _ _ => kN
  refine For_turns kF ?_
  refine ld kF (by rfl) ?_
  refine loop_rows0 (EdgeInv news) rfl (.tail _ hrl) kF kN ⟨fun _ h => .tail _ h, _, [], _, rfl, .head _, .nil⟩ ?turn ?done
  case turn =>
    rintro i v tl rest m₁ h tk hv hl hs ⟨hsub, e, es, k, he, hem, hes⟩ F₁ N₁
    have hlen : vs.length = rowsD.length := hdat.length
    have hi : i < rowsD.length := by rw [← hlen]; exact (List.getElem?_eq_some_iff.mp hv).1
    obtain ⟨v', hv', hD⟩ := hdat.get hi
    have ev : v' = v := by rw [hv] at hv'; exact (Option.some.inj hv').symm
    rw [ev] at hD
    obtain ⟨rs, ra, rb, hr⟩ := rows_shape _ (List.getElem_mem hi)
    rw [hr] at hD
    obtain ⟨T1, n1, t1, t2, t3, rfl, hT⟩ := row_in hD
    have hT' := hs _ (hsub _ hT)
    have hem' := hs _ hem
    have htake : rowsD.take (i + 1) = rowsD.take i ++ [row rs ra rb] := by rw [← hr, List.take_add_one, List.getElem?_eq_getElem hi]; rfl
    have F₂ := Fr_also F₁ he
    clear F₁ kF kN
    show wpAny _ _ _ _ _ _
    k_fold
    k_steps
    have hl4 : es.length = 4 * i := by rw [hes.length, edges_len _ (by omega)]
    refine kmk_add_ints (by assumption) (by assumption) (isList_of (by assumption) (.tail _ hem')) (isList_of (by assumption) (.head _)) hes (.cons _ _ (.cons _ _ (.cons _ _ (.cons _ _ .nil)))) ?_ ?z
    case z => rw [← hes.length, hl4, sizeLine_eq]; have := rows_len; simp; omega
    intro D us h' F' N' l1 hus
    k_steps
    refine LEnd0_intro [(D, listOf us.toArray 0)] (by assumption) (by assumption) ?_ ?_ ⟨fun p hp => .tail _ (hsub p hp), _, us, _, rfl, .head _, by rw [htake, edgesOf_snoc]; exact hus⟩
    · intro p hp
      rcases List.mem_cons.mp hp with rfl | hp
      · exact .head _
      · exact .tail _ (.tail _ hp)
    · intro q hq p hp
      rw [List.mem_singleton.mp hq]
      exact l1 p (.tail _ hp)
  case done =>
    rintro tl m₁ h tk ⟨hsub, e, es, k, he, hem, hes⟩ F₁ N₁
    have F₂ := Fr_also F₁ he
    clear F₁ kF kN
    dsimp only
    have hlen : vs.length = rowsD.length := hdat.length
    rw [hlen, List.take_length] at hes
    have h92 : (edgesOf rowsD).length = 92 := by have := edges_len rowsD.length (Nat.le_refl _); rw [List.take_length, rows_len] at this; exact this
    k_steps
    rename IntsAre _ (List.take _ _) => hI1
    rw [h92] at hI1
    exact hret _ _ _ _ (by assumption) (by assumption) ⟨fun p hp => .tail _ (hsub p hp), _, _, _, rfl, .head _, hI1⟩
end
end Mine
end
section
open PySem PySem.W PyProof.Rows
set_option maxRecDepth 100000
set_option maxHeartbeats 8000000
namespace Mine
local macro_rules | `(tactic| k_room) => `(tactic| ((try simp only [depth_under_make, depth_under_kw, depth_in1, depth_deeper, depth_caller]); (try dsimp only [ktrTop]); omega))
local macro_rules | `(tactic| k_units) => `(tactic| ((try simp only [units_in1, units_deeper, Around.mark_units, units_caller]); (try dsimp only [ktrTop]); omega))
local macro_rules | `(tactic| k_all) => `(tactic| assumption)
local macro_rules | `(tactic| k_mem) => `(tactic| assumption)
def Valid (x : Str) : Prop := ∀ c ∈ x.cps.toList, c < 1114112
theorem len_snoc (x : Str) (c : Nat) : (x ++ (⟨#[c]⟩ : Str)).length = x.length + 1 := by rw [Str.length_append]; rfl
theorem valid_snoc {x : Str} {c : Nat} (h : Valid x) (hc : c < 1114112) : Valid (x ++ (⟨#[c]⟩ : Str)) := by
  intro d hd
  have e : (x ++ (⟨#[c]⟩ : Str)).cps.toList = x.cps.toList ++ [c] := by rw [Str.cps_append]; simp
  rw [e] at hd
  rcases List.mem_append.mp hd with hd | hd
  · exact h d hd
  · rw [List.mem_singleton.mp hd]; exact hc
theorem fmod_toNat_lt (z : Int) : (z.fmod 1114112).toNat < 1114112 := by
  have h1 : z.fmod 1114112 < 1114112 := Int.fmod_lt_of_pos z (by decide)
  omega
def firstL : List Int := [0, 1, 0, 0, 1, 2, 1, 2, 6, 3, 0, 2, 10, 0, 1, 2, 0, 6]
def TextInv (script e : Addr) (news : List (Addr × Obj)) (i : Nat) (tl : List (Addr × Obj)) (_ : Unit) (m : Str → Option Value) : Prop :=
  (∀ p ∈ news, p ∈ tl) ∧ (∃ fl fvs, (fl, listOf fvs.toArray 0) ∈ tl ∧ IntsAre fvs firstL ∧ m (Str.ofString "first") = some (.ref fl)) ∧ m (Str.ofString "script") = some (.ref script) ∧ m (Str.ofString "edges") = some (.ref e) ∧ ∃ x t, m (Str.ofString "text") = some (.str x t) ∧ x.length = i ∧ Valid x
theorem edgesL_len : edgesL.length = 91 := by
  have := edges_len rowsD.length (Nat.le_refl _)
  rw [List.take_length, rows_len] at this
  rw [edgesL, List.length_take, this]
  rfl
theorem edgesL_in : ∀ v ∈ edgesL, 0 ≤ v ∧ v ≤ 1114111 := by decide +kernel
section
local macro_rules | `(tactic| walk_at "pyIter ref") => `(tactic| refine unmark ?_)
local macro_rules | `(tactic| walk_at "subscriptTail Name Name ref int") => `(tactic| (refine' item_ints ?N ?m ?i ?a ?b ?c ?_ ?s; (case N => assumption); (case m => k_mem); (case i => assumption); (case a => omega); (case b => (rw [show firstL.length = 18 from rfl]; omega)); (case c => decide); (case s => with_unfolding_all rfl); intro v9 t9 hv9))
local macro_rules | `(tactic| walk_at "subscriptTail Name BinOp ref int") => `(tactic| (refine' item_ints ?N ?m ?i ?a ?b ?c ?_ ?s; (case N => assumption); (case m => k_mem); (case i => assumption); (case a => exact Int.fmod_nonneg_of_pos _ (by decide)); (case b => (rw [edgesL_len]; exact Int.fmod_lt_of_pos _ (by decide))); (case c => (rw [edgesL_len]; decide)); (case s => with_unfolding_all rfl); intro v9 t9 hv9; have hv8 := edgesL_in _ hv9))
local macro_rules | `(tactic| walk_at "call builtin:len") => `(tactic| (refine' len_made (c := 91) ?N ?m ?i ?a ?_; (case N => assumption); (case m => k_mem); (case i => (exact (IntsAre.length (by assumption)).trans edgesL_len)); (case a => decide); intro t9 k9))
theorem text_t (w : World) (script e : Addr) (svs : List Value) (ns : List Int) (es : List Value) (n : Nat) (hns : ns.length ≤ 63) : Tell w 151 [.ref script, .ref e] (fun base news => base.IsList script svs.toArray ∧ IntsAre svs ns ∧ (e, listOf es.toArray n) ∈ news ∧ IntsAre es edgesL)
    (fun news news' v => (∀ p ∈ news, p ∈ news') ∧ ∃ x t, v = .str x t ∧ x.length ≤ 18 ∧ Valid x) := by
  unfold Tell
  w_top off
  k_fill
  intro dp un gd cn cs a ccd cl outer A₀ base h₀ L m news s p loose mean mg mb Q E B F X N T hk hd hu hpre hret
  obtain ⟨hsl, hsi, hel, hei⟩ := hpre
  refine wpAny_call ?_
  k_dflt ktr_enter
  k_steps
  refine Mark.mk ?_
  have hb0 : 0 ≤ (cellAt ns 1 0 + 18).fmod 19 := Int.fmod_nonneg_of_pos _ (by decide)
  have hb1 : (cellAt ns 1 0 + 18).fmod 19 < 19 := Int.fmod_lt_of_pos _ (by decide)
  rename Fr _ _ _ _ => kF
  rename News _ _ _ _ => kN
  rename IsRange _ _ _ _ _ _ _ _ => kR
  refine loop_range0 ((cellAt ns 1 0 + 18).fmod 19).toNat (TextInv script e news) rfl kR (small_one (by decide) (by decide) (by omega) (by omega)) ((rangeSize_nat _ _).trans (by simp)) kF kN ⟨fun _ h => .tail _ h, ⟨_, _, .head _, ?fi, rfl⟩, rfl, rfl, _, _, rfl, rfl, fun _ h => nomatch h⟩ ?turn ?done
  case fi => exact (by repeat constructor)
  case turn =>
    rintro i t tl rest m₁ h tk hi hs ⟨hsub, ⟨fl, fvs, hfl, hfi, hfm⟩, hscr, hedg, x, tx, htx, hxl, hxv⟩ F₁ N₁
    have hfl' := hs _ hfl
    have hel' := hs _ (hsub _ hel)
    have F₂ := Fr_also (Fr_also (Fr_also (Fr_also F₁ (x := Str.ofString "first") ((if_neg (by decide)).trans hfm)) (x := Str.ofString "script") ((if_neg (by decide)).trans ((if_neg (by decide)).trans hscr))) (x := Str.ofString "edges") ((if_neg (by decide)).trans ((if_neg (by decide)).trans ((if_neg (by decide)).trans hedg))))
      (x := Str.ofString "text") ((if_neg (by decide)).trans ((if_neg (by decide)).trans ((if_neg (by decide)).trans ((if_neg (by decide)).trans htx))))
    clear F₁ kF kN kR
    show wpAny _ _ _ _ _ _
    k_fold
    k_steps
    all_goals (try dsimp only [LPost])
    all_goals refine LEnd0_intro [] (by assumption) (by assumption) (fun _ hp => hp) (fun _ hq => nomatch hq) ⟨hsub, ⟨fl, fvs, hfl, hfi, rfl⟩, rfl, rfl, _, _, rfl, ?_, ?_⟩
    · exact (len_snoc x 13).trans (by rw [hxl])
    · exact valid_snoc hxv (by decide)
    · exact (len_snoc x 10).trans (by rw [hxl])
    · exact valid_snoc hxv (by decide)
    · exact (len_snoc x _).trans (by rw [hxl])
    · exact valid_snoc hxv (by omega)
    · exact (len_snoc x _).trans (by rw [hxl])
    · exact valid_snoc hxv (fmod_toNat_lt _)
  case done =>
    rintro tl m₁ h tk ⟨hsub, ⟨fl, fvs, hfl, hfi, hfm⟩, hscr, hedg, x, tx, htx, hxl, hxv⟩ F₁ N₁
    have F₂ := Fr_also F₁ htx
    clear F₁ kF kN kR
    dsimp only
    k_steps
    exact hret _ tl _ _ (by assumption) (by assumption) ⟨hsub, x, _, rfl, by omega, hxv⟩
end
end Mine
end
section
open PySem PySem.W PyProof.Rows
set_option maxRecDepth 100000
set_option maxHeartbeats 8000000
namespace Mine
local macro_rules | `(tactic| k_room) => `(tactic| ((try simp only [depth_under_make, depth_under_kw, depth_in1, depth_deeper, depth_caller]); (try dsimp only [ktrTop]); omega))
local macro_rules | `(tactic| k_units) => `(tactic| ((try simp only [units_in1, units_deeper, Around.mark_units, units_caller]); (try dsimp only [ktrTop]); omega))
local macro_rules | `(tactic| k_all) => `(tactic| assumption)
abbrev sEntries (P : Params) (t1 t2 t3 t4 : Tok) (sg : Addr) (closed ret : Bool) (er : Addr) : List DictEntry :=
  [⟨PyData.keyHash P (Str.ofString "signs"), .str (Str.ofString "signs") t1, .ref sg⟩, ⟨PyData.keyHash P (Str.ofString "is_closed"), .str (Str.ofString "is_closed") t2, .bool closed⟩,
   ⟨PyData.keyHash P (Str.ofString "is_return"), .str (Str.ofString "is_return") t3, .bool ret⟩, ⟨PyData.keyHash P (Str.ofString "errors"), .str (Str.ofString "errors") t4, .ref er⟩]
theorem stream_t (w : World) : Tell w 112 [] (fun _ _ => True) (fun news news' v => ∃ x dx sg er t1 t2 t3 t4, v = .ref x ∧ dx < x ∧ x < sg ∧ sg < er ∧ (∀ p ∈ news, p.1 < dx) ∧
    news' = (er, listOf #[] 0) :: (sg, listOf #[] 0) :: (x, instObj 112 dx) :: (dx, dictOf (sEntries w.params t1 t2 t3 t4 sg false false er) 4) :: news) := by
  unfold Tell
  w_top off
  k_fill
  intro dp un gd cn cs a ccd cl outer A₀ base h₀ L m news s p loose mean mg mb Q E B F X N T hk hd hu hpre hret
  refine' call_cls F X N ?k4 ?k5 ?k6 ?_
  (case k4 => k_is)
  (case k5 => k_is)
  (case k6 => k_is)
  intro x dx h' F' N' l1 l2
  have l1' := l1
  have hne : ∀ p ∈ news, p.1 ≠ dx := fun p hp => Nat.ne_of_lt (l1 p hp)
  have l2' : dx < x := l2
  k_lt2 l2
  k_dflt ktr_enter
  k_steps
  refine hret (.ref x) _ _ _ (by assumption) (by assumption) ⟨x, dx, _, _, _, _, _, _, rfl, l2', ?_, ?_, ?_, rfl⟩
  all_goals first | assumption | (show @LT.lt Nat _ _ _; omega)
end Mine
end
section
open PySem PySem.W PyProof.Rows
set_option maxRecDepth 100000
set_option maxHeartbeats 8000000
namespace Mine
local macro_rules | `(tactic| k_room) => `(tactic| ((try simp only [depth_under_make, depth_under_kw, depth_in1, depth_deeper, depth_caller]); (try dsimp only [ktrTop]); omega))
local macro_rules | `(tactic| k_units) => `(tactic| ((try simp only [units_in1, units_deeper, Around.mark_units, units_caller]); (try dsimp only [ktrTop]); omega))
local macro_rules | `(tactic| k_all) => `(tactic| assumption)
local macro_rules | `(tactic| size_fits) => `(tactic| (rw [List.size_toArray, sizeLine_eq]; omega))
theorem tell_use {w : World} {f : Addr} {args : List Value} {Pre : Heap → List (Addr × Obj) → Prop} {Post : List (Addr × Obj) → List (Addr × Obj) → Value → Prop} (C : Tell w f args Pre Post)
    {dp un : Nat} {gd : Option (List Code)} {cn : Str} {cs : Scope} {a : Addr} {ccd : Value} {cl : List (Str × Addr)} {outer : List Env} {A₀ : Around} {base h₀ : Heap} {L : Addr} {m : Str → Option Value} {news : List (Addr × Obj)} {s : Shared}
    {p : Program} {loose : List Str} {mean : ExcName → Option Value} {mg mb : Str → Option Value} {Q E : Value → Shared → Prop} (B : Below A₀ base outer h₀) (F : Fr h₀ L s.heap m) (X : (hd.heap_39 w.params).In h₀) (N : News h₀ L s.heap news) (T : Top p loose mean mg mb h₀) (hk : cs.kind = .function)
    (h1 : dp + 40 < recursionLimit) (h2 : un + 200 < cLine) (hp : Pre base news) (hret : ∀ v news' h' tk', Fr h₀ L h' m → News h₀ L h' news' → Post news news' v → Q v { s with heap := h', toks := tk' }) :
    wpAny (model PySem.Challenge.rw_nt0585_01.row.prog w) (ktrTop dp un gd cn cs L a ccd cl outer) (PySem.call (.ref f) args) Q E s := C _ _ _ _ _ _ _ _ _ _ _ _ _ _ _ _ _ _ _ _ _ _ _ B F X N T hk h1 h2 hp hret
structure St where
  sgs : List Nat
  errs : List (Str × Nat)
  ret : Bool
def step (st : St) (c : Nat) : St :=
  if c = 13 then ⟨st.sgs ++ [10], st.errs, true⟩
  else if c = 10 ∧ st.ret = true then ⟨st.sgs, st.errs, false⟩
  else ⟨st.sgs ++ [c], if inputErr c = Str.ofString "" then st.errs else st.errs ++ [(inputErr c, st.sgs.length)], false⟩
def sgD (c : Nat) : Dat := .str ⟨#[c]⟩
def erD (e : Str × Nat) : Dat := .tuple [.str e.1, .int (e.2 : Int)]
structure FC where
  vs : List Value
  k : Nat
  ws : List Value
  k2 : Nat
  ret : Bool
abbrev SLed (P : Params) (x dx sg er : Addr) (t1 t2 t3 t4 : Tok) (closed : Bool) (c : FC) : List (Addr × Obj) :=
  [(x, instObj 112 dx), (dx, dictOf (sEntries P t1 t2 t3 t4 sg closed c.ret er) 4), (sg, listOf c.vs.toArray c.k), (er, listOf c.ws.toArray c.k2)]
def SFacts (st : St) (tl : List (Addr × Obj)) (c : FC) : Prop := DatAll tl c.vs (st.sgs.map sgD) ∧ DatAll tl c.ws (st.errs.map erD) ∧ c.ret = st.ret
def feedAll (st : St) (cs : List Nat) : St := cs.foldl step st
def FeedInv (x : Addr) (tl₀ fl : List (Addr × Obj)) (st₀ : St) (cs : List Nat) (i : Nat) (tl : List (Addr × Obj)) (c : FC) (m : Str → Option Value) : Prop :=
  (∃ add, tl = add ++ tl₀ ∧ SFacts (feedAll st₀ (cs.take i)) (add ++ fl) c ∧ ∀ q ∈ add, ∀ p ∈ tl₀, p.1 < q.1) ∧ m (Str.ofString "self") = some (.ref x) ∧ (feedAll st₀ (cs.take i)).sgs.length ≤ st₀.sgs.length + i ∧ (feedAll st₀ (cs.take i)).errs.length ≤ st₀.errs.length + i
section
local macro_rules | `(tactic| walk_at "exec For Name Name cons nil") => `(tactic| refine unmark ?_)
local macro_rules | `(tactic| walk_at "call ref") => `(tactic| ((with_reducible show wpAny _ _ (PySem.call (Value.ref 74) _) _ _ _); k_dflt (refine' tell_use (input_error_t _ _ _) ?uB ?uF ?uX ?uN ?uT ?uk ?ud ?uu ?up ?_; (case uB => k_asm); (case uF => k_asm); (case uX => k_asm); (case uN => k_asm); (case uT => k_asm); (case uk => exact rfl); (case ud => k_room); (case uu => k_units); (case up => omega)); intro v9 news9 h9 tk9 F9 N9 hP9; obtain ⟨e9, t9, e8⟩ := hP9; subst e9; subst e8))
local macro_rules | `(tactic| walk_at "call builtin:list.append") => `(tactic| ((with_reducible show wpAny _ _ (PySem.call (Value.builtin _) [Value.ref _, _]) _ _ _); refine' append_K ?F ?N ?U ?_ ?z; (case F => k_asm); (case N => k_asm); (case U => k_upd); (case z => (rw [List.size_toArray, sizeLine_eq]; omega)); intro h7 F7 N7; (try k_sweep)))
local macro_rules | `(tactic| walk_at "call builtin:len") => `(tactic| ((with_reducible show wpAny _ _ (PySem.call (Value.builtin "len") [Value.ref _]) _ _ _); k_dflt (refine' len_made ?lN ?lm ?li ?la ?_; (case lN => k_asm); (case lm => k_mem); (case li => with_reducible assumption); (case la => omega)); intro t9 k9))
section
variable {h₀ : Heap} {L : Addr} {Inv : Nat → List (Addr × Obj) → FC → (Str → Option Value) → Prop} {P : Params} {x dx sg er : Addr} {t1 t2 t3 t4 : Tok} {i : Nat} {tl rest : List (Addr × Obj)} {s₁ : Shared} {h' : Heap} {tk' : Nat} {m' : Str → Option Value} {vs ws : List Value} {k k2 : Nat} {ret closed : Bool}
theorem LEndF0 (F : Fr h₀ L h' m') (N : News h₀ L h' ((x, instObj 112 dx) :: (dx, dictOf (sEntries P t1 t2 t3 t4 sg closed ret er) 4) :: (sg, listOf vs.toArray k) :: (er, listOf ws.toArray k2) :: rest)) (hI : Inv i tl ⟨vs, k, ws, k2, ret⟩ m') :
    LEnd h₀ L (SLed P x dx sg er t1 t2 t3 t4 closed) [x, dx, sg, er] Inv i tl rest s₁ { s₁ with heap := h', toks := tk' } :=
  LEnd_intro (Led := SLed P x dx sg er t1 t2 t3 t4 closed) (⟨vs, k, ws, k2, ret⟩ : FC) [] F N (fun _ hp => hp) (fun _ hq => nomatch hq) (fun _ hq => nomatch hq) hI
theorem LEndF1 {T : Addr} {o : Obj} (F : Fr h₀ L h' m') (N : News h₀ L h' ((T, o) :: (x, instObj 112 dx) :: (dx, dictOf (sEntries P t1 t2 t3 t4 sg closed ret er) 4) :: (sg, listOf vs.toArray k) :: (er, listOf ws.toArray k2) :: rest))
    (hT : x < T ∧ dx < T ∧ sg < T ∧ er < T ∧ AllLt T rest) (hI : Inv i ((T, o) :: tl) ⟨vs, k, ws, k2, ret⟩ m') :
    LEnd h₀ L (SLed P x dx sg er t1 t2 t3 t4 closed) [x, dx, sg, er] Inv i tl rest s₁ { s₁ with heap := h', toks := tk' } := by
  refine LEnd_intro (Led := SLed P x dx sg er t1 t2 t3 t4 closed) (⟨vs, k, ws, k2, ret⟩ : FC) [(T, o)] F N ?_ ?_ ?_ hI
  · intro p hp
    rcases List.mem_cons.mp hp with rfl | hp
    · exact .tail _ (.head _)
    rcases List.mem_cons.mp hp with rfl | hp
    · exact .tail _ (.tail _ (.head _))
    rcases List.mem_cons.mp hp with rfl | hp
    · exact .tail _ (.tail _ (.tail _ (.head _)))
    rcases List.mem_cons.mp hp with rfl | hp
    · exact .tail _ (.tail _ (.tail _ (.tail _ (.head _))))
    rcases List.mem_cons.mp hp with rfl | hp
    · exact .head _
    · exact .tail _ (.tail _ (.tail _ (.tail _ (.tail _ hp))))
  · intro q hq p hp
    rw [List.mem_singleton.mp hq]
    exact allLt_to hT.2.2.2.2 p hp
  · intro q hq b hb
    rw [List.mem_singleton.mp hq]
    simp only [List.mem_cons, List.not_mem_nil, or_false] at hb
    rcases hb with rfl | rfl | rfl | rfl
    · exact hT.1
    · exact hT.2.1
    · exact hT.2.2.1
    · exact hT.2.2.2.1
end
theorem addlt {T x dx sg er : Addr} {o : Obj} {add tl₀ rest : List (Addr × Obj)} (hadd : ∀ q ∈ add, ∀ p ∈ tl₀, p.1 < q.1) (hT : x < T ∧ dx < T ∧ sg < T ∧ er < T ∧ AllLt T rest) (hs : ∀ p ∈ add ++ tl₀, p ∈ rest) : ∀ q ∈ (T, o) :: add, ∀ p ∈ tl₀, p.1 < q.1 := by
  intro q hq p hp
  rcases List.mem_cons.mp hq with rfl | hq
  · exact allLt_to hT.2.2.2.2 p (hs p (List.mem_append_right _ hp))
  · exact hadd q hq p hp
theorem sign_eq (k c : Nat) : ((⟨#[k]⟩ : Str) == ⟨#[c]⟩) = decide (k = c) := by
  by_cases h : k = c
  · rw [h]; simp
  · rw [decide_eq_false h]
    refine beq_eq_false_iff_ne.mpr fun e => h ?_
    injection e with e
    injection e with e
    injection e
theorem cr_eq (k : Nat) : ((⟨#[k]⟩ : Str) == Str.ofString "\r") = decide (k = 13) := sign_eq k 13
theorem lf_eq (k : Nat) : ((⟨#[k]⟩ : Str) != Str.ofString "\n") = !decide (k = 10) := congrArg Bool.not (sign_eq k 10)
theorem turn_cr {st : St} {k : Nat} (a : ((⟨#[k]⟩ : Str) == Str.ofString "\r") = true) : step st k = ⟨st.sgs ++ [10], st.errs, true⟩ := by
  rw [cr_eq] at a
  rw [step, if_pos (of_decide_eq_true a)]
theorem turn_code {st : St} {k : Nat} (a : ((⟨#[k]⟩ : Str) == Str.ofString "\r") = false) (b : ((⟨#[k]⟩ : Str) != Str.ofString "\n") = true ∨ st.ret = false) (d : (inputErr (k : Int) != Str.ofString "") = true) :
    step st k = ⟨st.sgs ++ [k], st.errs ++ [(inputErr k, st.sgs.length)], false⟩ := by
  rw [cr_eq] at a
  rw [lf_eq] at b
  rw [step, if_neg (of_decide_eq_false a), if_neg, if_neg]
  · intro e; rw [e] at d; simp at d
  · rintro ⟨e1, e2⟩
    rcases b with b | b
    · rw [e1] at b; simp at b
    · rw [e2] at b; cases b
theorem turn_plain {st : St} {k : Nat} (a : ((⟨#[k]⟩ : Str) == Str.ofString "\r") = false) (b : ((⟨#[k]⟩ : Str) != Str.ofString "\n") = true ∨ st.ret = false) (d : (inputErr (k : Int) != Str.ofString "") = false) :
    step st k = ⟨st.sgs ++ [k], st.errs, false⟩ := by
  rw [cr_eq] at a
  rw [lf_eq] at b
  rw [step, if_neg (of_decide_eq_false a), if_neg, if_pos]
  · simpa using d
  · rintro ⟨e1, e2⟩
    rcases b with b | b
    · rw [e1] at b; simp at b
    · rw [e2] at b; cases b
theorem turn_skip {st : St} {k : Nat} (a : ((⟨#[k]⟩ : Str) == Str.ofString "\r") = false) (b : ((⟨#[k]⟩ : Str) != Str.ofString "\n") = false) (d : st.ret = true) : step st k = ⟨st.sgs, st.errs, false⟩ := by
  rw [cr_eq] at a
  rw [lf_eq] at b
  rw [step, if_neg (of_decide_eq_false a), if_pos ⟨by simpa using b, d⟩]
theorem feedAll_succ {st : St} {cs : List Nat} {i k : Nat} (h : cs[i]? = some k) : feedAll st (cs.take (i + 1)) = step (feedAll st (cs.take i)) k := by
  rw [List.take_add_one, h, feedAll, List.foldl_append]
  rfl
theorem feed_t (w : World) (x dx sg er : Addr) (t1 t2 t3 t4 : Tok) (hx1 : dx < x) (hx2 : x < sg) (hx3 : sg < er) (txt : Str) (t : Tok) (hv : Valid txt) (hl : txt.length ≤ 50) (st₀ : St) (hs1 : st₀.sgs.length ≤ 50) (hs2 : st₀.errs.length ≤ 50)
    (dp un : Nat) (gd : Option (List Code)) (cn : Str) (cs : Scope) (a : Addr) (ccd : Value) (cl : List (Str × Addr)) (outer : List Env) (A₀ : Around) (base h₀ : Heap) (L : Addr) (m : Str → Option Value) (c₀ : FC) (tl₀ fl : List (Addr × Obj)) (s : Shared)
    (p : Program) (loose : List Str) (mean : ExcName → Option Value) (mg mb : Str → Option Value) (Q E : Value → Shared → Prop)
    (B : Below A₀ base outer h₀) (F : Fr h₀ L s.heap m) (X : (hd.heap_39 w.params).In h₀) (N : News h₀ L s.heap (SLed w.params x dx sg er t1 t2 t3 t4 false c₀ ++ tl₀)) (T : Top p loose mean mg mb h₀) (hk : cs.kind = .function)
    (hd : dp + 60 < recursionLimit) (hu : un + 300 < cLine) (hoff : OwnOff tl₀ [x, dx, sg, er]) (hS : SFacts st₀ fl c₀)
    (hret : ∀ c' add h' tk', Fr h₀ L h' m → News h₀ L h' (SLed w.params x dx sg er t1 t2 t3 t4 false c' ++ (add ++ tl₀)) → OwnOff add [x, dx, sg, er] → (∀ q ∈ add, ∀ p ∈ tl₀, p.1 < q.1) → SFacts (feedAll st₀ txt.cps.toList) (add ++ fl) c' → Q .none { s with heap := h', toks := tk' }) :
    wpAny (model PySem.Challenge.rw_nt0585_01.row.prog w) (ktrTop dp un gd cn cs L a ccd cl outer) (PySem.call (.ref 95) [.ref x, .str txt t]) Q E s := by
  revert X
  w_top off
  k_fill
  intro X
  k_lt2 hx1
  k_lt2 hx2
  k_lt2 hx3
  refine wpAny_call ?_
  have N1 : News h₀ L s.heap ((x, instObj 112 dx) :: (dx, dictOf (sEntries w.params t1 t2 t3 t4 sg false c₀.ret er) 4) :: (sg, listOf c₀.vs.toArray c₀.k) :: (er, listOf c₀.ws.toArray c₀.k2) :: tl₀) := N
  clear N
  k_dflt ktr_enter
  k_steps
  refine Mark.mk ?_
  rename Fr _ _ _ _ => kF
  rename News _ _ _ _ => kN
  refine For_invVF kF rfl rfl ?_
  refine ld kF (by rfl) ?_
  refine loop_str (Led := SLed w.params x dx sg er t1 t2 t3 t4 false) (adr := [x, dx, sg, er]) (Inv := FeedInv x tl₀ fl st₀ txt.cps.toList) (c₀ := c₀) (tl₀ := tl₀) (fun _ => rfl) rfl kF kN hoff ?hj ?turn ?done
  case hj => exact ⟨⟨[], rfl, hS, fun _ hq => nomatch hq⟩, rfl, Nat.le_add_right _ _, Nat.le_add_right _ _⟩
  case turn =>
    rintro i k t9 c tl rest m₁ h tk hik hs hoffR ⟨⟨add, rfl, hSt, hadd⟩, hself, hL1, hL2⟩ F₁ N₁
    have hlt : k < 1114112 := hv k (by rw [Array.mem_toList_iff]; exact Array.mem_of_getElem? hik)
    have hil : i < txt.length := (Array.getElem?_eq_some_iff.mp hik).1
    have F₂ := Fr_also F₁ (x := Str.ofString "self") ((if_neg (by decide)).trans hself)
    have N₂ : News _ _ h ((x, instObj 112 dx) :: (dx, dictOf (sEntries w.params t1 t2 t3 t4 sg false c.ret er) 4) :: (sg, listOf c.vs.toArray c.k) :: (er, listOf c.ws.toArray c.k2) :: rest) := N₁
    have o1 : ∀ p ∈ rest, p.1 ≠ dx := fun p hp => hoffR p hp dx (by simp)
    have o2 : ∀ p ∈ rest, p.1 ≠ sg := fun p hp => hoffR p hp sg (by simp)
    have o3 : ∀ p ∈ rest, p.1 ≠ er := fun p hp => hoffR p hp er (by simp)
    have hcs : txt.cps.toList[i]? = some k := by rw [Array.getElem?_toList]; exact hik
    have hgo := feedAll_succ (st := st₀) hcs
    obtain ⟨st, hst⟩ : ∃ st, st = feedAll st₀ (txt.cps.toList.take i) := ⟨_, rfl⟩
    rw [← hst] at hSt hL1 hL2 hgo
    obtain ⟨hA, hB, hr⟩ := hSt
    have hvn : c.vs.length = st.sgs.length := by rw [hA.length, List.length_map]
    have hvl : c.vs.length ≤ 100 := by omega
    have hwl : c.ws.length ≤ 100 := by rw [hB.length, List.length_map]; omega
    clear F₁ N₁ kF kN
    show wpAny _ _ _ _ _ _
    k_fold
    k_steps
    all_goals (dsimp only [LPost])
    all_goals (rename News _ _ _ _ => kN; simp only [List.push_toArray] at kN)
    · refine LEndF0 (by assumption) kN ⟨⟨add, rfl, ?_, hadd⟩, rfl, ?_, ?_⟩ <;> rw [hgo, turn_cr (by assumption)]
      · exact ⟨by rw [List.map_append]; exact hA.append (DatAll.one (.str _ _)), hB, by assumption⟩
      · simp only [List.length_append, List.length_singleton]; omega
      · simp only; omega
    · refine LEndF1 (by assumption) kN (by assumption) ⟨⟨_ :: add, rfl, ?_, addlt hadd (by assumption) hs⟩, rfl, ?_, ?_⟩ <;> rw [hgo, turn_code (by assumption) (.inl (by assumption)) (by assumption)]
      · refine ⟨?_, ?_, by assumption⟩
        · rw [List.map_append]
          exact (DatAll.mono (fun _ hp => .tail _ hp) hA).append (DatAll.one (.str _ _))
        · rw [List.map_append]
          exact (DatAll.mono (fun _ hp => .tail _ hp) hB).append (DatAll.one (.tuple (.head _) (.cons (.str _ _) (.cons (.int _ _) .nil))))
      · simp only [List.length_append, List.length_singleton]; omega
      · simp only [List.length_append, List.length_singleton]; omega
    · refine LEndF0 (by assumption) kN ⟨⟨add, rfl, ?_, hadd⟩, rfl, ?_, ?_⟩ <;> rw [hgo, turn_plain (by assumption) (.inl (by assumption)) (by assumption)]
      · exact ⟨by rw [List.map_append]; exact hA.append (DatAll.one (.str _ _)), hB, by assumption⟩
      · simp only [List.length_append, List.length_singleton]; omega
      · simp only; omega
    · refine LEndF0 (by assumption) kN ⟨⟨add, rfl, ?_, hadd⟩, rfl, ?_, ?_⟩ <;> rw [hgo, turn_skip (by assumption) (by assumption) (hr.symm.trans (by assumption))]
      · exact ⟨hA, hB, by assumption⟩
      · simp only; omega
      · simp only; omega
    · refine LEndF1 (by assumption) kN (by assumption) ⟨⟨_ :: add, rfl, ?_, addlt hadd (by assumption) hs⟩, rfl, ?_, ?_⟩ <;> rw [hgo, turn_code (by assumption) (.inr (hr.symm.trans (by assumption))) (by assumption)]
      · refine ⟨?_, ?_, by assumption⟩
        · rw [List.map_append]
          exact (DatAll.mono (fun _ hp => .tail _ hp) hA).append (DatAll.one (.str _ _))
        · rw [List.map_append]
          exact (DatAll.mono (fun _ hp => .tail _ hp) hB).append (DatAll.one (.tuple (.head _) (.cons (.str _ _) (.cons (.int _ _) .nil))))
      · simp only [List.length_append, List.length_singleton]; omega
      · simp only [List.length_append, List.length_singleton]; omega
    · refine LEndF0 (by assumption) kN ⟨⟨add, rfl, ?_, hadd⟩, rfl, ?_, ?_⟩ <;> rw [hgo, turn_plain (by assumption) (.inr (hr.symm.trans (by assumption))) (by assumption)]
      · exact ⟨by rw [List.map_append]; exact hA.append (DatAll.one (.str _ _)), hB, by assumption⟩
      · simp only [List.length_append, List.length_singleton]; omega
      · simp only; omega
  case done =>
    rintro c tl m₁ h tk hoffR ⟨⟨add, rfl, hSt, hadd⟩, hself, hL1, hL2⟩ F₁ N₁
    rw [← Array.length_toList, List.take_length] at hSt
    dsimp only
    k_steps
    exact hret c add _ _ (by assumption) (by assumption) (fun p hp => hoffR p (List.mem_append_left _ hp)) hadd hSt
end
end Mine
end
section
set_option maxRecDepth 100000
set_option maxHeartbeats 8000000
open PySem PySem.W PyProof.Rows
namespace Mine
abbrev mBm : List Value := [.ref 31, .type "Exception", .type "BaseException", .type "object"]
abbrev mBmE : List Value := [.type "Exception", .type "BaseException", .type "object"]
abbrev mObj : Obj := excClassObj (Str.ofString "Misused") (Str.ofString "Misused") 44 43 [.ref 31] mBm true [] [] false none none (some (.ref 35)) none (some (.str (Str.ofString "Misused") 218)) (some (.str (Str.ofString "Misused") 226)) (some (.bool true)) "Exception.__new__"
theorem mObj_K (P : Params) : (hd.heap_39 P).lookup 44 = some mObj := rfl
section
variable {M : Model} {A : Around} {E : Value → Shared → Prop} {h : Heap} {g : Array GenState} {d : Drawn} {t : Nat} {os : OsState}
theorem m_check_new (F : ExcBaseFacts "Exception" "Exception.__new__" "Exception.__init__" mBmE) {rest : List Value} {Q : Unit → Shared → Prop} (hC : h.get? 44 = some mObj)
    (hq : Q () ⟨h, g, d, t, os⟩) : wpAny M A (checkBuiltinCall "Exception.__new__" ⟨.ref 44 :: rest, []⟩) Q E ⟨h, g, d, t, os⟩ := by
  have hcont : (Value.ref 44 :: mBm).contains (.type "Exception") = true := by decide
  have hstar := F.noStar
  simp only [checkBuiltinCall, F.newKind, F.newSplit, F.newRow]
  repeat (first | refine wpAny_loadPart_at hC ?_ | (refine wpAny_isSubtype_exc hC ?_; rw [hcont]) | refine wpAny_staticBase_exc hC ?_ | refine wpAny_madeBy_exc hC ?_ | simp only [bne_self_eq_false, Bool.false_eq_true, if_false] | wp_step)
  exact hq
theorem m_check_init (F : ExcBaseFacts "Exception" "Exception.__new__" "Exception.__init__" mBmE) {e : Addr} {oe : Obj} {rest : List Value} {Q : Unit → Shared → Prop}
    (hC : h.get? 44 = some mObj) (he : h.get? e = some oe) (hcls : oe.cls = .ref 44) (hq : Q () ⟨h, g, d, t, os⟩) :
    wpAny M A (checkBuiltinCall "Exception.__init__" ⟨.ref e :: rest, []⟩) Q E ⟨h, g, d, t, os⟩ := by
  have hcB : (Value.ref 44 :: mBm).contains (.type "Exception") = true := by decide
  have hshort := F.noStar
  simp only [checkBuiltinCall, F.initKind, F.initSplit, F.initRow]
  repeat (first | (with_reducible refine wpAny_loadPart_at he ?_; rw [hcls]) | with_reducible refine wpAny_loadPart_at hC ?_ | (with_reducible refine wpAny_isSubtype_exc hC ?_; rw [hcB]) | wp_step)
  refine wpAny_onRaise ?_
  rw [show ∀ (a b : String) (n : Nat), Bind.check ⟨.positional, "*", "Exception", .self, [⟨"args", .varPos, false⟩]⟩ a b n (List.map (fun x => x.fst) ({ pos := Value.ref e :: rest } : Args).kw) = pure () from
    fun a b n => check_star_args _ _ _ _ _ _]
  exact wpAny_pure hq
end
section
variable {prog : Program} {w : World} {A : Around} {R : Result → Shared → Prop} {h : Heap} {g : Array GenState} {d : Drawn} {t : Nat} {os : OsState}
abbrev argsObj (vs : List Value) : Obj := { cls := .type "tuple", data := .seq vs.toArray }
abbrev bareExc (T : Addr) : Obj := { cls := .ref 44, data := .fields #[.ref T, .none, .none, .none, .bool false, .none] }
theorem m_new (F : ExcBaseFacts "Exception" "Exception.__new__" "Exception.__init__" mBmE) {rest : List Value} (hC : h.get? 44 = some mObj)
    (hq : R (.ok (.ret (.ref (h.objs.size + 1)))) ⟨(h.push (argsObj rest)).push (bareExc h.objs.size), g, d, t, os⟩) (hrest : rest.length ≤ sizeLine := by size_fits) :
    codeAny (model prog w) A (.builtin "Exception.__new__" ⟨.ref 44 :: rest, []⟩) R ⟨h, g, d, t, os⟩ := by
  have hends := F.ends
  have hcB : (Value.ref 44 :: mBm).contains (.type "Exception") = true := by decide
  have hcA : (Value.ref 44 :: mBm).contains (.type "AttributeError") = false := by decide
  have hcN : (Value.ref 44 :: mBm).contains (.type "NameError") = false := by decide
  refine codeAny_builtinAt F.entry ?_
  unfold Builtin.«BaseException.__new__»
  refine PySem.wpAt_bind ?_
  show PySem.wpAt _ _ _ (stack >>= _) _ _ _
  refine PySem.wpAt_bind (PySem.wpAt_stack fun p below => PySem.wpAt_of_wpAny ?_)
  wp_walk
  refine PySem.wpAt_of_wpAny ?_
  rw [F.owner]
  repeat (first | with_reducible refine wpAny_madeHere_exc F.canon hC ?_ | with_reducible refine wpAny_loadPart_at hC ?_ | (with_reducible refine wpAny_isSubtype_exc hC ?_; first | rw [hcB] | rw [hcA] | rw [hcN]) | wp_step)
  show R _ _
  rw [Heap.size_push]
  exact hq
end
section
variable {prog : Program} {w : World} {A : Around} {E : Value → Shared → Prop} {h : Heap} {g : Array GenState} {d : Drawn} {t : Nat} {os : OsState}
theorem m_typecall (F : ExcBaseFacts "Exception" "Exception.__new__" "Exception.__init__" mBmE) {rest : List Value} {Q : Fin → Shared → Prop} (X : (hd.heap_39 w.params).In h)
    (hq : wpAny (model prog w) A (PySem.call (.ref 28) (.ref (h.objs.size + 1) :: rest)) (fun r s' => r = .none ∧ Q (.done (.ret (.ref (h.objs.size + 1)))) s') E ⟨(h.push (argsObj rest)).push (bareExc h.objs.size), g, d, t, os⟩) (hrest : rest.length ≤ sizeLine := by size_fits) :
    wpAny (model prog w) A (Builtin.«type.__call__» ⟨.ref 44 :: rest, []⟩) Q E ⟨h, g, d, t, os⟩ := by
  have hC : h.get? 44 = some mObj := X _ _ (mObj_K w.params)
  repeat (first | with_reducible refine wpAny_loadPart_at hC ?_ | with_reducible refine wpAny_madeBy_exc hC ?_ | wp_step)
  refine codeAny_call_builtin_code (Code.quiet_builtin _ F.quiet) (m_check_new F hC ?_)
  refine m_new F hC ?_ hrest
  show wpAny _ _ _ _ _ _
  have hk : ∀ b o, h.get? b = some o → ((h.push (argsObj rest)).push (bareExc h.objs.size)).get? b = some o := fun b o e => Heap.get?_push_of_some _ (Heap.get?_push_of_some _ e)
  have X₁ : (hd.heap_39 w.params).In ((h.push (argsObj rest)).push (bareExc h.objs.size)) := X.keeps hk
  have hC₁ := hk _ _ hC
  have hget : ((h.push (argsObj rest)).push (bareExc h.objs.size)).get? (h.objs.size + 1) = some (bareExc h.objs.size) := by heap_get
  have hcC : (Value.ref 44 :: mBm).contains (.ref 44) = true := by decide
  unfold isInstance
  repeat (first | with_reducible refine wpAny_loadPart_at hget ?_ | (with_reducible refine wpAny_isSubtype_exc hC₁ ?_; rw [hcC]) | wp_step)
  show wpAny _ _ (typeLookup (.ref 44) _) _ _ _
  refine (looks_findIn X₁ (show findIn (hd.heap_39 w.params) (.ref 44) "__init__" = some (some (.ref 28)) from rfl)).here ?_
  refine wpAny_holding (wpAny_bind ?_)
  unfold bindSpecial
  refine wpAny_bind ((looks_typeIn X₁ (show typeIn (hd.heap_39 w.params) (.ref 28) = some (.type "function") from rfl)).here ?_)
  rw [if_pos (by decide)]
  refine wpAny_pure (wpAny_bind (wpAny_mono hq (fun r s' hr => ?_) fun _ _ x => x))
  obtain ⟨rfl, hQ⟩ := hr
  wp_walk
  exact hQ
theorem m_call (F : ExcBaseFacts "Exception" "Exception.__new__" "Exception.__init__" mBmE) {rest : List Value} {Q : Value → Shared → Prop} (X : (hd.heap_39 w.params).In h)
    (hq : wpAny (model prog w) (A.under (.builtin "type.__call__" ⟨.ref 44 :: rest, []⟩)) (PySem.call (.ref 28) (.ref (h.objs.size + 1) :: rest)) (fun r s' => r = .none ∧ Q (.ref (h.objs.size + 1)) s') E ⟨(h.push (argsObj rest)).push (bareExc h.objs.size), g, d, t, os⟩)
    (hrest : rest.length ≤ sizeLine := by size_fits) : wpAny (model prog w) A (PySem.call (.ref 44) rest) Q E ⟨h, g, d, t, os⟩ := by
  have hC : h.get? 44 = some mObj := X _ _ (mObj_K w.params)
  have f1 := tc_lookup
  have f2 := tc_bind (.ref 44)
  have hT : (⟨h, g, d, t, os⟩ : Shared).TypeIs (.ref 44) "type" := ⟨_, hC, rfl⟩
  refine wpAny_call (codeAny_of_tree ?_)
  show wpAny _ _ (callAny (.ref 44) _) _ _ _
  repeat (any_goals (first | assumption | with_reducible refine wpAny_loadPart_at hC ?_ | wp_step))
  refine ⟨rfl, ?_⟩
  exact codeAny_call_builtin_at (Code.quiet_builtin _ (by decide +kernel)) entry_typeCall (wpAny_check_type_call_sub hC (m_typecall (hrest := hrest) F X hq))
end
end Mine
end
section
set_option maxRecDepth 100000
set_option maxHeartbeats 8000000
open PySem PySem.W PyProof.Rows
namespace Mine
theorem m_refuse (self : Value) : refuseLoop self "__setattr__" (.ref 44 :: mBm) = pure () := by
  rw [refuseLoop_ref, refuseLoop_ref]
  kernel_rfl
theorem m_setslot (P : Params) : findIn (hd.heap_39 P) (.ref 44) "__setattr__" = some (some (.builtin "object.__setattr__")) := by kernel_rfl
theorem m_nowhy (P : Params) : findIn (hd.heap_39 P) (.ref 44) "why" = some none := by kernel_rfl
theorem m_clsIn (P : Params) : clsIn (hd.heap_39 P) 44 = some { name := Str.ofString "Misused", bases := [.ref 31], mro := .ref 44 :: mBm, ns := 43, qualname := Str.ofString "Misused" } := by kernel_rfl
abbrev whyE (P : Params) (tk : Tok) (v : Value) : DictEntry := ⟨PyData.keyHash P (Str.ofString "why"), .str (Str.ofString "why") tk, v⟩
abbrev excObj (dd : Addr) (vs : Array Value) : Obj := { cls := .ref 44, dict := some dd, data := .fields vs }
section
variable {prog : Program} {w : World} {A : Around} {E : Value → Shared → Prop} {s : Shared} {h₀ : Heap} {L e : Addr} {m : Str → Option Value} {news : List (Addr × Obj)} {vs : Array Value} {v : Value}
theorem m_store {R : Result → Shared → Prop} {tk : Tok} (X : (hd.heap_39 w.params).In s.heap) (F : Fr h₀ L s.heap m) (N : News h₀ L s.heap ((e, { cls := .ref 44, data := .fields vs }) :: news)) (hne : ∀ p ∈ news, p.1 ≠ e)
    (h : ∀ dd t h' tk', Fr h₀ L h' m → News h₀ L h' ((dd, dictOf [whyE w.params t v] 1) :: (e, excObj dd vs) :: news) → (∀ p ∈ (e, excObj dd vs) :: news, p.1 < dd) → R (.ok (.ret .none)) { s with heap := h', toks := tk' }) :
    codeAny (model prog w) A (.call (.builtin "object.__setattr__") ⟨[.ref e, .str (Str.ofString "why") tk, v], []⟩) R s := by
  have he := (N _ (.head _)).1
  have I : InstAt s.heap e { cls := .ref 44, data := .fields vs } 44 none := ⟨he, rfl, rfl, trivial⟩
  have SF := PySem.F.store_object
  have sub : Looks (model prog w) s.heap (isInstance (.ref e) (.type "object")) true := I.type.andThen (looks_mroIn X (by kernel_rfl))
  refine codeAny_call_builtin SF.slot.plain SF.entry (@check_slot (model prog w) _ _ s "object.__setattr__" "object" "__setattr__" (.ref e) [.str (Str.ofString "why") tk, v] [] _ SF.kind SF.split sub (SF.args (.ref e) (.str (Str.ofString "why") tk) v) ?_)
  have hm : Looks (model prog w) s.heap (mroOf (.ref 44)) (.ref 44 :: mBm) := (looks_clsIn X (m_clsIn w.params)).andThen .now
  rw [osa_eq, refuse_eq]
  refine wpAny_bind (wpAny_bind (I.type.here (wpAny_bind (hm.here ?_))))
  rw [m_refuse]
  refine wpAny_pure (wpAny_bind (I.type.here (wpAny_bind ((looks_findIn X (m_nowhy w.params)).here (wpAny_bind (wpAny_pure ?_))))))
  refine wpAny_bind (wpAny_pure (wpAny_bind ?_))
  show wpAny _ _ (instanceDict e true) _ _ _
  unfold instanceDict
  refine wpAny_bind (wpAny_loadPart he ?_)
  dsimp only
  refine wpAny_bind ((looks_clsIn X (m_clsIn w.params)).here ?_)
  dsimp only
  rw [if_neg (by decide), if_neg (by decide)]
  refine wpAny_bind (wpAny_alloc ?_)
  have F1 := F.push emptyDict
  have N1 := N.push F emptyDict
  have hde : s.heap.objs.size ≠ e := Nat.ne_of_gt (Heap.lt_size he)
  have hlt : ∀ p ∈ (e, ({ cls := .ref 44, data := .fields vs } : Obj)) :: news, p.1 < s.heap.objs.size := fun p hp => Heap.lt_size (N p hp).1
  obtain ⟨F2, N2⟩ := news_upd (pre := [(s.heap.objs.size, emptyDict)]) (post := news) (f := fun o => { o with dict := some s.heap.objs.size }) (o' := excObj s.heap.objs.size vs) F1 N1 (fun p hp => by rw [List.mem_singleton.mp hp]; exact hde) hne rfl rfl
  refine wpAny_bind (wpAny_update (Heap.get?_push_of_some _ he) ?_)
  refine wpAny_pure ?_
  dsimp only
  unfold Builtin.ObjectAttr.storeInDict
  refine wpAny_bind (wpAny_pure (wpAny_bind ?_))
  have D := (N2 _ (.head _)).1
  unfold nsSet
  refine wpAny_bind (wpAny_bind (wpAny_askSetting (wpAny_pure (wpAny_bind (wpAny_mkText (wpAny_bind (wpAny_loadPart D ?_)))))))
  dsimp only
  rw [aRefKeyMayBeTheName_at]
  rw [if_neg (by simp)]
  refine wpAny_updatePart D ?_
  have hside : ∀ p ∈ (e, excObj s.heap.objs.size vs) :: news, p.1 ≠ s.heap.objs.size := by
    intro p hp
    rcases List.mem_cons.mp hp with rfl | hp
    · exact Ne.symm hde
    · exact Nat.ne_of_lt (hlt p (.tail _ hp))
  obtain ⟨F3, N3⟩ := news_upd (pre := []) (post := (e, excObj s.heap.objs.size vs) :: news) (f := Obj.putName (Str.ofString "why") (PyData.keyHash w.params (Str.ofString "why")) (.str (Str.ofString "why") s.toks) v) (o' := dictOf [whyE w.params s.toks v] 1) F2 N2 (fun p hp => nomatch hp) hside rfl rfl
  have D3 := (N3 _ (.head _)).1
  refine wpAny_bind (wpAny_lookBehind D3 (pastItsLine_dict (by show 1 ≤ _; rw [sizeLine_eq]; decide)) ?_)
  refine wpAny_pure (h _ _ _ _ F3 N3 ?_)
  intro p hp
  rcases List.mem_cons.mp hp with rfl | hp
  · exact Nat.lt_of_le_of_ne (Nat.le_of_lt (Heap.lt_size he)) (Ne.symm hde)
  · exact hlt p (.tail _ hp)
theorem m_setattr {Q : Unit → Shared → Prop} (X : (hd.heap_39 w.params).In s.heap) (F : Fr h₀ L s.heap m) (N : News h₀ L s.heap ((e, { cls := .ref 44, data := .fields vs }) :: news)) (hne : ∀ p ∈ news, p.1 ≠ e)
    (h : ∀ dd t h' tk', Fr h₀ L h' m → News h₀ L h' ((dd, dictOf [whyE w.params t v] 1) :: (e, excObj dd vs) :: news) → (∀ p ∈ (e, excObj dd vs) :: news, p.1 < dd) → Q () { s with heap := h', toks := tk' }) :
    wpAny (model prog w) A (setAttr (.ref e) (Str.ofString "why") v) Q E s := by
  have he := (N _ (.head _)).1
  have I : InstAt s.heap e { cls := .ref 44, data := .fields vs } 44 none := ⟨he, rfl, rfl, trivial⟩
  exact set_plain X I (m_setslot w.params) (m_store (s := { s with toks := s.toks + 1 }) X F N hne h)
end
end Mine
end
section
set_option maxRecDepth 100000
set_option maxHeartbeats 8000000
open PySem PySem.W PyProof.Rows
namespace Mine
section
variable {prog : Program} {w : World} {A : Around} {E : Value → Shared → Prop} {s : Shared} {h₀ : Heap} {L e : Addr} {m : Str → Option Value} {news : List (Addr × Obj)} {vs : Array Value} {v : Value}
abbrev excFields (T : Addr) : Array Value := #[.ref T, .none, .none, .none, .bool false, .none]
theorem m_base_init {T1 : Addr} {Q : Value → Shared → Prop} (X : (hd.heap_39 w.params).In s.heap) (F : Fr h₀ L s.heap m) (N : News h₀ L s.heap ((e, { cls := .ref 44, data := .fields (excFields T1) }) :: news)) (hne : ∀ p ∈ news, p.1 ≠ e)
    (h : ∀ T2 h', Fr h₀ L h' m → News h₀ L h' ((T2, argsObj [v]) :: (e, { cls := .ref 44, data := .fields (excFields T2) }) :: news) → (∀ p ∈ news, p.1 < T2) → e < T2 → Q .none { s with heap := h' }) :
    wpAny (model prog w) A (PySem.call (.builtin "Exception.__init__") [.ref e, v]) Q E s := by
  have he := (N _ (.head _)).1
  have hC : s.heap.get? 44 = some mObj := X _ _ (mObj_K w.params)
  have FB := PySem.F.excBase_Exception
  refine wpAny_call (codeAny_call_builtin FB.init.plain FB.initEntry (m_check_init (h := s.heap) FB hC he rfl ?_))
  unfold Builtin.«BaseException.__init__»
  dsimp only
  show wpAny _ _ _ _ _ _
  rw [if_neg (by decide)]
  have F1 := F.push (argsObj [v])
  have N1 := N.push F (argsObj [v])
  have hlt : e < s.heap.objs.size := Heap.lt_size he
  have hde : s.heap.objs.size ≠ e := Nat.ne_of_gt hlt
  refine wpAny_bind (wpAny_newObj_type ?_ (by show 1 ≤ _; rw [sizeLine_eq]; decide))
  have he1 := Heap.get?_push_of_some (argsObj [v]) he
  obtain ⟨F2, N2⟩ := news_upd (pre := [(s.heap.objs.size, argsObj [v])]) (post := news) (f := Obj.mapFields (·.setIfInBounds 0 (Value.ref s.heap.objs.size))) (o' := { cls := .ref 44, data := .fields (excFields s.heap.objs.size) }) F1 N1 (fun p hp => by rw [List.mem_singleton.mp hp]; exact hde) hne rfl rfl
  unfold Builtin.BaseException.bexcPut
  refine wpAny_bind (wpAny_bind (wpAny_field he1 rfl (x := .ref T1) rfl (wpAny_bind (wpAny_setField he1 rfl (show 0 < 6 by decide) ?_))))
  dsimp only
  refine wpAny_letGo ?_
  show wpAny _ _ _ _ _ _
  refine wpAny_pure ?_
  exact h _ _ F2 N2 (fun p hp => Heap.lt_size (N p (.tail _ hp)).1) hlt
end
end Mine
end
section
set_option maxRecDepth 100000
set_option maxHeartbeats 8000000
open PySem PySem.W PyProof.Rows
namespace Mine
local macro_rules | `(tactic| k_room) => `(tactic| ((try simp only [depth_under_make, depth_under_kw, depth_in1, depth_deeper, depth_caller]); (try dsimp only [ktrTop]); omega))
local macro_rules | `(tactic| k_units) => `(tactic| ((try simp only [units_in1, units_deeper, Around.mark_units, units_caller]); (try dsimp only [ktrTop]); omega))
local macro_rules | `(tactic| k_all) => `(tactic| assumption)
theorem meta_Exc : typeOf (.type "Exception") = pure (.type "type") := by kernel_rfl
theorem misused_t (w : World) (why : Str) (t : Tok) (dp un : Nat) (gd : Option (List Code)) (cn : Str) (cs : Scope) (a : Addr) (ccd : Value) (cl : List (Str × Addr)) (outer : List Env) (A₀ : Around) (base h₀ : Heap) (L : Addr) (m : Str → Option Value) (news : List (Addr × Obj)) (s : Shared)
    (p : Program) (loose : List Str) (mean : ExcName → Option Value) (mg mb : Str → Option Value) (Q E : Value → Shared → Prop)
    (B : Below A₀ base outer h₀) (F : Fr h₀ L s.heap m) (X : (hd.heap_39 w.params).In h₀) (N : News h₀ L s.heap news) (T : Top p loose mean mg mb h₀) (hk : cs.kind = .function)
    (hd : dp + 60 < recursionLimit) (hu : un + 300 < cLine)
    (hret : ∀ e dd T2 tk2 tk' h', Fr h₀ L h' m → News h₀ L h' ((dd, dictOf [whyE w.params tk2 (.str why t)] 1) :: (e, excObj dd #[.ref T2, .none, .none, .none, .bool false, .none]) :: news) → (∀ p ∈ news, p.1 < e) → e < dd → Q (.ref e) { s with heap := h', toks := tk' }) :
    wpAny (model PySem.Challenge.rw_nt0585_01.row.prog w) (ktrTop dp un gd cn cs L a ccd cl outer) (PySem.call (.ref 44) [.str why t]) Q E s := by
  revert X
  w_top off
  k_fill
  intro X
  have X1 := X.keeps F.keep
  refine m_call (h := s.heap) PySem.F.excBase_Exception X1 ?_ (by show 1 ≤ _; rw [sizeLine_eq]; decide)
  have F2 := (F.push (argsObj [.str why t])).push (bareExc s.heap.objs.size)
  have N2 := (N.push F (argsObj [.str why t])).push (F.push (argsObj [.str why t])) (bareExc s.heap.objs.size)
  have hnew : ∀ p ∈ news, p.1 < s.heap.objs.size + 1 := fun p hp => Nat.lt_succ_of_lt (Heap.lt_size (N p hp).1)
  rw [show (s.heap.push (argsObj [Value.str why t])).objs.size = s.heap.objs.size + 1 from Heap.size_push _ _] at N2
  refine wpAny_call ?_
  k_dflt ktr_enter
  k_steps
  refine' method_type ?F ?X ?m (by decide +kernel) ?e ?h ?_
  (case F => k_asm)
  (case X => k_asm)
  (case m => exact meta_Exc)
  (case e => k_dflt k_is)
  (case h => k_handed)
  k_steps
  rename Fr _ _ _ _ => kF
  rename News _ _ _ _ => kN
  have hne1 : ∀ p ∈ (s.heap.objs.size, argsObj [Value.str why t]) :: news, p.1 ≠ s.heap.objs.size + 1 := by
    intro p hp
    rcases List.mem_cons.mp hp with rfl | hp
    · exact Nat.ne_of_lt (Nat.lt_succ_self _)
    · exact Nat.ne_of_lt (hnew p hp)
  refine m_base_init (Frag.In.keeps (by k_asm) (Fr.keep kF)) kF kN hne1 ?_
  intro T2 h5 F5 N5 l5 l6
  clear kF kN
  k_steps
  have N6 : News _ _ h5 ((s.heap.objs.size + 1, ({ cls := .ref 44, data := .fields (excFields T2) } : Obj)) :: news) := News_sub N5 (fun p hp => by
    rcases List.mem_cons.mp hp with rfl | hp
    · exact .tail _ (.head _)
    · exact .tail _ (.tail _ (.tail _ hp)))
  clear N5
  refine m_setattr (Frag.In.keeps (by k_asm) (Fr.keep F5)) F5 N6 (fun p hp => hne1 p (.tail _ hp)) ?_
  intro dd t7 h7 tk7 F7 N7 l7
  clear F5 N6
  k_steps
  exact hret _ _ T2 _ _ _ (by assumption) (by assumption) hnew (l7 _ (.head _))
end Mine
end
section
set_option maxRecDepth 100000
set_option maxHeartbeats 8000000
open PySem PySem.W PyProof.Rows
namespace Mine
section
variable {M : Model} {A : Around} {E : Value → Shared → Prop} {env : Env} {s : Shared}
theorem m_raiseStmt {x : Sem Value} {Q : Flow → Shared → Prop} (hh : A.handled = none)
    (h : wpAny M A x (fun v s₁ => ∃ e dd T, v = .ref e ∧ s₁.heap.get? 44 = some mObj ∧ s₁.heap.get? e = some (excObj dd (excFields T)) ∧ E (.ref e) s₁) E s) :
    wpAny M A (raiseStmt env (some x) none) Q E s := by
  have hcB : (Value.ref 44 :: mBm).contains (.type "BaseException") = true := by decide
  unfold raiseStmt
  refine wpAny_bind (wpAny_mono h (fun v s₁ h₁ => ?_) fun _ _ x => x)
  obtain ⟨e, dd, t, rfl, hC, he, hE⟩ := h₁
  obtain ⟨hp, g, d, tk, os⟩ := s₁
  repeat (first | with_reducible refine wpAny_loadPart_at he ?_ | with_reducible refine wpAny_loadPart_at hC ?_ | (with_reducible refine wpAny_isSubtype_exc hC ?_; rw [hcB]) | wp_step)
  exact wpAny_raiseNew_none hh hE
theorem m_raise {exc : PySem.Expr} {pos : Pos} {Q : Flow → Shared → Prop} (hh : A.handled = none)
    (h : wpAny M A (eval exc env) (fun v s₁ => ∃ e dd T, v = .ref e ∧ s₁.heap.get? 44 = some mObj ∧ s₁.heap.get? e = some (excObj dd (excFields T)) ∧ E (.ref e) s₁) E s) :
    wpAny M A (exec (.Raise (some exc) none pos) env) Q E s := by
  rw [arm_exec_Raise]
  refine wpAny_bind (wpAny_standAt (m_raiseStmt hh ?_))
  exact wpAny_bind (wpAny_mono h (fun v s₁ h₁ => wpAny_bind (wpAny_standAt (wpAny_pure h₁))) fun _ _ x => x)
end
end Mine
end
section
set_option maxRecDepth 100000
set_option maxHeartbeats 8000000
open PySem PySem.W PyProof.Rows
namespace Mine
/-- what is said of a heap behind a step of the exception's: the old part, the frames, every record but the exception's own -/
structure After (base : Heap) (l : List Env) (h h' : Heap) : Prop where
  stay : base.StaysIn h'
  frames : h'.FunFrames base l
  slots : h.UpToSlots h'
def TracD (h base : Heap) (e dd : Addr) (fl : Value) : Prop :=
  ∃ oe vs T oT ts, h.get? e = some oe ∧ (oe.cls = .ref 44 ∧ oe.dict = some dd) ∧ oe.data = .fields vs ∧ vs[1]? = some (.ref T) ∧ base.get? T = none ∧ T ≠ e ∧ h.get? T = some oT ∧ oT.data = .fields ts ∧ ts[3]? = some fl
theorem dict_mapFields (o : Obj) (f : Array Value → Array Value) : (o.mapFields f).dict = o.dict := by
  obtain ⟨c, d, dt, sl⟩ := o; cases dt <;> rfl
section
variable {M : Model} {A : Around} {E : Value → Shared → Prop} {s : Shared} {base : Heap} {env : Env} {outer l : List Env} {L e dd : Addr} {Q : Unit → Shared → Prop}
theorem d_entry {oe : Obj} {vs : Array Value} {head : Value} {hadNext : Bool}
    (hfr : A.frames = some (env :: outer)) (hl : s.heap.FunFrames base (env :: outer)) (hf : env.frame = some L)
    (he : s.heap.get? e = some oe) (hc : oe.cls = .ref 44 ∧ oe.dict = some dd) (hkb : base.StaysIn s.heap) (hen : base.get? e = none) (hd : oe.data = .fields vs) (hsz : 1 < vs.size)
    (h : ∀ h', After base (env :: outer) s.heap h' → TracD h' base e dd (rawInt L) → Q () { s with heap := h' }) :
    wpAny M A (do let a ← frameOf env; let pl ← entryPlaceOf L hadNext; let b ← EntryCells.newEntry head a .none (rawInt L) .none pl; setField (.ref e) 1 b) Q E s := by
  have apart : ∀ b o, s.heap.get? b = some o → (∀ vs, o.data ≠ .fields vs) → b ≠ e := fun b o hb hn q => by
    subst q; rw [he] at hb; cases hb; exact hn vs hd
  have hene : e ∉ (env :: outer).filterMap (·.frame) := fun hm => by
    obtain ⟨_, o, ho, hn⟩ := hl.mem hm
    exact apart e o ho hn rfl
  refine wpAny_bind (wpAny_frameOf_fun hfr hl hf fun h₁ hs₁ => wpAny_bind (wpAny_entryPlaceOf fun pl hpl => ?_))
  unfold EntryCells.newEntry newFields
  refine wpAny_bind (wpAny_newObj_type ?_ (hpl.sizeOk5 _ _ _ _ _))
  generalize hT : ([head, .ref L, .none, rawInt L, .none] ++ (if pl.isEmpty then List.replicate 6 Value.none else pl)).toArray = ts
  have hts : ts[3]? = some (rawInt L) := by
    rw [← hT]
    first | (simp; done) | (rcases hpl with rfl | ⟨_, _, _, _, _, _, _, rfl⟩ <;> simp)
  have he₁ : h₁.get? e = some oe := (hs₁.2.1 e hene).trans he
  have he₂ := Heap.get?_push_of_some ({ cls := .type "traceback", dict := none, data := .fields ts } : Obj) he₁
  have hTe : h₁.objs.size ≠ e := Nat.ne_of_gt (Heap.lt_size he₁)
  refine wpAny_setField he₂ hd hsz (h _ ?_ ?_)
  · have keep : ∀ b o, b ≠ e → h₁.get? b = some o → ((h₁.push ({ cls := .type "traceback", dict := none, data := .fields ts } : Obj)).update e (Obj.mapFields (·.setIfInBounds 1 (Value.ref h₁.objs.size)))).get? b = some o := fun b o hbe hb => by
      rw [Heap.get?_update_other _ _ (Ne.symm hbe)]
      exact Heap.get?_push_of_some _ hb
    have slot : ∀ b o, s.heap.get? b = some o → (∀ vs, o.data ≠ .fields vs) → ∃ sl, ((h₁.push ({ cls := .type "traceback", dict := none, data := .fields ts } : Obj)).update e (Obj.mapFields (·.setIfInBounds 1 (Value.ref h₁.objs.size)))).get? b = some { o with slots := sl } := fun b o hb hn => by
      obtain ⟨sl, hs⟩ := hs₁.2.2 b o hb
      exact ⟨sl, keep b _ (apart b o hb hn) hs⟩
    refine ⟨fun b o hbo => ?_, hl.of_keeps fun b o hb hn => ?_, slot⟩
    · have h1 : h₁.get? b = some o := (hs₁.2.1 b fun hm => by rw [(hl.mem hm).1] at hbo; cases hbo).trans (hkb b o hbo)
      exact keep b o (fun q => by rw [q, hen] at hbo; cases hbo) h1
    · obtain ⟨sl, hs⟩ := slot b o hb hn
      exact ⟨_, hs, rfl⟩
  · have kb₁ : base.StaysIn h₁ := fun b o hbo => (hs₁.2.1 b fun hm => by rw [(hl.mem hm).1] at hbo; cases hbo).trans (hkb b o hbo)
    have hd₃ := Obj.data_mapFields hd (·.setIfInBounds 1 (Value.ref h₁.objs.size))
    refine ⟨_, _, h₁.objs.size, _, ts, Heap.get?_update_self _ he₂ (Obj.isFreed_of_fields hd₃), ⟨(Obj.cls_mapFields _ _).trans hc.1, (dict_mapFields _ _).trans hc.2⟩, hd₃, by simp [hsz], kb₁.fresh, hTe,
      (Heap.get?_update_other _ _ (Ne.symm hTe)).trans (Heap.get?_push_size h₁ rfl), rfl, hts⟩
theorem d_flight {fl : Value} (hkb : base.StaysIn s.heap) (hl : s.heap.FunFrames base l) (ht : TracD s.heap base e dd fl)
    (h : ∀ h', After base l s.heap h' → TracD h' base e dd .none → Q () { s with heap := h' }) : wpAny M A (setFlight (.ref e) none) Q E s := by
  obtain ⟨oe, vs, T, oT, ts, he, hc, hd, h1, hnT, hTe, hT, hdT, h3⟩ := ht
  have hsz3 : 3 < ts.size := (Array.getElem?_eq_some_iff.mp h3).1
  have other : ∀ b, b ≠ T → (s.heap.update T (Obj.mapFields (·.setIfInBounds 3 ((none : Option Addr).elim Value.none fun f => rawInt f)))).get? b = s.heap.get? b := fun b hb => Heap.get?_update_other _ _ (Ne.symm hb)
  have apart : ∀ b o, s.heap.get? b = some o → (∀ vs, o.data ≠ .fields vs) → b ≠ T := fun b o hb hn q => by
    subst q; rw [hT] at hb; cases hb; exact hn ts hdT
  unfold setFlight
  refine wpAny_bind (wpAny_field he hd h1 ?_)
  rw [if_pos (show (Value.ref T != Value.none) = true from by simp)]
  refine wpAny_setField hT hdT hsz3 (h _ ⟨fun b o hbo => (other b fun q => by rw [q, hnT] at hbo; cases hbo).trans (hkb b o hbo), hl.of_keeps fun b o hb hn => ⟨o, (other b (apart b o hb hn)).trans hb, rfl⟩,
    fun b o hb hn => ⟨o.slots, (other b (apart b o hb hn)).trans hb⟩⟩ ?_)
  exact ⟨oe, vs, T, _, _, (other e (Ne.symm hTe)).trans he, hc, hd, h1, hnT, hTe, Heap.get?_update_self _ hT (Obj.isFreed_of_fields (Obj.data_mapFields hdT _)), Obj.data_mapFields hdT _, by simp [hsz3]⟩
theorem d_note (hfr : A.frames = some (env :: outer)) (hl : s.heap.FunFrames base (env :: outer)) (hf : env.frame = some L) (ht : TracD s.heap base e dd .none) (hkb : base.StaysIn s.heap) (hen : base.get? e = none)
    (h : ∀ h', After base (env :: outer) s.heap h' → TracD h' base e dd (rawInt L) → Q () { s with heap := h' }) : wpAny M A (noteFrame (.ref e) env) Q E s := by
  obtain ⟨oe, vs, T, oT, ts, he, hc, hd, h1, hnT, hTe, hT, hdT, h3⟩ := ht
  unfold noteFrame
  simp only [hf]
  refine wpAny_bind (wpAny_field he hd h1 ?_)
  rw [if_pos (show (Value.ref T != Value.none) = true from by simp)]
  refine wpAny_bind (wpAny_field hT hdT h3 ?_)
  rw [if_neg (show ¬ ((Value.none == rawInt L) = true) from by simp [rawInt])]
  refine wpAny_bind (wpAny_setField hT hdT (Array.getElem?_eq_some_iff.mp h3).1 ?_)
  have other : ∀ b, b ≠ T → (s.heap.update T (Obj.mapFields (·.setIfInBounds 3 Value.none))).get? b = s.heap.get? b := fun b hb => Heap.get?_update_other _ _ (Ne.symm hb)
  have apart : ∀ b o, s.heap.get? b = some o → (∀ vs, o.data ≠ .fields vs) → b ≠ T := fun b o hb hn q => by
    subst q; rw [hT] at hb; cases hb; exact hn ts hdT
  refine d_entry hfr (hl.of_keeps fun b o hb hn => ⟨o, (other b (apart b o hb hn)).trans hb, rfl⟩) hf ((other e (Ne.symm hTe)).trans he) hc (fun b o hbo => (other b fun q => by rw [q, hnT] at hbo; cases hbo).trans (hkb b o hbo)) hen hd (Array.getElem?_eq_some_iff.mp h1).1
    fun h' a t => h h' ⟨a.stay, a.frames, fun b o hb hn => a.slots b o ((other b (apart b o hb hn)).trans hb) hn⟩ t
theorem d_leave {T0 : Addr} (hfr : A.frames = some (env :: outer)) (hl : s.heap.FunFrames base (env :: outer)) (hf : env.frame = some L) (he : s.heap.get? e = some (excObj dd (excFields T0))) (hkb : base.StaysIn s.heap) (hen : base.get? e = none)
    (h : ∀ h', After base outer s.heap h' → TracD h' base e dd .none → Q () { s with heap := h' }) : wpAny M A (leaving env (.ref e)) Q E s := by
  unfold leaving noteFrame
  simp only [hf]
  refine wpAny_bind (wpAny_bind (wpAny_field he rfl (x := .none) rfl ?_))
  rw [if_neg (by decide)]
  refine d_entry hfr hl hf he ⟨rfl, rfl⟩ hkb hen rfl (show 1 < 6 by decide) fun h1 a1 t1 => ?_
  refine d_flight a1.stay a1.frames t1 fun h2 a2 t2 => ?_
  obtain ⟨_, _, fr⟩ := a2.frames
  exact h h2 ⟨a2.stay, fr, a1.slots.trans a2.slots⟩ t2
end
end Mine
end
section
set_option maxRecDepth 100000
set_option maxHeartbeats 8000000
open PySem PySem.W PyProof.Rows
namespace Mine
local macro_rules | `(tactic| k_room) => `(tactic| ((try simp only [depth_under_make, depth_under_kw, depth_in1, depth_deeper, depth_caller]); (try dsimp only [ktrTop]); omega))
local macro_rules | `(tactic| k_units) => `(tactic| ((try simp only [units_in1, units_deeper, Around.mark_units, units_caller]); (try dsimp only [ktrTop]); omega))
local macro_rules | `(tactic| k_all) => `(tactic| assumption)
def RaisedD (base : Heap) (l : List Env) (e dd : Addr) (news : List (Addr × Obj)) (h : Heap) : Prop :=
  ∃ B, base.StaysIn B ∧ (∀ q ∈ news, B.get? q.1 = some q.2 ∧ base.get? q.1 = none) ∧ B.StaysIn h ∧ B.get? e = none ∧ h.FunFrames B l ∧ TracD h B e dd .none
abbrev sClosed : Str := Str.ofString "the stream is closed"
theorem leave_excD {M : Model} {A : Around} {E : Value → Shared → Prop} {s' : Shared} {base g : Heap} {outer : List Env} {L a e dd T0 : Addr} {m : Str → Option Value} {name : Str} {scope : Scope} {cd : Value} {Q : Unit → Shared → Prop} {od : Obj} {news : List (Addr × Obj)}
    (K : Below A base outer g) (F : Fr g L s'.heap m) (N : News g L s'.heap ((dd, od) :: (e, excObj dd (excFields T0)) :: news)) (hk : scope.kind = .function) (hne : ∀ q ∈ (dd, od) :: news, q.1 ≠ e)
    (hQ : ∀ h', RaisedD base outer e dd ((dd, od) :: news) h' → g.UpToSlots h' → Q () { s' with heap := h' }) :
    wpAny M (A.deeper (envOf name scope L a cd)) (leaving (envOf name scope L a cd) (.ref e)) Q E s' := by
  have K' := K.push (name := name) (a := a) (cd := cd) F hk
  have he := N _ (.tail _ (.head _))
  have ne : base.get? e = none := fresh_of_stays K.stays he.2.2
  have sub : ∀ q ∈ (dd, od) :: news, q ∈ (dd, od) :: (e, excObj dd (excFields T0)) :: news := fun q hq => by
    rcases List.mem_cons.mp hq with rfl | hq
    · exact .head _
    · exact .tail _ (.tail _ hq)
  have st : base.StaysIn (hideAll s'.heap (e :: (envOf name scope L a cd :: outer).filterMap (·.frame))) := fun b o q => hideAll_get _ (K'.stays b o q) fun hm => by
    rcases List.mem_cons.mp hm with rfl | hm
    · rw [ne] at q; cases q
    · rw [(K'.frames.mem hm).1] at q; cases q
  have hl : ∀ q ∈ (dd, od) :: news, (hideAll s'.heap (e :: (envOf name scope L a cd :: outer).filterMap (·.frame))).get? q.1 = some q.2 ∧ base.get? q.1 = none := fun q hq => by
    have nq := N q (sub q hq)
    refine ⟨hideAll_get _ nq.1 fun hm => ?_, fresh_of_stays K.stays nq.2.2⟩
    rcases List.mem_cons.mp hm with hm | hm
    · exact hne q hq hm
    obtain ⟨env, he, hf⟩ := List.mem_filterMap.mp hm
    rcases List.mem_cons.mp he with rfl | he
    · exact nq.2.1 (Option.some.inj hf).symm
    · obtain ⟨o, ho, _⟩ := (K.frames.mem (List.mem_filterMap.mpr ⟨env, he, hf⟩)).2
      rw [nq.2.2] at ho; cases ho
  exact d_leave K'.stack (funFrames_hide K'.frames fun env he b hb => .tail _ (List.mem_filterMap.mpr ⟨env, he, hb⟩)) rfl he.1 (fun b o q => of_hideAll _ q) (hideAll_none _ (.head _))
    fun h' A8 T8 => hQ h' ⟨_, st, hl, A8.stay, hideAll_none _ (.head _), A8.frames, T8⟩ ((Heap.UpToSlots.of_keeps F.keep).trans A8.slots)
section
local macro_rules | `(tactic| walk_at "exec Raise some none") => `(tactic| refine unmark ?_)
local macro_rules | `(tactic| walk_at "call ref") => `(tactic| ((with_reducible show wpAny _ _ (PySem.call (Value.ref 44) _) _ _ _); refine unmark ?_))
theorem feed_closed_t (w : World) (x dx sg er : Addr) (t1 t2 t3 t4 : Tok) (hx1 : dx < x) (hx2 : x < sg) (hx3 : sg < er) (txt : Str) (t : Tok)
    (dp un : Nat) (gd : Option (List Code)) (cn : Str) (cs : Scope) (a : Addr) (ccd : Value) (cl : List (Str × Addr)) (outer : List Env) (A₀ : Around) (base h₀ : Heap) (L : Addr) (m : Str → Option Value) (c₀ : FC) (tl₀ : List (Addr × Obj)) (s : Shared)
    (p : Program) (loose : List Str) (mean : ExcName → Option Value) (mg mb : Str → Option Value) (Q E : Value → Shared → Prop)
    (B : Below A₀ base outer h₀) (F : Fr h₀ L s.heap m) (X : (hd.heap_39 w.params).In h₀) (N : News h₀ L s.heap (SLed w.params x dx sg er t1 t2 t3 t4 true c₀ ++ tl₀)) (T : Top p loose mean mg mb h₀) (hk : cs.kind = .function)
    (hd : dp + 80 < recursionLimit) (hu : un + 400 < cLine)
    (hret : ∀ e dd tk2 tk3 h' tk', RaisedD base (envX cn cs L a ccd cl :: outer) e dd ((dd, dictOf [whyE w.params tk2 (.str sClosed tk3)] 1) :: (SLed w.params x dx sg er t1 t2 t3 t4 true c₀ ++ tl₀)) h' → h'.Ns L m → E (.ref e) { s with heap := h', toks := tk' }) :
    wpAny (model PySem.Challenge.rw_nt0585_01.row.prog w) (ktrTop dp un gd cn cs L a ccd cl outer) (PySem.call (.ref 95) [.ref x, .str txt t]) Q E s := by
  revert X
  w_top off
  k_fill
  intro X
  refine wpAny_call ?_
  have N1 : News h₀ L s.heap ((x, instObj 112 dx) :: (dx, dictOf (sEntries w.params t1 t2 t3 t4 sg true c₀.ret er) 4) :: (sg, listOf c₀.vs.toArray c₀.k) :: (er, listOf c₀.ws.toArray c₀.k2) :: tl₀) := N
  clear N
  k_dflt ktr_enter
  k_steps
  refine Mark.mk ?_

  refine' m_raise ?hh9 ?_
  (case hh9 => exact rfl)
  k_steps
  refine Mark.mk ?_

  rename Fr _ _ _ _ => kF
  rename News _ _ _ _ => kN
  refine' misused_t _ _ _ _ _ _ _ _ _ _ _ _ _ _ _ _ _ _ _ _ _ _ _ _ _ _ ?mB ?mF ?mX ?mN ?mT ?mk ?md ?mu ?_
  (case mB => k_asm)
  (case mF => k_asm)
  (case mX => k_asm)
  (case mN => k_asm)
  (case mT => k_asm)
  (case mk => exact rfl)
  (case md => (dsimp only [ktrTop]; omega))
  (case mu => (dsimp only [ktrTop]; omega))
  intro e dd T2 tk2 tk' h7 F7 N7 l1 l2
  clear kF kN
  dsimp only
  refine ⟨e, dd, T2, rfl, (Frag.In.keeps (by k_asm) F7.keep) _ _ (mObj_K w.params), (N7 _ (.tail _ (.head _))).1, ?_⟩
  k_unfold
  rename Fr h₀ L _ m => kG
  rename Below _ _ _ _ => kB
  refine leave_excD kB F7 N7 rfl ?hne ?_
  (case hne =>
    intro q hq
    rcases List.mem_cons.mp hq with rfl | hq
    · exact Nat.ne_of_gt l2
    · exact Nat.ne_of_lt (l1 q hq))
  intro h8 R8 U8
  exact hret e dd tk2 _ h8 _ R8 (U8.ns kG.ns)
end
end Mine
end
section
set_option maxRecDepth 100000
set_option maxHeartbeats 8000000
open PySem PySem.W PyProof.Rows
namespace Mine
theorem misused_in (P : Params) : nsIn (hd.heap_39 P) mainGlobals (Str.ofString "Misused") = some (some (.ref 44)) := by kernel_rfl
section
variable {prog : Program} {w : World} {A₀ : Around} {E : Value → Shared → Prop} {s' : Shared} {h₀ : Heap} {outer : List Env} {L a e dd : Addr} {m : Str → Option Value} {name : Str} {scope : Scope} {cd : Value} {cl : List (Str × Addr)}
  {n : Str} {b₀ : Stmt} {suite : List Stmt} {pos np : Pos} {rest : List ExceptHandler} {Q : Flow → Shared → Prop} {news : List (Addr × Obj)}
  {p : Program} {loose : List Str} {mg mb : Str → Option Value}
theorem news_D {B h' : Heap} {fl : Value} (hB : h₀.StaysIn B) (hl : ∀ q ∈ news, B.get? q.1 = some q.2 ∧ h₀.get? q.1 = none) (hen : B.get? e = none) (hst : B.StaysIn h') (hLB : B.get? L = none) (hns : h'.Ns L m) (ht : TracD h' B e dd fl) :
    ∃ oe, News h₀ L h' ((e, oe) :: news) ∧ oe.cls = .ref 44 ∧ oe.dict = some dd ∧ ∃ vs, oe.data = .fields vs := by
  obtain ⟨oe, vs, T, oT, ts, he, ⟨hc1, hc2⟩, hdt, _⟩ := ht
  obtain ⟨oL, es, ep, hoL, hLd, _⟩ := hns
  refine ⟨oe, fun q hq => ?_, hc1, hc2, vs, hdt⟩
  rcases List.mem_cons.mp hq with rfl | hq
  · refine ⟨he, fun z => ?_, fresh_of_stays hB hen⟩
    have z : e = L := z
    rw [z, hoL] at he
    cases he
    rw [hLd] at hdt; cases hdt
  · refine ⟨hst _ _ (hl q hq).1, fun z => ?_, (hl q hq).2⟩
    have := (hl q hq).1
    rw [z, hLB] at this; cases this
theorem caught_D (K : Below A₀ h₀ outer h₀) (hns : s'.heap.Ns L m) (hab : h₀.objs.size ≤ L) (R : RaisedD h₀ (envX name scope L a cd cl :: outer) e dd news s'.heap)
    (X : (hd.heap_39 w.params).In h₀) (T : TopRead p loose mg mb h₀)
    (k : ∀ h' oe tk, Fr h₀ L h' (fun y => if y = n then some (.ref e) else m y) → News h₀ L h' ((e, oe) :: news) → oe.cls = .ref 44 → oe.dict = some dd → (∃ vs, oe.data = .fields vs) →
      wpAny (model prog w) ((A₀.deeper (envX name scope L a cd cl)).mark (some (.ref e))) (execs (b₀ :: suite) (envX name scope L a cd cl))
        (fun f s₄ => wpAny (model prog w) (A₀.deeper (envX name scope L a cd cl)) (do bindName (envX name scope L a cd cl) n .none; unbindBehindTheSuite (envX name scope L a cd cl) n pos) (fun _ s₅ => Q f s₅) E s₄)
        (AsSuiteRaised (model prog w) ((A₀.deeper (envX name scope L a cd cl)).mark (some (.ref e))) (envX name scope L a cd cl) n pos (notedBy (model prog w) ((A₀.deeper (envX name scope L a cd cl)).mark (some (.ref e))) (envX name scope L a cd cl) (cameBackBy (model prog w) (A₀.deeper (envX name scope L a cd cl)) (envX name scope L a cd cl) E)))
        { s' with heap := h', toks := tk })
    (hk : scope.kind = .function := by rfl) (hlo : (envX name scope L a cd cl).kindOf n = some .local := by rfl) (hx : (envX name scope L a cd cl).kindOf (Str.ofString "Misused") = some .globalImplicit := by rfl) :
    wpAny (model prog w) (A₀.deeper (envX name scope L a cd cl)) (noteFrame (.ref e) (envX name scope L a cd cl))
      (fun _ s₂ => wpAny (model prog w) (A₀.deeper (envX name scope L a cd cl)) (setFlight (.ref e) none) (fun _ s₃ =>
        wpAny (model prog w) (A₀.deeper (envX name scope L a cd cl)) (handleBy (.ref e) (envX name scope L a cd cl) (.ExceptHandler (some (.Name (Str.ofString "Misused") np)) (some n) (b₀ :: suite) pos :: rest)) Q E s₃) E s₂) E s' := by
  obtain ⟨B, hB, hl, hst, hen, hfr, htr⟩ := R
  have hLB : B.get? L = none := by
    obtain ⟨_, ⟨L', _, hf, hn', _⟩, _⟩ := hfr
    obtain rfl : L = L' := Option.some.inj hf
    exact hn'
  refine d_note (Around.frames_deeper K.stack) hfr rfl htr hst hen fun h1 a1 t1 => ?_
  refine d_flight (l := envX name scope L a cd cl :: outer) a1.stay a1.frames t1 fun h2 a2 t2 => ?_
  have F2 : Fr h₀ L h2 m := ⟨a2.slots.ns (a1.slots.ns hns), fun b o q => a2.stay b o (hB b o q), hab⟩
  obtain ⟨oe, N2, c1, c2, vs, c3⟩ := news_D hB hl hen a2.stay hLB F2.ns t2
  refine wpAny_handleBy_cons (codeAny_handlers_test (nameX_K F2 X T (misused_in w.params) ?_ hk hx rfl)) (by intro q; cases q)
  have hC : h2.get? 44 = some mObj := (X.keeps F2.keep) _ _ (mObj_K w.params)
  refine wpAny_excMatches_sub_self hC (N2 _ (.head _)).1 c1 (by decide) (codeAny_handlers_suite_as ?_)
  refine d_flight (l := envX name scope L a cd cl :: outer) a2.stay a2.frames t2 fun h3 a3 t3 => ?_
  have F3 : Fr h₀ L h3 m := ⟨a3.slots.ns F2.ns, fun b o q => a3.stay b o (hB b o q), hab⟩
  obtain ⟨oe3, N3, d1, d2, d3⟩ := news_D hB hl hen a3.stay hLB F3.ns t3
  refine storeX_L F3 N3 (fun h4 F4 N4 => ?_) hk hlo
  exact k h4 oe3 _ F4 N4 d1 d2 d3
end
end Mine
end
section
set_option maxRecDepth 100000
set_option maxHeartbeats 8000000
open PySem PySem.W PyProof.Rows
namespace Mine
theorem m_getattribute (P : Params) : findIn (hd.heap_39 P) (.ref 44) "__getattribute__" = some (some (.builtin "BaseException.__getattribute__")) := by kernel_rfl
theorem m_nogetattr (P : Params) : findIn (hd.heap_39 P) (.ref 44) "__getattr__" = some none := by kernel_rfl
theorem m_find_why (P : Params) (t : Tok) (v : Value) : findObj (hd.heap_39 P) 44 (some (dictOf [whyE P t v] 1)) "why" = some (.value v) := by kernel_rfl
section
variable {prog : Program} {w : World} {A : Around} {E : Value → Shared → Prop} {s : Shared} {h₀ : Heap} {L e dd : Addr} {m : Str → Option Value} {news : List (Addr × Obj)} {Q : Value → Shared → Prop}
theorem m_check_ga {nameV : Value} {oe : Obj} {h : Heap} {g d t os} {Q : Unit → Shared → Prop} (hC : h.get? 44 = some mObj) (he : h.get? e = some oe) (hc : oe.cls = .ref 44)
    (hq : Q () ⟨h, g, d, t, os⟩) : wpAny (model prog w) A (checkBuiltinCall "BaseException.__getattribute__" ⟨[.ref e, nameV], []⟩) Q E ⟨h, g, d, t, os⟩ := by
  have hk : builtinKind "BaseException.__getattribute__" = some .slot := by decide +kernel
  have hsplit : splitId "BaseException.__getattribute__" = some ("BaseException", "__getattribute__") := by decide +kernel
  have hcB : (Value.ref 44 :: mBm).contains (.type "BaseException") = true := by decide
  have ha := F.args_bexc_ga (.ref e) nameV
  simp only [checkBuiltinCall, hk, hsplit]
  refine wpAny_bind ?_
  · unfold isInstance
    repeat (first | (with_reducible refine wpAny_loadPart_at he ?_; rw [hc]) | (with_reducible refine wpAny_isSubtype_exc hC ?_; rw [hcB]) | wp_step)
    exact hq
theorem get_why {oe : Obj} {t u : Tok} {why : Str} {expr : Bool} (F : Fr h₀ L s.heap m) (X : (hd.heap_39 w.params).In h₀) (N : News h₀ L s.heap news) (m1 : (e, oe) ∈ news) (m2 : (dd, dictOf [whyE w.params t (.str why u)] 1) ∈ news)
    (c1 : oe.cls = .ref 44) (c2 : oe.dict = some dd) (c3 : ∃ vs, oe.data = .fields vs) (h : Q (.str why u) { s with toks := s.toks + 1 }) : wpAny (model prog w) A (getAttr (.ref e) (Str.ofString "why") expr) Q E s := by
  obtain ⟨vs, c3⟩ := c3
  have I : InstAt s.heap e oe 44 (some (dictOf [whyE w.params t (.str why u)] 1)) := by
    refine ⟨(N _ m1).1, c1, ?_, ?_⟩
    · unfold notCls; rw [c3]
    · rw [c2]; exact (N _ m2).1
  have X1 := X.keeps F.keep
  obtain ⟨hp, g, d, tk, os⟩ := s
  have hC : hp.get? 44 = some mObj := X1 _ _ (mObj_K w.params)
  have L0 := I.type (M := model prog w)
  have L1 := looks_findIn (M := model prog w) X1 (m_getattribute w.params)
  have L2 := looks_findIn (M := model prog w) X1 (m_nogetattr w.params)
  have L3 := looks_find (M := model prog w) X1 I (m_find_why w.params t _)
  unfold getAttr getAttrBy
  refine wpAny_bind (wpAny_mkText (wpAny_holding (wpAny_bind (L0.at (wpAny_bind (L1.at ?_))))))
  dsimp only
  rw [if_neg (by decide +kernel)]
  unfold getAttrByItsOwn hookBefore
  refine wpAny_bind ?_
  rw [if_pos (show onTheHeap (.ref 44) = true from rfl)]
  refine L2.at ?_
  refine wpAny_bind (wpAny_attempt (wpAny_holding ?_))
  unfold callGetattribute
  rw [if_neg (by cases expr <;> decide)]
  have FB := PySem.F.attrBase_Exception
  unfold boundAndCalled
  rw [FB.ga.bind (.ref e)]
  refine wpAny_bind (wpAny_pure ?_)
  dsimp only
  show wpAny _ _ (PySem.call (.builtin "BaseException.__getattribute__") [.ref e, .str (Str.ofString "why") tk]) _ _ _
  refine wpAny_call (codeAny_call_builtin FB.ga.plain PySem.F.entry_bexc_ga (m_check_ga hC I.at_ c1 ?_))
  unfold Builtin.«object.__getattribute__»
  refine wpAny_bind (wpAny_pure (wpAny_bind (wpAny_pure (wpAny_bind (L0.at (wpAny_bind (L3.at ?_)))))))
  refine wpAny_pure ?_
  show wpAny _ _ (handedOut (Value.str why u)) _ _ _
  exact wpAny_pure h
end
end Mine
end
section
open PySem PySem.W PyProof.Rows
set_option maxRecDepth 100000
set_option maxHeartbeats 8000000
namespace Mine
local macro_rules | `(tactic| k_room) => `(tactic| ((try simp only [depth_under_make, depth_under_kw, depth_in1, depth_deeper, depth_caller]); (try dsimp only [ktrTop]); omega))
local macro_rules | `(tactic| k_units) => `(tactic| ((try simp only [units_in1, units_deeper, Around.mark_units, units_caller]); (try dsimp only [ktrTop]); omega))
local macro_rules | `(tactic| k_all) => `(tactic| assumption)
local macro_rules | `(tactic| k_mem) => `(tactic| assumption)
local macro_rules | `(tactic| size_fits) => `(tactic| (rw [List.size_toArray, sizeLine_eq]; omega))
theorem sgs_ok {l : List Nat} (h : ∀ c ∈ l, c < 1114112) : ∀ d ∈ l.map sgD, kqdOk 8 d = true := by
  intro d hd
  obtain ⟨c, hc, rfl⟩ := List.mem_map.mp hd
  have hc := h c hc
  show PyData.strOk ⟨#[c]⟩ = true
  simp [PyData.strOk]
  omega
theorem ers_ok {l : List (Str × Nat)} (h : ∀ e ∈ l, PyData.strOk e.1 = true) : ∀ d ∈ l.map erD, kqdOk 8 d = true := by
  intro d hd
  obtain ⟨e, he, rfl⟩ := List.mem_map.mp hd
  have he := h e he
  simp [erD, kqdOk, he]
theorem kqd_ne_same {prog : Program} {w : World} {A : Around} {E : Value → Shared → Prop} {s : Shared} {h₀ : Heap} {L a b : Addr} {news n₁ n₂ : List (Addr × Obj)} {oa ob : Obj} {xs ys : List Value} {ka kb : Nat} {ds es : List Dat} {Q : Value → Shared → Prop}
    (N : News h₀ L s.heap news) (ma : (a, oa) ∈ news) (ca : oa.cls = .type "list") (da : oa.data = .seq xs.toArray ka) (Da : DatAll n₁ xs ds) (sa : ∀ p ∈ n₁, p ∈ news)
    (mb : (b, ob) ∈ news) (cb : ob.cls = .type "list") (db : ob.data = .seq ys.toArray kb) (Db : DatAll n₂ ys es) (sb : ∀ p ∈ n₂, p ∈ news)
    (ha : ∀ d ∈ ds, kqdOk 8 d = true) (hb : ∀ d ∈ es, kqdOk 8 d = true) (hu : A.units + 64 < cLine) (e : ds = es) (h : Q (.bool false) s) : wpAny (model prog w) A (compareOp .NotEq (.ref a) (.ref b)) Q E s :=
  kqd_ne N ma ca da Da sa mb cb db Db sb ha hb hu (by subst e; simp only [decide_true, Bool.not_true]; exact h)
theorem DatAll_take {news : List (Addr × Obj)} : ∀ {vs : List Value} {ds : List Dat} (k : Nat), DatAll news vs ds → DatAll news (vs.take k) (ds.take k)
  | _, _, 0, _ => .nil
  | _, _, _ + 1, .nil => .nil
  | _, _, k + 1, .cons h r => .cons h (DatAll_take k r)
section
variable {prog : Program} {w : World} {A : Around} {E : Value → Shared → Prop} {s : Shared} {h₀ : Heap} {L l : Addr} {m : Str → Option Value} {news : List (Addr × Obj)} {value slice : PySem.Expr} {vs : List Value} {Q : Value → Shared → Prop}
theorem slice_upto {k n : Nat} {u : Tok} (F : Fr h₀ L s.heap m) (N : News h₀ L s.heap news) (hm : (l, listOf vs.toArray n) ∈ news) (hk : k ≤ vs.length)
    (h : ∀ D h', Fr h₀ L h' m → News h₀ L h' ((D, listOf (vs.take k).toArray 0) :: news) → (∀ p ∈ news, p.1 < D) → Q (.ref D) { s with heap := h' })
    (hs : subscripted slice false (.ref l) (.ref s.heap.objs.size) = operate [.ref s.heap.objs.size, .ref l] (getItem (.ref l) (.ref s.heap.objs.size))) (ht : ∀ r, letTemporaryGo value (.ref l) r = pure ()) (hz : vs.toArray.size ≤ sizeLine) :
    wpAny (model prog w) A (subscriptTail value slice (.ref l) (.ref s.heap.objs.size)) Q E { s with heap := s.heap.push { cls := .type "slice", data := .fields #[.none, .int (k : Int) u, .none] } } := by
  refine kms_slice_lit F N (isList_of N hm) IsPart.none (IsPart.int _ _) ?_ h hs ht hz
  have e1 : kms_lo none vs.length = 0 := rfl
  have e2 : kms_hi (some (k : Int)) vs.length = k := by
    unfold kms_hi
    simp only
    rw [if_neg (by omega), Int.toNat_natCast]
    omega
  show kms_pick vs none (some (k : Int)) = vs.take k
  rw [kms_pick, e1, e2]
  rfl
theorem slice_upto' {hp : Heap} {g : Array GenState} {d : Drawn} {tk : Nat} {os : OsState} {k n : Nat} {u : Tok} (F : Fr h₀ L hp m) (N : News h₀ L hp news) (hm : (l, listOf vs.toArray n) ∈ news) (hk : k ≤ vs.length)
    (h : ∀ D h', Fr h₀ L h' m → News h₀ L h' ((D, listOf (vs.take k).toArray 0) :: news) → (∀ p ∈ news, p.1 < D) → Q (.ref D) ⟨h', g, d, tk, os⟩)
    (hs : subscripted slice false (.ref l) (.ref hp.objs.size) = operate [.ref hp.objs.size, .ref l] (getItem (.ref l) (.ref hp.objs.size))) (ht : ∀ r, letTemporaryGo value (.ref l) r = pure ()) (hz : vs.toArray.size ≤ sizeLine) :
    wpAny (model prog w) A (subscriptTail value slice (.ref l) (.ref hp.objs.size)) Q E ⟨hp.push { cls := .type "slice", data := .fields #[.none, .int (k : Int) u, .none] }, g, d, tk, os⟩ :=
  slice_upto (s := ⟨hp, g, d, tk, os⟩) F N hm hk h hs ht hz
end
noncomputable def pickF {α : Type} (b : Nat → Bool) : Nat → List α → List α
  | _, [] => []
  | i, a :: r => if b i then a :: pickF b (i + 1) r else pickF b (i + 1) r
theorem pickF_filter {α β : Type} (b : Nat → Bool) (p : α → Bool) (f : α → β) : ∀ (l : List α) (j : Nat), (∀ i e, l[i]? = some e → b (j + i) = p e) → pickF b j (l.map f) = (l.filter p).map f
  | [], _, _ => rfl
  | a :: r, j, h => by
    have h0 : b j = p a := h 0 a rfl
    have ih := pickF_filter b p f r (j + 1) fun i e he => by have := h (i + 1) e he; rwa [show j + (i + 1) = j + 1 + i by omega] at this
    rw [List.map_cons, pickF, ih, h0, List.filter_cons]
    cases p a <;> rfl
theorem DatAll_pick {news : List (Addr × Obj)} (b : Nat → Bool) : ∀ {vs : List Value} {ds : List Dat} (i : Nat), DatAll news vs ds → DatAll news (pickF b i vs) (pickF b i ds)
  | _, _, _, .nil => .nil
  | _, _, i, .cons h r => by
    simp only [pickF]
    split
    · exact .cons h (DatAll_pick b (i + 1) r)
    · exact DatAll_pick b (i + 1) r
def KeepC (h₀ : Heap) (L : Addr) (m : Str → Option Value) (s : Shared) (I : Addr) (oI : Obj) (C : Addr) (oC : Obj) (D : Addr) (ys : List Value) (news : List (Addr × Obj)) (s' : Shared) : Prop :=
  ∃ h' tk', s' = { s with heap := h', toks := tk' } ∧ Fr h₀ L h' m ∧ News h₀ L h' ((I, oI) :: (C, oC) :: (D, LCg.lst ys) :: news)
theorem comp_keep {prog : Program} {w : World} {A : Around} {h₀ : Heap} {L : Addr} {m : Str → Option Value} {env : Env} {ct elt : PySem.Expr} {x : Str} {scope : Scope} {cl : List (Str × Addr)} {s : Shared} {S : List (Addr × Obj) → Prop} {Fin : List Value → List (Addr × Obj) → Prop} {news : List (Addr × Obj)} {vs : List Value} (b : Nat → Bool) (hS : S news)
    (turn : ∀ i v I oI C oC D m₂ ys h tk (E' : Value → Shared → Prop), vs[i]? = some v → LCg.NsObj oC m₂ → m₂ x = some v → Fr h₀ L h m → News h₀ L h ((I, oI) :: (C, oC) :: (D, LCg.lst ys) :: news) → LCg.Off3 I C D news →
      wpAny (model prog w) A (isTrue ct (compEnvC scope cl C env) (eval ct (compEnvC scope cl C env))) (fun ok s' => if ok = true then
        wpAny (model prog w) A (eval elt (compEnvC scope cl C env)) (fun y s'' => b i = true ∧ y = v ∧ KeepC h₀ L m s I oI C oC D ys news s'') E' s'
        else b i = false ∧ KeepC h₀ L m s I oI C oC D ys news s') E' { s with heap := h, toks := tk })
    (fin : Fin (pickF b 0 vs) news) : LCt.CompRestT prog w A h₀ L m env ct elt x scope cl s S (fun i v => vs.toArray[i]? = some v) Fin vs.toArray.size 0 [] news := by
  have key : ∀ (k i : Nat) (ys : List Value), i + k = vs.length → Fin (ys ++ pickF b i (vs.drop i)) news → LCt.CompRestT prog w A h₀ L m env ct elt x scope cl s S (fun i v => vs.toArray[i]? = some v) Fin k i ys news := by
    intro k
    induction k with
    | zero =>
      intro i ys hi hf
      rw [List.drop_of_length_le (by omega)] at hf
      rw [pickF, List.append_nil] at hf
      exact LCt.CompRestT.zero hf
    | succ k ih =>
      intro i ys hi hf
      have hil : i < vs.length := by omega
      rw [List.drop_eq_getElem_cons hil, pickF] at hf
      refine LCt.CompRestT.succ ?_
      intro v I oI C oC D m₂ h tk E' hv hC hx F N off ne
      have hv' : vs[i]? = some v := by simpa using hv
      have hvi : vs[i] = v := by rw [List.getElem?_eq_getElem hil] at hv'; exact Option.some.inj hv'
      rw [hvi] at hf
      refine wpAny_mono (turn i v I oI C oC D m₂ ys h tk E' hv' hC hx F N off) (fun ok s₂ hq => ?_) fun _ _ e => e
      cases ok with
      | true =>
        simp only [if_true] at hq ⊢
        refine wpAny_mono hq (fun y s₃ hy => ?_) fun _ _ e => e
        obtain ⟨hb, rfl, h', tk', rfl, F', N'⟩ := hy
        rw [hb, if_pos rfl] at hf
        exact LCg.CompEnd.intro F' N' news (fun _ hp => hp) off hS (ih (i + 1) (ys ++ [y]) (by omega) (by rw [List.append_assoc]; exact hf))
      | false =>
        simp only [Bool.false_eq_true, if_false] at hq ⊢
        obtain ⟨hb, h', tk', rfl, F', N'⟩ := hq
        rw [hb, if_neg (by decide)] at hf
        exact LCg.CompEnd.intro F' N' news (fun _ hp => hp) off hS (ih (i + 1) ys (by omega) hf)
  exact key _ 0 [] (by simp) (by simpa using fin)
section
local macro_rules | `(tactic| walk_at "call ref") => `(tactic| ((with_reducible show wpAny _ _ (PySem.call (Value.ref 158) _) _ _ _); k_dflt (refine' tell_use (lines_t _ _ _) ?uB ?uF ?uX ?uN ?uT ?uk ?ud ?uu ?up ?_; (case uB => k_asm); (case uF => k_asm); (case uX => k_asm); (case uN => k_asm); (case uT => k_asm); (case uk => exact rfl); (case ud => k_room); (case uu => k_units); (case up => exact ⟨by assumption, by assumption⟩)); intro v9 news9 h9 tk9 F9 N9 hP9; obtain ⟨e9, t9, e8⟩ := hP9; subst e9; subst e8))
local macro_rules | `(tactic| walk_at "subscriptTail Name Slice ref ref") => `(tactic| (k_dflt (refine' slice_upto' ?F ?N ?m ?k ?_ ?s ?t ?z; (case F => k_asm); (case N => k_asm); (case m => k_mem); (case k => omega); (case s => with_unfolding_all rfl); (case t => (intro _; with_unfolding_all rfl)); (case z => (rw [List.size_toArray, sizeLine_eq]; omega))); intro D5 h5 F5 N5 l5; (have l6 := l5); (try k_lt l5); (try k_sweep)))
local macro_rules | `(tactic| walk_at "compareOp NotEq ref ref") => `(tactic| refine unmark ?_)
local macro_rules | `(tactic| walk_at "CompSrcT") => `(tactic| refine unmark ?_)
local macro_rules | `(tactic| walk_at "eval ListComp") => `(tactic| refine unmark ?_)
local macro_rules | `(tactic| walk_at "call builtin:len") => `(tactic| ((with_reducible show wpAny _ _ (PySem.call (Value.builtin "len") [Value.ref _]) _ _ _); k_dflt (refine' len_made ?lN ?lm ?li ?la ?_; (case lN => k_asm); (case lm => k_mem); (case li => with_reducible assumption); (case la => omega)); intro t9 k9))
theorem is_right_t (w : World) (x dx sg er : Addr) (t1 t2 t3 t4 : Tok) (hx1 : dx < x) (hx2 : x < sg) (hx3 : sg < er) (closed : Bool) (txt : Str) (t : Tok) (sl el : Addr) (svs evs : List Value) (k1 k2 : Nat) (signs : List Nat) (errs : List (Str × Nat)) (st : St)
    (hl1 : txt.length ≤ 18) (hl2 : (Txt.replace txt (Str.ofString "\r\n") (Str.ofString "\n")).length ≤ 18) (hl3 : signs.length ≤ 50) (hl4 : errs.length ≤ 50) (many : Nat) (hm : (linesOf txt).length = many)
    (hm1 : st.sgs = signs.take many) (hm2 : many ≤ signs.length) (hv1 : ∀ c ∈ signs, c < 1114112) (hv2 : ∀ e ∈ errs, PyData.strOk e.1 = true) (hm3 : st.errs = errs.filter (fun e => decide (e.2 < many))) (hm4 : st.ret = (Txt.slice txt (some (-1)) none == Str.ofString "\r"))
    (dp un : Nat) (gd : Option (List Code)) (cn : Str) (cs : Scope) (a : Addr) (ccd : Value) (cl : List (Str × Addr)) (outer : List Env) (A₀ : Around) (base h₀ : Heap) (L : Addr) (m : Str → Option Value) (c₀ : FC) (tl₀ : List (Addr × Obj)) (s : Shared)
    (p : Program) (loose : List Str) (mean : ExcName → Option Value) (mg mb : Str → Option Value) (Q E : Value → Shared → Prop)
    (B : Below A₀ base outer h₀) (F : Fr h₀ L s.heap m) (X : (hd.heap_39 w.params).In h₀) (N : News h₀ L s.heap (SLed w.params x dx sg er t1 t2 t3 t4 closed c₀ ++ tl₀)) (T : Top p loose mean mg mb h₀) (hk : cs.kind = .function)
    (hd : dp + 60 < recursionLimit) (hu : un + 300 < cLine) (hoff : OwnOff tl₀ [x, dx, sg, er]) (hS : SFacts st tl₀ c₀)
    (hsl : (sl, listOf svs.toArray k1) ∈ tl₀) (hsd : DatAll tl₀ svs (signs.map sgD)) (hel : (el, listOf evs.toArray k2) ∈ tl₀) (hed : DatAll tl₀ evs (errs.map erD))
    (hret : ∀ h' tk', Fr h₀ L h' m → News h₀ L h' (SLed w.params x dx sg er t1 t2 t3 t4 closed c₀ ++ tl₀) → Q (.bool true) { s with heap := h', toks := tk' }) :
    wpAny (model PySem.Challenge.rw_nt0585_01.row.prog w) (ktrTop dp un gd cn cs L a ccd cl outer) (PySem.call (.ref 163) [.ref x, .str txt t, .ref sl, .ref el]) Q E s := by
  revert X
  w_top off
  k_fill
  intro X
  k_lt2 hx1
  k_lt2 hx2
  k_lt2 hx3
  refine wpAny_call ?_
  have N1 : News h₀ L s.heap ((x, instObj 112 dx) :: (dx, dictOf (sEntries w.params t1 t2 t3 t4 sg closed c₀.ret er) 4) :: (sg, listOf c₀.vs.toArray c₀.k) :: (er, listOf c₀.ws.toArray c₀.k2) :: tl₀) := N
  clear N
  obtain ⟨hA, hB, hr⟩ := hS
  have hvn : c₀.vs.length = (linesOf txt).length := by rw [hA.length, List.length_map, hm1, List.length_take, hm]; omega
  have hsn : svs.length = signs.length := by rw [hsd.length, List.length_map]
  k_dflt (refine' code_defC ?k1 ?k2 ?k3 ?k4 ?k5 ?kA ?kF ?kK ?k6 ?k7 ?k8 ?k9 ?kB ?kD ?_ ?c2 ?c3 ?c4; (case kA => exact rfl); (case kF => exact rfl); (case kK => assumption); (case k1 => k_asm); (case k2 => k_asm); (case k3 => k_asm); (case k4 => k_asm); (case k5 => k_asm); (case k6 => k_is); (case k7 => k_is); (case k8 => k_room); (case k9 => exact BindsTo.of_eq rfl); (case kB => exact rfl); (case kD => decide +kernel); (case c2 => exact rfl); (case c3 => exact rfl); (case c4 => exact rfl); k_whole; intro g' L' h' tk' cells' FG' F' N' Y' B' X' T' l1; (have l0 := fun p hp => Nat.ne_of_lt (Nat.lt_succ_of_lt (l1 p hp))); (try k_lt l1); k_cells Y'; (try simp only [List.cons_append, List.nil_append] at N'); (try dsimp only); (try k_lift B'); (try k_fold))
  k_steps
  refine Mark.mk ?_
  refine kqd_ne_same (by k_asm) (by k_mem) rfl rfl hA (fun _ hp => .tail _ (.tail _ (.tail _ (.tail _ (.tail _ (.tail _ hp)))))) (.head _) rfl rfl (DatAll_take (linesOf txt).length hsd) (fun _ hp => .tail _ (.tail _ (.tail _ (.tail _ (.tail _ (.tail _ hp)))))) ?ok1 ?ok2 ?room ?same ?_
  case ok1 => exact sgs_ok fun c hc => hv1 c (by rw [hm1] at hc; exact List.mem_of_mem_take hc)
  case ok2 => exact fun d hd => sgs_ok hv1 d (List.mem_of_mem_take hd)
  case room => k_units
  case same => rw [hm, hm1, List.map_take]
  k_steps
  · exact absurd rfl ‹(_ : Int) ≠ _›
  refine Mark.mk ?_
  refine LCt.ListComp_T (F₀ := by k_asm) (by with_unfolding_all rfl) (by decide) (by rfl) (by decide) (by rfl) ?_
  k_steps
  refine Mark.mk ?_
  have hen : evs.length = errs.length := by rw [hed.length, List.length_map]
  refine LCt.CompSrcT.ledger (by rfl) (by k_asm) (by k_asm) (.tail _ (.tail _ (.tail _ (.tail _ (.tail _ (.tail _ hel)))))) (by rw [List.size_toArray, sizeLine_eq]; omega) ?_
  intro g9
  refine comp_keep (fun i => match errs[i]? with | some e => decide (e.2 < (linesOf txt).length) | none => false) (.inr ⟨_, .tail _ (.tail _ (.tail _ (.tail _ (.tail _ (.tail _ hel))))), rfl, _, rfl⟩) ?turn ?fin
  case turn =>
    intro i v I oI C oC D m₂ ys h tk1 E' hv hC hx F5 N5 off
    have hil : i < errs.length := by rw [← hen]; exact (List.getElem?_eq_some_iff.mp hv).1
    obtain ⟨v', hv', hD⟩ := hed.get (k := i) (by rw [List.length_map]; exact hil)
    have ev : v' = v := by rw [hv] at hv'; exact (Option.some.inj hv').symm
    rw [ev, List.getElem_map] at hD
    have he? : errs[i]? = some errs[i] := List.getElem?_eq_getElem hil
    obtain ⟨⟨ec, ep⟩, hee⟩ : ∃ e, e = errs[i] := ⟨_, rfl⟩
    rw [← hee] at hD he?
    rw [he?]
    unfold erD at hD
    cases hD with
    | tuple hm9 hd9 =>
    cases hd9 with
    | cons ha9 hd9 =>
    cases ha9
    cases hd9 with
    | cons hb9 hd9 =>
    cases hb9
    cases hd9
    dsimp only
    show wpAny _ _ _ _ _ _
    k_fold
    k_steps
    · exact ⟨_, _, rfl, by assumption, by assumption⟩
    · exact decide_eq_false (by omega)
    · exact ⟨_, _, rfl, by assumption, by assumption⟩
  case fin =>
    intro D9 h9 tk9 F9 N9 o9
    dsimp only
    show wpAny _ _ _ _ _ _
    k_fold
    refine kqd_ne_same N9 (.tail _ (.tail _ (.tail _ (.tail _ (.tail _ (.tail _ (.head _))))))) rfl rfl hB (fun _ hp => .tail _ (.tail _ (.tail _ (.tail _ (.tail _ (.tail _ (.tail _ hp))))))) (.head _) rfl rfl (DatAll_pick _ 0 hed) (fun _ hp => .tail _ (.tail _ (.tail _ (.tail _ (.tail _ (.tail _ (.tail _ hp))))))) ?ok1 ?ok2 ?room ?same ?_
    case same =>
      rw [pickF_filter _ (fun e => decide (e.2 < many)) erD errs 0, hm3]
      intro i e he
      rw [Nat.zero_add, he, hm]
    case room => k_units
    case ok1 => exact ers_ok fun e he => hv2 e (by rw [hm3] at he; exact (List.mem_filter.mp he).1)
    case ok2 =>
      rw [pickF_filter _ (fun e => decide (e.2 < many)) erD errs 0]
      · exact ers_ok fun e he => hv2 e (List.mem_filter.mp he).1
      · intro i e he
        rw [Nat.zero_add, he, hm]
    k_steps
    rw [hr, hm4, beq_self_eq_true]
    exact hret _ _ (by assumption) (News_sub (by assumption) fun _ hp => .tail _ (.tail _ (.tail _ hp)))
end
end Mine
end
section
open PySem PySem.W PyProof.Rows
set_option maxRecDepth 100000
set_option maxHeartbeats 8000000
namespace Mine
local macro_rules | `(tactic| k_room) => `(tactic| ((try simp only [depth_under_make, depth_under_kw, depth_in1, depth_deeper, depth_caller]); (try dsimp only [ktrTop]); omega))
local macro_rules | `(tactic| k_units) => `(tactic| ((try simp only [units_in1, units_deeper, Around.mark_units, units_caller]); (try dsimp only [ktrTop]); omega))
local macro_rules | `(tactic| k_all) => `(tactic| assumption)
local macro_rules | `(tactic| k_mem) => `(tactic| assumption)
local macro_rules | `(tactic| size_fits) => `(tactic| (rw [List.size_toArray, sizeLine_eq]; omega))
noncomputable def nthS : List Stmt → Nat → Stmt
  | [], _ => .Pass ⟨0, 0, 0, 0⟩
  | a :: _, 0 => a
  | _ :: r, n + 1 => nthS r n
def bodyS : Stmt → List Stmt
  | .FunctionDef _ _ body _ _ _ _ _ _ _ => body
  | .For _ _ body _ _ => body
  | _ => []
def scopeS : Stmt → Scope
  | .FunctionDef _ _ _ _ _ _ scope _ _ _ => scope
  | _ => default
noncomputable def lawS : Stmt := nthS PySem.Challenge.pw_nt0585_01.main.body 18
noncomputable def lawScope : Scope := scopeS lawS
noncomputable def lawBody : List Stmt := bodyS lawS
noncomputable def wayBody : List Stmt := bodyS (nthS lawBody 8)
noncomputable def placeBody : List Stmt := bodyS (nthS wayBody 2)
noncomputable def moreBody : List Stmt := bodyS (nthS wayBody 4)
noncomputable abbrev lawEnv (L a : Addr) (cd : Value) : Env := envOfC (Str.ofString "law") lawScope L a cd
def st0 : St := ⟨[], [], false⟩
structure RightAt (x : Str) (st : St) (signs : List Nat) (errs : List (Str × Nat)) : Prop where
  l1 : x.length ≤ 18
  l2 : (Txt.replace x (Str.ofString "\r\n") (Str.ofString "\n")).length ≤ 18
  m1 : st.sgs = signs.take (linesOf x).length
  m2 : (linesOf x).length ≤ signs.length
  m3 : st.errs = errs.filter (fun e => decide (e.2 < (linesOf x).length))
  m4 : st.ret = (Txt.slice x (some (-1)) none == Str.ofString "\r")
structure LawOk (txt : Str) (signs : List Nat) (errs : List (Str × Nat)) : Prop where
  v : Valid txt
  l : txt.length ≤ 18
  l3 : signs.length ≤ 50
  l4 : errs.length ≤ 50
  v1 : ∀ c ∈ signs, c < 1114112
  v2 : ∀ e ∈ errs, PyData.strOk e.1 = true
  all : RightAt txt (feedAll st0 txt.cps.toList) signs errs
  upto : ∀ k, k ≤ txt.length → RightAt (Txt.slice txt none (some (k : Int))) (feedAll st0 (txt.cps.toList.take k)) signs errs
theorem SFacts_mono {st : St} {a b : List (Addr × Obj)} {c : FC} (h : SFacts st a c) (hs : ∀ p ∈ a, p ∈ b) : SFacts st b c := ⟨DatAll.mono hs h.1, DatAll.mono hs h.2.1, h.2.2⟩
theorem Fr_ext {h₀ : Heap} {L : Addr} {h : Heap} {m m' : Str → Option Value} (F : Fr h₀ L h m) (e : ∀ y, m' y = m y) : Fr h₀ L h m' := by
  have q : m' = m := funext e
  rw [q]; exact F
theorem slice_cps (x : Str) {a b : Nat} (hab : a ≤ b) (hb : b ≤ x.length) : (Txt.slice x (some (a : Int)) (some (b : Int))).cps.toList = (x.cps.toList.drop a).take (b - a) := by
  have e : Txt.slice x (some (a : Int)) (some (b : Int)) = StrLaws.sliceText x (some (a : Int)) (some (b : Int)) := rfl
  rw [e, StrLaws.sliceText_nat x hab hb]
theorem slice_valid {x : Str} (h : Valid x) {a b : Nat} (hab : a ≤ b) (hb : b ≤ x.length) : Valid (Txt.slice x (some (a : Int)) (some (b : Int))) := by
  intro c hc
  rw [slice_cps x hab hb] at hc
  exact h c (List.mem_of_mem_drop (List.mem_of_mem_take hc))
theorem feed_slice (x : Str) {a b : Nat} (hab : a ≤ b) (hb : b ≤ x.length) : feedAll (feedAll st0 (x.cps.toList.take a)) (Txt.slice x (some (a : Int)) (some (b : Int))).cps.toList = feedAll st0 (x.cps.toList.take b) := by
  rw [slice_cps x hab hb]
  unfold feedAll
  rw [← List.foldl_append]
  congr 1
  have := List.take_append_drop a (x.cps.toList.take b)
  rw [List.take_take, Nat.min_eq_left hab, List.drop_take] at this
  exact this
section
variable {prog : Program} {w : World} {A : Around} {E : Value → Shared → Prop} {hp : Heap} {g : Array GenState} {d : Drawn} {tk : Nat} {os : OsState} {value slice : PySem.Expr} {x : Str} {t : Tok} {h₀ : Heap} {L : Addr} {m : Str → Option Value} {news : List (Addr × Obj)} {Q : Value → Shared → Prop}
theorem slice_ss {i j : Int} {ui uj : Tok} (F : Fr h₀ L hp m) (N : News h₀ L hp news) (hsz : x.length ≤ sizeLine)
    (hs : subscripted slice false (.str x t) (.ref hp.objs.size) = operate [.ref hp.objs.size, .str x t] (getItem (.str x t) (.ref hp.objs.size)))
    (ht : ∀ r, letTemporaryGo value (.str x t) r = pure ()) (h : ∀ h' t' k, Fr h₀ L h' m → News h₀ L h' news → Q (.str (Txt.slice x (some i) (some j)) t') ⟨h', g, d, k, os⟩) :
    wpAny (model prog w) A (subscriptTail value slice (.str x t) (.ref hp.objs.size)) Q E ⟨hp.push { cls := .type "slice", data := .fields #[.int i ui, .int j uj, .none] }, g, d, tk, os⟩ :=
  slice_strN_ss (s := ⟨hp, g, d, tk, os⟩) F N h hs ht hsz
theorem slice_ns {j : Int} {uj : Tok} (F : Fr h₀ L hp m) (N : News h₀ L hp news) (hsz : x.length ≤ sizeLine)
    (hs : subscripted slice false (.str x t) (.ref hp.objs.size) = operate [.ref hp.objs.size, .str x t] (getItem (.str x t) (.ref hp.objs.size)))
    (ht : ∀ r, letTemporaryGo value (.str x t) r = pure ()) (h : ∀ h' t' k, Fr h₀ L h' m → News h₀ L h' news → Q (.str (Txt.slice x none (some j)) t') ⟨h', g, d, k, os⟩) :
    wpAny (model prog w) A (subscriptTail value slice (.str x t) (.ref hp.objs.size)) Q E ⟨hp.push { cls := .type "slice", data := .fields #[.none, .int j uj, .none] }, g, d, tk, os⟩ :=
  slice_strN_ns (s := ⟨hp, g, d, tk, os⟩) F N h hs ht hsz
end
section
local macro_rules | `(tactic| walk_at "subscriptTail Name Slice str ref") => `(tactic| (k_dflt (refine' slice_ss ?F ?N ?z ?s ?t ?_; (case F => k_asm); (case N => k_asm); (case z => (rw [sizeLine_eq]; omega)); (case s => with_unfolding_all rfl); (case t => (intro _; with_unfolding_all rfl))); intro h5 t5 k5 F5 N5; (try k_sweep)))
local macro_rules | `(tactic| walk_at "subscriptTail Name Slice str ref") => `(tactic| (k_dflt (refine' slice_ns ?F ?N ?z ?s ?t ?_; (case F => k_asm); (case N => k_asm); (case z => (rw [sizeLine_eq]; omega)); (case s => with_unfolding_all rfl); (case t => (intro _; with_unfolding_all rfl))); intro h5 t5 k5 F5 N5; (try k_sweep)))
local macro_rules | `(tactic| walk_at "call ref") => `(tactic| ((with_reducible show wpAny _ _ (PySem.call (Value.ref 163) _) _ _ _); refine unmark ?_))
local macro_rules | `(tactic| walk_at "call ref") => `(tactic| ((with_reducible show wpAny _ _ (PySem.call (Value.ref 95) _) _ _ _); refine unmark ?_))
theorem place_turn (w : World) (x dx sg er : Addr) (t1 t2 t3 t4 : Tok) (hx1 : dx < x) (hx2 : x < sg) (hx3 : sg < er) (txt : Str) (tt tb tp : Tok) (sl el : Addr) (svs evs : List Value) (k1 k2 : Nat) (signs : List Nat) (errs : List (Str × Nat)) (O : LawOk txt signs errs) (b pl : Nat) (hb : b ≤ pl) (hp : pl ≤ txt.length)
    (L fa : Addr) (cd : Value) (h₀ : Heap) (m : Str → Option Value) (c₀ : FC) (tl rest : List (Addr × Obj)) (s : Shared) (p : Program) (loose : List Str) (mean : ExcName → Option Value) (mg mb : Str → Option Value) (Q : Flow → Shared → Prop)
    (F : Fr h₀ L s.heap m) (X : (hd.heap_39 w.params).In h₀) (N : News h₀ L s.heap (SLed w.params x dx sg er t1 t2 t3 t4 false c₀ ++ rest)) (T : Top p loose mean mg mb h₀) (hoff : OwnOff rest [x, dx, sg, er])
    (hS : SFacts (feedAll st0 (txt.cps.toList.take b)) tl c₀) (hsl : (sl, listOf svs.toArray k1) ∈ rest) (hsd : DatAll rest svs (signs.map sgD)) (hel : (el, listOf evs.toArray k2) ∈ rest) (hed : DatAll rest evs (errs.map erD)) (hsub : ∀ p ∈ tl, p ∈ rest)
    (m1 : m (Str.ofString "stream") = some (.ref x)) (m2 : m (Str.ofString "text") = some (.str txt tt)) (m3 : m (Str.ofString "signs") = some (.ref sl)) (m4 : m (Str.ofString "errors") = some (.ref el)) (m5 : m (Str.ofString "begun") = some (.int (b : Int) tb)) (m6 : m (Str.ofString "place") = some (.int (pl : Int) tp))
    (hret : ∀ c' add h' tk', Fr h₀ L h' (fun y => if y = Str.ofString "begun" then some (.int (pl : Int) tp) else m y) → News h₀ L h' (SLed w.params x dx sg er t1 t2 t3 t4 false c' ++ (add ++ rest)) → OwnOff add [x, dx, sg, er] → (∀ q ∈ add, ∀ p ∈ rest, p.1 < q.1) →
      SFacts (feedAll st0 (txt.cps.toList.take pl)) (add ++ tl) c' → Q .next { s with heap := h', toks := tk' }) :
    wpAny (model PySem.Challenge.rw_nt0585_01.row.prog w) (callerA.deeper (lawEnv L fa cd)) (execs placeBody (lawEnv L fa cd)) Q (fun _ _ => False) s := by
  have e1 : lawScope = lawScope := rfl
  conv at e1 => rhs; whnf
  have e2 : placeBody = placeBody := rfl
  conv at e2 => rhs; whnf
  unfold lawEnv
  rw [e1, e2]
  clear e1 e2
  revert X
  w_top off
  k_fill
  intro X
  have hl18 := O.l
  k_lt2 hx1
  k_lt2 hx2
  k_lt2 hx3
  have F1 := Fr_also (Fr_also (Fr_also (Fr_also (Fr_also (Fr_also F m6) (x := Str.ofString "begun") ((if_neg (by decide)).trans m5)) (x := Str.ofString "errors") ((if_neg (by decide)).trans ((if_neg (by decide)).trans m4)))
    (x := Str.ofString "signs") ((if_neg (by decide)).trans ((if_neg (by decide)).trans ((if_neg (by decide)).trans m3)))) (x := Str.ofString "text") ((if_neg (by decide)).trans ((if_neg (by decide)).trans ((if_neg (by decide)).trans ((if_neg (by decide)).trans m2)))))
    (x := Str.ofString "stream") ((if_neg (by decide)).trans ((if_neg (by decide)).trans ((if_neg (by decide)).trans ((if_neg (by decide)).trans ((if_neg (by decide)).trans m1)))))
  clear F
  have N1 : News h₀ L s.heap ((x, instObj 112 dx) :: (dx, dictOf (sEntries w.params t1 t2 t3 t4 sg false c₀.ret er) 4) :: (sg, listOf c₀.vs.toArray c₀.k) :: (er, listOf c₀.ws.toArray c₀.k2) :: rest) := N
  clear N
  have K0 : Below callerA h₀ [] h₀ := ⟨rfl, fun _ _ e => e, trivial⟩
  show wpAny _ _ _ _ _ _
  (try k_fold)
  k_steps
  refine Mark.mk ?_
  have R0 := O.upto b (Nat.le_trans hb hp)
  have R1 := O.upto pl hp
  have l3 := O.l3
  have l4 := O.l4
  rename Fr _ _ _ _ => F5
  rename News _ _ _ _ => N5
  refine' feed_t w x dx sg er t1 t2 t3 t4 hx1 hx2 hx3 _ _ (slice_valid O.v hb hp) ?l (feedAll st0 (txt.cps.toList.take b)) ?s1 ?s2 _ _ _ _ _ _ _ _ [] _ h₀ h₀ L _ c₀ rest tl _ p loose mean mg mb _ _ K0 F5 X N5 T rfl ?hd ?hu hoff hS ?_
  case l => exact Nat.le_trans (Txt.slice_le _ _ _) (by omega)
  case s1 => rw [R0.m1, List.length_take]; omega
  case s2 => rw [R0.m3]; exact Nat.le_trans (List.length_filter_le _ _) l4
  case hd => k_room
  case hu => k_units
  intro c1 add h6 tk6 F6 N6 o6 hadd hS6
  rw [feed_slice txt hb hp] at hS6
  clear F5 N5
  have N7 : News h₀ L h6 ((x, instObj 112 dx) :: (dx, dictOf (sEntries w.params t1 t2 t3 t4 sg false c1.ret er) 4) :: (sg, listOf c1.vs.toArray c1.k) :: (er, listOf c1.ws.toArray c1.k2) :: (add ++ rest)) := N6
  clear N6
  dsimp only
  k_steps
  refine Mark.mk ?_
  rename Fr _ _ _ _ => F5
  rename News _ _ _ _ => N5
  have hsR : ∀ p ∈ rest, p ∈ add ++ rest := fun _ hp => List.mem_append_right _ hp
  have hoff2 : OwnOff (add ++ rest) [x, dx, sg, er] := fun p hp => (List.mem_append.mp hp).elim (o6 p) (hoff p)
  have hS7 : SFacts (feedAll st0 (txt.cps.toList.take pl)) (add ++ rest) c1 := SFacts_mono hS6 fun p hp => (List.mem_append.mp hp).elim (List.mem_append_left _) fun h => List.mem_append_right _ (hsub p h)
  refine' is_right_t w x dx sg er t1 t2 t3 t4 hx1 hx2 hx3 false _ _ sl el svs evs k1 k2 signs errs (feedAll st0 (txt.cps.toList.take pl)) R1.l1 R1.l2 l3 l4 _ rfl R1.m1 R1.m2 O.v1 O.v2 R1.m3 R1.m4 _ _ _ _ _ _ _ _ [] _ h₀ h₀ L _ c1 (add ++ rest) _ p loose mean mg mb _ _ K0 F5 X N5 T rfl ?hd ?hu hoff2 hS7 (hsR _ hsl) (DatAll.mono hsR hsd) (hsR _ hel) (DatAll.mono hsR hed) ?_
  case hd => k_room
  case hu => k_units
  intro h8 tk8 F8 N8
  clear F5 N5
  dsimp only
  k_steps
  refine hret c1 add h8 tk8 (Fr_ext F8 fun y => ?_) N8 o6 hadd hS6
  by_cases y0 : y = Str.ofString "begun"
  · rw [if_pos y0, if_pos y0]
  rw [if_neg y0, if_neg y0]
  split
  · next h => rw [h, m1]
  split
  · next h => rw [h, m2]
  split
  · next h => rw [h, m3]
  split
  · next h => rw [h, m4]
  split
  · next h => rw [h, m6]
  rfl
end
end Mine
end
section
open PySem PySem.W PyProof.Rows
set_option maxRecDepth 100000
set_option maxHeartbeats 8000000
namespace Mine
local macro_rules | `(tactic| k_room) => `(tactic| ((try simp only [depth_under_make, depth_under_kw, depth_in1, depth_deeper, depth_caller]); (try dsimp only [ktrTop]); omega))
local macro_rules | `(tactic| k_units) => `(tactic| ((try simp only [units_in1, units_deeper, Around.mark_units, units_caller]); (try dsimp only [ktrTop]); omega))
local macro_rules | `(tactic| k_all) => `(tactic| assumption)
local macro_rules | `(tactic| k_mem) => `(tactic| assumption)
local macro_rules | `(tactic| size_fits) => `(tactic| (rw [List.size_toArray, sizeLine_eq]; omega))
section
variable {M : Model} {A : Around} {E : Value → Shared → Prop} {s : Shared} {h₀ : Heap} {L a : Addr} {m : Str → Option Value} {news : List (Addr × Obj)} {name : Str} {scope : Scope} {cd : Value} {cl : List (Str × Addr)}
theorem name_goesX {n : Str} {pos : Pos} {Q : Unit → Shared → Prop} (F : Fr h₀ L s.heap m) (N : News h₀ L s.heap news)
    (h : ∀ h' v, Fr h₀ L h' (fun x => if x = n then v else m x) → News h₀ L h' news → Q () { s with heap := h', toks := s.toks + 1 })
    (hk : scope.kind = .function := by rfl) (hl : (envX name scope L a cd cl).kindOf n = some .local := by rfl) :
    wpAny M A (do bindName (envX name scope L a cd cl) n .none; unbindBehindTheSuite (envX name scope L a cd cl) n pos) Q E s :=
  wpAny_nameGoes_keeps hl F.ns (by show (scope.kind == .class || (scope.kind == .module && L != mainGlobals)) = false; rw [hk]; rfl) fun h' v hn hs => h h' v (F.set hn hs) (N.set hs)
end
section
local macro_rules | `(tactic| walk_at "call ref") => `(tactic| ((with_reducible show wpAny _ _ (PySem.call (Value.ref 163) _) _ _ _); refine unmark ?_))
local macro_rules | `(tactic| walk_at "call ref") => `(tactic| ((with_reducible show wpAny _ _ (PySem.call (Value.ref 95) _) _ _ _); refine unmark ?_))
theorem more_turn (w : World) (x dx sg er : Addr) (t1 t2 t3 t4 : Tok) (hx1 : dx < x) (hx2 : x < sg) (hx3 : sg < er) (txt mv : Str) (tt tm : Tok) (sl el : Addr) (svs evs : List Value) (k1 k2 : Nat) (signs : List Nat) (errs : List (Str × Nat)) (O : LawOk txt signs errs)
    (L fa : Addr) (cd : Value) (h₀ : Heap) (m : Str → Option Value) (c₀ : FC) (rest : List (Addr × Obj)) (s : Shared) (p : Program) (loose : List Str) (mean : ExcName → Option Value) (mg mb : Str → Option Value) (Q : Flow → Shared → Prop)
    (F : Fr h₀ L s.heap m) (X : (hd.heap_39 w.params).In h₀) (N : News h₀ L s.heap (SLed w.params x dx sg er t1 t2 t3 t4 true c₀ ++ rest)) (T : Top p loose mean mg mb h₀) (hoff : OwnOff rest [x, dx, sg, er])
    (hS : SFacts (feedAll st0 txt.cps.toList) rest c₀) (hsl : (sl, listOf svs.toArray k1) ∈ rest) (hsd : DatAll rest svs (signs.map sgD)) (hel : (el, listOf evs.toArray k2) ∈ rest) (hed : DatAll rest evs (errs.map erD))
    (m1 : m (Str.ofString "stream") = some (.ref x)) (m2 : m (Str.ofString "text") = some (.str txt tt)) (m3 : m (Str.ofString "signs") = some (.ref sl)) (m4 : m (Str.ofString "errors") = some (.ref el)) (m6 : m (Str.ofString "more") = some (.str mv tm))
    (hret : ∀ h' tk' m', Fr h₀ L h' m' → (∀ y, y ≠ Str.ofString "told" → y ≠ Str.ofString "fault" → m' y = m y) → News h₀ L h' (SLed w.params x dx sg er t1 t2 t3 t4 true c₀ ++ rest) → Q .next { s with heap := h', toks := tk' }) :
    wpAny (model PySem.Challenge.rw_nt0585_01.row.prog w) (callerA.deeper (lawEnv L fa cd)) (execs moreBody (lawEnv L fa cd)) Q (fun _ _ => False) s := by
  have e1 : lawScope = lawScope := rfl
  conv at e1 => rhs; whnf
  have e2 : moreBody = moreBody := rfl
  conv at e2 => rhs; whnf
  unfold lawEnv
  rw [e1, e2]
  clear e1 e2
  revert X
  w_top off
  k_fill
  intro X
  have hl18 := O.l
  k_lt2 hx1
  k_lt2 hx2
  k_lt2 hx3
  have F1 := Fr_also (Fr_also (Fr_also (Fr_also (Fr_also F m6) (x := Str.ofString "errors") ((if_neg (by decide)).trans m4))
    (x := Str.ofString "signs") ((if_neg (by decide)).trans ((if_neg (by decide)).trans m3))) (x := Str.ofString "text") ((if_neg (by decide)).trans ((if_neg (by decide)).trans ((if_neg (by decide)).trans m2))))
    (x := Str.ofString "stream") ((if_neg (by decide)).trans ((if_neg (by decide)).trans ((if_neg (by decide)).trans ((if_neg (by decide)).trans m1))))
  clear F
  have N1 : News h₀ L s.heap ((x, instObj 112 dx) :: (dx, dictOf (sEntries w.params t1 t2 t3 t4 sg true c₀.ret er) 4) :: (sg, listOf c₀.vs.toArray c₀.k) :: (er, listOf c₀.ws.toArray c₀.k2) :: rest) := N
  clear N
  have K0 : Below callerA h₀ [] h₀ := ⟨rfl, fun _ _ e => e, trivial⟩
  show wpAny _ _ _ _ _ _
  (try k_fold)
  k_steps
  refine wpAny_Try_except ?_
  (try k_fold)
  k_steps
  refine Mark.mk ?_
  rename Fr _ _ _ _ => F5
  rename News _ _ _ _ => N5
  refine' feed_closed_t w x dx sg er t1 t2 t3 t4 hx1 hx2 hx3 _ _ _ _ _ _ _ _ _ _ [] _ h₀ h₀ L _ c₀ rest _ p loose mean mg mb _ _ K0 F5 X N5 T rfl ?hd ?hu ?_
  case hd => k_room
  case hu => k_units
  intro e dd tk2 tk3 h6 tk6 R6 ns6
  have hab := F5.above
  clear F5 N5
  dsimp only
  refine caught_D K0 ns6 hab R6 X (topRead_of T) ?_
  intro h7 oe tk7 F7 N7 c1 c2 c3
  clear ns6 R6
  k_steps
  refine get_why (by k_asm) X (by k_asm) (.head _) (.tail _ (.head _)) c1 c2 c3 ?_
  k_steps
  refine name_goesX (by k_asm) (by k_asm) ?_
  intro h8 v8 F8 N8
  have N9 : News h₀ L h8 ((x, instObj 112 dx) :: (dx, dictOf (sEntries w.params t1 t2 t3 t4 sg true c₀.ret er) 4) :: (sg, listOf c₀.vs.toArray c₀.k) :: (er, listOf c₀.ws.toArray c₀.k2) :: rest) := News_sub N8 fun p hp => .tail _ (.tail _ hp)
  clear N8
  dsimp only
  k_steps
  refine Mark.mk ?_
  have R1 := O.all
  rename Fr _ _ _ _ => F9
  refine' is_right_t w x dx sg er t1 t2 t3 t4 hx1 hx2 hx3 true _ _ sl el svs evs k1 k2 signs errs (feedAll st0 txt.cps.toList) R1.l1 R1.l2 O.l3 O.l4 _ rfl R1.m1 R1.m2 O.v1 O.v2 R1.m3 R1.m4 _ _ _ _ _ _ _ _ [] _ h₀ h₀ L _ c₀ rest _ p loose mean mg mb _ _ K0 F9 X N9 T rfl ?hd ?hu hoff hS hsl hsd hel hed ?_
  case hd => k_room
  case hu => k_units
  intro h10 tk10 F10 N10
  clear F9 N9
  dsimp only
  k_steps
  refine hret _ _ _ F10 (fun y y1 y2 => ?_) N10
  rw [if_neg y2, if_neg y1, if_neg y2, if_neg y1]
  split
  · next h => rw [h, m1]
  split
  · next h => rw [h, m2]
  split
  · next h => rw [h, m3]
  split
  · next h => rw [h, m4]
  split
  · next h => rw [h, m6]
  rfl
end
end Mine
end
section
open PySem PySem.W PyProof.Rows
set_option maxRecDepth 100000
set_option maxHeartbeats 8000000
namespace Mine
local macro_rules | `(tactic| k_room) => `(tactic| ((try simp only [depth_under_make, depth_under_kw, depth_in1, depth_deeper, depth_caller]); (try dsimp only [ktrTop]); omega))
local macro_rules | `(tactic| k_units) => `(tactic| ((try simp only [units_in1, units_deeper, Around.mark_units, units_caller]); (try dsimp only [ktrTop]); omega))
local macro_rules | `(tactic| k_all) => `(tactic| assumption)
local macro_rules | `(tactic| k_mem) => `(tactic| assumption)
local macro_rules | `(tactic| size_fits) => `(tactic| (rw [List.size_toArray, sizeLine_eq]; omega))
def begAt (ws : List Nat) (i : Nat) : Nat := ((0 :: ws)[i]?).getD 0
theorem begAt_succ {ws : List Nat} {i : Nat} (h : i < ws.length) : begAt ws (i + 1) = ws[i] := by simp [begAt, h]
structure WayOk (ws : List Nat) (n : Nat) : Prop where
  up : ∀ i (h : i < ws.length), begAt ws i ≤ ws[i]
  le : ∀ v ∈ ws, v ≤ n
  last : begAt ws ws.length = n
structure LawMap (m : Str → Option Value) (txt : Str) (tt : Tok) (sl el : Addr) : Prop where
  text : m (Str.ofString "text") = some (.str txt tt)
  signs : m (Str.ofString "signs") = some (.ref sl)
  errors : m (Str.ofString "errors") = some (.ref el)
def PInv (x : Addr) (txt : Str) (tt : Tok) (sl el : Addr) (ws : List Nat) (rest₀ : List (Addr × Obj)) (i : Nat) (tl : List (Addr × Obj)) (c : FC) (m : Str → Option Value) : Prop :=
  (∃ add, tl = add ++ rest₀ ∧ ∀ q ∈ add, ∀ p ∈ rest₀, p.1 < q.1) ∧ SFacts (feedAll st0 (txt.cps.toList.take (begAt ws i))) tl c ∧ LawMap m txt tt sl el ∧ m (Str.ofString "stream") = some (.ref x) ∧ ∃ tb, m (Str.ofString "begun") = some (.int (begAt ws i : Int) tb)
def MInv (x : Addr) (txt : Str) (tt : Tok) (sl el : Addr) (rest₀ : List (Addr × Obj)) (c₀ : FC) (_ : Nat) (tl : List (Addr × Obj)) (c : FC) (m : Str → Option Value) : Prop :=
  tl = rest₀ ∧ c = c₀ ∧ LawMap m txt tt sl el ∧ m (Str.ofString "stream") = some (.ref x)
theorem three_strs {a b c : Str} {t u v : Tok} {i : Nat} {x : Value} (h : [Value.str a t, Value.str b u, Value.str c v][i]? = some x) : ∃ mv tm, x = .str mv tm := by
  rcases i with _ | _ | _ | i
  · exact ⟨_, _, (Option.some.inj h).symm⟩
  · exact ⟨_, _, (Option.some.inj h).symm⟩
  · exact ⟨_, _, (Option.some.inj h).symm⟩
  · cases h
theorem more_loop {w : World} {x dx sg er la : Addr} {t1 t2 t3 t4 : Tok} {txt : Str} {tt : Tok} {sl el : Addr} {svs evs : List Value} {k1 k2 : Nat} {signs : List Nat} {errs : List (Str × Nat)} (O : LawOk txt signs errs) (hx1 : dx < x) (hx2 : x < sg) (hx3 : sg < er)
    {L fa : Addr} {cd : Value} {h₀ : Heap} {m : Str → Option Value} {c : FC} {add rest : List (Addr × Obj)} {s : Shared} {p : Program} {loose : List Str} {mean : ExcName → Option Value} {mg mb : Str → Option Value} {Q : Flow → Shared → Prop} {a1 a2 a3 : Str} {u1 u2 u3 : Tok}
    (F : Fr h₀ L s.heap m) (X : (hd.heap_39 w.params).In h₀)
    (N : News h₀ L s.heap ((la, listOf #[.str a1 u1, .str a2 u2, .str a3 u3] 0) :: (x, instObj 112 dx) :: (dx, dictOf (sEntries w.params t1 t2 t3 t4 sg true c.ret er) 4) :: (sg, listOf c.vs.toArray c.k) :: (er, listOf c.ws.toArray c.k2) :: (add ++ rest)))
    (T : Top p loose mean mg mb h₀) (hoff : OwnOff (add ++ rest) [x, dx, sg, er]) (hS : SFacts (feedAll st0 txt.cps.toList) (add ++ rest) c)
    (hsl : (sl, listOf svs.toArray k1) ∈ rest) (hsd : DatAll rest svs (signs.map sgD)) (hel : (el, listOf evs.toArray k2) ∈ rest) (hed : DatAll rest evs (errs.map erD))
    (l1 : x < la ∧ dx < la ∧ sg < la ∧ er < la ∧ AllLt la (add ++ rest)) (hadd : ∀ q ∈ add, ∀ p ∈ rest, p.1 < q.1) (hlt : ∀ p ∈ rest, p.1 < dx)
    (m1 : m (Str.ofString "text") = some (.str txt tt)) (m2 : m (Str.ofString "signs") = some (.ref sl)) (m3 : m (Str.ofString "errors") = some (.ref el)) (m4 : m (Str.ofString "stream") = some (.ref x))
    (hret : ∀ add' h' tk' m', Fr h₀ L h' m' → LawMap m' txt tt sl el → News h₀ L h' (add' ++ rest) → (∀ q ∈ add', ∀ p ∈ rest, p.1 < q.1) → Q .next { s with heap := h', toks := tk' }) :
    wpAny (model PySem.Challenge.rw_nt0585_01.row.prog w) (callerA.deeper (lawEnv L fa cd)) (pyIter (.ref la)) (fun it s₂ => PyProof.Rows.LoopAtV PySem.Challenge.rw_nt0585_01.row.prog w (callerA.deeper (lawEnv L fa cd)) h₀ (lawEnv L fa cd) (Str.ofString "more") moreBody Q (fun _ _ => False) it s₂) (fun _ _ => False) s := by
  have hla : la ∉ [x, dx, sg, er] := by
    obtain ⟨b1, b2, b3, b4, _⟩ := l1
    intro hm
    simp only [List.mem_cons, List.not_mem_nil, or_false] at hm
    rcases hm with rfl | rfl | rfl | rfl
    · exact absurd b1 (Nat.lt_irrefl _)
    · exact absurd b2 (Nat.lt_irrefl _)
    · exact absurd b3 (Nat.lt_irrefl _)
    · exact absurd b4 (Nat.lt_irrefl _)
  have N1 : News h₀ L s.heap (SLed w.params x dx sg er t1 t2 t3 t4 true c ++ ((la, listOf [.str a1 u1, .str a2 u2, .str a3 u3].toArray 0) :: (add ++ rest))) := News_sub N fun p hp => by
    rcases List.mem_cons.mp hp with rfl | hp
    · exact .tail _ (.head _)
    rcases List.mem_cons.mp hp with rfl | hp
    · exact .tail _ (.tail _ (.head _))
    rcases List.mem_cons.mp hp with rfl | hp
    · exact .tail _ (.tail _ (.tail _ (.head _)))
    rcases List.mem_cons.mp hp with rfl | hp
    · exact .tail _ (.tail _ (.tail _ (.tail _ (.head _))))
    rcases List.mem_cons.mp hp with rfl | hp
    · exact .head _
    exact .tail _ (.tail _ (.tail _ (.tail _ (.tail _ hp))))
  refine loop_list (Led := SLed w.params x dx sg er t1 t2 t3 t4 true) (adr := [x, dx, sg, er]) (Inv := MInv x txt tt sl el ((la, listOf [.str a1 u1, .str a2 u2, .str a3 u3].toArray 0) :: (add ++ rest)) c) (c₀ := c) (fun _ => rfl) rfl (.head _) hla F N1 ?ho ⟨rfl, rfl, ⟨m1, m2, m3⟩, m4⟩ ?turn ?done
  case ho =>
    intro p hp
    rcases List.mem_cons.mp hp with rfl | hp
    · exact fun b hb e => hla (by rw [show la = b from e]; exact hb)
    · exact hoff p hp
  case turn =>
    rintro i v c' tl rest' m₁ h tk hv hl hs hoff' ⟨rfl, rfl, hM, hstream⟩ F₁ N₁
    obtain ⟨mv, tm, rfl⟩ := three_strs hv
    have hsA : ∀ p ∈ add ++ rest, p ∈ rest' := fun p hp => hs p (.tail _ hp)
    have hsR : ∀ p ∈ rest, p ∈ rest' := fun p hp => hsA p (List.mem_append_right _ hp)
    refine more_turn w x dx sg er t1 t2 t3 t4 hx1 hx2 hx3 txt mv tt tm sl el svs evs k1 k2 signs errs O L fa cd h₀ _ _ rest' _ p loose mean mg mb _ F₁ X N₁ T hoff' (SFacts_mono hS hsA) (hsR _ hsl) (DatAll.mono hsR hsd) (hsR _ hel) (DatAll.mono hsR hed)
      ((if_neg (by decide)).trans hstream) ((if_neg (by decide)).trans hM.text) ((if_neg (by decide)).trans hM.signs) ((if_neg (by decide)).trans hM.errors) (if_pos rfl) ?_
    intro h' tk' m' F' hm' N'
    refine LEnd_intro (Led := SLed w.params x dx sg er t1 t2 t3 t4 true) _ [] F' N' (fun _ hp => hp) (fun _ hq => nomatch hq) (fun _ hq => nomatch hq) ⟨rfl, rfl, ⟨?_, ?_, ?_⟩, ?_⟩
    · exact (hm' _ (by decide) (by decide)).trans ((if_neg (by decide)).trans hM.text)
    · exact (hm' _ (by decide) (by decide)).trans ((if_neg (by decide)).trans hM.signs)
    · exact (hm' _ (by decide) (by decide)).trans ((if_neg (by decide)).trans hM.errors)
    · exact (hm' _ (by decide) (by decide)).trans ((if_neg (by decide)).trans hstream)
  case done =>
    rintro c' tl m₁ h tk hoff' ⟨rfl, rfl, hM, hstream⟩ F₁ N₁
    refine hret (SLed w.params x dx sg er t1 t2 t3 t4 true c' ++ ((la, listOf [.str a1 u1, .str a2 u2, .str a3 u3].toArray 0) :: add)) h tk m₁ F₁ hM (by rw [List.append_assoc]; exact N₁) ?_
    intro q hq p hp
    have h0 : @LT.lt Nat _ p.1 dx := hlt p hp
    have h1 : @LT.lt Nat _ dx x := hx1
    have h2 : @LT.lt Nat _ x sg := hx2
    have h3 : @LT.lt Nat _ sg er := hx3
    rcases List.mem_append.mp hq with hq | hq
    · simp only [List.mem_cons, List.not_mem_nil, or_false] at hq
      rcases hq with rfl | rfl | rfl | rfl <;> (show @LT.lt Nat _ _ _; dsimp only; omega)
    · rcases List.mem_cons.mp hq with rfl | hq
      · exact allLt_to l1.2.2.2.2 p (List.mem_append_right _ hp)
      · exact hadd q hq p hp
section
local macro_rules | `(tactic| walk_at "call ref") => `(tactic| ((with_reducible show wpAny _ _ (PySem.call (Value.ref 112) _) _ _ _); refine unmark ?_))
local macro_rules | `(tactic| walk_at "exec For Name Name cons nil") => `(tactic| refine unmark ?_)
local macro_rules | `(tactic| walk_at "exec For Name List cons nil") => `(tactic| refine unmark ?_)
local macro_rules | `(tactic| walk_at "pyIter ref") => `(tactic| refine unmark ?_)
theorem way_turn (w : World) (txt : Str) (tt : Tok) (sl el wl : Addr) (svs evs wvs : List Value) (k1 k2 kw : Nat) (signs : List Nat) (errs : List (Str × Nat)) (O : LawOk txt signs errs) (ws : List Nat) (W : WayOk ws txt.length)
    (L fa : Addr) (cd : Value) (h₀ : Heap) (m : Str → Option Value) (rest : List (Addr × Obj)) (s : Shared) (p : Program) (loose : List Str) (mean : ExcName → Option Value) (mg mb : Str → Option Value) (Q : Flow → Shared → Prop)
    (F : Fr h₀ L s.heap m) (X : (hd.heap_39 w.params).In h₀) (N : News h₀ L s.heap rest) (T : Top p loose mean mg mb h₀)
    (hsl : (sl, listOf svs.toArray k1) ∈ rest) (hsd : DatAll rest svs (signs.map sgD)) (hel : (el, listOf evs.toArray k2) ∈ rest) (hed : DatAll rest evs (errs.map erD)) (hwl : (wl, listOf wvs.toArray kw) ∈ rest) (hwi : IntsAre wvs (ws.map (fun (n : Nat) => (n : Int))))
    (M : LawMap m txt tt sl el) (mw : m (Str.ofString "way") = some (.ref wl))
    (hret : ∀ add h' tk' m', Fr h₀ L h' m' → LawMap m' txt tt sl el → News h₀ L h' (add ++ rest) → (∀ q ∈ add, ∀ p ∈ rest, p.1 < q.1) → Q .next { s with heap := h', toks := tk' }) :
    wpAny (model PySem.Challenge.rw_nt0585_01.row.prog w) (callerA.deeper (lawEnv L fa cd)) (execs wayBody (lawEnv L fa cd)) Q (fun _ _ => False) s := by
  have e1 : lawScope = lawScope := rfl
  conv at e1 => rhs; whnf
  have e2 : wayBody = wayBody := rfl
  conv at e2 => rhs; whnf
  unfold lawEnv
  rw [e1, e2]
  clear e2
  revert X
  w_top off
  k_fill
  intro X
  have hl18 := O.l
  have F1 := Fr_also (Fr_also (Fr_also (Fr_also F mw) (x := Str.ofString "errors") ((if_neg (by decide)).trans M.errors))
    (x := Str.ofString "signs") ((if_neg (by decide)).trans ((if_neg (by decide)).trans M.signs))) (x := Str.ofString "text") ((if_neg (by decide)).trans ((if_neg (by decide)).trans ((if_neg (by decide)).trans M.text)))
  clear F
  have K0 : Below callerA h₀ [] h₀ := ⟨rfl, fun _ _ e => e, trivial⟩
  show wpAny _ _ _ _ _ _
  (try k_fold)
  k_steps
  refine Mark.mk ?_
  rename Fr _ _ _ _ => F5
  refine tell_use (stream_t w) K0 F5 X N T rfl ?hd ?hu trivial ?_
  case hd => k_room
  case hu => k_units
  rintro v news6 h6 tk6 F6 N6 ⟨x, dx, sg, er, t1, t2, t3, t4, rfl, hx1, hx2, hx3, hlt, rfl⟩
  clear F5
  have hx1' := hx1
  have hx2' := hx2
  have hx3' := hx3
  k_lt2 hx1
  k_lt2 hx2
  k_lt2 hx3
  have hoff0 : OwnOff rest [x, dx, sg, er] := by
    intro p hp b hb
    have h0 : @LT.lt Nat _ p.1 dx := hlt p hp
    simp only [List.mem_cons, List.not_mem_nil, or_false] at hb
    rcases hb with rfl | rfl | rfl | rfl <;> exact Nat.ne_of_lt (by omega)
  dsimp only
  k_steps
  refine Mark.mk ?_
  rename Fr _ _ _ _ => F5
  rename News _ _ _ _ => N5
  refine For_invVF F5 rfl rfl ?_
  refine nameX_L F5 (by rfl) ?_
  have N7 : News h₀ L _ (SLed w.params x dx sg er t1 t2 t3 t4 false ⟨[], 0, [], 0, false⟩ ++ rest) := News_sub N5 fun p hp => by
    rcases List.mem_cons.mp hp with rfl | hp
    · exact .tail _ (.tail _ (.head _))
    rcases List.mem_cons.mp hp with rfl | hp
    · exact .tail _ (.tail _ (.tail _ (.head _)))
    rcases List.mem_cons.mp hp with rfl | hp
    · exact .tail _ (.head _)
    rcases List.mem_cons.mp hp with rfl | hp
    · exact .head _
    exact .tail _ (.tail _ (.tail _ (.tail _ hp)))
  refine loop_list (Led := SLed w.params x dx sg er t1 t2 t3 t4 false) (adr := [x, dx, sg, er]) (Inv := PInv x txt tt sl el ws rest) (c₀ := ⟨[], 0, [], 0, false⟩) (tl₀ := rest) (fun _ => rfl) rfl hwl ?hla F5 N7 ?ho ?hj ?turn ?done
  case hla => exact fun hm => hoff0 _ hwl wl hm rfl
  case ho => exact hoff0
  case hj => exact ⟨⟨[], rfl, fun _ hq => nomatch hq⟩, ⟨.nil, .nil, rfl⟩, ⟨rfl, rfl, rfl⟩, rfl, _, rfl⟩
  case turn =>
    clear F5 N5 N7
    rintro i v c tl rest' m₁ h tk hv hl hs hoff ⟨⟨add, rfl, hadd⟩, hSt, hM, hstream, tb, hbeg⟩ F₁ N₁
    have hwn : wvs.length = ws.length := by rw [hwi.length, List.length_map]
    have hi : i < ws.length := by rw [← hwn]; exact (List.getElem?_eq_some_iff.mp hv).1
    obtain ⟨tp, hvt⟩ := hwi.get i ((ws[i] : Nat) : Int) (by simp [hi])
    have ev : v = .int ((ws[i] : Nat) : Int) tp := by rw [hv] at hvt; exact Option.some.inj hvt
    subst ev
    have hsR : ∀ p ∈ rest, p ∈ rest' := fun p hp => hs p (List.mem_append_right _ hp)
    refine place_turn w x dx sg er t1 t2 t3 t4 hx1' hx2' hx3' txt tt tb tp sl el svs evs k1 k2 signs errs O (begAt ws i) ws[i] (W.up i hi) (W.le _ (List.getElem_mem hi)) L fa cd h₀ _ c (add ++ rest) rest' _ p loose mean mg mb _ F₁ X N₁ T hoff hSt (hsR _ hsl) (DatAll.mono hsR hsd) (hsR _ hel) (DatAll.mono hsR hed) hs
      ((if_neg (by decide)).trans hstream) ((if_neg (by decide)).trans hM.text) ((if_neg (by decide)).trans hM.signs) ((if_neg (by decide)).trans hM.errors) ((if_neg (by decide)).trans hbeg) (if_pos rfl) ?_
    intro c' add' h' tk' F' N' o' ha' hS'
    refine ⟨c', add', h', tk', _, rfl, F', N', fun q hq p hp => Nat.ne_of_lt (ha' q hq p hp), o', ⟨add' ++ add, (List.append_assoc _ _ _).symm, fun q hq p hp => ?_⟩, ?_, ⟨?_, ?_, ?_⟩, ?_, tp, ?_⟩
    · rcases List.mem_append.mp hq with hq | hq
      · exact ha' q hq p (hsR p hp)
      · exact hadd q hq p hp
    · rw [begAt_succ hi]; exact hS'
    · exact (if_neg (by decide)).trans ((if_neg (by decide)).trans hM.text)
    · exact (if_neg (by decide)).trans ((if_neg (by decide)).trans hM.signs)
    · exact (if_neg (by decide)).trans ((if_neg (by decide)).trans hM.errors)
    · exact (if_neg (by decide)).trans ((if_neg (by decide)).trans hstream)
    · rw [begAt_succ hi]; exact if_pos rfl
  case done =>
    clear F5 N5 N7
    rintro c tl m₁ h tk hoff ⟨⟨add, rfl, hadd⟩, hSt, hM, hstream, tb, hbeg⟩ F₁ N₁
    have hwn : wvs.length = ws.length := by rw [hwi.length, List.length_map]
    rw [hwn, W.last, show txt.length = txt.cps.toList.length from (Array.length_toList).symm, List.take_length] at hSt
    have F₂ := Fr_also (Fr_also (Fr_also (Fr_also F₁ hM.errors) (x := Str.ofString "signs") ((if_neg (by decide)).trans hM.signs)) (x := Str.ofString "text") ((if_neg (by decide)).trans ((if_neg (by decide)).trans hM.text)))
      (x := Str.ofString "stream") ((if_neg (by decide)).trans ((if_neg (by decide)).trans ((if_neg (by decide)).trans hstream)))
    have N₂ : News h₀ L h ((x, instObj 112 dx) :: (dx, dictOf (sEntries w.params t1 t2 t3 t4 sg false c.ret er) 4) :: (sg, listOf c.vs.toArray c.k) :: (er, listOf c.ws.toArray c.k2) :: (add ++ rest)) := N₁
    have o1 : ∀ p ∈ add ++ rest, p.1 ≠ dx := fun p hp => hoff p hp dx (by simp)
    clear F₁ N₁
    dsimp only
    k_steps
    refine Mark.mk ?_
    rename Fr _ _ _ _ => F5
    refine For_invVF F5 rfl rfl ?_
    k_steps
    refine Mark.mk ?_
    rename (_ ∧ _) => l1
    rename News _ _ _ _ => N6
    rename Fr _ _ _ _ => F6
    refine more_loop (sg := sg) (er := er) O hx1' hx2' hx3' F6 X N6 T hoff hSt hsl hsd hel hed l1 hadd hlt rfl rfl rfl rfl ?_
    intro add' h' tk' m' F' M' N' ha'
    dsimp only
    k_steps
    exact hret add' h' tk' m' F' M' N' ha'
end
end Mine
end
section
open PySem PySem.W PyProof.Rows
set_option maxRecDepth 100000
set_option maxHeartbeats 1600000
namespace Mine
open PySem.StrLaws PySem.Builtin PySem.Builtin.Str in
theorem replace_spec (y z : Str) (hw : 1 ≤ y.length) (R : List Nat → List Nat) (free : ∀ M : List Nat, (∀ k, (M.drop k).take y.length ≠ y.cps.toList) → R M = M)
    (first : ∀ pre rest : List Nat, (∀ k, k < pre.length → ((pre ++ (y.cps.toList ++ rest)).drop k).take y.length ≠ y.cps.toList) → R (pre ++ (y.cps.toList ++ rest)) = pre ++ (z.cps.toList ++ R rest)) (x : Str) :
    (Txt.replace x y z).cps.toList = R x.cps.toList := by
  have hyl : y.cps.toList.length = y.length := by simp [Str.length]
  have hxl : x.cps.toList.length = x.length := by simp [Str.length]
  have notAt : ∀ k, ¬ At x y x.length k → (x.cps.toList.drop k).take y.length ≠ y.cps.toList := by
    intro k hk e
    refine hk ⟨?_, by rw [subAt_eq, e]; exact beq_self_eq_true _⟩
    have h := congrArg List.length e
    rw [List.length_take, List.length_drop, hyl, hxl] at h
    omega
  have key : ∀ (cuts : List Nat) (a f : Nat), ChainG x y x.length a cuts f → (∀ k, f ≤ k → ¬ At x y x.length k) → (Str.join z (partsFrom x y.length a cuts)).cps.toList = R (x.cps.toList.drop a) := by
    intro cuts
    induction cuts with
    | nil =>
      intro a f h hn
      have e : f = a := h
      subst e
      show (strSub x f x.length).cps.toList = _
      rw [strSub_toList, List.take_of_length_le (by rw [List.length_drop, hxl]; exact Nat.le_refl _)]
      refine (free _ fun k => ?_).symm
      rw [List.drop_drop]
      exact notAt _ (hn _ (Nat.le_add_right _ _))
    | cons c r ih =>
      intro a f h hn
      obtain ⟨h1, h2, h3, h4⟩ := h
      obtain ⟨p, q, e⟩ := partsFrom_ne x y.length (c + y.length) r
      have ih := ih _ _ h4 hn
      show (Str.join z (strSub x a c :: partsFrom x y.length (c + y.length) r)).cps.toList = _
      rw [e] at ih ⊢
      show (strSub x a c ++ z ++ Str.join z (p :: q)).cps.toList = _
      simp only [Str.cps_append, Array.toList_append, strSub_toList]
      rw [ih]
      have hc := h2.1
      have hY : (x.cps.toList.drop c).take y.length = y.cps.toList := by
        have := h2.2
        rw [subAt_eq] at this
        exact eq_of_beq this
      have e5 : x.cps.toList.drop a = (x.cps.toList.drop a).take (c - a) ++ (y.cps.toList ++ x.cps.toList.drop (c + y.length)) := by
        have q1 := List.take_append_drop (c - a) (x.cps.toList.drop a)
        rw [List.drop_drop, show a + (c - a) = c by omega] at q1
        have q2 := List.take_append_drop y.length (x.cps.toList.drop c)
        rw [List.drop_drop, hY] at q2
        rw [q2, q1]
      have hpl : ((x.cps.toList.drop a).take (c - a)).length = c - a := by rw [List.length_take, List.length_drop, hxl]; omega
      conv => rhs; rw [e5]
      rw [first, List.append_assoc]
      intro k hk
      rw [← e5, List.drop_drop]
      rw [hpl] at hk
      exact notAt _ (h3 _ (by omega) (by omega))
  obtain ⟨f, hG, hn⟩ := occ_tight x y hw
  have h := key _ _ _ hG hn
  rw [List.drop_zero] at h
  unfold Txt.replace
  have hy0 : (y.length == 0) = false := by simp; omega
  rw [hy0, Bool.false_and, Bool.or_false]
  split
  · rename_i he
    have e0 : occurrences x y 0 x.length (x.length + 1) = [] := List.isEmpty_iff.mp he
    rw [e0] at h
    rw [← h]
    show _ = (strSub x 0 x.length).cps.toList
    rw [sub_whole]
  · rw [glued_eq_join, partsBetween_eq]
    exact h
noncomputable def crlf : List Nat → List Nat
  | [] => []
  | c :: r => if c = 13 ∧ r.head? = some 10 then crlf r else c :: crlf r
def crOne (c : Nat) : Nat := if c = 13 then 10 else c
end Mine
namespace Mine
theorem crlf_free : ∀ M : List Nat, (∀ k, (M.drop k).take 2 ≠ [13, 10]) → crlf M = M
  | [], _ => rfl
  | c :: r, h => by
    have ih := crlf_free r fun k => h (k + 1)
    rw [crlf, if_neg, ih]
    rintro ⟨rfl, h2⟩
    cases r with
    | nil => cases h2
    | cons d q =>
      have h2 : d = 10 := Option.some.inj h2
      subst h2
      exact h 0 rfl
theorem crlf_first : ∀ pre rest : List Nat, (∀ k, k < pre.length → ((pre ++ ([13, 10] ++ rest)).drop k).take 2 ≠ [13, 10]) → crlf (pre ++ ([13, 10] ++ rest)) = pre ++ ([10] ++ crlf rest)
  | [], rest, _ => by
    show crlf (13 :: 10 :: rest) = 10 :: crlf rest
    rw [crlf, if_pos ⟨rfl, rfl⟩, crlf, if_neg (fun h => absurd h.1 (by decide))]
  | c :: r, rest, h => by
    have ih := crlf_first r rest fun k hk => h (k + 1) (Nat.succ_lt_succ hk)
    show crlf (c :: (r ++ ([13, 10] ++ rest))) = c :: (r ++ ([10] ++ crlf rest))
    rw [crlf, if_neg, ih]
    rintro ⟨rfl, h2⟩
    have h0 := h 0 (Nat.succ_pos _)
    cases r with
    | nil => exact absurd (Option.some.inj h2) (by decide)
    | cons d q =>
      have h2 : d = 10 := Option.some.inj h2
      subst h2
      exact h0 rfl
theorem crlf_len : ∀ M : List Nat, (crlf M).length ≤ M.length
  | [] => Nat.le_refl _
  | c :: r => by
    have ih := crlf_len r
    rw [crlf]
    split
    · exact Nat.le_succ_of_le ih
    · exact Nat.succ_le_succ ih
theorem rep_crlf (x : Str) : (Txt.replace x (Str.ofString "\r\n") (Str.ofString "\n")).cps.toList = crlf x.cps.toList :=
  replace_spec (Str.ofString "\r\n") (Str.ofString "\n") (by decide) crlf (fun M h => crlf_free M h) (fun pre rest h => crlf_first pre rest h) x
theorem one_free : ∀ M : List Nat, (∀ k, (M.drop k).take 1 ≠ [13]) → M.map crOne = M
  | [], _ => rfl
  | c :: r, h => by
    have ih := one_free r fun k => h (k + 1)
    have h0 := h 0
    rw [List.map_cons, ih]
    congr 1
    unfold crOne
    rw [if_neg]
    rintro rfl
    exact h0 rfl
theorem one_first : ∀ pre rest : List Nat, (∀ k, k < pre.length → ((pre ++ ([13] ++ rest)).drop k).take 1 ≠ [13]) → (pre ++ ([13] ++ rest)).map crOne = pre ++ ([10] ++ rest.map crOne)
  | [], rest, _ => rfl
  | c :: r, rest, h => by
    have ih := one_first r rest fun k hk => h (k + 1) (Nat.succ_lt_succ hk)
    have h0 := h 0 (Nat.succ_pos _)
    show crOne c :: (r ++ ([13] ++ rest)).map crOne = c :: (r ++ ([10] ++ rest.map crOne))
    rw [ih]
    congr 1
    unfold crOne
    rw [if_neg]
    rintro rfl
    exact h0 rfl
theorem rep_cr (x : Str) : (Txt.replace x (Str.ofString "\r") (Str.ofString "\n")).cps.toList = x.cps.toList.map crOne :=
  replace_spec (Str.ofString "\r") (Str.ofString "\n") (by decide) (fun M => M.map crOne) (fun M h => one_free M h) (fun pre rest h => one_first pre rest h) x
noncomputable def norm : Bool → List Nat → List Nat
  | _, [] => []
  | r, c :: cs => if c = 13 then 10 :: norm true cs else if c = 10 ∧ r = true then norm false cs else c :: norm false cs
theorem norm_true : ∀ cs : List Nat, cs.head? ≠ some 10 → norm true cs = norm false cs
  | [], _ => rfl
  | c :: r, h => by
    have hc : c ≠ 10 := fun e => h (by rw [e]; rfl)
    simp [norm, hc]
theorem lines_norm : ∀ cs : List Nat, (crlf cs).map crOne = norm false cs
  | [] => rfl
  | c :: r => by
    have ih := lines_norm r
    rw [crlf, norm]
    by_cases h13 : c = 13
    · rw [if_pos h13]
      by_cases h10 : r.head? = some 10
      · rw [if_pos ⟨h13, h10⟩, ih]
        cases r with
        | nil => cases h10
        | cons d q =>
          have h2 : d = 10 := Option.some.inj h10
          subst h2
          simp [norm]
      · rw [if_neg (fun h => h10 h.2), List.map_cons, ih, norm_true r h10]
        congr 1
        unfold crOne
        rw [if_pos h13]
    · rw [if_neg h13, if_neg (fun h => h13 h.1), if_neg (fun h => by simp at h), List.map_cons, ih]
      congr 1
      unfold crOne
      rw [if_neg h13]
theorem lines_cps (x : Str) : (linesOf x).cps.toList = norm false x.cps.toList := by
  rw [← lines_norm, ← rep_crlf, ← rep_cr]
theorem norm_len : ∀ (r : Bool) (cs : List Nat), (norm r cs).length ≤ cs.length
  | _, [] => Nat.le_refl _
  | r, c :: cs => by
    rw [norm]
    split
    · exact Nat.succ_le_succ (norm_len _ cs)
    · split
      · exact Nat.le_succ_of_le (norm_len _ cs)
      · exact Nat.succ_le_succ (norm_len _ cs)
theorem norm_valid : ∀ (r : Bool) (cs : List Nat), (∀ c ∈ cs, c < 1114112) → ∀ c ∈ norm r cs, c < 1114112
  | _, [], _, _, h => nomatch h
  | r, c :: cs, h, d, hd => by
    have h2 : ∀ e ∈ cs, e < 1114112 := fun e he => h e (.tail _ he)
    rw [norm] at hd
    split at hd
    · rcases List.mem_cons.mp hd with rfl | hd
      · decide
      · exact norm_valid _ cs h2 d hd
    · split at hd
      · exact norm_valid _ cs h2 d hd
      · rcases List.mem_cons.mp hd with rfl | hd
        · exact h _ (.head _)
        · exact norm_valid _ cs h2 d hd
theorem feed_sgs : ∀ (cs : List Nat) (st : St), (feedAll st cs).sgs = st.sgs ++ norm st.ret cs
  | [], st => (List.append_nil _).symm
  | c :: cs, st => by
    show (feedAll (step st c) cs).sgs = _
    rw [feed_sgs cs (step st c), norm, step]
    by_cases h13 : c = 13
    · rw [if_pos h13, if_pos h13]
      simp
    · rw [if_neg h13, if_neg h13]
      by_cases h10 : c = 10 ∧ st.ret = true
      · rw [if_pos h10, if_pos h10]
      · rw [if_neg h10, if_neg h10]
        simp
theorem step_ret (st : St) (c : Nat) : (step st c).ret = decide (c = 13) := by
  rw [step]
  by_cases h13 : c = 13
  · rw [if_pos h13]; simp [h13]
  · rw [if_neg h13]
    split <;> simp [h13]
theorem feed_ret : ∀ (cs : List Nat) (st : St), (feedAll st cs).ret = match cs.getLast? with | none => st.ret | some c => decide (c = 13)
  | [], _ => rfl
  | c :: cs, st => by
    show (feedAll (step st c) cs).ret = _
    rw [feed_ret cs (step st c)]
    cases cs with
    | nil => exact step_ret st c
    | cons d q =>
      rw [List.getLast?_cons_cons]
      cases h : (d :: q).getLast? with
      | none => simp at h
      | some e => rfl
end Mine
end
section
open PySem PySem.W PyProof.Rows
set_option maxRecDepth 100000
set_option maxHeartbeats 1600000
namespace Mine
noncomputable def errsTo (cs : List Nat) : Nat → List (Str × Nat)
  | 0 => []
  | i + 1 => if (rowErr rowsD ((cs.getD i 0 : Nat) : Int) != Str.ofString "") = true then errsTo cs i ++ [(rowErr rowsD ((cs.getD i 0 : Nat) : Int), i)] else errsTo cs i
theorem errsTo_len (cs : List Nat) : ∀ i, (errsTo cs i).length ≤ i
  | 0 => Nat.le_refl _
  | i + 1 => by
    have ih := errsTo_len cs i
    unfold errsTo
    split
    · rw [List.length_append, List.length_singleton]; omega
    · omega
theorem errsTo_app (l m : List Nat) : ∀ i, i ≤ l.length → errsTo (l ++ m) i = errsTo l i
  | 0, _ => rfl
  | i + 1, h => by
    have e : (l ++ m).getD i 0 = l.getD i 0 := by simp [List.getD, List.getElem?_append_left (show i < l.length by omega)]
    rw [errsTo, errsTo, e, errsTo_app l m i (by omega)]
theorem errsTo_lt (l : List Nat) : ∀ i, ∀ e ∈ errsTo l i, e.2 < i
  | 0, _, h => nomatch h
  | i + 1, e, h => by
    rw [errsTo] at h
    split at h
    · rcases List.mem_append.mp h with h | h
      · exact Nat.lt_succ_of_lt (errsTo_lt l i e h)
      · rw [List.mem_singleton.mp h]; exact Nat.lt_succ_self _
    · exact Nat.lt_succ_of_lt (errsTo_lt l i e h)
theorem errsTo_filter (l : List Nat) (i : Nat) : ∀ n, i ≤ n → (errsTo l n).filter (fun e => decide (e.2 < i)) = errsTo l i := by
  intro n
  induction n with
  | zero =>
    intro h
    have e : i = 0 := by omega
    subst e
    rfl
  | succ n ih =>
    intro h
    by_cases hi : i = n + 1
    · subst hi
      refine List.filter_eq_self.mpr fun e he => decide_eq_true (errsTo_lt l _ e he)
    · have ih := ih (by omega)
      rw [errsTo]
      split
      · rw [List.filter_append, ih]
        have hd : decide (n < i) = false := decide_eq_false (by omega)
        simp [hd]
      · exact ih
theorem planes_err (p : Int) (r : List Dat) : ∀ k : Nat, rowErr (planes k ++ r) p = if 0 ≤ p ∧ p < 65536 * (k : Int) ∧ 65534 ≤ p % 65536 then sNon else rowErr r p := by
  intro k
  induction k generalizing r with
  | zero =>
    rw [if_neg (by omega)]
    rfl
  | succ k ih =>
    rw [planes_succ, List.append_assoc, ih, List.singleton_append, rowErr_row]
    split
    · rw [if_pos (by omega)]
    · split
      · rw [if_pos (by omega)]
      · rw [if_neg (by omega)]
theorem row_input {n : Int} (h0 : 0 ≤ n) (h1 : n ≤ 1114111) : rowErr rowsD n = inputErr n := by
  have e : rowsD = row sCtl 1 8 :: row sCtl 11 11 :: row sCtl 14 31 :: row sCtl 127 159 :: row sSur 55296 57343 :: row sNon 64976 65007 :: (planes 17 ++ []) := by rw [List.append_nil]; rfl
  rw [e]
  simp only [rowErr_row, planes_err]
  unfold inputErr
  (repeat' split) <;> first
    | rfl
    | (exfalso; omega)
theorem row_ok (n : Int) : PyData.strOk (rowErr rowsD n) = true := by
  have e : rowsD = row sCtl 1 8 :: row sCtl 11 11 :: row sCtl 14 31 :: row sCtl 127 159 :: row sSur 55296 57343 :: row sNon 64976 65007 :: (planes 17 ++ []) := by rw [List.append_nil]; rfl
  rw [e]
  simp only [rowErr_row, planes_err]
  (repeat' split) <;> first | decide +kernel | (show PyData.strOk (Str.ofString "") = true; decide +kernel)
theorem errsTo_ok (l : List Nat) : ∀ i, ∀ e ∈ errsTo l i, PyData.strOk e.1 = true
  | 0, _, h => nomatch h
  | i + 1, e, h => by
    rw [errsTo] at h
    split at h
    · rcases List.mem_append.mp h with h | h
      · exact errsTo_ok l i e h
      · rw [List.mem_singleton.mp h]; exact row_ok _
    · exact errsTo_ok l i e h
theorem errsTo_snoc (l : List Nat) (c : Nat) : errsTo (l ++ [c]) (l.length + 1) = if (rowErr rowsD (c : Int) != Str.ofString "") = true then errsTo l l.length ++ [(rowErr rowsD (c : Int), l.length)] else errsTo l l.length := by
  have e : (l ++ [c]).getD l.length 0 = c := by simp [List.getD]
  rw [errsTo, e, errsTo_app l [c] l.length (Nat.le_refl _)]
theorem step_errs {st : St} {c : Nat} (hc : c < 1114112) (h : st.errs = errsTo st.sgs st.sgs.length) : (step st c).errs = errsTo (step st c).sgs (step st c).sgs.length := by
  rw [step]
  by_cases h13 : c = 13
  · rw [if_pos h13]
    show st.errs = errsTo (st.sgs ++ [10]) (st.sgs ++ [10]).length
    rw [List.length_append, List.length_singleton, errsTo_snoc, if_neg, h]
    rw [row_input (by decide) (by decide)]
    decide
  · rw [if_neg h13]
    split
    · exact h
    · show (if inputErr (c : Int) = Str.ofString "" then st.errs else st.errs ++ [(inputErr (c : Int), st.sgs.length)]) = errsTo (st.sgs ++ [c]) (st.sgs ++ [c]).length
      rw [List.length_append, List.length_singleton, errsTo_snoc, row_input (by omega) (by omega), h]
      by_cases hi : inputErr (c : Int) = Str.ofString ""
      · rw [if_pos hi, if_neg (by rw [hi]; simp)]
      · rw [if_neg hi, if_pos (by simpa using hi)]
theorem feed_errs : ∀ (cs : List Nat) (st : St), (∀ c ∈ cs, c < 1114112) → st.errs = errsTo st.sgs st.sgs.length → (feedAll st cs).errs = errsTo (feedAll st cs).sgs (feedAll st cs).sgs.length
  | [], _, _, h => h
  | c :: cs, st, hv, h => feed_errs cs (step st c) (fun d hd => hv d (.tail _ hd)) (step_errs (hv c (.head _)) h)
theorem sgs0 (cs : List Nat) : (feedAll st0 cs).sgs = norm false cs := by
  rw [feed_sgs]; rfl
theorem slice_last (x : Str) : (Txt.slice x (some (-1)) none == Str.ofString "\r") = (feedAll st0 x.cps.toList).ret := by
  rw [feed_ret]
  have hxl : x.cps.toList.length = x.length := by simp [Str.length]
  by_cases h0 : x.length = 0
  · have e : x.cps.toList = [] := List.eq_nil_of_length_eq_zero (by rw [hxl]; exact h0)
    have e2 : Txt.slice x (some (-1)) none = x := by
      unfold Txt.slice
      rw [if_pos]
      have := sliceIndices_le (some (-1)) none x.length
      simp only [beq_self_eq_true, Bool.true_and, beq_iff_eq]
      omega
    rw [e2, e]
    have e3 : x = ⟨#[]⟩ := Str.ext' (Array.toList_inj.mp e)
    rw [e3]
    rfl
  · have e : Txt.slice x (some (-1)) none = StrLaws.sliceText x (some (-1)) none := rfl
    rw [e, StrLaws.sliceText_from_neg (by decide) (by omega)]
    obtain ⟨L, hL⟩ : ∃ L, L = x.cps.toList := ⟨_, rfl⟩
    rw [← hL] at hxl ⊢
    have hne : L ≠ [] := fun e => by rw [e] at hxl; simp at hxl; omega
    obtain ⟨pre, c, hpc⟩ : ∃ pre c, L = pre ++ [c] := ⟨L.dropLast, L.getLast hne, (List.dropLast_concat_getLast hne).symm⟩
    have hlen : x.length = pre.length + 1 := by rw [← hxl, hpc]; simp
    have d1 : ((-1 : Int) + (x.length : Int)).toNat = pre.length := by omega
    have d2 : ((L.length : Int) - (-1 + (x.length : Int))).toNat = 1 := by omega
    rw [d1, d2, hpc, List.drop_left, List.getLast?_append]
    simp only [List.take_succ_cons, List.take_zero, List.getLast?_singleton, Option.some_or]
    exact cr_eq c
theorem right_at {x : Str} {cs signs : List Nat} (hx : ∀ c ∈ cs, c < 1114112) (h18 : cs.length ≤ 18) (hc : x.cps.toList = cs) (N : Nat) (hs : ∃ r, signs = norm false cs ++ r) (hN : signs.length = N) : RightAt x (feedAll st0 cs) signs (errsTo signs N) := by
  have hxl : x.cps.toList.length = x.length := by simp [Str.length]
  have hll : (linesOf x).length = (norm false cs).length := by
    have e : (linesOf x).cps.toList.length = (linesOf x).length := by simp [Str.length]
    rw [← e, lines_cps, hc]
  obtain ⟨r, hr⟩ := hs
  have hle : (norm false cs).length ≤ signs.length := by rw [hr, List.length_append]; omega
  refine ⟨?_, ?_, ?_, ?_, ?_, ?_⟩
  · rw [← hxl, hc]; exact h18
  · have e : (Txt.replace x (Str.ofString "\r\n") (Str.ofString "\n")).cps.toList.length = (Txt.replace x (Str.ofString "\r\n") (Str.ofString "\n")).length := by simp [Str.length]
    rw [← e, rep_crlf, hc]
    exact Nat.le_trans (crlf_len cs) h18
  · rw [sgs0, hll, hr, List.take_left]
  · rw [hll]; exact hle
  · rw [hll, errsTo_filter signs _ N (by omega), feed_errs cs st0 hx rfl, sgs0, hr, errsTo_app _ _ _ (Nat.le_refl _)]
  · rw [slice_last, hc]
theorem lawOk {txt : Str} (hv : Valid txt) (hl : txt.length ≤ 18) : LawOk txt (linesOf txt).cps.toList (errsTo (linesOf txt).cps.toList (linesOf txt).cps.toList.length) := by
  have hxl : txt.cps.toList.length = txt.length := by simp [Str.length]
  have hcs : (linesOf txt).cps.toList = norm false txt.cps.toList := lines_cps txt
  have hlen : (linesOf txt).cps.toList.length ≤ 18 := by rw [hcs]; exact Nat.le_trans (norm_len _ _) (by omega)
  refine ⟨hv, hl, by omega, Nat.le_trans (errsTo_len _ _) (by omega), ?_, fun e he => errsTo_ok _ _ e he, ?_, ?_⟩
  · rw [hcs]; exact norm_valid _ _ hv
  · exact right_at hv (by omega) rfl _ ⟨[], by rw [hcs, List.append_nil]⟩ rfl
  · intro k hk
    have hsl : (Txt.slice txt none (some (k : Int))).cps.toList = txt.cps.toList.take k := by
      have e : Txt.slice txt none (some (k : Int)) = StrLaws.sliceText txt none (some (k : Int)) := rfl
      rw [e, StrLaws.sliceText_to ⟨by omega, by omega⟩]
      simp
    refine right_at (fun c hc => hv c (List.mem_of_mem_take hc)) (by rw [List.length_take]; omega) hsl _ ?_ rfl
    refine ⟨norm (feedAll st0 (txt.cps.toList.take k)).ret (txt.cps.toList.drop k), ?_⟩
    rw [hcs, ← sgs0, ← sgs0]
    conv => lhs; rw [← List.take_append_drop k txt.cps.toList]
    show (List.foldl step st0 _).sgs = _
    rw [List.foldl_append]
    exact feed_sgs _ _
end Mine
end
section
open PySem PySem.W PyProof.Rows
set_option maxRecDepth 100000
set_option maxHeartbeats 1600000
namespace Mine
local macro_rules | `(tactic| k_all) => `(tactic| assumption)
theorem digit_t (w : World) (p : Program) (loose : List Str) (mean : ExcName → Option Value) (mg mb : Str → Option Value) : CellTells PySem.Challenge.rw_nt0585_01.row.prog w (hd.heap_39 w.params) p loose mean mg mb 123 0 := by
  unfold CellTells
  w_top off
  k_fill
  intro dp un gd cn cs a ccd cl outer A₀ base h₀ L m news s l vs ns i tk Q E B F X N T hk hl hi hfit h0 hd hu hret
  refine wpAny_call ?_
  k_dflt cell_enter
  k_steps
  all_goals cell_end hret Q s
end Mine
end
section
open PySem PySem.W PyProof.Rows
set_option maxRecDepth 100000
set_option maxHeartbeats 1600000
namespace Mine
theorem way_sorted {ws : List Nat} {n : Nat} (h1 : ws.Pairwise (· ≤ ·)) (h2 : ∀ v ∈ ws, v ≤ n) (h3 : begAt ws ws.length = n) : WayOk ws n := by
  refine ⟨fun i h => ?_, h2, h3⟩
  cases i with
  | zero => exact Nat.zero_le _
  | succ i =>
    rw [begAt_succ (by omega)]
    exact List.pairwise_iff_getElem.mp h1 i (i + 1) (by omega) h (by omega)
theorem way_one (n : Nat) : WayOk [n] n := way_sorted (List.pairwise_singleton _ _) (fun v hv => by rw [List.mem_singleton.mp hv]; exact Nat.le_refl _) rfl
theorem way_cuts {ns : List Int} {n : Nat} (h1 : ns.Pairwise (· ≤ ·)) (h2 : ∀ v ∈ ns, 0 ≤ v ∧ v ≤ (n : Int)) : WayOk (ns.map Int.toNat ++ [n]) n := by
  have hle : ∀ v ∈ ns.map Int.toNat, v ≤ n := by
    intro v hv
    obtain ⟨u, hu, rfl⟩ := List.mem_map.mp hv
    have := h2 u hu
    omega
  refine way_sorted (List.pairwise_append.mpr ⟨?_, List.pairwise_singleton _ _, fun a ha b hb => by rw [List.mem_singleton.mp hb]; exact hle a ha⟩) ?_ ?_
  · exact List.pairwise_map.mpr (h1.imp fun {a b} h => by omega)
  · intro v hv
    rcases List.mem_append.mp hv with hv | hv
    · exact hle v hv
    · rw [List.mem_singleton.mp hv]; exact Nat.le_refl _
  · rw [List.length_append, List.length_singleton, begAt_succ (by simp)]
    simp
theorem way_each (n : Nat) : WayOk ((List.range n).map (fun i => 1 + i)) n := by
  refine way_sorted (List.pairwise_map.mpr (List.pairwise_lt_range.imp fun {a b} h => by omega)) (fun v hv => ?_) ?_
  · obtain ⟨i, hi, rfl⟩ := List.mem_map.mp hv
    have := List.mem_range.mp hi
    omega
  · cases n with
    | zero => rfl
    | succ k =>
      rw [List.length_map, List.length_range, begAt_succ (by simp)]
      simp
      omega
theorem cast_cuts {ns : List Int} {n : Nat} (h2 : ∀ v ∈ ns, 0 ≤ v ∧ v ≤ (n : Int)) : (ns.map Int.toNat ++ [n]).map (fun (n : Nat) => (n : Int)) = ns ++ [(n : Int)] := by
  rw [List.map_append, List.map_map]
  congr 1
  conv => rhs; rw [← List.map_id ns]
  refine List.map_congr_left fun v hv => ?_
  have := h2 v hv
  simp only [Function.comp, id]
  omega
theorem cast_each (n : Nat) : ((List.range n).map (fun i => 1 + i)).map (fun (n : Nat) => (n : Int)) = rangeKs 1 n := by
  unfold rangeKs
  rw [List.map_map]
  refine List.map_congr_left fun v hv => ?_
  simp only [Function.comp]
  omega
end Mine
end
section
open PySem PySem.W PyProof.Rows
set_option maxRecDepth 100000
set_option maxHeartbeats 1600000
namespace Mine
local macro_rules | `(tactic| k_room) => `(tactic| ((try simp only [depth_under_make, depth_under_kw, depth_in1, depth_deeper, depth_caller]); (try dsimp only [ktrTop]); omega))
local macro_rules | `(tactic| k_units) => `(tactic| ((try simp only [units_in1, units_deeper, Around.mark_units, units_caller]); (try dsimp only [ktrTop]); omega))
local macro_rules | `(tactic| k_all) => `(tactic| assumption)
local macro_rules | `(tactic| k_mem) => `(tactic| assumption)
local macro_rules | `(tactic| size_fits) => `(tactic| (rw [List.size_toArray, sizeLine_eq]; omega))
theorem DatIn_seqs {a b : List (Addr × Obj)} (hs : ∀ p ∈ a, (∃ xs n, p.2.data = .seq xs n) → p ∈ b) : (∀ {v : Value} {d : Dat}, DatIn a v d → DatIn b v d) ∧ (∀ {vs : List Value} {ds : List Dat}, DatAll a vs ds → DatAll b vs ds) := by
  constructor
  · intro v d h
    exact DatIn.rec (motive_1 := fun v d _ => DatIn b v d) (motive_2 := fun vs ds _ => DatAll b vs ds) .none .bool .int .str .bytes (fun hm _ ih => .tuple (hs _ hm ⟨_, _, rfl⟩) ih) (fun hm _ ih => .list (hs _ hm ⟨_, _, rfl⟩) ih) .nil (fun _ _ h1 h2 => .cons h1 h2) h
  · intro v d h
    exact DatAll.rec (motive_1 := fun v d _ => DatIn b v d) (motive_2 := fun vs ds _ => DatAll b vs ds) .none .bool .int .str .bytes (fun hm _ ih => .tuple (hs _ hm ⟨_, _, rfl⟩) ih) (fun hm _ ih => .list (hs _ hm ⟨_, _, rfl⟩) ih) .nil (fun _ _ h1 h2 => .cons h1 h2) h
theorem cells_out {h₀ h : Heap} {L a b : Addr} {o1 o2 : Obj} {v1 v2 : Option Value} {news : List (Addr × Obj)} (N : News h₀ L h news) (h1 : (a, o1) ∈ news) (h2 : (b, o2) ∈ news) (d1 : o1.data = .cell v1) (d2 : o2.data = .cell v2) :
    ∃ rest, News h₀ L h ((b, o2) :: (a, o1) :: rest) ∧ (∀ p ∈ rest, p.1 ≠ a) ∧ (∀ p ∈ rest, p.1 ≠ b) ∧ (∀ p ∈ news, (∃ xs n, p.2.data = .seq xs n) → p ∈ rest) := by
  refine ⟨news.filter (fun p => decide (p.1 ≠ a) && decide (p.1 ≠ b)), ?_, ?_, ?_, ?_⟩
  · refine News_sub N fun p hp => ?_
    rcases List.mem_cons.mp hp with rfl | hp
    · exact h2
    rcases List.mem_cons.mp hp with rfl | hp
    · exact h1
    exact (List.mem_filter.mp hp).1
  · intro p hp
    have := (List.mem_filter.mp hp).2
    simp only [Bool.and_eq_true, decide_eq_true_eq] at this
    exact this.1
  · intro p hp
    have := (List.mem_filter.mp hp).2
    simp only [Bool.and_eq_true, decide_eq_true_eq] at this
    exact this.2
  · rintro p hp ⟨xs, n, hd⟩
    refine List.mem_filter.mpr ⟨hp, ?_⟩
    simp only [Bool.and_eq_true, decide_eq_true_eq]
    refine ⟨fun e => ?_, fun e => ?_⟩
    · have q1 := (N _ hp).1
      rw [e, (N _ h1).1] at q1
      rw [← Option.some.inj q1, d1] at hd
      cases hd
    · have q1 := (N _ hp).1
      rw [e, (N _ h2).1] at q1
      rw [← Option.some.inj q1, d2] at hd
      cases hd
theorem DatAll_of {n : List (Addr × Obj)} : ∀ (vs : List Value) (ds : List Dat), vs.length = ds.length → (∀ (j : Nat) (v : Value), vs[j]? = some v → ∃ d : Dat, ds[j]? = some d ∧ DatIn n v d) → DatAll n vs ds
  | [], [], _, _ => .nil
  | [], _ :: _, h, _ => nomatch h
  | _ :: _, [], h, _ => nomatch h
  | v :: vs, d :: ds, h, k => by
    obtain ⟨e, he, hv⟩ := k 0 v rfl
    rw [← Option.some.inj he] at hv
    exact .cons hv (DatAll_of vs ds (Nat.succ.inj h) fun j w hw => k (j + 1) w hw)
theorem list_str_new {prog : Program} {w : World} {A : Around} {E : Value → Shared → Prop} {s : Shared} {h₀ : Heap} {L : Addr} {m : Str → Option Value} {news : List (Addr × Obj)} {x : Str} {t : Tok} {Q : Value → Shared → Prop} (hh : A.handled = none) (F : Fr h₀ L s.heap m) (N : News h₀ L s.heap news) (hsz : x.cps.size ≤ sizeLine)
    (h : ∀ D vs c h' tk, Fr h₀ L h' m → News h₀ L h' ((D, listOf (List.toArray vs) c) :: news) → (∀ p ∈ news, p.1 < D) → DatAll [] vs (x.cps.toList.map sgD) → Q (.ref D) { s with heap := h', toks := tk }) :
    wpAny (model prog w) A (PySem.call (.type "list") [.str x t]) Q E s := by
  refine call_list_str hh x t (hn := hsz) fun h' tk acc' c' hk hS' hacc => ?_
  refine h _ acc'.toList c' h' tk (F.keeps hk) (fun p hp => ?_) (fun p hp => Heap.lt_size (N p hp).1) (DatAll_of _ _ ?_ ?_)
  · rcases List.mem_cons.mp hp with rfl | hp
    · exact ⟨by rw [Array.toArray_toList]; exact hS', Nat.ne_of_gt F.ns.lt, next_is_new F⟩
    · exact ⟨hk _ _ (N p hp).1, (N p hp).2⟩
  · simp [hacc.1]
  · intro j v hv
    obtain ⟨k, u, hk, rfl⟩ := hacc.2 j v (by simpa using hv)
    exact ⟨sgD k, by simp [hk], .str _ _⟩
section
variable {h₀ h : Heap} {L D c1 c2 sl : Addr} {od o1 o2 os : Obj} {add rest : List (Addr × Obj)}
theorem reord (N : News h₀ L h ((D, od) :: (add ++ (sl, os) :: (c1, o1) :: (c2, o2) :: rest))) : News h₀ L h ((c2, o2) :: (c1, o1) :: (D, od) :: (sl, os) :: (add ++ rest)) := News_sub N fun p hp => by
  rcases List.mem_cons.mp hp with rfl | hp
  · exact .tail _ (List.mem_append_right _ (.tail _ (.tail _ (.head _))))
  rcases List.mem_cons.mp hp with rfl | hp
  · exact .tail _ (List.mem_append_right _ (.tail _ (.head _)))
  rcases List.mem_cons.mp hp with rfl | hp
  · exact .head _
  rcases List.mem_cons.mp hp with rfl | hp
  · exact .tail _ (List.mem_append_right _ (.head _))
  rcases List.mem_append.mp hp with hp | hp
  · exact .tail _ (List.mem_append_left _ hp)
  · exact .tail _ (List.mem_append_right _ (.tail _ (.tail _ (.tail _ hp))))
theorem reord_ne (h1 : c1 ≠ c2) (hoff : ∀ p ∈ add ++ (sl, os) :: (c1, o1) :: (c2, o2) :: rest, p.1 ≠ D) (h2 : c2 < sl) (hadd : ∀ q ∈ add, ∀ p ∈ (sl, os) :: (c1, o1) :: (c2, o2) :: rest, p.1 < q.1) (hr : ∀ p ∈ rest, p.1 ≠ c2) : ∀ p ∈ (c1, o1) :: (D, od) :: (sl, os) :: (add ++ rest), p.1 ≠ c2 := by
  intro p hp
  rcases List.mem_cons.mp hp with rfl | hp
  · exact h1
  rcases List.mem_cons.mp hp with rfl | hp
  · exact fun e => hoff _ (List.mem_append_right _ (.tail _ (.tail _ (.head _)))) e.symm
  rcases List.mem_cons.mp hp with rfl | hp
  · exact Nat.ne_of_gt h2
  rcases List.mem_append.mp hp with hp | hp
  · exact Nat.ne_of_gt (hadd p hp _ (.tail _ (.tail _ (.head _))))
  · exact hr p hp
end
theorem ints_of : ∀ (vs : List Value) (ns : List Int), vs.length = ns.length → (∀ (j : Nat) (v : Value), vs[j]? = some v → ∃ (n : Int) (t : Tok), ns[j]? = some n ∧ v = .int n t) → IntsAre vs ns
  | [], [], _, _ => .nil
  | [], _ :: _, h, _ => nomatch h
  | _ :: _, [], h, _ => nomatch h
  | v :: vs, n :: ns, h, k => by
    obtain ⟨e, t, he, hv⟩ := k 0 v rfl
    rw [← Option.some.inj he] at hv
    rw [hv]
    exact .cons _ _ (ints_of vs ns (Nat.succ.inj h) fun j w hw => k (j + 1) w hw)
theorem list_range_new {prog : Program} {w : World} {A : Around} {E : Value → Shared → Prop} {s : Shared} {h₀ : Heap} {L r : Addr} {m : Str → Option Value} {news : List (Addr × Obj)} {a b : Int} {t u v : Tok} {n : Nat} {Q : Value → Shared → Prop} (hh : A.handled = none) (F : Fr h₀ L s.heap m) (N : News h₀ L s.heap news)
    (hr : IsRange s.heap r a b 1 t u v) (hsmall : Builtin.Range.small a b 1 = true) (hn : Builtin.Range.rangeSize a b 1 = (n : Int)) (hlen : n ≤ 2 ^ 24)
    (h : ∀ D vs c h' tk, Fr h₀ L h' m → News h₀ L h' ((D, listOf (List.toArray vs) c) :: news) → (∀ p ∈ news, p.1 < D) → IntsAre vs (rangeKs a n) → Q (.ref D) { s with heap := h', toks := tk }) :
    wpAny (model prog w) A (PySem.call (.type "list") [.ref r]) Q E s := by
  refine call_list_range hh hr hsmall hn hlen fun h' tk acc' c' hk hS' hacc => ?_
  refine h _ acc'.toList c' h' tk (F.keeps hk) (fun p hp => ?_) (fun p hp => Heap.lt_size (N p hp).1) (ints_of _ _ ?_ ?_)
  · rcases List.mem_cons.mp hp with rfl | hp
    · exact ⟨by rw [Array.toArray_toList]; exact hS', Nat.ne_of_gt F.ns.lt, next_is_new F⟩
    · exact ⟨hk _ _ (N p hp).1, (N p hp).2⟩
  · rw [Array.length_toList, hacc.1, rangeKs_length]
  · intro j v hv
    have hv' : acc'[j]? = some v := by simpa using hv
    obtain ⟨tk, rfl⟩ := hacc.2 j v hv'
    have hj : j < n := by
      have := (Array.getElem?_eq_some_iff.mp hv').1
      rw [hacc.1] at this; exact this
    exact ⟨a + (j : Int), tk, by simp [rangeKs, hj], by rw [Int.mul_one]⟩
def WInv (TL : List (Addr × Obj)) (txt : Str) (tt : Tok) (sl el : Addr) (_ : Nat) (tl : List (Addr × Obj)) (_ : Unit) (m : Str → Option Value) : Prop :=
  (∃ add, tl = add ++ TL ∧ ∀ q ∈ add, ∀ p ∈ TL, p.1 < q.1) ∧ LawMap m txt tt sl el
theorem ways_loop {w : World} {txt : Str} {tt : Tok} {sl el wa a1 a2 a3 : Addr} {svs evs wv1 wv2 wv3 : List Value} {k1 k2 kw1 kw2 kw3 : Nat} {signs : List Nat} {errs : List (Str × Nat)} {ws1 ws2 ws3 : List Nat} (O : LawOk txt signs errs) (W1 : WayOk ws1 txt.length) (W2 : WayOk ws2 txt.length) (W3 : WayOk ws3 txt.length)
    {L fa : Addr} {cd : Value} {h₀ : Heap} {m : Str → Option Value} {TL : List (Addr × Obj)} {s : Shared} {p : Program} {loose : List Str} {mean : ExcName → Option Value} {mg mb : Str → Option Value} {Q : Flow → Shared → Prop}
    (F : Fr h₀ L s.heap m) (X : (hd.heap_39 w.params).In h₀) (N : News h₀ L s.heap TL) (T : Top p loose mean mg mb h₀)
    (hsl : (sl, listOf svs.toArray k1) ∈ TL) (hsd : DatAll TL svs (signs.map sgD)) (hel : (el, listOf evs.toArray k2) ∈ TL) (hed : DatAll TL evs (errs.map erD)) (hwa : (wa, listOf [.ref a1, .ref a2, .ref a3].toArray 0) ∈ TL)
    (h1 : (a1, listOf wv1.toArray kw1) ∈ TL) (h2 : (a2, listOf wv2.toArray kw2) ∈ TL) (h3 : (a3, listOf wv3.toArray kw3) ∈ TL)
    (i1 : IntsAre wv1 (ws1.map (fun (n : Nat) => (n : Int)))) (i2 : IntsAre wv2 (ws2.map (fun (n : Nat) => (n : Int)))) (i3 : IntsAre wv3 (ws3.map (fun (n : Nat) => (n : Int))))
    (M : LawMap m txt tt sl el) (hret : ∀ h' tk' m', Fr h₀ L h' m' → Q .next { s with heap := h', toks := tk' }) :
    wpAny (model PySem.Challenge.rw_nt0585_01.row.prog w) (callerA.deeper (lawEnv L fa cd)) (pyIter (.ref wa)) (fun it s₂ => PyProof.Rows.LoopAtV PySem.Challenge.rw_nt0585_01.row.prog w (callerA.deeper (lawEnv L fa cd)) h₀ (lawEnv L fa cd) (Str.ofString "way") wayBody Q (fun _ _ => False) it s₂) (fun _ _ => False) s := by
  refine loop_list (Led := Led0) (adr := []) (Inv := WInv TL txt tt sl el) (c₀ := ()) (fun _ => rfl) rfl hwa (fun h => nomatch h) F N (fun _ _ _ hb => nomatch hb) ⟨⟨[], rfl, fun _ hq => nomatch hq⟩, M⟩ ?turn ?done
  case done =>
    rintro c tl m₁ h tk hoff ⟨_, hM⟩ F₁ N₁
    exact hret h tk m₁ F₁
  case turn =>
    rintro i v c tl rest' m₁ h tk hv hl hs hoff ⟨⟨add, rfl, hadd⟩, hM⟩ F₁ N₁
    have hsT : ∀ p ∈ TL, p ∈ rest' := fun p hp => hs p (List.mem_append_right _ hp)
    have go : ∀ {wl : Addr} {wvs : List Value} {kw : Nat} {ws : List Nat}, v = .ref wl → (wl, listOf wvs.toArray kw) ∈ TL → IntsAre wvs (ws.map (fun (n : Nat) => (n : Int))) → WayOk ws txt.length →
        wpAny (model PySem.Challenge.rw_nt0585_01.row.prog w) (callerA.deeper (lawEnv L fa cd)) (execs wayBody (lawEnv L fa cd)) (LPost h₀ (lawEnv L fa cd).locals Led0 [] (WInv TL txt tt sl el) (i + 1) (add ++ TL) rest' { s with heap := h, toks := tk } Q) (fun _ _ => False) { s with heap := h, toks := tk } := by
      rintro wl wvs kw ws rfl hwl hwi hW
      refine way_turn w txt tt sl el wl svs evs wvs k1 k2 kw signs errs O ws hW L fa cd h₀ _ rest' _ p loose mean mg mb _ F₁ X N₁ T (hsT _ hsl) (DatAll.mono hsT hsd) (hsT _ hel) (DatAll.mono hsT hed) (hsT _ hwl) hwi
        ⟨(if_neg (by decide)).trans hM.text, (if_neg (by decide)).trans hM.signs, (if_neg (by decide)).trans hM.errors⟩ (if_pos rfl) ?_
      intro add' h' tk' m' F' M' N' ha'
      refine LEnd0_intro add' F' N' (fun _ hp => hp) ha' ⟨⟨add' ++ add, (List.append_assoc _ _ _).symm, fun q hq p hp => ?_⟩, M'⟩
      rcases List.mem_append.mp hq with hq | hq
      · exact ha' q hq p (hsT p hp)
      · exact hadd q hq p hp
    rcases i with _ | _ | _ | i
    · exact go (Option.some.inj hv).symm h1 i1 W1
    · exact go (Option.some.inj hv).symm h2 i2 W2
    · exact go (Option.some.inj hv).symm h3 i3 W3
    · cases hv
theorem cut_in (c : Int) (n : Nat) : 0 ≤ c.fmod ((n : Int) + 1) ∧ c.fmod ((n : Int) + 1) ≤ n := by
  have h1 := Int.fmod_nonneg_of_pos c (show (0 : Int) < (n : Int) + 1 by omega)
  have h2 := Int.fmod_lt_of_pos c (show (0 : Int) < (n : Int) + 1 by omega)
  omega
theorem pow20 {k : Int} (h1 : 1 ≤ k) (h2 : k < 4) : (20 : Int) ^ k.toNat ≠ 0 ∧ 0 < (20 : Int) ^ k.toNat ∧ (20 : Int) ^ k.toNat ≤ 8000 := by
  have h : k = 1 ∨ k = 2 ∨ k = 3 := by omega
  rcases h with rfl | rfl | rfl <;> decide
def EInv (TL : List (Addr × Obj)) (sl rl sc : Addr) (txt : Str) (tt : Tok) (cs : List Nat) (D : Addr) (i : Nat) (tl : List (Addr × Obj)) (c : List Value × Nat) (m : Str → Option Value) : Prop :=
  (∃ add, tl = add ++ TL ∧ ∀ q ∈ add, ∀ p ∈ TL, p.1 < q.1) ∧ DatAll tl c.1 ((errsTo cs i).map erD) ∧ m (Str.ofString "rows") = some (.ref rl) ∧ m (Str.ofString "script") = some (.ref sc) ∧ LawMap m txt tt sl D
theorem item_sign {prog : Program} {w : World} {A : Around} {E : Value → Shared → Prop} {s : Shared} {h₀ : Heap} {L : Addr} {value slice : PySem.Expr} {l : Addr} {vs : List Value} {cs : List Nat} {n i : Nat} {news nn : List (Addr × Obj)} {u : Tok} {Q : Value → Shared → Prop} (N : News h₀ L s.heap news) (hm : (l, listOf vs.toArray n) ∈ news) (hd : DatAll nn vs (cs.map sgD))
    (hk : i < cs.length) (hb : cs.length < 2 ^ 62) (h : ∀ t, Q (.str ⟨#[cs.getD i 0]⟩ t) s) (hs : subscripted slice false (.ref l) (.int (i : Int) u) = operate [.ref l, .int (i : Int) u] (getItem (.ref l) (.int (i : Int) u))) :
    wpAny (model prog w) A (subscriptTail value slice (.ref l) (.int (i : Int) u)) Q E s := by
  have hl := isList_of N hm
  obtain ⟨v, hv, hD⟩ := hd.get (k := i) (by rw [List.length_map]; exact hk)
  rw [List.getElem_map] at hD
  have e : cs[i] = cs.getD i 0 := by simp [List.getD, hk]
  rw [e] at hD
  cases hD with
  | str _ t => exact tail_any hl.typeIs slot_list_getitem.lookup (wpAny_getItem_list hl (Int.natCast_nonneg i) (by omega) (by simpa using hv) (h t)) hs
section
local macro_rules | `(tactic| walk_at "binaryOp FloorDiv int int") => `(tactic| ((have hq20 := pow20 (by assumption) (by assumption)); refine floordiv_int hq20.1 ?_ (Or.inl (PyProof.noPylong_small (by omega)))))
local macro_rules | `(tactic| walk_at "call builtin:sorted") => `(tactic| refine unmark ?_)
local macro_rules | `(tactic| walk_at "exec For Name List cons nil") => `(tactic| refine unmark ?_)
local macro_rules | `(tactic| walk_at "eval Call") => `(tactic| k_dflt (refine Call_ ?_))
local macro_rules | `(tactic| walk_at "call ref") => `(tactic| ((with_reducible show wpAny _ _ (PySem.call (Value.ref 123) _) _ _ _); refine unmark ?_))
local macro_rules | `(tactic| walk_at "call ref") => `(tactic| ((with_reducible show wpAny _ _ (PySem.call (Value.ref 158) _) _ _ _); refine unmark ?_))
local macro_rules | `(tactic| walk_at "call builtin:len") => `(tactic| ((with_reducible show wpAny _ _ (PySem.call (Value.builtin "len") [Value.ref _]) _ _ _); k_dflt (refine' len_made ?lN ?lm ?li ?la ?_; (case lN => k_asm); (case lm => k_mem); (case li => with_reducible assumption); (case la => omega)); intro t9 k9))
local macro_rules | `(tactic| walk_at "pyIter ref") => `(tactic| refine unmark ?_)
local macro_rules | `(tactic| walk_at "call ref") => `(tactic| ((with_reducible show wpAny _ _ (PySem.call (Value.ref 137) _) _ _ _); k_dflt (refine' tell_use (error_t _ _ _ _ _ _) ?uB ?uF ?uX ?uN ?uT ?uk ?ud ?uu ?up ?_; (case uB => k_asm); (case uF => k_asm); (case uX => k_asm); (case uN => k_asm); (case uT => k_asm); (case uk => exact rfl); (case ud => k_room); (case uu => k_units); (case up => exact ⟨List.Mem.tail _ (by assumption), DatAll.mono (fun _ hp => List.Mem.tail _ hp) (by assumption)⟩)); intro v9 news9 h9 tk9 F9 N9 hP9; obtain ⟨e9, t9, e8⟩ := hP9; subst e9; subst e8))
local macro_rules | `(tactic| walk_at "subscriptTail Name Name ref int") => `(tactic| (k_dflt (refine' item_sign ?iN ?im ?id ?ik ?ib ?_ ?is; (case iN => k_asm); (case im => k_mem); (case id => assumption); (case ik => assumption); (case ib => omega); (case is => with_unfolding_all rfl)); intro t9))
local macro_rules | `(tactic| walk_at "call builtin:list.append") => `(tactic| ((with_reducible show wpAny _ _ (PySem.call (Value.builtin _) [Value.ref _, _]) _ _ _); refine' append_K ?F ?N ?U ?_ ?z; (case F => k_asm); (case N => k_asm); (case U => k_upd); (case z => (rw [List.size_toArray, sizeLine_eq]; omega)); intro h7 F7 N7; (try k_sweep)))
local macro_rules | `(tactic| walk_at "call type:list") => `(tactic| refine unmark ?_)
local macro_rules | `(tactic| walk_at "call ref") => `(tactic| ((with_reducible show wpAny _ _ (PySem.call (Value.ref 130) _) _ _ _); refine unmark ?_))
local macro_rules | `(tactic| walk_at "call ref") => `(tactic| ((with_reducible show wpAny _ _ (PySem.call (Value.ref 144) _) _ _ _); refine unmark ?_))
local macro_rules | `(tactic| walk_at "call ref") => `(tactic| ((with_reducible show wpAny _ _ (PySem.call (Value.ref 151) _) _ _ _); refine unmark ?_))
theorem law_t (w : World) (sc : Addr) (svs : List Value) (ns : List Int) (hns : ns.length ≤ 63) (L fa : Addr) (cd : Value) (h₀ : Heap) (m : Str → Option Value) (o1 o2 : Obj) (s : Shared) (p : Program) (loose : List Str) (mean : ExcName → Option Value) (mg mb : Str → Option Value) (Q : Flow → Shared → Prop)
    (F : Fr h₀ L s.heap m) (X : (hd.heap_39 w.params).In h₀) (N : News h₀ L s.heap [(L + 1 + 1, o1), (L + 1, o2)]) (T : Top p loose mean mg mb h₀) (hsc : h₀.IsList sc svs.toArray) (hsi : IntsAre svs ns)
    (d1 : o1.data = .cell none) (d2 : o2.data = .cell none) (m1 : m (Str.ofString "script") = some (.ref sc))
    (hret : ∀ h' tk' m', Fr h₀ L h' m' → Q (.ret (.bool true)) { s with heap := h', toks := tk' }) :
    wpAny (model PySem.Challenge.rw_nt0585_01.row.prog w) (callerA.deeper (lawEnv L fa cd)) (execs lawBody (lawEnv L fa cd)) Q (fun _ _ => False) s := by
  have e1 : lawScope = lawScope := rfl
  conv at e1 => rhs; whnf
  have e2 : lawBody = lawBody := rfl
  conv at e2 => rhs; whnf
  unfold lawEnv
  rw [e1, e2]
  clear e2
  revert X
  w_top off
  k_fill
  intro X
  have F1 := Fr_also F m1
  clear F
  have K0 : Below callerA h₀ [] h₀ := ⟨rfl, fun _ _ e => e, trivial⟩
  show wpAny _ _ _ _ _ _
  (try k_fold)
  k_steps
  refine Mark.mk ?_
  rename Fr _ _ _ _ => F5
  refine tell_use (rows_t w) K0 F5 X N T rfl ?hd ?hu trivial ?_
  case hd => k_room
  case hu => k_units
  rintro v news1 h1 tk1 F6 N1 ⟨rl, rvs, rn, rfl, hrl, hs1, hrd⟩
  clear F5 N
  dsimp only
  k_steps
  refine Mark.mk ?_
  rename Fr _ _ _ _ => F5
  rename News _ _ _ _ => N5
  refine tell_use (edges_t w rl rvs rn) K0 F5 X N5 T rfl ?hd ?hu ⟨hrl, hrd⟩ ?_
  case hd => k_room
  case hu => k_units
  rintro v news2 h2 tk2 F6 N2 ⟨hs2, e, es, ek, rfl, hel, hei⟩
  clear F5 N5
  dsimp only
  k_steps
  refine Mark.mk ?_
  rename Fr _ _ _ _ => F5
  rename News _ _ _ _ => N5
  refine tell_use (text_t w sc e svs ns es ek hns) K0 F5 X N5 T rfl ?hd ?hu ⟨hsc, hsi, hel, hei⟩ ?_
  case hd => k_room
  case hu => k_units
  rintro v news3 h3 tk3 F6 N3 ⟨hs3, txt, tt, rfl, htl, htv⟩
  clear F5 N5
  dsimp only
  k_steps
  have hc1 := hs3 _ (hs2 _ (hs1 _ (.head _)))
  have hc2 := hs3 _ (hs2 _ (hs1 _ (.tail _ (.head _))))
  rename News _ _ _ _ => N5
  obtain ⟨rest, N6, hr1, hr2, hrs⟩ := cells_out N5 hc1 hc2 d1 d2
  have hrl' := hrs _ (hs3 _ (hs2 _ hrl)) ⟨_, _, rfl⟩
  have hrd' : DatAll rest rvs rowsD := (DatIn_seqs (fun p hp hx => hrs p (hs3 _ (hs2 _ hp)) hx)).2 hrd
  have hne21 : L + 1 + 1 ≠ L + 1 := Nat.succ_ne_self _
  have hz1 : ∀ p ∈ (L + 1 + 1, o1) :: rest, p.1 ≠ L + 1 := fun p hp => by
    rcases List.mem_cons.mp hp with rfl | hp
    · exact hne21
    · exact hr2 p hp
  clear N5 hc1 hc2 hel hei hrl hrd hs1 hs2 hs3 hrs
  have O := lawOk htv htl
  k_steps
  refine Mark.mk ?_
  rename Fr _ _ _ _ => F5
  rename News _ _ _ _ => N5
  refine tell_use (lines_t w txt tt) K0 F5 X N5 T rfl ?hd ?hu ⟨htl, O.all.l2⟩ ?_
  case hd => k_room
  case hu => k_units
  rintro v news7 h7 tk7 F6 N7 ⟨rfl, lt, rfl⟩
  clear F5 N5
  have hcl : (linesOf txt).cps.toList.length ≤ 50 := O.l3
  dsimp only
  k_steps
  refine Mark.mk ?_
  refine list_str_new rfl F6 N7 (by rw [sizeLine_eq, ← Array.length_toList]; omega) ?_
  intro sl svs2 sk h8 tk8 F8 N8 hslt hsd
  clear F6 N7
  have hsn : svs2.length = (linesOf txt).cps.toList.length := by rw [hsd.length, List.length_map]
  have l8 := hslt
  k_lt l8
  dsimp only
  k_steps
  refine Mark.mk ?_
  rename IsRange _ _ _ _ _ _ _ _ => kR
  rename News _ _ _ _ => kN
  rename Fr _ _ _ _ => kF
  refine loop_range1 (EInv ((sl, listOf svs2.toArray sk) :: _ :: _ :: rest) sl rl sc txt tt (linesOf txt).cps.toList) (linesOf txt).cps.toList.length rfl kR (small_one (by decide) (by decide) (by omega) (by omega)) ((rangeSize_nat _ _).trans (by simp)) kF kN ?ho ⟨⟨[], rfl, fun _ hq => nomatch hq⟩, .nil, rfl, rfl, ⟨rfl, rfl, rfl⟩⟩ ?turn ?done
  case ho =>
    exact fun p hp => Nat.ne_of_lt (allLt_to (by assumption) p hp)
  case turn =>
    rintro i t vs k tl rest' m₁ h tk hi hs hoff ⟨⟨add, rfl, hadd⟩, hD, mr, ms, mM⟩ F₁ N₁
    have F₂ := Fr_also (Fr_also (Fr_also (Fr_also (Fr_also F₁ (x := Str.ofString "errors") ((if_neg (by decide)).trans mM.errors)) (x := Str.ofString "signs") ((if_neg (by decide)).trans ((if_neg (by decide)).trans mM.signs))) (x := Str.ofString "rows") ((if_neg (by decide)).trans ((if_neg (by decide)).trans ((if_neg (by decide)).trans mr))))
      (x := Str.ofString "text") ((if_neg (by decide)).trans ((if_neg (by decide)).trans ((if_neg (by decide)).trans ((if_neg (by decide)).trans mM.text))))) (x := Str.ofString "script") ((if_neg (by decide)).trans ((if_neg (by decide)).trans ((if_neg (by decide)).trans ((if_neg (by decide)).trans ((if_neg (by decide)).trans ms)))))
    have hsl := hs _ (List.mem_append_right _ (.head _))
    have hrR : ∀ p ∈ rest, p ∈ rest' := fun p hp => hs p (List.mem_append_right _ (.tail _ (.tail _ (.tail _ hp))))
    have hrl2 := hrR _ hrl'
    have hvl : vs.length ≤ 50 := by
      have q := errsTo_len (linesOf txt).cps.toList i
      rw [hD.length, List.length_map]; omega
    have hrd2 := DatAll.mono hrR hrd'
    clear F₁ kF kN kR
    simp only [Int.zero_add] at F₂
    show wpAny _ _ _ _ _ _
    k_fold
    k_steps
    · refine LEnd1_new (by assumption) (by assumption) (by assumption) ⟨⟨_ :: add, rfl, ?_⟩, ?_, rfl, rfl, ⟨rfl, rfl, rfl⟩⟩
      · intro q hq p hp
        rcases List.mem_cons.mp hq with rfl | hq
        · exact allLt_to (And.right (by assumption)) p (hs p (List.mem_append_right _ hp))
        · exact hadd q hq p hp
      · rw [errsTo, if_pos (by assumption), List.map_append]
        exact (DatAll.mono (fun _ hp => .tail _ hp) hD).append (DatAll.one (.tuple (.head _) (.cons (.str _ _) (.cons (.int _ _) .nil))))
    · refine LEnd1_same (by assumption) (by assumption) ⟨⟨add, rfl, hadd⟩, ?_, rfl, rfl, ⟨rfl, rfl, rfl⟩⟩
      rw [errsTo, if_neg (ne_true_of_eq_false (by assumption))]
      exact hD
  case done =>
    rintro vs k tl m₁ h tk hoff ⟨⟨add, rfl, hadd⟩, hD, mr, ms, mM⟩ F₁ N₁
    have F₂ := Fr_also (Fr_also (Fr_also (Fr_also (Fr_also F₁ mM.errors) (x := Str.ofString "signs") ((if_neg (by decide)).trans mM.signs)) (x := Str.ofString "text") ((if_neg (by decide)).trans ((if_neg (by decide)).trans mM.text)))
      (x := Str.ofString "rows") ((if_neg (by decide)).trans ((if_neg (by decide)).trans ((if_neg (by decide)).trans mr)))) (x := Str.ofString "script") ((if_neg (by decide)).trans ((if_neg (by decide)).trans ((if_neg (by decide)).trans ((if_neg (by decide)).trans ms))))
    clear F₁ kF kN kR
    dsimp only
    k_steps
    refine Mark.mk ?_
    rename Fr _ _ _ _ => F5
    refine cellTells_use K0 F5 X (by assumption) T rfl hsc hsi (by omega) (by decide) (digit_t w p loose mean mg mb) (by k_room) (by k_units) ?_
    intro t10 h10 tk10 F10 N10
    clear F5
    have hcn := reord_ne (od := listOf vs.toArray k) (Nat.ne_of_lt (Nat.lt_succ_self (L + 1))) hoff (hslt _ (.tail _ (.head _))) hadd hr1
    have N11 := reord N10
    clear N10 N₁
    dsimp only
    k_steps
    refine Mark.mk ?_
    rename IntsAre _ (List.map _ _ ++ _) => hI1
    rename News _ _ _ _ => N5
    rename Fr _ _ _ _ => F5
    refine kso_sorted F5 N5 (isList_of N5 (.head _)) hI1 ?len ?_
    case len => simp only [List.length_append, List.length_map, rangeKs_length, List.length_singleton]; decide
    intro D9 vs9 ns9 c9 h9 F9 N9 l9 i9 e9 p9 o9 b9
    have hin : ∀ v ∈ ns9, 0 ≤ v ∧ v ≤ (txt.length : Int) := by
      intro v hv
      have hv := p9.mem_iff.mp hv
      rcases List.mem_append.mp hv with hv | hv
      · obtain ⟨k9, hk9, rfl⟩ := List.mem_map.mp hv
        have q1 := mem_rangeKs hk9
        have q2 := pow20 q1.1 q1.2
        rw [if_pos q2]
        exact cut_in _ _
      · rw [List.mem_singleton.mp hv]
        exact cut_in _ _
    have hn9 : ns9.length = 4 := by
      rw [e9]; simp only [List.length_append, List.length_map, rangeKs_length, List.length_singleton]; decide
    clear p9 b9 e9 hI1 F5 N5
    dsimp only
    k_steps
    refine Mark.mk ?_
    rename Fr _ _ _ _ => F5
    refine For_invVF F5 rfl rfl ?_
    k_steps
    refine Mark.mk ?_
    rename IsRange _ _ _ _ _ _ _ _ => kR
    rename Fr _ _ _ _ => F5
    rename News _ _ _ _ => N5
    rename IntsAre _ (_ ++ _) => hI2
    refine list_range_new rfl F5 N5 kR (small_one (by decide) (by decide) (by omega) (by omega)) (rangeSize_nat _ _) (by omega) ?_
    intro D10 vs10 c10 h11 tk11 F11 N11 l11 hI3
    have l12 := l11
    k_lt l12
    dsimp only
    k_steps
    refine Mark.mk ?_
    rename Fr _ _ _ _ => F6
    rename News _ _ _ _ => N6
    have hin2 : IntsAre _ ((ns9.map Int.toNat ++ [txt.length]).map (fun (n : Nat) => (n : Int))) := (cast_cuts hin).symm ▸ hI2
    have hsz3 : ((txt.length : Int) + 1 - 1).toNat = txt.length := by omega
    rw [hsz3, ← cast_each] at hI3
    refine' ways_loop O (way_one txt.length) (way_cuts o9 hin) (way_each txt.length) F6 X N6 T ?hsl (DatAll.mono (news := []) (fun _ h => absurd h List.not_mem_nil) hsd) ?hel ((DatIn_seqs ?hq).2 hD) (.head _) ?h1 ?h2 ?h3 ?i1 hin2 hI3 ⟨rfl, rfl, rfl⟩ ?_
    case hsl => (repeat (first | exact List.Mem.head _ | refine List.Mem.tail _ ?_))
    case hel => (repeat (first | exact List.Mem.head _ | refine List.Mem.tail _ ?_))
    case h1 => (repeat (first | exact List.Mem.head _ | refine List.Mem.tail _ ?_))
    case i1 => exact .cons _ _ .nil
    case h2 => (repeat (first | exact List.Mem.head _ | refine List.Mem.tail _ ?_))
    case h3 => (repeat (first | exact List.Mem.head _ | refine List.Mem.tail _ ?_))
    case hq =>
      rintro p hp ⟨xs, n, hx⟩
      rcases List.mem_append.mp hp with hp | hp
      · (repeat (refine List.Mem.tail _ ?_)); exact List.mem_append_left _ hp
      rcases List.mem_cons.mp hp with rfl | hp
      · (repeat (first | exact List.Mem.head _ | refine List.Mem.tail _ ?_))
      rcases List.mem_cons.mp hp with rfl | hp
      · have hx : Obj.data _ = Data.seq xs n := hx
        rename (Obj.data _ = Data.cell (some (Value.int (txt.length : Int) _))) => hcell
        rw [hcell] at hx; cases hx
      rcases List.mem_cons.mp hp with rfl | hp
      · have hx : o1.data = Data.seq xs n := hx
        rw [d1] at hx; cases hx
      · (repeat (refine List.Mem.tail _ ?_)); exact List.mem_append_right _ hp
    intro h12 tk12 m12 F12
    dsimp only
    k_steps
    exact hret _ _ _ F12
end
end Mine
end
section
open PySem PySem.W PyProof.Rows
set_option maxRecDepth 100000
set_option maxHeartbeats 4000000
namespace Mine
theorem fin : PySem.Challenge.rw_nt0585_01.Holds := by
  refine hd ?_
  k_go0
  rename Fr _ _ _ _ => kF
  rename News _ _ _ _ => kN
  rename PyProof.Rows.Top _ _ _ _ _ _ => kT
  rename Frag.In _ _ => kX
  rename Heap.IsList _ _ _ => kL
  rename IntsAre _ _ => kI
  refine wpAny_noRaise ?_
  refine law_t _ _ _ _ ?len _ _ _ _ _ _ _ _ _ _ _ _ _ _ kF kX kN kT kL kI ?d1 ?d2 rfl ?_
  case d1 => assumption
  case d2 => assumption
  case len => omega
  intro h' tk' m' F'
  dsimp only
  k_end
  wrow_close
end Mine
end
theorem PySem.Challenge.cw_nt0585_01_holds : PySem.Challenge.rw_nt0585_01.Holds := by
  exact Mine.fin
