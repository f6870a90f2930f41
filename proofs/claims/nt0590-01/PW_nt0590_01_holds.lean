import PyProof.Rows.All
import Wide.All
import OpenK.AllK
import Wide.FinOn
import Lean
import PySem.Challenge.RW_nt0590_01
open PySem PySem.W PyProof.Rows PySem.Calls PySem.Spec
set_option Elab.async false
set_option maxRecDepth 100000
set_option maxHeartbeats 8000000
set_option rowWalk.seconds 0
namespace Mine
open_top hd for PySem.Challenge.rw_nt0590_01
end Mine
namespace Mine

abbrev Led := List (Addr × Obj)

/-- what a call of the def at f gives: the value and the objects it leaves on the ledger -/
def Sp (w : World) (mean : ExcName → Option Value) (mg mb : Str → Option Value) (f : Addr) (d : Nat) (vs : List Value) (news : Led) (Ret : Value → Led → Prop) : Prop :=
  ∀ (dp un : Nat) (gd : Option (List Code)) (cn : Str) (cs : Scope) (a : Addr) (ccd : Value) (cl : List (Str × Addr)) (outer : List Env) (A₀ : Around) (base h₀ : Heap) (L : Addr) (m : Str → Option Value) (s : Shared) (Q E : Value → Shared → Prop),
    Below A₀ base outer h₀ → Fr h₀ L s.heap m → (Mine.hd.heap_39 w.params).In h₀ → News h₀ L s.heap news → Top Mine.hd.view_39 (looseW Mine.hd.view_39 []) mean mg mb h₀ → cs.kind = .function → dp + d < recursionLimit → un + 8 * d < cLine →
    (∀ (r : Value) (tl : Led) (h' : Heap) (tk' : Nat), Fr h₀ L h' m → News h₀ L h' (tl ++ news) → (∀ p ∈ tl, ∀ q ∈ news, q.1 < p.1) → Ret r tl → Q r { s with heap := h', toks := tk' }) →
    wpAny (model PySem.Challenge.rw_nt0590_01.row.prog w) (ktrTop dp un gd cn cs L a ccd cl outer) (call (.ref f) vs) Q E s

end Mine
namespace Mine
section
variable {prog : Program} {w : World} {A : Around} {E : Value → Shared → Prop} {s : Shared} {env : Env} {h₀ : Heap} {x : Str} {body : List Stmt} {Q : Flow → Shared → Prop}

/-- a loop over a range of any step, by what holds after i turns -/
theorem rng_loop {σ : Type} {r : Addr} {a₀ b₀ c : Int} {t₀ u₀ v₀ : Tok} {n : Nat} {m₀ : Str → Option Value} (Led : σ → List (Addr × Obj)) (ps : σ → List (Str × Value)) (Facts : σ → Prop) (stored : List Str) (P : Nat → σ → Prop) (c₀ : σ)
    (hh : A.handled = none) (hr : IsRange s.heap r a₀ b₀ c t₀ u₀ v₀) (hsmall : Builtin.Range.small a₀ b₀ c = true) (hn : Builtin.Range.rangeSize a₀ b₀ c = (n : Int)) (F : Fr h₀ env.locals s.heap m₀) (N : News h₀ env.locals s.heap (Led c₀)) (hf : Facts c₀) (hk : ∀ p ∈ ps c₀, m₀ p.1 = some p.2) (hp : P 0 c₀)
    (turn : ∀ (q : σ) (i : Nat) t (u : Str → Option Value) h tk own, i < n → OwnOff own ((Led c₀).map (·.1)) → Facts q → P i q →
      Fr h₀ env.locals h (fun y => if y = x then some (.int (a₀ + (i : Int) * c) t) else kstB (fun z => if stored.contains z then u z else m₀ z) (ps q) y) → News h₀ env.locals h (Led q ++ own) →
      wpAny (model prog w) A (execs body env) (InvPostN h₀ env.locals (KstS Led ps Facts x stored m₀ (fun pre => P pre.length) (List.replicate (i + 1) 0)) own ((Led c₀).map (·.1)) { s with heap := h, toks := tk } Q) E { s with heap := h, toks := tk })
    (done : ∀ (q : σ) (u : Str → Option Value) h tk, Facts q → P n q → Fr h₀ env.locals h (fun y => if y = x then u y else kstB (fun z => if stored.contains z then u z else m₀ z) (ps q) y) → News h₀ env.locals h (Led q) → Q .next { s with heap := h, toks := tk }) :
    wpAny (model prog w) A (pyIter (.ref r)) (fun it s₂ => LoopAtV prog w A h₀ env x body Q E it s₂) E s := by
  refine wpAny_pyIter_range hr hsmall ?_
  have W : Walks prog w A s.heap.objs.size [s.heap.objs.size] [s.heap.objs.size] n (fun i v => i < n ∧ ∃ t, v = .int (a₀ + i * c) t)
      (fun i h => IsRangeIter h s.heap.objs.size (a₀ + (i : Nat) * c) ((n : Int) - (i : Nat)) c) := (Walks.range hh _ a₀ c n).bound
  have fresh : ∀ p ∈ Led c₀, p.1 ∉ [s.heap.objs.size] := fun p hp hI =>
    absurd (Heap.lt_size (N p hp).1) ((List.mem_singleton.mp hI) ▸ Nat.lt_irrefl _)
  refine loop_invN (fun i m nx => KstS Led ps Facts x stored m₀ (fun pre => P pre.length) (List.replicate i 0) m nx) W ?_ ?_ fresh fresh ?_ (F.push _)
    (fun p hp => ⟨Heap.get?_push_of_some _ (N p hp).1, (N p hp).2⟩) ⟨c₀, rfl, hf, hk, fun _ _ _ _ => rfl, hp⟩ ?_ ?_
  · exact fun hm => absurd F.ns.lt ((List.mem_singleton.mp hm) ▸ Nat.lt_irrefl _)
  · intro b hb
    rw [List.mem_singleton.mp hb]
    exact next_is_new F
  · show IsRangeIter _ _ _ _ _
    rw [hn]
    simpa using Heap.get?_push_size _ rfl
  · rintro i v m₁ nx h tk own hi ⟨_, t, rfl⟩ _ hoff ⟨q, rfl, hf', h1, h2, hp'⟩ F₁ N₁
    rw [List.length_replicate] at hp'
    exact turn q i t m₁ h tk own hi hoff hf' hp' (kst_fr h1 h2 F₁) N₁
  · rintro m₁ nx h tk ⟨q, rfl, hf', h1, h2, hp'⟩ F₁ N₁
    rw [List.length_replicate] at hp'
    exact done q m₁ h tk hf' hp' (kst_frOut h1 h2 F₁) N₁
end
end Mine
namespace Mine
section
variable {prog : Program} {w : World} {A : Around} {E : Value → Shared → Prop} {s : Shared}
theorem byte_at {b : Array UInt8} {t ui : Tok} {i : Int} {value slice : PySem.Expr} {Q : Value → Shared → Prop} (hfit : b.size ≤ 1099511627776) (h0 : 0 ≤ i) (h1 : i < (b.size : Int))
    (hs : subscripted slice false (.bytes b t) (.int i ui) = operate [.bytes b t, .int i ui] (getItem (.bytes b t) (.int i ui)))
    (ht : ∀ r, letTemporaryGo value (.bytes b t) r = pure ())
    (h : 0 ≤ (KBw.bInts b).getD i.toNat 0 → (KBw.bInts b).getD i.toNat 0 < 256 → Q (.int ((KBw.bInts b).getD i.toNat 0) s.toks) { s with toks := s.toks + 1 }) :
    wpAny (model prog w) A (subscriptTail value slice (.bytes b t) (.int i ui)) Q E s := by
  obtain ⟨l⟩ := b
  have hl : i.toNat < l.length := by
    have : (l.toArray.size : Int) = l.length := by simp
    have h2 : i < (l.toArray.size : Int) := h1
    omega
  have e : (KBw.bInts ⟨l⟩).getD i.toNat 0 = ((l.getD i.toNat 0).toNat : Int) := by
    show ((l.map fun c => (c.toNat : Int)).getD i.toNat 0) = _
    rw [List.getD_eq_getElem?_getD, List.getD_eq_getElem?_getD, List.getElem?_map, List.getElem?_eq_getElem hl]
    rfl
  rw [e] at h
  have := (l.getD i.toNat 0).toNat_lt
  exact KBy.item_N (x := l) (by simpa using hfit) h0 (by simpa using h1) (h (by omega) (by omega)) hs ht
theorem idx_two (i : Nat) : (0 + (i : Int) * 2).toNat = 2 * i := by omega
theorem idx_two1 (i : Nat) : (0 + (i : Int) * 2 + 1).toNat = 2 * i + 1 := by omega
theorem pow6 (x : Int) : x * 2 ^ Int.toNat 6 = x * 64 := rfl
theorem pow8 (x : Int) : x * 2 ^ Int.toNat 8 = x * 256 := rfl
theorem pow10 (x : Int) : x * 2 ^ Int.toNat 10 = x * 1024 := rfl
end
end Mine
namespace Mine

/-- what stands between the turns of a loop that may bind its names to new objects -/
def KrJ {σ : Type} (Led : σ → List (Addr × Obj)) (ps : σ → List (Str × Value)) (Facts : σ → Prop) (x : Str) (stored : List Str) (m₀ : Str → Option Value) (P : Nat → σ → Prop) (i : Nat) (m : Str → Option Value) (nx : List (Addr × Obj)) : Prop :=
  ∃ q : σ, (∀ p ∈ Led q, p ∈ nx) ∧ Facts q ∧ (∀ p ∈ ps q, m p.1 = some p.2) ∧ (∀ z, z ≠ x → (∀ p ∈ ps q, z ≠ p.1) → stored.contains z = false → m z = m₀ z) ∧ P i q

section
variable {prog : Program} {w : World} {A : Around} {E : Value → Shared → Prop} {s : Shared} {env : Env} {h₀ : Heap} {x : Str} {body : List Stmt} {Q : Flow → Shared → Prop}

theorem krs_inv {σ : Type} {I : Addr} {a c : Int} {n : Nat} {m₀ : Str → Option Value} (Led : σ → List (Addr × Obj)) (ps : σ → List (Str × Value)) (Facts : σ → Prop) (stored : List Str) (P : Nat → σ → Prop)
    (turn : ∀ (q : σ) (i : Nat) t (u : Str → Option Value) h tk it, i < n → Facts q → P i q →
      Fr h₀ env.locals h (fun y => if y = x then some (.int (a + (i : Int) * c) t) else kstB (fun z => if stored.contains z then u z else m₀ z) (ps q) y) → News h₀ env.locals h ((I, it) :: Led q) →
      wpAny (model prog w) A (execs body env) (UnrPost h₀ env.locals { s with heap := h, toks := tk } I it (KrJ Led ps Facts x stored m₀ P (i + 1)) Q) E { s with heap := h, toks := tk })
    (done : ∀ (q : σ) (u : Str → Option Value) h tk, Facts q → P n q → Fr h₀ env.locals h (fun y => if y = x then u y else kstB (fun z => if stored.contains z then u z else m₀ z) (ps q) y) → News h₀ env.locals h (Led q) → Q .next { s with heap := h, toks := tk }) :
    ∀ k i m news, k + i = n → KrJ Led ps Facts x stored m₀ P i m news → KrsRest prog w A E h₀ env x body Q s I a c n k i m news := by
  intro k
  induction k with
  | zero =>
    rintro i m news e ⟨q, hs, hf, h1, h2, hp⟩ h tk F N
    rw [Nat.zero_add] at e
    exact done q m h tk hf (e ▸ hp) (kst_frOut h1 h2 F) fun p hp => N p (hs p hp)
  | succ k ih =>
    rintro i m news e ⟨q, hs, hf, h1, h2, hp⟩ t h tk F N
    have N₂ : News h₀ env.locals h ((I, krsIt (a + ((i + 1 : Nat) : Int) * c) ((n : Int) - ((i + 1 : Nat) : Int)) c) :: Led q) := fun p hp => N p (by
      rcases List.mem_cons.mp hp with rfl | hp
      · exact .head _
      · exact .tail _ (hs p hp))
    refine wpAny_mono (turn q i t m h tk _ (by omega) hf hp (kst_fr h1 h2 F) N₂) (fun f s₂ p => ?_) fun _ _ y => y
    have up : UnrEnd h₀ env.locals { s with heap := h, toks := tk } I (krsIt (a + ((i + 1 : Nat) : Int) * c) ((n : Int) - ((i + 1 : Nat) : Int)) c) (KrJ Led ps Facts x stored m₀ P (i + 1)) s₂ →
        UnrEnd h₀ env.locals { s with heap := h, toks := tk } I (krsIt (a + ((i + 1 : Nat) : Int) * c) ((n : Int) - ((i + 1 : Nat) : Int)) c) (KrsRest prog w A E h₀ env x body Q s I a c n k (i + 1)) s₂ := by
      rintro ⟨h', tk', m', news', e', F', N', off, r⟩
      exact ⟨h', tk', m', news', e', F', N', off, ih (i + 1) m' news' (by omega) r⟩
    cases f with
    | ret v => exact p
    | brk => exact p
    | next => exact up p
    | cont => exact up p

/-- a loop over a range whose turns may bind names to new objects -/
theorem rng_unr {σ : Type} {r : Addr} {a₀ b₀ c : Int} {t₀ u₀ v₀ : Tok} {n : Nat} {m₀ : Str → Option Value} (Led : σ → List (Addr × Obj)) (ps : σ → List (Str × Value)) (Facts : σ → Prop) (stored : List Str) (P : Nat → σ → Prop) (c₀ : σ)
    (hh : A.handled = none) (hr : IsRange s.heap r a₀ b₀ c t₀ u₀ v₀) (hsmall : Builtin.Range.small a₀ b₀ c = true) (hn : Builtin.Range.rangeSize a₀ b₀ c = (n : Int)) (F : Fr h₀ env.locals s.heap m₀) (N : News h₀ env.locals s.heap (Led c₀)) (hf : Facts c₀) (hk : ∀ p ∈ ps c₀, m₀ p.1 = some p.2) (hp : P 0 c₀)
    (turn : ∀ (I : Addr) (q : σ) (i : Nat) t (u : Str → Option Value) h tk it, (∀ p ∈ Led c₀, p.1 < I) → i < n → Facts q → P i q →
      Fr h₀ env.locals h (fun y => if y = x then some (.int (a₀ + (i : Int) * c) t) else kstB (fun z => if stored.contains z then u z else m₀ z) (ps q) y) → News h₀ env.locals h ((I, it) :: Led q) →
      wpAny (model prog w) A (execs body env) (UnrPost h₀ env.locals { s with heap := h, toks := tk } I it (KrJ Led ps Facts x stored m₀ P (i + 1)) Q) E { s with heap := h, toks := tk })
    (done : ∀ (q : σ) (u : Str → Option Value) h tk, Facts q → P n q → Fr h₀ env.locals h (fun y => if y = x then u y else kstB (fun z => if stored.contains z then u z else m₀ z) (ps q) y) → News h₀ env.locals h (Led q) → Q .next { s with heap := h, toks := tk }) :
    wpAny (model prog w) A (pyIter (.ref r)) (fun it s₂ => LoopAtV prog w A h₀ env x body Q E it s₂) E s :=
  krs_iter hh hr hsmall hn F N fun I hI => krs_inv Led ps Facts stored P (fun q i t u h tk it => turn I q i t u h tk it hI) done n 0 m₀ _ (Nat.add_zero n)
    ⟨c₀, fun _ h => h, hf, hk, fun _ _ _ _ => rfl, hp⟩

theorem krs_end {σ : Type} {Led : σ → List (Addr × Obj)} {ps : σ → List (Str × Value)} {Facts : σ → Prop} {stored : List Str} {m₀ : Str → Option Value} {P : Nat → σ → Prop} {i : Nat} (q : σ) {L I : Addr} {it : Obj} {m' : Str → Option Value} {all : List (Addr × Obj)} {s₁ : Shared} {h' : Heap} {tk : Nat}
    (F : Fr h₀ L h' m') (N : News h₀ L h' all) (hI : (I, it) ∈ all) (hn : ∀ p ∈ Led q, p ∈ all) (off : ∀ p ∈ Led q, p.1 ≠ I) (hf : Facts q) (hk : ∀ p ∈ ps q, m' p.1 = some p.2) (hr : ∀ z, z ≠ x → (∀ p ∈ ps q, z ≠ p.1) → stored.contains z = false → m' z = m₀ z) (hp : P i q) :
    UnrEnd h₀ L s₁ I it (KrJ Led ps Facts x stored m₀ P i) { s₁ with heap := h', toks := tk } :=
  UnrEnd.intro F N (Led q) (fun p hp => by
    rcases List.mem_cons.mp hp with rfl | hp
    · exact hI
    · exact hn p hp) off ⟨q, fun _ h => h, hf, hk, hr, hp⟩
end
end Mine
namespace Mine
section
variable {prog : Program} {w : World} {A : Around} {E : Value → Shared → Prop} {s : Shared}
/-- a list of a few octets -/
def PickT (h : Heap) (v : Value) : Prop := ∃ l ws ms, v = .ref l ∧ h.IsList l (List.toArray ws) ∧ IntsAre ws ms ∧ (∀ x ∈ ms, 0 ≤ x ∧ x < 256) ∧ ms.length ≤ 2
/-- an item of a list at an unknown place, by what holds of every item -/
theorem item_pick {value slice : PySem.Expr} {l : Addr} {vs : List Value} {k : Int} {u : Tok} {C : Value → Prop} {Q : Value → Shared → Prop} (hl : s.heap.IsList l vs.toArray) (h0 : 0 ≤ k) (hhi : k < 2 ^ 63) (hlt : k < (vs.length : Int)) (hC : ∀ v ∈ vs, C v) (h : ∀ v, C v → Q v s)
    (hs : subscripted slice false (.ref l) (.int k u) = operate [.ref l, .int k u] (getItem (.ref l) (.int k u)) := by with_unfolding_all rfl) :
    wpAny (model prog w) A (subscriptTail value slice (.ref l) (.int k u)) Q E s := by
  have hj : k.toNat < vs.length := by omega
  refine tail_any hl.typeIs slot_list_getitem.lookup (wpAny_getItem_list hl h0 hhi (x := vs[k.toNat]) ?_ (h _ (hC _ (List.getElem_mem hj)))) hs
  rw [List.getElem?_toArray, List.getElem?_eq_getElem hj]
end
theorem fmod6 (a : Int) : 0 ≤ Int.fmod a 6 ∧ Int.fmod a 6 < 6 := ⟨fmod_lo a (by decide), fmod_hi a (by decide)⟩
theorem getD_all {l : List Int} {P : Int → Prop} (h : ∀ x ∈ l, P x) (h0 : P 0) (i : Nat) : P (l.getD i 0) := by
  rw [List.getD_eq_getElem?_getD]
  cases e : l[i]? with
  | none => exact h0
  | some x => exact h x (List.mem_of_getElem? e)
end Mine
namespace Mine
/-- a turn's end of a loop over a written list, where the turn makes nothing -/
theorem unrW_end {h₀ : Heap} {L I : Addr} {it : Obj} {rest : (Str → Option Value) → List (Addr × Obj) → Prop} {s₁ : Shared} {h' : Heap} {tk : Nat} {m' : Str → Option Value} {led : List (Addr × Obj)} {k : Addr × Obj}
    (F : Fr h₀ L h' m') (N : News h₀ L h' ((I, it) :: led)) (off : ∀ p ∈ led, p.1 < I) (hk : k ∈ led) (r : rest m' led) :
    UnrEndW h₀ L s₁ [(I, it)] (fun m' n' => SubL [k] n' ∧ rest m' n') { s₁ with heap := h', toks := tk } :=
  ⟨h', tk, m', led, rfl, F, N, fun p hp q hq => by rw [List.mem_singleton.mp hq]; exact Nat.ne_of_lt (off p hp), ⟨hk, trivial⟩, r⟩
end Mine
namespace Mine
/-- what stands between the turns of a loop over a list that makes nothing that lasts -/
def LiJ (stored : List Str) (m₀ : Str → Option Value) (P : List Value → Prop) (D : List (Addr × Obj)) (r : List Value) (m : Str → Option Value) (n : List (Addr × Obj)) : Prop :=
  (∀ p ∈ D, p ∈ n) ∧ (∀ z, stored.contains z = false → m z = m₀ z) ∧ P r
theorem li_map {stored : List Str} {m m₀ : Str → Option Value} (h : ∀ z, stored.contains z = false → m z = m₀ z) : (fun z => if stored.contains z then m z else m₀ z) = m := by
  funext z
  cases e : stored.contains z with
  | true => simp
  | false => simp only [Bool.false_eq_true, if_false]; exact (h z e).symm
section
variable {prog : Program} {w : World} {A : Around} {E : Value → Shared → Prop} {s : Shared} {env : Env} {h₀ : Heap} {target : PySem.Expr} {body : List Stmt} {Q : Flow → Shared → Prop}
theorem list_inv {ax : Addr} {lo : Obj} {vs : List Value} {n : Nat} {m₀ : Str → Option Value} {news : List (Addr × Obj)}
    (hh : A.handled = none) (F : Fr h₀ env.locals s.heap m₀) (N : News h₀ env.locals s.heap news) (hm : (ax, lo) ∈ news) (hc : lo.cls = .type "list") (hd : lo.data = .seq vs.toArray n)
    (stored : List Str) (P : List Value → Prop) (h0 : P vs)
    (turn : ∀ (I : Addr) v r (u : Str → Option Value) h tk it, (∀ p ∈ news, p.1 < I) → P (v :: r) →
      Fr h₀ env.locals h (fun z => if stored.contains z then u z else m₀ z) → News h₀ env.locals h ((I, it) :: news) →
      wpAny (model prog w) A (assign target env v) (fun _ s₂ => wpAny (model prog w) A (execs body env) (UnrPostW h₀ env.locals { s with heap := h, toks := tk } [(I, it)] (LiJ stored m₀ P news r) Q) E s₂) E { s with heap := h, toks := tk })
    (done : ∀ (u : Str → Option Value) h tk, P [] → Fr h₀ env.locals h (fun z => if stored.contains z then u z else m₀ z) → News h₀ env.locals h news → Q .next { s with heap := h, toks := tk }) :
    wpAny (model prog w) A (pyIter (.ref ax)) (fun it s₂ => TurnsAt prog w A h₀ env target body Q E it s₂) E s := by
  refine iter_listTurns hh F N hm hc hd fun I hI => ?_
  have key : ∀ vs m n, LiJ stored m₀ P news vs m n → ItemsRest prog w A E h₀ env target body Q s [(I, "list_iterator")] [(ax, lo)] (vs.map .val) m n := by
    intro vs
    induction vs with
    | nil =>
      rintro m n ⟨hD, hr, hp⟩
      exact ItemsRest.zero fun h tk F' N' => done m h tk hp ((li_map hr).symm ▸ F') (fun p hp => N' p (hD p hp))
    | cons v r ih =>
      rintro m n ⟨hD, hr, hp⟩
      refine ItemsRest.val fun h tk F' => AllObj.cons fun it _ => ?_
      refine AllObj.nil fun N' => ?_
      have N2 : News h₀ env.locals h ((I, it) :: news) := fun p hp => N' p (by
        rcases List.mem_cons.mp hp with rfl | hp
        · exact .head _
        · exact .tail _ (hD p hp))
      refine wpAny_mono (turn I v r m h tk it hI hp ((li_map hr).symm ▸ F') N2) (fun _ s₂ x => wpAny_mono x (fun f s₃ y => ?_) fun _ _ z => z) fun _ _ z => z
      have up : UnrEndW h₀ env.locals { s with heap := h, toks := tk } [(I, it)] (LiJ stored m₀ P news r) s₃ →
          UnrEndW h₀ env.locals { s with heap := h, toks := tk } [(I, it)] (fun m' n' => SubL [(ax, lo)] n' ∧ ItemsRest prog w A E h₀ env target body Q s [(I, "list_iterator")] [(ax, lo)] (r.map .val) m' n') s₃ := by
        rintro ⟨h', tk', m', news', e', F'', N'', off, q⟩
        exact ⟨h', tk', m', news', e', F'', N'', off, ⟨q.1 _ hm, trivial⟩, ih m' news' q⟩
      cases f with
      | ret v => exact y
      | brk => exact y
      | next => exact up y
      | cont => exact up y
  exact key vs m₀ news ⟨fun _ h => h, fun _ _ => rfl, h0⟩
theorem li_end {L I : Addr} {it : Obj} {stored : List Str} {m₀ : Str → Option Value} {P : List Value → Prop} {D : List (Addr × Obj)} {r : List Value} {s₁ : Shared} {h' : Heap} {tk : Nat} {m' : Str → Option Value} {all : List (Addr × Obj)}
    (F : Fr h₀ L h' m') (N : News h₀ L h' all) (hI : (I, it) ∈ all) (hD : ∀ p ∈ D, p ∈ all) (off : ∀ p ∈ D, p.1 < I) (hr : ∀ z, stored.contains z = false → m' z = m₀ z) (hp : P r) :
    UnrEndW h₀ L s₁ [(I, it)] (LiJ stored m₀ P D r) { s₁ with heap := h', toks := tk } :=
  ⟨h', tk, m', D, rfl, F, fun p hp => by
    rcases List.mem_append.mp hp with hp | hp
    · rw [List.mem_singleton.mp hp]; exact N _ hI
    · exact N _ (hD p hp), fun p hp q hq => by rw [List.mem_singleton.mp hq]; exact Nat.ne_of_lt (off p hp), fun _ h => h, hr, hp⟩
end
section
variable {prog : Program} {w : World} {A : Around} {E : Value → Shared → Prop} {s : Shared} {h₀ : Heap} {L D b : Addr} {m : Str → Option Value} {news news' : List (Addr × Obj)} {us : List Value} {n n2 : Nat}
theorem app1 {x : Value} {Q : Value → Shared → Prop} (F : Fr h₀ L s.heap m) (N : News h₀ L s.heap news) (U : Upd D (listOf (List.toArray us) n) (listOf (List.toArray (us ++ [x])) (n + 1)) news news') (hz : us.length ≤ 100000)
    (h : ∀ h', Fr h₀ L h' m → News h₀ L h' news' → Q .none { s with heap := h' }) : wpAny (model prog w) A (call (.builtin "list.append") [.ref D, x]) Q E s :=
  append_K F N (its := List.toArray us) (by rw [List.push_toArray]; exact U) h (by rw [List.size_toArray, PySem.sizeLine_eq]; omega)
theorem ext2 {x y : Value} {Q : Value → Shared → Prop} (F : Fr h₀ L s.heap m) (N : News h₀ L s.heap news) (hb : (b, listOf #[x, y] n2) ∈ news) (U : Upd D (listOf (List.toArray us) n) (listOf (List.toArray (us ++ [x, y])) (n + 1)) news news') (hz : us.length ≤ 100000)
    (h : ∀ h', Fr h₀ L h' m → News h₀ L h' news' → Q .none { s with heap := h' }) : wpAny (model prog w) A (call (.builtin "list.extend") [.ref D, .ref b]) Q E s :=
  kl_extend F N hb (l := us ++ [x, y]) rfl (by simp) U (by
    have e : Builtin.List.listTooLong ((List.toArray us).size + #[x, y].size) = false := by
      unfold Builtin.List.listTooLong
      simp [PySem.sizeLine_eq]
      omega
    rw [e, Bool.and_false]
    exact Bool.false_ne_true) (by simp [PySem.sizeLine_eq]; omega) (by simp [PySem.sizeLine_eq]; omega) h
end
end Mine
namespace Mine
/-- what is known of a written value -/
abbrev Kn := List (Addr × Obj) → Value → Prop
/-- an expression that makes a value of written parts -/
structure Makes (e : PySem.Expr) (R : Kn) : Prop where
  mono : ∀ {led led' v}, R led v → (∀ p ∈ led, p ∈ led') → R led' v
  star : ∀ rest env, starEach (e :: rest) env = (false, eval e env) :: starEach rest env
  run : ∀ {prog w A env h₀ L m s news} {E Q : Value → Shared → Prop}, Fr h₀ L s.heap m → News h₀ L s.heap news →
    (∀ v h' tk tl, Fr h₀ L h' m → News h₀ L h' (tl ++ news) → R tl v → Q v { s with heap := h', toks := tk }) → wpAny (model prog w) A (eval e env) Q E s
inductive Makes2 : List PySem.Expr → List Kn → Prop
  | nil : Makes2 [] []
  | cons {e R es Rs} : Makes e R → Makes2 es Rs → Makes2 (e :: es) (R :: Rs)
inductive All2 (led : List (Addr × Obj)) : List Kn → List Value → Prop
  | nil : All2 led [] []
  | cons {R v Rs vs} : R led v → All2 led Rs vs → All2 led (R :: Rs) (v :: vs)
theorem all2_length {led : List (Addr × Obj)} {Rs : List Kn} {vs : List Value} (h : All2 led Rs vs) : vs.length = Rs.length := by
  induction h with
  | nil => rfl
  | cons _ _ ih => rw [List.length_cons, List.length_cons, ih]
theorem makes2_length {es : List PySem.Expr} {Rs : List Kn} (h : Makes2 es Rs) : es.length = Rs.length := by
  induction h with
  | nil => rfl
  | cons _ _ ih => rw [List.length_cons, List.length_cons, ih]
theorem all2_mono {es : List PySem.Expr} {Rs : List Kn} (h : Makes2 es Rs) : ∀ {led led' : List (Addr × Obj)} {vs : List Value}, All2 led Rs vs → (∀ p ∈ led, p ∈ led') → All2 led' Rs vs := by
  induction h with
  | nil => rintro led led' vs ⟨⟩ _; exact .nil
  | cons hm _ ih => rintro led led' vs (_ | ⟨hr, h2⟩) hs; exact .cons (hm.mono hr hs) (ih h2 hs)
theorem spliced_makes {pos : Pos} {es : List PySem.Expr} {Rs : List Kn} (h : Makes2 es Rs) : ∀ {prog w A env h₀ L m s news} {E : Value → Shared → Prop} {Q : List Value → Shared → Prop}, Fr h₀ L s.heap m → News h₀ L s.heap news →
    (∀ vs h' tk tl, Fr h₀ L h' m → News h₀ L h' (tl ++ news) → All2 tl Rs vs → Q vs { s with heap := h', toks := tk }) → wpAny (model prog w) A (spliced (backTo pos (starEach es env))) Q E s := by
  induction h with
  | nil => intro prog w A env h₀ L m s news E Q F N k; exact spliced_none (k [] s.heap s.toks [] F N .nil)
  | cons hm h2 ih =>
    intro prog w A env h₀ L m s news E Q F N k
    refine spliced_more (hm.run F N fun v h' tk tl F' N' hr => ih F' N' fun vs h'' tk' tl' F'' N'' ha => ?_) (hm.star _ _)
    refine k (v :: vs) h'' tk' (tl' ++ tl) F'' (by rw [List.append_assoc]; exact N'') (.cons (hm.mono hr fun p hp => List.mem_append_right _ hp) (all2_mono h2 ha fun p hp => List.mem_append_left _ hp))
abbrev KInt (n : Int) : Kn := fun _ v => ∃ t, v = .int n t
abbrev KList (Rs : List Kn) : Kn := fun led v => ∃ a vs, v = .ref a ∧ (a, listOf (List.toArray vs) 0) ∈ led ∧ All2 led Rs vs
abbrev KTup (Rs : List Kn) : Kn := fun led v => ∃ a vs, v = .ref a ∧ (a, ({ cls := .type "tuple", data := .seq (List.toArray vs) } : Obj)) ∈ led ∧ All2 led Rs vs
theorem makes_int {n : Int} {k : Nat} {pos : Pos} : Makes (.Constant (.int n) k pos) (KInt n) where
  mono := fun h _ => h
  star := fun _ _ => rfl
  run := fun F N k => wpAny_Constant_int (k _ _ _ [] F N ⟨_, rfl⟩)
theorem makes_list {es : List PySem.Expr} {Rs : List Kn} {pos : Pos} (h : Makes2 es Rs) (hn : es.length ≤ 1000) : Makes (.List es pos) (KList Rs) where
  mono := fun ⟨a, vs, e, hm, h2⟩ hs => ⟨a, vs, e, hs _ hm, all2_mono h h2 hs⟩
  star := fun _ _ => rfl
  run := fun F N k => List_ (spliced_makes h F N fun vs h' tk tl F' N' ha => newList_N F' N' (fun h'' F'' N'' => k _ h'' tk ((_, _) :: tl) F'' N'' ⟨_, vs, rfl, List.Mem.head _, all2_mono h ha fun _ hp => List.Mem.tail _ hp⟩) (by rw [all2_length ha, ← makes2_length h, PySem.sizeLine_eq]; omega))
theorem makes_tup {es : List PySem.Expr} {Rs : List Kn} {k : Nat} {pos : Pos} (h : Makes2 es Rs) (hn : es.length ≤ 1000) : Makes (.Tuple es k pos) (KTup Rs) where
  mono := fun ⟨a, vs, e, hm, h2⟩ hs => ⟨a, vs, e, hs _ hm, all2_mono h h2 hs⟩
  star := fun _ _ => rfl
  run := fun F N k => Tuple_ (spliced_makes h F N fun vs h' tk tl F' N' ha => newTuple_N F' N' (fun h'' F'' N'' => k _ h'' tk ((_, _) :: tl) F'' N'' ⟨_, vs, rfl, List.Mem.head _, all2_mono h ha fun _ hp => List.Mem.tail _ hp⟩) (by rw [all2_length ha, ← makes2_length h, PySem.sizeLine_eq]; omega))
/-- a written list of at least one item, in one step -/
theorem list_step {prog : Program} {w : World} {A : Around} {E Q : Value → Shared → Prop} {s : Shared} {env : Env} {h₀ : Heap} {L : Addr} {m : Str → Option Value} {news : List (Addr × Obj)} {es : List PySem.Expr} {Rs : List Kn} {pos : Pos}
    (h : Makes2 es Rs) (hn : es.length ≤ 1000) (F : Fr h₀ L s.heap m) (N : News h₀ L s.heap news)
    (k : ∀ a vs h' tk tl, Fr h₀ L h' m → News h₀ L h' ((a, listOf (List.toArray vs) 0) :: (news ++ tl)) → (∀ p ∈ news ++ tl, p.1 < a) → All2 tl Rs vs → vs.length = Rs.length → Q (.ref a) { s with heap := h', toks := tk }) :
    wpAny (model prog w) A (eval (.List es pos) env) Q E s := by
  refine List_ (spliced_makes h F N fun vs h' tk tl F' N' ha => newList_N F' N' (fun h'' F'' N'' => ?_) (by rw [all2_length ha, ← makes2_length h, PySem.sizeLine_eq]; omega))
  refine k _ vs h'' tk tl F'' (kst_newsOf N'' (List.forall_mem_cons.mpr ⟨List.Mem.head _, fun p hp => List.Mem.tail _ ?_⟩)) (fun p hp => Heap.lt_size (N' p ?_).1) ha (all2_length ha)
  · exact (List.mem_append.mp hp).elim (List.mem_append_right _) (List.mem_append_left _)
  · exact (List.mem_append.mp hp).elim (List.mem_append_right _) (List.mem_append_left _)
theorem all2_ints {led : List (Addr × Obj)} : ∀ {ns : List Int} {vs : List Value}, All2 led (ns.map KInt) vs → IntsAre vs ns
  | [], _, .nil => .nil
  | _ :: _, _, .cons ⟨t, e⟩ h => e ▸ .cons _ _ (all2_ints h)
end Mine
namespace Mine

theorem bitAnd_zero (x : Int) : Builtin.bitAnd x 0 = 0 := by
  have h := PySem.W.kbt_mask x 0
  simpa using h

theorem bits_apart (c r : Int) (h0 : 0 ≤ r) (h1 : r < 64) : Builtin.bitAnd (c * 64) r = 0 := by
  have e : r / 2 / 2 / 2 / 2 / 2 / 2 = 0 := by omega
  rw [PySem.W.kbt_halves, if_neg (by omega), show c * 64 / 2 = c * 32 by omega,
    PySem.W.kbt_halves, if_neg (by omega), show c * 32 / 2 = c * 16 by omega,
    PySem.W.kbt_halves, if_neg (by omega), show c * 16 / 2 = c * 8 by omega,
    PySem.W.kbt_halves, if_neg (by omega), show c * 8 / 2 = c * 4 by omega,
    PySem.W.kbt_halves, if_neg (by omega), show c * 4 / 2 = c * 2 by omega,
    PySem.W.kbt_halves, if_neg (by omega), show c * 2 / 2 = c by omega, e, bitAnd_zero]
  rfl

theorem bits_join (c o : Int) : Builtin.bitOr (c * 2 ^ Int.toNat 6) (Builtin.bitAnd o 63) = c * 64 + o % 64 := by
  have h := bitXor_and (c * 64) (o % 64)
  rw [Builtin.bitXor, bits_apart c (o % 64) (by omega) (by omega)] at h
  rw [bitAnd_m6, show c * 2 ^ Int.toNat 6 = c * 64 from rfl]
  omega

/-- the octets that are to follow a first one, its bits, the bounds of the next -/
def lead (o : Int) : Int × Int × Int × Int :=
  if o ≤ 127 then (0, o, 128, 191)
  else if 194 ≤ o ∧ o ≤ 223 then (1, o % 32, 128, 191)
  else if o = 224 then (2, 0, 160, 191)
  else if o = 237 then (2, 13, 128, 159)
  else if 225 ≤ o ∧ o ≤ 239 then (2, o % 16, 128, 191)
  else if o = 240 then (3, 0, 144, 191)
  else if o = 244 then (3, 4, 128, 143)
  else if 241 ≤ o ∧ o ≤ 243 then (3, o % 8, 128, 191)
  else (0, 65533, 128, 191)

abbrev St8 := Int × Int × Int × Int

/-- the sign that a number is -/
def sgn (c : Int) : Str := ⟨#[c.toNat]⟩
def fffd : Str := Str.ofString "\ufffd"

def emit8 (q : St8) (out : List Str) : St8 × List Str := if q.1 = 0 then (q, out ++ [sgn q.2.1]) else (q, out)
def step8 (q : St8 × List Str) (o : Int) : St8 × List Str :=
  if 0 < q.1.1 ∧ q.1.2.2.1 ≤ o ∧ o ≤ q.1.2.2.2 then emit8 (q.1.1 - 1, q.1.2.1 * 64 + o % 64, 128, 191) q.2
  else emit8 (lead o) (if 0 < q.1.1 then q.2 ++ [fffd] else q.2)
def run8 (pre : List Int) : St8 × List Str := pre.foldl step8 ((0, 0, 128, 191), [])
theorem run8_snoc (pre : List Int) (o : Int) : run8 (pre ++ [o]) = step8 (run8 pre) o := by
  unfold run8; rw [List.foldl_append]; rfl

def Ones (xs : List Str) : Prop := ∀ x ∈ xs, x.length = 1
theorem ones_snoc {xs : List Str} {x : Str} (h : Ones xs) (hx : x.length = 1) : Ones (xs ++ [x]) := fun y hy => by
  rcases List.mem_append.mp hy with hy | hy
  · exact h y hy
  · rw [List.mem_singleton.mp hy]; exact hx
theorem sgn_one (c : Int) : (sgn c).length = 1 := rfl
theorem fffd_one : fffd.length = 1 := by decide
theorem ones_sum : ∀ {xs : List Str}, Ones xs → (xs.map (·.length)).sum = xs.length
  | [], _ => rfl
  | x :: r, h => by
    rw [List.map_cons, List.sum_cons, List.length_cons, ones_sum (fun y hy => h y (.tail _ hy)), h x (.head _)]
    omega
theorem emit8_ones {q : St8} {xs : List Str} (h : Ones xs) : Ones (emit8 q xs).2 := by
  unfold emit8
  split
  · exact ones_snoc h (sgn_one _)
  · exact h
theorem step8_ones {q : St8 × List Str} {o : Int} (h : Ones q.2) : Ones (step8 q o).2 := by
  unfold step8
  repeat' split
  · exact emit8_ones h
  · exact emit8_ones (ones_snoc h fffd_one)
  · exact emit8_ones h
theorem foldl8_ones (pre : List Int) : ∀ q : St8 × List Str, Ones q.2 → Ones (pre.foldl step8 q).2 := by
  induction pre with
  | nil => exact fun q h => h
  | cons o r ih => exact fun q h => ih _ (step8_ones h)
theorem run8_ones (pre : List Int) : Ones (run8 pre).2 := foldl8_ones pre _ (fun _ h => nomatch h)
theorem ones_room {xs : List Str} {n : Nat} (h : Ones xs) (hn : xs.length ≤ n) (h2 : n ≤ 500000) : (xs.map (·.length)).sum + xs.length ≤ 1048576 := by
  rw [ones_sum h]; omega
/-- the text of octets as decode_utf8 reckons it -/
def dec8 (ks : List Int) : Str := PySem.Txt.join (Str.ofString "") (if 0 < (run8 ks).1.1 then (run8 ks).2 ++ [fffd] else (run8 ks).2)

theorem dec8_eq {ks : List Int} {q : St8} {xs ys : List Str} {t : Tok} (h : run8 ks = (q, xs)) (e : ys = if 0 < q.1 then xs ++ [fffd] else xs) :
    Value.str (PySem.Txt.join (Str.ofString "") ys) t = .str (dec8 ks) t := by
  unfold dec8
  rw [h, e]

/-- what holds of a state -/
def Ok8 (q : St8) : Prop :=
  0 ≤ q.1 ∧ q.1 ≤ 3 ∧ 0 ≤ q.2.1 ∧ 128 ≤ q.2.2.1 ∧ q.2.2.2 ≤ 191 ∧ (q.1 = 0 → q.2.1 ≤ 1114111) ∧ (q.1 = 1 → q.2.1 ≤ 17407) ∧ (q.1 = 2 → q.2.1 ≤ 271) ∧ (q.1 = 3 → q.2.1 ≤ 4 ∧ (q.2.1 = 4 → q.2.2.2 ≤ 143))

theorem lead_ok {o : Int} (h0 : 0 ≤ o) (h1 : o < 256) : Ok8 (lead o) := by
  unfold lead Ok8
  repeat' split
  all_goals (dsimp only; omega)

theorem next_ok {q : St8} {o : Int} (h : Ok8 q) (h0 : 0 < q.1) (h1 : q.2.2.1 ≤ o) (h2 : o ≤ q.2.2.2) : Ok8 (q.1 - 1, q.2.1 * 64 + o % 64, 128, 191) := by
  unfold Ok8 at *
  dsimp only
  omega

end Mine
namespace Mine

def unit16 (big : Bool) (a b : Int) : Int := if big then a * 256 + b else a + b * 256
def at16 (big : Bool) (ks : List Int) (i : Nat) : Int := unit16 big (ks.getD (2 * i) 0) (ks.getD (2 * i + 1) 0)
def step16 (q : Int × List Str) (u : Int) : Int × List Str :=
  if 0 < q.1 ∧ 56320 ≤ u ∧ u ≤ 57343 then (0, q.2 ++ [sgn (65536 + (q.1 - 55296) * 1024 + u - 56320)])
  else if 55296 ≤ u ∧ u ≤ 56319 then (u, if 0 < q.1 then q.2 ++ [fffd] else q.2)
  else if 56320 ≤ u ∧ u ≤ 57343 then (0, (if 0 < q.1 then q.2 ++ [fffd] else q.2) ++ [fffd])
  else (0, (if 0 < q.1 then q.2 ++ [fffd] else q.2) ++ [sgn u])
def run16 (big : Bool) (ks : List Int) (n : Nat) : Int × List Str := (List.range n).foldl (fun q i => step16 q (at16 big ks i)) (0, [])
theorem run16_succ (big : Bool) (ks : List Int) (n : Nat) : run16 big ks (n + 1) = step16 (run16 big ks n) (at16 big ks n) := by
  unfold run16; rw [List.range_succ, List.foldl_append]; rfl
theorem step16_ones {q : Int × List Str} {u : Int} (h : Ones q.2) : Ones (step16 q u).2 := by
  unfold step16
  repeat' split
  all_goals first
    | exact ones_snoc h (sgn_one _)
    | exact h
    | exact ones_snoc h fffd_one
    | exact ones_snoc (ones_snoc h fffd_one) fffd_one
    | exact ones_snoc (ones_snoc h fffd_one) (sgn_one _)
theorem run16_ones (big : Bool) (ks : List Int) (n : Nat) : Ones (run16 big ks n).2 := by
  induction n with
  | zero => exact fun _ h => nomatch h
  | succ n ih => rw [run16_succ]; exact step16_ones ih
/-- the text of octets as decode_utf16 reckons it -/
def dec16 (big : Bool) (ks : List Int) : Str :=
  PySem.Txt.join (Str.ofString "") (if 0 < (run16 big ks (ks.length / 2)).1 ∨ ks.length % 2 = 1 then (run16 big ks (ks.length / 2)).2 ++ [fffd] else (run16 big ks (ks.length / 2)).2)
theorem dec16_eq {big : Bool} {ks : List Int} {l : Int} {xs ys : List Str} {t : Tok} (h : run16 big ks (ks.length / 2) = (l, xs)) (e : ys = if 0 < l ∨ ks.length % 2 = 1 then xs ++ [fffd] else xs) :
    Value.str (PySem.Txt.join (Str.ofString "") ys) t = .str (dec16 big ks) t := by
  unfold dec16
  rw [h, e]
theorem fmod_nat (n : Nat) : (n : Int).fmod 2 = ((n % 2 : Nat) : Int) := by
  rw [Int.fmod_eq_emod_of_nonneg _ (by decide)]; omega
theorem odd16 {n k : Nat} (e : k = n) (h : (n : Int).fmod 2 = 1) : k % 2 = 1 := by
  rw [fmod_nat] at h; omega
theorem even16 {n k : Nat} {l : Int} (e : k = n) (h0 : ¬ 0 < l) (h : (n : Int).fmod 2 ≠ 1) : ¬ (0 < l ∨ k % 2 = 1) := by
  rw [fmod_nat] at h; omega
theorem size16 (n : Nat) : Builtin.Range.rangeSize 0 ((n : Int) - 1) 2 = ((n / 2 : Nat) : Int) := by
  unfold Builtin.Range.rangeSize
  repeat' split
  all_goals (try simp_all)
  all_goals omega
theorem small16 {n : Nat} (h : n ≤ 1000) : Builtin.Range.small 0 ((n : Int) - 1) 2 = true := by
  unfold Builtin.Range.small
  rw [size16]
  simp only [Builtin.Range.rangeFitsLong, Bool.and_eq_true, Bool.or_eq_true, decide_eq_true_eq, beq_iff_eq]
  rw [if_pos (by decide)]
  simp only [Bool.and_eq_true, decide_eq_true_eq]
  omega
end Mine
namespace Mine
/-- octets less a mark ahead -/
def unmark (ms ks : List Int) : List Int := if ks.take ms.length = ms then ks.drop ms.length else ks
theorem cut_head (ks : List Int) (k : Nat) : List.take (min k ks.length - 0) (List.drop 0 ks) = ks.take k := by
  rw [List.drop_zero, Nat.sub_zero, List.take_eq_take_iff]; omega
theorem cut_tail (ks : List Int) (k : Nat) : List.take (ks.length - min k ks.length) (List.drop (min k ks.length) ks) = ks.drop k := by
  rw [List.take_of_length_le (by rw [List.length_drop]; omega)]
  rcases Nat.le_total k ks.length with h | h
  · rw [Nat.min_eq_left h]
  · rw [Nat.min_eq_right h, List.drop_length, List.drop_eq_nil_of_le h]
theorem ints_inj : ∀ {l m : List UInt8}, (l.map fun c => (c.toNat : Int)) = (m.map fun c => (c.toNat : Int)) → l = m
  | [], [], _ => rfl
  | [], _ :: _, h => nomatch h
  | _ :: _, [], h => nomatch h
  | a :: l, b :: m, h => by
    rw [List.map_cons, List.map_cons] at h
    have h1 := (List.cons.inj h).1
    have h2 := ints_inj (List.cons.inj h).2
    rw [h2, UInt8.toNat_inj.mp (Int.ofNat.inj h1)]
theorem unmark_yes {ks : List Int} {b1 b2 : Array UInt8} {l : List UInt8} {z n : Nat} (hz : z = 0) (hn : n = min l.length ks.length)
    (k1 : KBw.bInts b1 = List.take (n - z) (List.drop z ks)) (a : (b1.toList == l) = true) (k2 : KBw.bInts b2 = List.take (ks.length - n) (List.drop n ks)) : KBw.bInts b2 = unmark (l.map fun c => (c.toNat : Int)) ks := by
  subst hz hn
  rw [cut_head] at k1
  rw [cut_tail] at k2
  unfold KBw.bInts at k1
  rw [eq_of_beq a] at k1
  unfold unmark
  rw [List.length_map, if_pos k1.symm, k2]
theorem unmark_no {ks : List Int} {b1 : Array UInt8} {l : List UInt8} {z n : Nat} (hz : z = 0) (hn : n = min l.length ks.length)
    (k1 : KBw.bInts b1 = List.take (n - z) (List.drop z ks)) (a : (b1.toList == l) = false) : ks = unmark (l.map fun c => (c.toNat : Int)) ks := by
  subst hz hn
  rw [cut_head] at k1
  unfold unmark
  rw [List.length_map, if_neg ?_]
  intro e
  rw [e] at k1
  rw [ints_inj k1, beq_self_eq_true] at a
  exact absurd a (by decide)
end Mine
namespace Mine
/-- what holds of a run's octets so far -/
def RunOk (i : Nat) (ns : List Int) : Prop := (∀ x ∈ ns, 0 ≤ x ∧ x < 256) ∧ ns.length ≤ 4 * i ∧ (0 < i → ∃ a r, ns = a :: 127 :: r)
/-- what holds of a run -/
def RunFin (ns : List Int) : Prop := (∀ x ∈ ns, 0 ≤ x ∧ x < 256) ∧ ns.length ≤ 33 ∧ ∃ a r, ns = a :: 127 :: r
theorem run_step {i : Nat} {ns ms : List Int} {l : List Int} {j : Nat} (h1 : ∀ x ∈ ns, 0 ≤ x ∧ x < 256) (h2 : ns.length ≤ 4 * i) (h3 : 0 < i → ∃ a r, ns = a :: 127 :: r) (hl : ∀ x ∈ l, 0 ≤ x ∧ x < 256) (hm : ∀ x ∈ ms, 0 ≤ x ∧ x < 256) (hn : ms.length ≤ 2) :
    RunOk (i + 1) (ns ++ [l.getD j 0, [127, 128, 143, 144, 159, 160, 191, 192].getD (0 + (i : Int) * 1).toNat 0] ++ ms) := by
  refine ⟨fun x hx => ?_, ?_, fun _ => ?_⟩
  · rcases List.mem_append.mp hx with hx | hx
    · rcases List.mem_append.mp hx with hx | hx
      · exact h1 x hx
      · rcases List.mem_cons.mp hx with rfl | hx
        · exact getD_all (P := fun x => 0 ≤ x ∧ x < 256) hl (by decide) _
        · rw [List.mem_singleton.mp hx]
          exact getD_all (P := fun x => 0 ≤ x ∧ x < 256) (by decide) (by decide) _
    · exact hm x hx
  · simp only [List.length_append, List.length_cons, List.length_nil]; omega
  · rcases Nat.eq_zero_or_pos i with rfl | hi
    · have e : ns = [] := List.eq_nil_of_length_eq_zero (by omega)
      subst e
      exact ⟨_, _, rfl⟩
    · obtain ⟨a, r, rfl⟩ := h3 hi
      exact ⟨a, _, rfl⟩
theorem run_fin {ns l : List Int} {j : Nat} (h : RunOk 8 ns) (hl : ∀ x ∈ l, 0 ≤ x ∧ x < 256) : RunFin (ns ++ [l.getD j 0]) := by
  obtain ⟨h1, h2, h3⟩ := h
  refine ⟨fun x hx => ?_, ?_, ?_⟩
  · rcases List.mem_append.mp hx with hx | hx
    · exact h1 x hx
    · rw [List.mem_singleton.mp hx]
      exact getD_all (P := fun x => 0 ≤ x ∧ x < 256) hl (by decide) _
  · simp only [List.length_append, List.length_cons, List.length_nil]; omega
  · obtain ⟨a, r, rfl⟩ := h3 (by decide)
    exact ⟨a, _, rfl⟩
/-- a call that gives a new list of ints -/
def listRet (C : List Int → Prop) (r : Value) (tl : List (Addr × Obj)) : Prop := ∃ a vs ns, r = .ref a ∧ tl = [(a, listOf (List.toArray vs) 0)] ∧ IntsAre vs ns ∧ C ns
end Mine
namespace Mine
/-- may numbers that begin so, so many octets ahead, lie in the spans -/
def may (number left : Int) (spans : List (Int × Int)) : Bool := spans.any fun p => decide (number * 64 ^ left.toNat < p.2) && decide (p.1 < (number + 1) * 64 ^ left.toNat)
theorem may_yes {n l lo be : Int} {r : List (Int × Int)} (h1 : n * 64 ^ l.toNat < be) (h2 : lo < (n + 1) * 64 ^ l.toNat) : may n l ((lo, be) :: r) = true := by
  unfold may; rw [List.any_cons, decide_eq_true h1, decide_eq_true h2]; rfl
theorem may_no1 {n l lo be : Int} {r : List (Int × Int)} (h1 : ¬ n * 64 ^ l.toNat < be) : may n l ((lo, be) :: r) = may n l r := by
  unfold may; rw [List.any_cons, decide_eq_false h1]; rfl
theorem may_no2 {n l lo be : Int} {r : List (Int × Int)} (h1 : ¬ lo < (n + 1) * 64 ^ l.toNat) : may n l ((lo, be) :: r) = may n l r := by
  unfold may; rw [List.any_cons, decide_eq_false h1, Bool.and_false]; rfl
theorem may_lt {n l : Int} {sp : List (Int × Int)} (hs : ∀ p ∈ sp, p.2 ≤ 1114112) (h : may n l sp = true) : n * 64 ^ l.toNat < 1114112 := by
  unfold may at h
  obtain ⟨p, hp, h⟩ := List.any_eq_true.mp h
  simp only [Bool.and_eq_true, decide_eq_true_eq] at h
  have := hs p hp
  omega
theorem le_mul_pow (n : Int) (k : Nat) (h : 0 ≤ n) : n ≤ n * 64 ^ k := by
  have h3 : (0 : Int) < 64 ^ k := Int.pow_pos (by decide)
  generalize (64 : Int) ^ k = x at *
  have h2 : n * 1 ≤ n * x := Int.mul_le_mul_of_nonneg_left (by omega) h
  omega
theorem may_lt0 {n l : Int} {sp : List (Int × Int)} (hs : ∀ p ∈ sp, p.2 ≤ 1114112) (h : may n l sp = true) (h0 : 0 ≤ n) : n < 1114112 :=
  Int.lt_of_le_of_lt (le_mul_pow n _ h0) (may_lt hs h)
theorem may_lt1 {n l : Int} {sp : List (Int × Int)} (hs : ∀ p ∈ sp, p.2 ≤ 1114112) (h : may n l sp = true) (h0 : 0 ≤ n) (hl : 0 < l) : n * 64 < 1114112 := by
  have q := may_lt hs h
  obtain ⟨k, e⟩ : ∃ k, l.toNat = k + 1 := ⟨l.toNat - 1, by omega⟩
  rw [e, Int.pow_succ, Int.mul_comm (64 ^ k) 64, ← Int.mul_assoc] at q
  exact Int.lt_of_le_of_lt (le_mul_pow (n * 64) k (by omega)) q

/-- the octet at a place -/
abbrev oct (ks : List Int) (i : Int) : Int := ks.getD i.toNat 0
/-- the number with one octet more -/
abbrev nxt (ks : List Int) (i number : Int) : Int := number * 64 + Int.fmod (oct ks i) 64
/-- the form that begins so, so many octets still to come -/
def go8 (ks : List Int) (at0 : Int) (spans : List (Int × Int)) : Nat → Int → Int → Int × Str
  | 0, number, many => (many, sgn number)
  | l + 1, number, many =>
    if at0 + many = (ks.length : Int) then (many, fffd)
    else if Int.fdiv (oct ks (at0 + many)) 64 ≠ 2 then (many, fffd)
    else if may (nxt ks (at0 + many) number) l spans = true then go8 ks at0 spans l (nxt ks (at0 + many) number) (many + 1)
    else (many, fffd)
/-- a class of first octets: the first, the one behind the last, how many are to follow, the numbers -/
abbrev Cls := Int × Int × Int × List (Int × Int)
/-- the form at a place, by the classes that are still to be asked -/
def formL (ks : List Int) (at0 : Int) : List Cls → Int × Str
  | [] => (1, fffd)
  | c :: r => if oct ks at0 - c.1 < 0 ∨ c.2.1 ≤ oct ks at0 ∨ may (oct ks at0 - c.1) c.2.2.1 c.2.2.2 = false then formL ks at0 r
    else go8 ks at0 c.2.2.2 c.2.2.1.toNat (oct ks at0 - c.1) 1
def classes : List Cls := [(0, 128, 0, [(0, 128)]), (192, 224, 1, [(128, 2048)]), (224, 240, 2, [(2048, 55296), (57344, 65536)]), (240, 248, 3, [(65536, 1114112)])]
/-- the form at a place as the law reckons it: its octets, its sign -/
def form8 (ks : List Int) (at0 : Int) : Int × Str := formL ks at0 classes
section
variable {ks : List Int} {at0 number many left : Int} {sp : List (Int × Int)} {c : Cls} {r : List Cls} {R : Int × Str}
theorem succ_of (h : 0 < left) : ∃ l : Nat, left.toNat = l + 1 ∧ left - 1 = (l : Int) ∧ (left - 1).toNat = l := ⟨left.toNat - 1, by omega, by omega, by omega⟩
theorem go_zero (h : R = go8 ks at0 sp left.toNat number many) (h0 : ¬ 0 < left) : R = (many, sgn number) := by
  rw [h, show left.toNat = 0 by omega]; rfl
theorem go_end (h : R = go8 ks at0 sp left.toNat number many) (h0 : 0 < left) (h1 : at0 + many = (ks.length : Int)) : R = (many, fffd) := by
  obtain ⟨l, e, _, _⟩ := succ_of h0
  rw [h, e]; exact if_pos h1
theorem go_cut (h : R = go8 ks at0 sp left.toNat number many) (h0 : 0 < left) (h1 : at0 + many ≠ (ks.length : Int)) (h2 : Int.fdiv (oct ks (at0 + many)) 64 ≠ 2) : R = (many, fffd) := by
  obtain ⟨l, e, _, _⟩ := succ_of h0
  rw [h, e]; unfold go8; rw [if_neg h1, if_pos h2]
theorem go_no (h : R = go8 ks at0 sp left.toNat number many) (h0 : 0 < left) (h1 : at0 + many ≠ (ks.length : Int)) (h2 : Int.fdiv (oct ks (at0 + many)) 64 = 2) (h3 : may (nxt ks (at0 + many) number) (left - 1) sp = false) : R = (many, fffd) := by
  obtain ⟨l, e, e1, _⟩ := succ_of h0
  rw [e1] at h3
  rw [h, e]; unfold go8; rw [if_neg h1, if_neg (not_not_intro h2), if_neg (h3 ▸ Bool.false_ne_true)]
theorem go_yes (h : R = go8 ks at0 sp left.toNat number many) (h0 : 0 < left) (h1 : at0 + many ≠ (ks.length : Int)) (h2 : Int.fdiv (oct ks (at0 + many)) 64 = 2) (h3 : may (nxt ks (at0 + many) number) (left - 1) sp = true) : R = go8 ks at0 sp (left - 1).toNat (nxt ks (at0 + many) number) (many + 1) := by
  obtain ⟨l, e, e1, e2⟩ := succ_of h0
  rw [e1] at h3
  rw [h, e, e2]; conv => lhs; unfold go8
  rw [if_neg h1, if_neg (not_not_intro h2), if_pos h3]
theorem fl_lo (h : R = formL ks at0 (c :: r)) (h1 : oct ks at0 - c.1 < 0) : R = formL ks at0 r := h.trans (if_pos (.inl h1))
theorem fl_hi (h : R = formL ks at0 (c :: r)) (h1 : c.2.1 ≤ oct ks at0) : R = formL ks at0 r := h.trans (if_pos (.inr (.inl h1)))
theorem fl_no (h : R = formL ks at0 (c :: r)) (h1 : may (oct ks at0 - c.1) c.2.2.1 c.2.2.2 = false) : R = formL ks at0 r := h.trans (if_pos (.inr (.inr h1)))
theorem fl_go (h : R = formL ks at0 (c :: r)) (h1 : ¬ oct ks at0 - c.1 < 0) (h2 : ¬ c.2.1 ≤ oct ks at0) (h3 : may (oct ks at0 - c.1) c.2.2.1 c.2.2.2 = true) :
    R = go8 ks at0 c.2.2.2 c.2.2.1.toNat (oct ks at0 - c.1) 1 := h.trans (if_neg fun x => x.elim h1 fun x => x.elim h2 fun x => Bool.false_ne_true (x.symm.trans h3))
end
theorem fmod64 (a : Int) : Int.fmod a 64 = a % 64 := Int.fmod_eq_emod_of_nonneg _ (by decide)
theorem fdiv64 (a : Int) : Int.fdiv a 64 = a / 64 := Int.fdiv_eq_ediv_of_nonneg _ (by decide)
end Mine
namespace Mine
/-- a text of the signs xs -/
def cat (xs : List Str) : Str := PySem.Txt.join (Str.ofString "") xs
theorem sep_nil : (Str.ofString "").cps = #[] := by decide
theorem foldl_cat : ∀ (r : List Str) (a : Array Nat), r.foldl (fun acc p => acc ++ (Str.ofString "").cps ++ p.cps) a = a ++ (r.foldl (fun acc p => acc ++ (Str.ofString "").cps ++ p.cps) #[])
  | [], a => by simp
  | x :: r, a => by
    rw [List.foldl_cons, List.foldl_cons, foldl_cat r (a ++ (Str.ofString "").cps ++ x.cps), foldl_cat r (#[] ++ (Str.ofString "").cps ++ x.cps), sep_nil]
    simp [Array.append_assoc]
theorem cat_nil : cat [] = Str.ofString "" := by decide
theorem cat_cons (x : Str) (r : List Str) : cat (x :: r) = x ++ cat r := by
  have h : (cat (x :: r)).cps = x.cps ++ (cat r).cps := by
    cases r with
    | nil => show x.cps = x.cps ++ #[]; simp
    | cons y r =>
      show r.foldl (fun acc p => acc ++ (Str.ofString "").cps ++ p.cps) (x.cps ++ (Str.ofString "").cps ++ y.cps) = x.cps ++ (r.foldl (fun acc p => acc ++ (Str.ofString "").cps ++ p.cps) y.cps)
      rw [foldl_cat, foldl_cat r y.cps, sep_nil]
      simp [Array.append_assoc]
  exact Str.ext' h
theorem cat_append (xs ys : List Str) : cat (xs ++ ys) = cat xs ++ cat ys := by
  induction xs with
  | nil => rw [List.nil_append, cat_nil]; exact Str.ext' (by rw [Str.cps_append, sep_nil]; simp)
  | cons x r ih => rw [List.cons_append, cat_cons, cat_cons, ih, Str.append_assoc]
theorem cat_one (x : Str) : cat [x] = x := rfl
theorem cat_snoc (xs : List Str) (x : Str) : cat (xs ++ [x]) = cat xs ++ x := by rw [cat_append, cat_one]
theorem cat_length {xs : List Str} (h : Ones xs) : (cat xs).length = xs.length := by
  induction xs with
  | nil => rw [cat_nil]; decide
  | cons x r ih => rw [cat_cons, Str.length_append, ih (fun y hy => h y (.tail _ hy)), h x (.head _), List.length_cons]; omega

/-- the signs that octets give from a state on -/
def sigQ (q : St8) (ks : List Int) : List Str := (fun r : St8 × List Str => if 0 < r.1.1 then r.2 ++ [fffd] else r.2) (ks.foldl step8 (q, []))
abbrev q0 : St8 := (0, 0, 128, 191)
def sig8 (ks : List Int) : List Str := sigQ q0 ks
theorem dec8_sig (ks : List Int) : dec8 ks = cat (sig8 ks) := rfl
theorem emit8_out (q : St8) (xs ys : List Str) : emit8 q (xs ++ ys) = ((emit8 q ys).1, xs ++ (emit8 q ys).2) := by
  unfold emit8; split <;> simp
theorem step8_out (q : St8) (o : Int) (xs : List Str) : step8 (q, xs) o = ((step8 (q, []) o).1, xs ++ (step8 (q, []) o).2) := by
  unfold step8
  dsimp only
  split
  · have h := emit8_out (q.1 - 1, q.2.1 * 64 + o % 64, 128, 191) xs []
    rw [List.append_nil] at h
    exact h
  · split
    · exact emit8_out (lead o) xs ([] ++ [fffd])
    · have h := emit8_out (lead o) xs []
      rw [List.append_nil] at h
      exact h
theorem fold8_out : ∀ (ks : List Int) (q : St8) (xs : List Str), ks.foldl step8 (q, xs) = ((ks.foldl step8 (q, [])).1, xs ++ (ks.foldl step8 (q, [])).2)
  | [], q, xs => by simp
  | o :: r, q, xs => by
    rw [List.foldl_cons, List.foldl_cons, step8_out, fold8_out r _ (xs ++ _), ← Prod.eta (step8 (q, []) o), fold8_out r _ (step8 (q, []) o).2]
    simp [List.append_assoc]
theorem sigQ_cons (q : St8) (o : Int) (r : List Int) : sigQ q (o :: r) = (step8 (q, []) o).2 ++ sigQ (step8 (q, []) o).1 r := by
  unfold sigQ
  rw [List.foldl_cons, ← Prod.eta (step8 (q, []) o), fold8_out r]
  dsimp only
  split <;> simp
theorem sigQ_none {q : St8} (h : ¬ 0 < q.1) : ∀ ks, sigQ q ks = sig8 ks
  | [] => by unfold sigQ sig8 sigQ; simp [h]
  | o :: r => by
    have e : step8 (q, []) o = step8 (q0, []) o := by
      unfold step8
      dsimp only
      rw [if_neg (fun x => h x.1), if_neg h, if_neg (fun x => absurd x.1 (by decide)), if_neg (by decide)]
    unfold sig8
    rw [sigQ_cons, sigQ_cons, e]
theorem sig8_nil : sig8 [] = [] := rfl
theorem sig8_cons (o : Int) (r : List Int) : sig8 (o :: r) = if (lead o).1 = 0 then sgn (lead o).2.1 :: sig8 r else sigQ (lead o) r := by
  unfold sig8
  rw [sigQ_cons]
  have e : step8 (q0, []) o = emit8 (lead o) [] := by
    unfold step8
    dsimp only
    rw [if_neg (fun x => absurd x.1 (by decide)), if_neg (by decide)]
  rw [e]
  unfold emit8
  split
  · rename_i h
    dsimp only
    rw [sigQ_none (by omega)]
    rfl
  · rfl
theorem sigQ_nil {q : St8} (h : 0 < q.1) : sigQ q [] = [fffd] := by unfold sigQ; simp [h]
theorem sigQ_in {q : St8} {c : Int} {r : List Int} (h : 0 < q.1) (h1 : q.2.2.1 ≤ c) (h2 : c ≤ q.2.2.2) :
    sigQ q (c :: r) = if q.1 = 1 then sgn (q.2.1 * 64 + c % 64) :: sig8 r else sigQ (q.1 - 1, q.2.1 * 64 + c % 64, 128, 191) r := by
  rw [sigQ_cons]
  have e : step8 (q, []) c = emit8 (q.1 - 1, q.2.1 * 64 + c % 64, 128, 191) [] := by
    unfold step8
    dsimp only
    rw [if_pos ⟨h, h1, h2⟩]
  rw [e]
  unfold emit8
  dsimp only
  by_cases h3 : q.1 = 1
  · rw [if_pos h3, if_pos (by omega)]
    dsimp only
    rw [sigQ_none (by dsimp only; omega)]
    rfl
  · rw [if_neg h3, if_neg (by omega)]
    rfl
theorem sigQ_out {q : St8} {c : Int} {r : List Int} (h : 0 < q.1) (h1 : ¬ (q.2.2.1 ≤ c ∧ c ≤ q.2.2.2)) : sigQ q (c :: r) = fffd :: sig8 (c :: r) := by
  unfold sig8
  rw [sigQ_cons, sigQ_cons]
  have e : step8 (q, []) c = ((emit8 (lead c) []).1, fffd :: (emit8 (lead c) []).2) := by
    unfold step8
    dsimp only
    rw [if_neg (fun x => h1 x.2), if_pos h]
    exact emit8_out (lead c) [fffd] []
  have e2 : step8 (q0, []) c = emit8 (lead c) [] := by
    unfold step8
    dsimp only
    rw [if_neg (fun x => absurd x.1 (by decide)), if_neg (by decide)]
  rw [e, e2]
  rfl
end Mine
namespace Mine
theorem may1_iff {n l a b : Int} : may n l [(a, b)] = true ↔ n * 64 ^ l.toNat < b ∧ a < (n + 1) * 64 ^ l.toNat := by
  unfold may; simp
theorem may2_iff {n l a b c d : Int} : may n l [(a, b), (c, d)] = true ↔ (n * 64 ^ l.toNat < b ∧ a < (n + 1) * 64 ^ l.toNat) ∨ (n * 64 ^ l.toNat < d ∧ c < (n + 1) * 64 ^ l.toNat) := by
  unfold may; simp
theorem p0 : (64 : Int) ^ (0 : Int).toNat = 1 := by decide
theorem p1 : (64 : Int) ^ (1 : Int).toNat = 64 := by decide
theorem p2 : (64 : Int) ^ (2 : Int).toNat = 4096 := by decide
theorem p3 : (64 : Int) ^ (3 : Int).toNat = 262144 := by decide
theorem p0' : (64 : Int) ^ ((0 : Nat) : Int).toNat = 1 := by decide
theorem p1' : (64 : Int) ^ ((1 : Nat) : Int).toNat = 64 := by decide
theorem p2' : (64 : Int) ^ ((2 : Nat) : Int).toNat = 4096 := by decide
/-- all numbers that begin so lie in one span -/
def Inside (n : Int) (l : Nat) (sp : List (Int × Int)) : Prop := ∃ p ∈ sp, p.1 ≤ n * 64 ^ l ∧ (n + 1) * 64 ^ l ≤ p.2
theorem inside_next {n d : Int} {l : Nat} {sp : List (Int × Int)} (h : Inside n (l + 1) sp) (h0 : 0 ≤ d) (h1 : d < 64) : Inside (n * 64 + d) l sp := by
  obtain ⟨p, hp, h2, h3⟩ := h
  have hx : (0 : Int) < 64 ^ l := Int.pow_pos (by decide)
  rw [Int.pow_succ] at h2 h3
  refine ⟨p, hp, ?_, ?_⟩ <;> generalize (64 : Int) ^ l = x at *
  · have e : n * (x * 64) = n * 64 * x := by rw [Int.mul_comm x 64, Int.mul_assoc]
    have e2 : (n * 64 + d) * x = n * 64 * x + d * x := Int.add_mul ..
    have e3 : 0 ≤ d * x := Int.mul_nonneg h0 (by omega)
    omega
  · have e : (n + 1) * (x * 64) = n * 64 * x + 64 * x := by rw [Int.mul_comm x 64, ← Int.mul_assoc, Int.add_mul, Int.one_mul, Int.add_mul]
    have e2 : (n * 64 + d + 1) * x = n * 64 * x + (d + 1) * x := by rw [Int.add_assoc]; exact Int.add_mul ..
    have e3 : (d + 1) * x ≤ 64 * x := Int.mul_le_mul_of_nonneg_right (by omega) (by omega)
    omega
theorem inside_may {n : Int} {l : Nat} {sp : List (Int × Int)} (h : Inside n l sp) : may n l sp = true := by
  obtain ⟨p, hp, h2, h3⟩ := h
  have hx : (0 : Int) < 64 ^ l := Int.pow_pos (by decide)
  unfold may
  refine List.any_eq_true.mpr ⟨p, hp, ?_⟩
  rw [Int.toNat_natCast]
  generalize (64 : Int) ^ l = x at *
  have e : (n + 1) * x = n * x + x := by rw [Int.add_mul, Int.one_mul]
  simp only [Bool.and_eq_true, decide_eq_true_eq]
  omega
theorem drop_getD {ks : List Int} {i : Nat} (h : i < ks.length) : ks.drop i = ks.getD i 0 :: ks.drop (i + 1) := by
  rw [List.drop_eq_getElem_cons h, List.getD_eq_getElem?_getD, List.getElem?_eq_getElem h]; rfl
theorem getD_oct {ks : List Int} (hk : ∀ x ∈ ks, 0 ≤ x ∧ x < 256) (i : Nat) : 0 ≤ ks.getD i 0 ∧ ks.getD i 0 < 256 := by
  rw [List.getD_eq_getElem?_getD]
  cases e : ks[i]? with
  | none => exact ⟨by decide, by decide⟩
  | some x => exact hk x (List.mem_of_getElem? e)
theorem go_sig {ks : List Int} {sp : List (Int × Int)} {a : Nat} (hk : ∀ x ∈ ks, 0 ≤ x ∧ x < 256) : ∀ (l : Nat) (n : Int) (m : Nat) (lo hi : Int), a + m ≤ ks.length →
    (∀ c, 0 ≤ c → c < 256 → ((lo ≤ c ∧ c ≤ hi) ↔ (c / 64 = 2 ∧ may (n * 64 + c % 64) l sp = true))) →
    (∀ c, 0 ≤ c → c < 256 → lo ≤ c → c ≤ hi → Inside (n * 64 + c % 64) l sp) →
    ∃ (m' : Nat) (s : Str), go8 ks a sp (l + 1) n m = ((m' : Int), s) ∧ m ≤ m' ∧ a + m' ≤ ks.length ∧ s.length = 1 ∧ sigQ (((l + 1 : Nat) : Int), n, lo, hi) (ks.drop (a + m)) = s :: sig8 (ks.drop (a + m')) := by
  intro l
  induction l with
  | zero =>
    intro n m lo hi hm Hc Hi
    have hq : (0 : Int) < ((0 + 1 : Nat) : Int) := by decide
    by_cases he : a + m = ks.length
    · refine ⟨m, fffd, if_pos (by omega), Nat.le_refl _, hm, fffd_one, ?_⟩
      rw [he, List.drop_length, sigQ_nil hq]
      rfl
    have hlt : a + m < ks.length := by omega
    obtain ⟨c0, c1⟩ := getD_oct hk (a + m)
    have ho : oct ks ((a : Int) + m) = ks.getD (a + m) 0 := by unfold oct; rw [show ((a : Int) + m).toNat = a + m by omega]
    rw [drop_getD hlt]
    have Hcc := Hc _ c0 c1
    by_cases hr : lo ≤ ks.getD (a + m) 0 ∧ ks.getD (a + m) 0 ≤ hi
    · have h2 := Hcc.mp hr
      refine ⟨m + 1, sgn (n * 64 + ks.getD (a + m) 0 % 64), ?_, by omega, by omega, sgn_one _, ?_⟩
      · unfold go8
        rw [if_neg (by omega), ho, fdiv64, if_neg (by omega)]
        unfold nxt
        rw [ho, fmod64, if_pos h2.2]
        rfl
      · rw [sigQ_in hq hr.1 hr.2]; exact if_pos rfl
    · refine ⟨m, fffd, ?_, Nat.le_refl _, hm, fffd_one, ?_⟩
      · unfold go8
        rw [if_neg (by omega), ho, fdiv64]
        split
        · rfl
        · unfold nxt
          rw [ho, fmod64]
          split
          · rename_i h3 h4
            exact absurd (Hcc.mpr ⟨by omega, h4⟩) hr
          · rfl
      · rw [sigQ_out hq hr, ← drop_getD hlt]
  | succ l ih =>
    intro n m lo hi hm Hc Hi
    have hq : (0 : Int) < ((l + 1 + 1 : Nat) : Int) := by omega
    by_cases he : a + m = ks.length
    · refine ⟨m, fffd, if_pos (by omega), Nat.le_refl _, hm, fffd_one, ?_⟩
      rw [he, List.drop_length, sigQ_nil hq]
      rfl
    have hlt : a + m < ks.length := by omega
    obtain ⟨c0, c1⟩ := getD_oct hk (a + m)
    have ho : oct ks ((a : Int) + m) = ks.getD (a + m) 0 := by unfold oct; rw [show ((a : Int) + m).toNat = a + m by omega]
    rw [drop_getD hlt]
    have Hcc := Hc _ c0 c1
    by_cases hr : lo ≤ ks.getD (a + m) 0 ∧ ks.getD (a + m) 0 ≤ hi
    · have h2 := Hcc.mp hr
      have hin := Hi _ c0 c1 hr.1 hr.2
      obtain ⟨m', s, g1, g2, g3, g4, g5⟩ := ih (n * 64 + ks.getD (a + m) 0 % 64) (m + 1) 128 191 (by omega)
        (fun c d0 d1 => by
          constructor
          · intro hc
            exact ⟨by omega, inside_may (inside_next hin (by omega) (by omega))⟩
          · intro hc
            omega)
        (fun c d0 d1 d2 d3 => inside_next hin (by omega) (by omega))
      refine ⟨m', s, ?_, by omega, g3, g4, ?_⟩
      · rw [← g1]
        conv => lhs; unfold go8
        rw [if_neg (by omega), ho, fdiv64, if_neg (by omega)]
        unfold nxt
        rw [ho, fmod64, if_pos h2.2]
        rfl
      · rw [sigQ_in hq hr.1 hr.2, if_neg (by dsimp only; omega)]
        have e : ((l + 1 + 1 : Nat) : Int) - 1 = ((l + 1 : Nat) : Int) := by omega
        dsimp only
        rw [e]
        exact g5
    · refine ⟨m, fffd, ?_, Nat.le_refl _, hm, fffd_one, ?_⟩
      · unfold go8
        rw [if_neg (by omega), ho, fdiv64]
        split
        · rfl
        · unfold nxt
          rw [ho, fmod64]
          split
          · rename_i h3 h4
            exact absurd (Hcc.mpr ⟨by omega, h4⟩) hr
          · rfl
      · rw [sigQ_out hq hr, ← drop_getD hlt]
/-- the first octet opens a form of l + 1 more -/
theorem form_go {ks : List Int} {sp : List (Int × Int)} {a : Nat} (hk : ∀ x ∈ ks, 0 ≤ x ∧ x < 256) (ha : a < ks.length) {l : Nat} {n lo hi : Int} (hf : form8 ks a = go8 ks a sp (l + 1) n 1) (hl : lead (ks.getD a 0) = (((l + 1 : Nat) : Int), n, lo, hi))
    (Hc : ∀ c, 0 ≤ c → c < 256 → ((lo ≤ c ∧ c ≤ hi) ↔ (c / 64 = 2 ∧ may (n * 64 + c % 64) l sp = true))) (Hi : ∀ c, 0 ≤ c → c < 256 → lo ≤ c → c ≤ hi → Inside (n * 64 + c % 64) l sp) :
    ∃ (m : Nat) (s : Str), form8 ks a = ((m : Int), s) ∧ 1 ≤ m ∧ a + m ≤ ks.length ∧ s.length = 1 ∧ sig8 (ks.drop a) = s :: sig8 (ks.drop (a + m)) := by
  obtain ⟨m, s, g1, g2, g3, g4, g5⟩ := go_sig hk l n 1 lo hi ha Hc Hi
  refine ⟨m, s, hf.trans g1, g2, g3, g4, ?_⟩
  rw [drop_getD ha, sig8_cons, hl, if_neg (by dsimp only; omega)]
  exact g5
theorem form_one {ks : List Int} {a : Nat} (ha : a < ks.length) {n lo hi : Int} {s : Str} (hf : form8 ks a = (1, s)) (hl : lead (ks.getD a 0) = (0, n, lo, hi)) (hs : s = sgn n) :
    ∃ (m : Nat) (s : Str), form8 ks a = ((m : Int), s) ∧ 1 ≤ m ∧ a + m ≤ ks.length ∧ s.length = 1 ∧ sig8 (ks.drop a) = s :: sig8 (ks.drop (a + m)) := by
  subst hs
  refine ⟨1, _, hf, Nat.le_refl _, ha, sgn_one _, ?_⟩
  rw [drop_getD ha, sig8_cons, hl, if_pos rfl]
theorem fffd_sgn : fffd = sgn 65533 := by decide
theorem form_sig {ks : List Int} {a : Nat} (hk : ∀ x ∈ ks, 0 ≤ x ∧ x < 256) (ha : a < ks.length) :
    ∃ (m : Nat) (s : Str), form8 ks a = ((m : Int), s) ∧ 1 ≤ m ∧ a + m ≤ ks.length ∧ s.length = 1 ∧ sig8 (ks.drop a) = s :: sig8 (ks.drop (a + m)) := by
  obtain ⟨o0, o1⟩ := getD_oct hk a
  have ho : oct ks (a : Int) = ks.getD a 0 := by unfold oct; rw [Int.toNat_natCast]
  have hF : form8 ks (a : Int) = if ks.getD a 0 - 0 < 0 ∨ 128 ≤ ks.getD a 0 ∨ may (ks.getD a 0 - 0) 0 [(0, 128)] = false then
        (if ks.getD a 0 - 192 < 0 ∨ 224 ≤ ks.getD a 0 ∨ may (ks.getD a 0 - 192) 1 [(128, 2048)] = false then
          (if ks.getD a 0 - 224 < 0 ∨ 240 ≤ ks.getD a 0 ∨ may (ks.getD a 0 - 224) 2 [(2048, 55296), (57344, 65536)] = false then
            (if ks.getD a 0 - 240 < 0 ∨ 248 ≤ ks.getD a 0 ∨ may (ks.getD a 0 - 240) 3 [(65536, 1114112)] = false then (1, fffd)
              else go8 ks a [(65536, 1114112)] 3 (ks.getD a 0 - 240) 1)
            else go8 ks a [(2048, 55296), (57344, 65536)] 2 (ks.getD a 0 - 224) 1)
          else go8 ks a [(128, 2048)] 1 (ks.getD a 0 - 192) 1)
        else go8 ks a [(0, 128)] 0 (ks.getD a 0 - 0) 1 := by
    rw [← ho]; rfl
  generalize ho' : ks.getD a 0 = o at *
  have m1 : may (o - 0) 0 [(0, 128)] = decide (o < 128 ∧ 0 < o + 1) := by
    rw [Bool.eq_iff_iff, may1_iff, p0, decide_eq_true_eq]; omega
  have m2 : may (o - 192) 1 [(128, 2048)] = decide (o < 224 ∧ 193 < o) := by
    rw [Bool.eq_iff_iff, may1_iff, p1, decide_eq_true_eq]; omega
  have m3 : may (o - 224) 2 [(2048, 55296), (57344, 65536)] = decide ((o < 238 ∧ 223 < o) ∨ (o < 240 ∧ 237 < o)) := by
    rw [Bool.eq_iff_iff, may2_iff, p2, decide_eq_true_eq]; omega
  have m4 : may (o - 240) 3 [(65536, 1114112)] = decide (o < 245 ∧ 239 < o) := by
    rw [Bool.eq_iff_iff, may1_iff, p3, decide_eq_true_eq]; omega
  rw [m1, m2, m3, m4] at hF
  simp only [decide_eq_false_iff_not] at hF
  by_cases c1 : o < 128
  · rw [if_neg (by omega)] at hF
    refine form_one ha (s := sgn (o - 0)) hF (n := o) (lo := 128) (hi := 191) ?_ (by rw [Int.sub_zero])
    rw [ho']; unfold lead; rw [if_pos (by omega)]
  rw [if_pos (by omega)] at hF
  by_cases c2 : 194 ≤ o ∧ o ≤ 223
  · rw [if_neg (by omega)] at hF
    refine form_go hk ha (lo := 128) (hi := 191) hF ?_ ?_ ?_
    · rw [ho']; unfold lead; rw [if_neg (by omega), if_pos (by omega)]
      rw [show o % 32 = o - 192 by omega]; rfl
    · intro c d0 d1; rw [may1_iff, p0']; omega
    · intro c d0 d1 d2 d3; exact ⟨_, List.Mem.head _, by dsimp only; omega, by dsimp only; omega⟩
  rw [if_pos (by omega)] at hF
  by_cases c3 : 224 ≤ o ∧ o ≤ 239
  · rw [if_neg (by omega)] at hF
    by_cases d1 : o = 224
    · refine form_go hk ha (lo := 160) (hi := 191) hF ?_ ?_ ?_
      · rw [ho', d1]; decide
      · intro c d0 d1; rw [may2_iff, p1']; omega
      · intro c e0 e1 e2 e3; exact ⟨_, List.Mem.head _, by dsimp only; omega, by dsimp only; omega⟩
    by_cases d2 : o = 237
    · refine form_go hk ha (lo := 128) (hi := 159) hF ?_ ?_ ?_
      · rw [ho', d2]; decide
      · intro c d0 d1; rw [may2_iff, p1']; omega
      · intro c e0 e1 e2 e3; exact ⟨_, List.Mem.head _, by dsimp only; omega, by dsimp only; omega⟩
    refine form_go hk ha (lo := 128) (hi := 191) hF ?_ ?_ ?_
    · rw [ho']; unfold lead; rw [if_neg (by omega), if_neg (by omega), if_neg (by omega), if_neg (by omega), if_pos (by omega)]
      rw [show o % 16 = o - 224 by omega]; rfl
    · intro c d0 d1; rw [may2_iff, p1']; omega
    · intro c e0 e1 e2 e3
      by_cases f : o ≤ 236
      · exact ⟨_, List.Mem.head _, by dsimp only; omega, by dsimp only; omega⟩
      · exact ⟨_, List.Mem.tail _ (List.Mem.head _), by dsimp only; omega, by dsimp only; omega⟩
  rw [if_pos (by omega)] at hF
  by_cases c4 : 240 ≤ o ∧ o ≤ 244
  · rw [if_neg (by omega)] at hF
    by_cases d1 : o = 240
    · refine form_go hk ha (lo := 144) (hi := 191) hF ?_ ?_ ?_
      · rw [ho', d1]; decide
      · intro c d0 d1; rw [may1_iff, p2']; omega
      · intro c e0 e1 e2 e3; exact ⟨_, List.Mem.head _, by dsimp only; omega, by dsimp only; omega⟩
    by_cases d2 : o = 244
    · refine form_go hk ha (lo := 128) (hi := 143) hF ?_ ?_ ?_
      · rw [ho', d2]; decide
      · intro c d0 d1; rw [may1_iff, p2']; omega
      · intro c e0 e1 e2 e3; exact ⟨_, List.Mem.head _, by dsimp only; omega, by dsimp only; omega⟩
    refine form_go hk ha (lo := 128) (hi := 191) hF ?_ ?_ ?_
    · rw [ho']; unfold lead; rw [if_neg (by omega), if_neg (by omega), if_neg (by omega), if_neg (by omega), if_neg (by omega), if_neg (by omega), if_neg (by omega), if_pos (by omega)]
      rw [show o % 8 = o - 240 by omega]; rfl
    · intro c d0 d1; rw [may1_iff, p2']; omega
    · intro c e0 e1 e2 e3; exact ⟨_, List.Mem.head _, by dsimp only; omega, by dsimp only; omega⟩
  rw [if_pos (by omega)] at hF
  refine form_one ha hF (n := 65533) (lo := 128) (hi := 191) ?_ fffd_sgn
  rw [ho']; unfold lead
  rw [if_neg (by omega), if_neg (by omega), if_neg (by omega), if_neg (by omega), if_neg (by omega), if_neg (by omega), if_neg (by omega), if_neg (by omega)]
end Mine
namespace Mine
/-- what holds between the turns of _law_text's while -/
def TextP (ks : List Int) (text : Str) (at0 : Int) : Prop :=
  ∃ (i : Nat) (xs : List Str), at0 = (i : Int) ∧ i ≤ ks.length ∧ text = cat xs ∧ Ones xs ∧ xs.length ≤ i ∧ sig8 ks = xs ++ sig8 (ks.drop i)
theorem text_start (ks : List Int) : TextP ks (Str.ofString "") 0 := ⟨0, [], rfl, Nat.zero_le _, cat_nil.symm, (fun _ h => nomatch h), Nat.le_refl _, rfl⟩
theorem text_in {ks : List Int} {text : Str} {at0 : Int} (h : TextP ks text at0) : 0 ≤ at0 ∧ at0 ≤ (ks.length : Int) ∧ text.length ≤ ks.length := by
  obtain ⟨i, xs, rfl, h1, rfl, h3, h4, _⟩ := h
  exact ⟨by omega, by omega, by rw [cat_length h3]; omega⟩
theorem form_facts {ks : List Int} {at0 : Int} (hk : ∀ x ∈ ks, 0 ≤ x ∧ x < 256) (h0 : 0 ≤ at0) (h1 : at0 < (ks.length : Int)) : 1 ≤ (form8 ks at0).1 ∧ at0 + (form8 ks at0).1 ≤ (ks.length : Int) ∧ (form8 ks at0).2.length = 1 := by
  obtain ⟨i, rfl⟩ : ∃ i : Nat, at0 = (i : Int) := ⟨at0.toNat, by omega⟩
  obtain ⟨m, s, e, g1, g2, g3, _⟩ := form_sig hk (a := i) (by omega)
  rw [e]
  exact ⟨by dsimp only; omega, by dsimp only; omega, g3⟩
theorem text_step {ks : List Int} {text : Str} {at0 : Int} (hk : ∀ x ∈ ks, 0 ≤ x ∧ x < 256) (h : TextP ks text at0) (h1 : at0 < (ks.length : Int)) : TextP ks (text ++ (form8 ks at0).2) (at0 + (form8 ks at0).1) := by
  obtain ⟨i, xs, rfl, _, rfl, h3, h4, h5⟩ := h
  obtain ⟨m, s, e, g1, g2, g3, g4⟩ := form_sig hk (a := i) (by omega)
  rw [e]
  refine ⟨i + m, xs ++ [s], by dsimp only; omega, g2, (cat_snoc _ _).symm, ones_snoc h3 g3, by rw [List.length_append, List.length_singleton]; omega, ?_⟩
  rw [h5, g4, List.append_assoc]
  rfl
theorem text_end {ks : List Int} {text : Str} {at0 : Int} (h : TextP ks text at0) (h1 : ¬ at0 < (ks.length : Int)) : text = dec8 ks := by
  obtain ⟨i, xs, rfl, h2, rfl, h3, h4, h5⟩ := h
  rw [show i = ks.length by omega, List.drop_length, sig8_nil, List.append_nil] at h5
  rw [dec8_sig, h5]
end Mine
namespace Mine
/-- the units of a scalar's number -/
def unitsAt (c : Int) : List Int := if c < 65536 then [c] else [55296 + Int.fdiv (c - 65536) 1024, 56320 + Int.fmod c 1024]
def unitsOf (cs : List Int) : List Int := cs.flatMap unitsAt
def beOf (us : List Int) : List Int := us.flatMap fun u => [Int.fdiv u 256, Int.fmod u 256]
def leOf (us : List Int) : List Int := us.flatMap fun u => [Int.fmod u 256, Int.fdiv u 256]
/-- the text that is due -/
def dueOf (marks : Int) (ks : List Int) : Str := PySem.Txt.slice (PySem.Txt.mul (Str.ofString "\ufeff") marks) (some 1) none ++ dec8 ks
end Mine
namespace Mine
/-- the text of octets as decode reckons it -/
def decOf (nm : Str) (ks : List Int) : Str :=
  if nm = Str.ofString "UTF-8" then dec8 (unmark [239, 187, 191] ks)
  else if nm = Str.ofString "UTF-16BE" then dec16 true (unmark [254, 255] ks) else dec16 false (unmark [255, 254] ks)
theorem decOf_8 (ks : List Int) : decOf (Str.ofString "UTF-8") ks = dec8 (unmark [239, 187, 191] ks) := if_pos rfl
theorem decOf_be (ks : List Int) : decOf (Str.ofString "UTF-16BE") ks = dec16 true (unmark [254, 255] ks) := (if_neg (by decide)).trans (if_pos rfl)
theorem decOf_le (ks : List Int) : decOf (Str.ofString "UTF-16LE") ks = dec16 false (unmark [255, 254] ks) := (if_neg (by decide)).trans (if_neg (by decide))
end Mine
namespace Mine
theorem unitsOf_append (xs ys : List Int) : unitsOf (xs ++ ys) = unitsOf xs ++ unitsOf ys := List.flatMap_append
theorem units_snoc1 {ns M pre : List Int} {o : Int} (h : ns = M ++ unitsOf pre) (ho : o < 65536) : ns ++ [o] = M ++ unitsOf (pre ++ [o]) := by
  rw [h, unitsOf_append, List.append_assoc]
  have e : unitsOf [o] = [o] := by unfold unitsOf unitsAt; simp [ho]
  rw [e]
theorem units_snoc2 {ns M pre : List Int} {o : Int} (h : ns = M ++ unitsOf pre) (ho : ¬ o < 65536) : ns ++ [55296 + Int.fdiv (o - 65536) 1024, 56320 + Int.fmod o 1024] = M ++ unitsOf (pre ++ [o]) := by
  rw [h, unitsOf_append, List.append_assoc]
  have e : unitsOf [o] = [55296 + Int.fdiv (o - 65536) 1024, 56320 + Int.fmod o 1024] := by unfold unitsOf unitsAt; simp [ho]
  rw [e]
theorem units_pre {ns M pre post cs : List Int} {n : Nat} (h : ns = M ++ unitsOf pre) (e : cs = pre ++ post) (hl : (M ++ unitsOf cs).length ≤ n) : ns.length ≤ n := by
  subst h e
  rw [unitsOf_append] at hl
  simp only [List.length_append] at hl ⊢
  omega
theorem be_snoc {ns pre : List Int} {u : Int} (h : ns = beOf pre) : ns ++ [Int.fdiv u 256, Int.fmod u 256] = beOf (pre ++ [u]) := by
  subst h; unfold beOf; rw [List.flatMap_append]; rfl
theorem le_snoc {ns pre : List Int} {u : Int} (h : ns = leOf pre) : ns ++ [Int.fmod u 256, Int.fdiv u 256] = leOf (pre ++ [u]) := by
  subst h; unfold leOf; rw [List.flatMap_append]; rfl
theorem be_len (us : List Int) : (beOf us).length = 2 * us.length := by
  unfold beOf; induction us with
  | nil => rfl
  | cons u r ih => rw [List.flatMap_cons, List.length_append, ih]; simp only [List.length_cons, List.length_nil]; omega
theorem le_len (us : List Int) : (leOf us).length = 2 * us.length := by
  unfold leOf; induction us with
  | nil => rfl
  | cons u r ih => rw [List.flatMap_cons, List.length_append, ih]; simp only [List.length_cons, List.length_nil]; omega
theorem pre_len {US pre post : List Int} {n : Nat} (e : US = pre ++ post) (hl : US.length ≤ n) : pre.length ≤ n := by
  subst e; rw [List.length_append] at hl; omega
end Mine
namespace Mine
abbrev marksOf (marks : Int) : List Int := (List.replicate marks.toNat [65279]).flatten
abbrev bomsOf (marks : Int) : List Int := (List.replicate marks.toNat [239, 187, 191]).flatten
/-- what the walk wants to know of the plain functions -/
structure ReadOk (marks : Int) (ks : List Int) : Prop where
  hdl : (dec8 ks).length ≤ ks.length
  hk8 : ∀ x ∈ bomsOf marks ++ ks, 0 ≤ x ∧ x < 256
  hl8 : (bomsOf marks ++ ks).length ≤ 1000
  h8 : decOf (Str.ofString "UTF-8") (bomsOf marks ++ ks) = dueOf marks ks
  hsc : ∀ c ∈ KStt.codes (dec8 ks), 0 ≤ c ∧ c < 1114112
  hun : ∀ u ∈ marksOf marks ++ unitsOf (KStt.codes (dec8 ks)), 0 ≤ u ∧ u < 65536
  hlu : (marksOf marks ++ unitsOf (KStt.codes (dec8 ks))).length ≤ 100
  hbe : ∀ x ∈ beOf (marksOf marks ++ unitsOf (KStt.codes (dec8 ks))), 0 ≤ x ∧ x < 256
  hle : ∀ x ∈ leOf (marksOf marks ++ unitsOf (KStt.codes (dec8 ks))), 0 ≤ x ∧ x < 256
  hlb : (beOf (marksOf marks ++ unitsOf (KStt.codes (dec8 ks)))).length ≤ 1000
  hll : (leOf (marksOf marks ++ unitsOf (KStt.codes (dec8 ks)))).length ≤ 1000
  h16b : decOf (Str.ofString "UTF-16BE") (beOf (marksOf marks ++ unitsOf (KStt.codes (dec8 ks)))) = dueOf marks ks
  h16l : decOf (Str.ofString "UTF-16LE") (leOf (marksOf marks ++ unitsOf (KStt.codes (dec8 ks)))) = dueOf marks ks

/-- a scalar value -/
def Scal (c : Int) : Prop := 0 ≤ c ∧ c < 1114112 ∧ ¬ (55296 ≤ c ∧ c ≤ 57343)
def SpanOk (p : Int × Int) : Prop := 0 ≤ p.1 ∧ (p.2 ≤ 55296 ∨ (57344 ≤ p.1 ∧ p.2 ≤ 1114112))
theorem scal_fffd : Scal 65533 := ⟨by decide, by decide, by decide⟩
theorem scal_span {p : Int × Int} {c : Int} (h : SpanOk p) (h1 : p.1 ≤ c) (h2 : c < p.2) : Scal c := by
  unfold SpanOk at h; unfold Scal; omega
theorem go_scal {ks : List Int} {at0 : Int} {sp : List (Int × Int)} (hs : ∀ p ∈ sp, SpanOk p) : ∀ (l : Nat) (n m : Int), (l = 0 → may n 0 sp = true) → ∃ c, (go8 ks at0 sp l n m).2 = sgn c ∧ Scal c := by
  intro l
  induction l with
  | zero =>
    intro n m h
    have h := h rfl
    unfold may at h
    obtain ⟨p, hp, h⟩ := List.any_eq_true.mp h
    rw [p0] at h
    simp only [Bool.and_eq_true, decide_eq_true_eq] at h
    exact ⟨n, rfl, scal_span (hs p hp) (by omega) (by omega)⟩
  | succ l ih =>
    intro n m _
    unfold go8
    split
    · exact ⟨65533, fffd_sgn, scal_fffd⟩
    · split
      · exact ⟨65533, fffd_sgn, scal_fffd⟩
      · split
        · rename_i h
          exact ih _ _ (fun e => by subst e; exact h)
        · exact ⟨65533, fffd_sgn, scal_fffd⟩
theorem formL_scal {ks : List Int} {at0 : Int} : ∀ {cls : List Cls}, (∀ c ∈ cls, ∀ p ∈ c.2.2.2, SpanOk p) → ∃ c, (formL ks at0 cls).2 = sgn c ∧ Scal c
  | [], _ => ⟨65533, fffd_sgn, scal_fffd⟩
  | k :: r, h => by
    unfold formL
    split
    · exact formL_scal fun c hc => h c (.tail _ hc)
    · rename_i hn
      refine go_scal (h k (.head _)) _ _ _ fun e => ?_
      have hm : may (oct ks at0 - k.1) k.2.2.1 k.2.2.2 = true := by
        cases q : may (oct ks at0 - k.1) k.2.2.1 k.2.2.2 with
        | true => rfl
        | false => exact absurd (.inr (.inr q)) hn
      unfold may at hm ⊢
      rw [e] at hm
      exact hm
theorem form_scal (ks : List Int) (at0 : Int) : ∃ c, (form8 ks at0).2 = sgn c ∧ Scal c := formL_scal (by
  intro c hc p hp
  unfold classes at hc
  simp only [List.mem_cons, List.not_mem_nil, or_false] at hc
  unfold SpanOk
  rcases hc with rfl | rfl | rfl | rfl
  all_goals (simp only [List.mem_cons, List.not_mem_nil, or_false] at hp)
  · subst hp; decide
  · subst hp; decide
  · rcases hp with rfl | rfl <;> decide
  · subst hp; decide)
theorem sig_scal {ks : List Int} (hk : ∀ x ∈ ks, 0 ≤ x ∧ x < 256) : ∀ (n a : Nat), ks.length - a ≤ n → ∃ cs : List Int, sig8 (ks.drop a) = cs.map sgn ∧ (∀ c ∈ cs, Scal c) ∧ cs.length ≤ ks.length - a := by
  intro n
  induction n with
  | zero =>
    intro a h
    rw [List.drop_eq_nil_of_le (by omega)]
    exact ⟨[], rfl, (fun _ h => nomatch h), Nat.zero_le _⟩
  | succ n ih =>
    intro a h
    by_cases ha : a < ks.length
    · obtain ⟨m, s, e, g1, g2, g3, g4⟩ := form_sig hk ha
      obtain ⟨c, e2, hc⟩ := form_scal ks a
      rw [e] at e2
      obtain ⟨cs, i1, i2, i3⟩ := ih (a + m) (by omega)
      refine ⟨c :: cs, ?_, ?_, ?_⟩
      · rw [g4, i1, List.map_cons, show s = sgn c from e2]
      · intro x hx
        rcases List.mem_cons.mp hx with rfl | hx
        · exact hc
        · exact i2 x hx
      · rw [List.length_cons]; omega
    · rw [List.drop_eq_nil_of_le (by omega)]
      exact ⟨[], rfl, (fun _ h => nomatch h), Nat.zero_le _⟩
theorem codes_cat : ∀ {cs : List Int}, (∀ c ∈ cs, Scal c) → KStt.codes (cat (cs.map sgn)) = cs
  | [], _ => by rw [List.map_nil, cat_nil]; decide
  | c :: r, h => by
    have ih := codes_cat (cs := r) fun x hx => h x (.tail _ hx)
    rw [List.map_cons, cat_cons]
    unfold KStt.codes at ih ⊢
    rw [Str.cps_append, Array.toList_append, List.map_append, ih]
    have h0 := (h c (.head _)).1
    show ((c.toNat : Nat) : Int) :: r = c :: r
    rw [Int.toNat_of_nonneg h0]
theorem first_code {ks : List Int} {a : Int} {r : List Int} (e : ks = a :: 127 :: r) : ∃ (c : Int) (xs : List Str), sig8 ks = sgn c :: xs ∧ ((0 ≤ c ∧ c ≤ 127) ∨ c ≤ 0 ∨ c = 65533) := by
  subst e
  rw [sig8_cons]
  split
  · refine ⟨_, _, rfl, ?_⟩
    unfold lead at *
    repeat' split
    all_goals first
      | (dsimp only; omega)
      | (rename_i h; repeat' (split at h)) <;> first | (dsimp only at *; omega) | simp_all
  · rename_i h
    have hp : 0 < (lead a).1 ∧ 128 ≤ (lead a).2.2.1 := by
      unfold lead at *
      repeat' split
      all_goals first
        | (dsimp only; omega)
        | simp_all
    rw [sigQ_out hp.1 (by omega), fffd_sgn]
    exact ⟨_, _, rfl, .inr (.inr rfl)⟩
end Mine
namespace Mine
theorem fold16_out : ∀ (us : List Int) (l : Int) (xs : List Str), us.foldl step16 (l, xs) = ((us.foldl step16 (l, [])).1, xs ++ (us.foldl step16 (l, [])).2) := by
  have hs : ∀ (l u : Int) (xs : List Str), step16 (l, xs) u = ((step16 (l, []) u).1, xs ++ (step16 (l, []) u).2) := by
    intro l u xs
    unfold step16
    dsimp only
    repeat' split
    all_goals simp
  intro us
  induction us with
  | nil => intro l xs; simp
  | cons u r ih =>
    intro l xs
    rw [List.foldl_cons, List.foldl_cons, hs, ih _ (xs ++ _), ← Prod.eta (step16 (l, []) u), ih _ (step16 (l, []) u).2]
    simp [List.append_assoc]
theorem fmod1024 (a : Int) : Int.fmod a 1024 = a % 1024 := Int.fmod_eq_emod_of_nonneg _ (by decide)
theorem fdiv1024 (a : Int) : Int.fdiv a 1024 = a / 1024 := Int.fdiv_eq_ediv_of_nonneg _ (by decide)
theorem fmod256 (a : Int) : Int.fmod a 256 = a % 256 := Int.fmod_eq_emod_of_nonneg _ (by decide)
theorem fdiv256 (a : Int) : Int.fdiv a 256 = a / 256 := Int.fdiv_eq_ediv_of_nonneg _ (by decide)
theorem fold_units : ∀ {cs : List Int}, (∀ c ∈ cs, Scal c) → (unitsOf cs).foldl step16 (0, []) = (0, cs.map sgn)
  | [], _ => rfl
  | c :: r, h => by
    have ih := fold_units (cs := r) fun x hx => h x (.tail _ hx)
    obtain ⟨h0, h1, h2⟩ := h c (.head _)
    have e : unitsOf (c :: r) = unitsAt c ++ unitsOf r := by unfold unitsOf; rw [List.flatMap_cons]
    have e2 : (unitsAt c).foldl step16 (0, []) = (0, [sgn c]) := by
      unfold unitsAt
      split
      · rw [List.foldl_cons, List.foldl_nil]
        unfold step16
        dsimp only
        rw [if_neg (by omega), if_neg (by omega), if_neg (by omega), if_neg (by decide)]
        rfl
      · rw [fdiv1024, fmod1024, List.foldl_cons, List.foldl_cons, List.foldl_nil]
        have a1 : step16 (0, []) (55296 + (c - 65536) / 1024) = (55296 + (c - 65536) / 1024, []) := by
          unfold step16
          dsimp only
          rw [if_neg (by omega), if_pos (by omega), if_neg (by decide)]
        rw [a1]
        unfold step16
        dsimp only
        rw [if_pos (by omega), show 65536 + (55296 + (c - 65536) / 1024 - 55296) * 1024 + (56320 + c % 1024) - 56320 = c by omega]
        rfl
    rw [e, List.foldl_append, e2, fold16_out, ih]
    rfl
theorem units_in {cs : List Int} (h : ∀ c ∈ cs, Scal c) : ∀ u ∈ unitsOf cs, 0 ≤ u ∧ u < 65536 := by
  intro u hu
  unfold unitsOf at hu
  obtain ⟨c, hc, hu⟩ := List.mem_flatMap.mp hu
  obtain ⟨h0, h1, h2⟩ := h c hc
  unfold unitsAt at hu
  split at hu
  · rw [List.mem_singleton.mp hu]; omega
  · rw [fdiv1024, fmod1024] at hu
    simp only [List.mem_cons, List.not_mem_nil, or_false] at hu
    omega
theorem units_len (cs : List Int) : (unitsOf cs).length ≤ 2 * cs.length := by
  unfold unitsOf
  induction cs with
  | nil => exact Nat.le_refl _
  | cons c r ih =>
    have e : (unitsAt c).length ≤ 2 := by unfold unitsAt; split <;> simp
    rw [List.flatMap_cons, List.length_append, List.length_cons]
    omega
theorem be_in {us : List Int} (h : ∀ u ∈ us, 0 ≤ u ∧ u < 65536) : ∀ x ∈ beOf us, 0 ≤ x ∧ x < 256 := by
  intro x hx
  unfold beOf at hx
  obtain ⟨u, hu, hx⟩ := List.mem_flatMap.mp hx
  have := h u hu
  rw [fdiv256, fmod256] at hx
  simp only [List.mem_cons, List.not_mem_nil, or_false] at hx
  omega
theorem le_in {us : List Int} (h : ∀ u ∈ us, 0 ≤ u ∧ u < 65536) : ∀ x ∈ leOf us, 0 ≤ x ∧ x < 256 := by
  intro x hx
  unfold leOf at hx
  obtain ⟨u, hu, hx⟩ := List.mem_flatMap.mp hx
  have := h u hu
  rw [fdiv256, fmod256] at hx
  simp only [List.mem_cons, List.not_mem_nil, or_false] at hx
  omega
/-- the octets of units, of both kinds -/
def octOf (big : Bool) (us : List Int) : List Int := if big then beOf us else leOf us
theorem oct_cons (big : Bool) (u : Int) (r : List Int) : octOf big (u :: r) = (if big then [u / 256, u % 256] else [u % 256, u / 256]) ++ octOf big r := by
  unfold octOf
  cases big
  · simp only [Bool.false_eq_true, if_false]; unfold leOf; rw [List.flatMap_cons, fdiv256, fmod256]
  · simp only [if_true]; unfold beOf; rw [List.flatMap_cons, fdiv256, fmod256]
theorem oct_len (big : Bool) (us : List Int) : (octOf big us).length = 2 * us.length := by
  unfold octOf; cases big
  · exact le_len us
  · exact be_len us
theorem at16_oct (big : Bool) : ∀ (us : List Int) (i : Nat), i < us.length → at16 big (octOf big us) i = us.getD i 0
  | u :: r, 0, _ => by
    rw [oct_cons]
    unfold at16 unit16
    cases big
    · show u % 256 + u / 256 * 256 = u; omega
    · show u / 256 * 256 + u % 256 = u; omega
  | u :: r, i + 1, h => by
    have ih := at16_oct big r i (by rw [List.length_cons] at h; omega)
    rw [oct_cons]
    unfold at16 at ih ⊢
    rw [List.getD_cons_succ, ← ih]
    cases big <;> rfl
theorem run16_oct (big : Bool) (us : List Int) : run16 big (octOf big us) us.length = us.foldl step16 (0, []) := by
  have key : ∀ n, n ≤ us.length → run16 big (octOf big us) n = (us.take n).foldl step16 (0, []) := by
    intro n
    induction n with
    | zero => intro _; rfl
    | succ n ih =>
      intro h
      rw [run16_succ, ih (by omega), at16_oct big us n h, List.take_add_one, List.getD_eq_getElem?_getD, List.getElem?_eq_getElem h, List.foldl_append]
      rfl
  rw [key _ (Nat.le_refl _), List.take_length]
theorem dec16_units (big : Bool) {cs : List Int} (h : ∀ c ∈ cs, Scal c) : dec16 big (octOf big (unitsOf cs)) = cat (cs.map sgn) := by
  unfold dec16
  rw [oct_len, Nat.mul_div_cancel_left _ (by decide), run16_oct, fold_units h, if_neg (by simp)]
  rfl
theorem octs_nil (big : Bool) : octOf big [] = [] := by cases big <;> rfl
def mark16 (big : Bool) : List Int := if big then [254, 255] else [255, 254]
theorem unmark_on (big : Bool) (us : List Int) : unmark (mark16 big) (octOf big (65279 :: us)) = octOf big us := by
  rw [oct_cons]
  unfold unmark mark16
  cases big
  · simp only [Bool.false_eq_true, if_false]; exact if_pos rfl
  · simp only [if_true]; exact if_pos rfl
theorem unmark_off (big : Bool) {u : Int} {us : List Int} (h : u ≠ 65279) : unmark (mark16 big) (octOf big (u :: us)) = octOf big (u :: us) := by
  unfold unmark mark16
  rw [oct_cons]
  cases big
  · simp only [Bool.false_eq_true, if_false]
    refine if_neg fun e => ?_
    have e1 : [u % 256, u / 256] = [255, 254] := e
    simp only [List.cons.injEq, and_true] at e1
    omega
  · simp only [if_true]
    refine if_neg fun e => ?_
    have e1 : [u / 256, u % 256] = [254, 255] := e
    simp only [List.cons.injEq, and_true] at e1
    omega
end Mine
namespace Mine
theorem due_text {n : Int} (h : n = 0 ∨ n = 1 ∨ n = 2) : PySem.Txt.slice (PySem.Txt.mul (Str.ofString "\ufeff") n) (some 1) none = cat ((List.replicate (n.toNat - 1) (65279 : Int)).map sgn) := by
  rcases h with rfl | rfl | rfl <;> decide +kernel
theorem due_cat {n : Int} {ks cs : List Int} (h : n = 0 ∨ n = 1 ∨ n = 2) (e : dec8 ks = cat (cs.map sgn)) : dueOf n ks = cat ((List.replicate (n.toNat - 1) 65279 ++ cs).map sgn) := by
  unfold dueOf
  rw [due_text h, e, List.map_append, cat_append]
theorem dec16_due (big : Bool) {n : Int} {ks cs : List Int} {c : Int} {r : List Int} (h : n = 0 ∨ n = 1 ∨ n = 2) (e : dec8 ks = cat (cs.map sgn)) (hc : ∀ c ∈ cs, Scal c) (h1 : cs = c :: r) (h2 : c ≠ 65279) :
    dec16 big (unmark (mark16 big) (octOf big (marksOf n ++ unitsOf cs))) = dueOf n ks := by
  rw [due_cat h e]
  have hm : Scal 65279 := ⟨by decide, by decide, by decide⟩
  rcases h with rfl | rfl | rfl
  · have e1 : unmark (mark16 big) (octOf big (marksOf 0 ++ unitsOf cs)) = octOf big (unitsOf cs) := by
      show unmark (mark16 big) (octOf big ([] ++ unitsOf cs)) = _
      rw [List.nil_append, h1]
      have e2 : unitsOf (c :: r) = unitsAt c ++ unitsOf r := by unfold unitsOf; rw [List.flatMap_cons]
      rw [e2]
      obtain ⟨a0, a1, a2⟩ := hc c (h1 ▸ List.Mem.head _)
      unfold unitsAt
      split
      · exact unmark_off big h2
      · rw [fdiv1024]
        exact unmark_off big (by omega)
    rw [e1, dec16_units big hc]
    rfl
  · have e1 : unmark (mark16 big) (octOf big (marksOf 1 ++ unitsOf cs)) = octOf big (unitsOf cs) := unmark_on big _
    rw [e1, dec16_units big hc]
    rfl
  · have e1 : unmark (mark16 big) (octOf big (marksOf 2 ++ unitsOf cs)) = octOf big (unitsOf (65279 :: cs)) := unmark_on big (65279 :: unitsOf cs)
    rw [e1, dec16_units big (fun x hx => by
      rcases List.mem_cons.mp hx with rfl | hx
      · exact hm
      · exact hc x hx)]
    rfl
theorem unmark_run {a : Int} {r : List Int} : unmark [239, 187, 191] (a :: 127 :: r) = a :: 127 :: r := by
  unfold unmark
  refine if_neg fun e => ?_
  have e2 : (a :: 127 :: r).take 3 = [239, 187, 191] := e
  simp only [List.take_succ_cons, List.cons.injEq] at e2
  exact absurd e2.2.1 (by decide)
theorem unmark_bom (ks : List Int) : unmark [239, 187, 191] (239 :: 187 :: 191 :: ks) = ks := if_pos rfl
theorem sig8_bom (ks : List Int) : sig8 (239 :: 187 :: 191 :: ks) = sgn 65279 :: sig8 ks := by
  rw [sig8_cons, show lead 239 = (2, 15, 128, 191) by decide, if_neg (by decide), sigQ_in (by decide) (by decide) (by decide), if_neg (by decide), sigQ_in (by decide) (by decide) (by decide), if_pos (by decide)]
  rfl
theorem dec8_due {n : Int} {ks : List Int} {a : Int} {r : List Int} (h : n = 0 ∨ n = 1 ∨ n = 2) (e : ks = a :: 127 :: r) : dec8 (unmark [239, 187, 191] (bomsOf n ++ ks)) = dueOf n ks := by
  unfold dueOf
  rw [due_text h]
  rcases h with rfl | rfl | rfl
  · show dec8 (unmark [239, 187, 191] ks) = cat [] ++ dec8 ks
    rw [e, unmark_run, dec8_sig, ← cat_append]
    rfl
  · show dec8 (unmark [239, 187, 191] (239 :: 187 :: 191 :: ks)) = cat [] ++ dec8 ks
    rw [unmark_bom, dec8_sig, ← cat_append]
    rfl
  · show dec8 (unmark [239, 187, 191] (239 :: 187 :: 191 :: 239 :: 187 :: 191 :: ks)) = cat [sgn 65279] ++ dec8 ks
    rw [unmark_bom, dec8_sig, sig8_bom, dec8_sig, ← cat_append]
    rfl
theorem run8_ones_sig (ks : List Int) : Ones (sig8 ks) := by
  have h := run8_ones ks
  unfold sig8 sigQ
  unfold run8 at h
  dsimp only
  split
  · exact ones_snoc h fffd_one
  · exact h
theorem read_ok {marks : Int} {ks : List Int} (h : RunFin ks) (h0 : 0 ≤ marks) (h1 : marks ≤ 2) : ReadOk marks ks := by
  obtain ⟨ho, hlen, a, r, e⟩ := h
  have hm : marks = 0 ∨ marks = 1 ∨ marks = 2 := by omega
  obtain ⟨cs, g1, g2, g3⟩ := sig_scal ho ks.length 0 (by omega)
  rw [List.drop_zero] at g1
  have gd : dec8 ks = cat (cs.map sgn) := by rw [dec8_sig, g1]
  have hco : KStt.codes (dec8 ks) = cs := by rw [gd]; exact codes_cat g2
  obtain ⟨c, xs, f1, f2⟩ := first_code e
  obtain ⟨c1, cr, e1, e2⟩ : ∃ c1 cr, cs = c1 :: cr ∧ c1 ≠ 65279 := by
    rw [g1] at f1
    cases cs with
    | nil => exact absurd f1 (by simp)
    | cons c1 cr =>
      refine ⟨c1, cr, rfl, fun ec => ?_⟩
      rw [List.map_cons] at f1
      have f3 := (List.cons.inj f1).1
      unfold sgn at f3
      have f4 : c1.toNat = c.toNat := by
        have f5 := Str.mk.inj f3
        simpa using f5
      omega
  have hmk : ∀ u ∈ marksOf marks, u = 65279 := by
    rcases hm with rfl | rfl | rfl <;> decide
  have hml : (marksOf marks).length ≤ 2 := by
    rcases hm with rfl | rfl | rfl <;> decide
  have hbl : (bomsOf marks).length ≤ 6 := by
    rcases hm with rfl | rfl | rfl <;> decide
  have hbm : ∀ u ∈ bomsOf marks, 0 ≤ u ∧ u < 256 := by
    rcases hm with rfl | rfl | rfl <;> decide
  have hul := units_len cs
  have hun : ∀ u ∈ marksOf marks ++ unitsOf cs, 0 ≤ u ∧ u < 65536 := by
    intro u hu
    rcases List.mem_append.mp hu with hu | hu
    · rw [hmk u hu]; decide
    · exact units_in g2 u hu
  have hlu : (marksOf marks ++ unitsOf cs).length ≤ 100 := by rw [List.length_append]; omega
  constructor
  · rw [gd, cat_length (by rw [← g1]; exact run8_ones_sig ks), List.length_map]; omega
  · intro x hx
    rcases List.mem_append.mp hx with hx | hx
    · exact hbm x hx
    · exact ho x hx
  · rw [List.length_append]; omega
  · rw [decOf_8]; exact dec8_due hm e
  · rw [hco]; intro x hx; have := g2 x hx; unfold Scal at this; omega
  · rw [hco]; exact hun
  · rw [hco]; exact hlu
  · rw [hco]; exact be_in hun
  · rw [hco]; exact le_in hun
  · rw [hco, be_len]; omega
  · rw [hco, le_len]; omega
  · rw [hco, decOf_be]; exact dec16_due true hm gd g2 e1 e2
  · rw [hco, decOf_le]; exact dec16_due false hm gd g2 e1 e2
theorem cut_ok {ks : List Int} (h : RunFin ks) (j : Nat) : decOf (Str.ofString "UTF-8") (ks.take j) = dec8 (ks.take j) := by
  obtain ⟨_, _, a, r, rfl⟩ := h
  rw [decOf_8]
  match j with
  | 0 => rfl
  | 1 => 
    congr 1
    unfold unmark
    refine if_neg fun e => ?_
    have e2 := congrArg List.length e
    simp at e2
  | j + 2 => rw [List.take_succ_cons, List.take_succ_cons, unmark_run]
end Mine
namespace Mine

theorem sp_call {w : World} {mean : ExcName → Option Value} {mg mb : Str → Option Value} {f : Addr} {d : Nat} {vs : List Value} {news : Led} {Ret : Value → Led → Prop}
    {dp un : Nat} {gd : Option (List Code)} {cn : Str} {cs : Scope} {a : Addr} {ccd : Value} {cl : List (Str × Addr)} {outer : List Env} {A₀ : Around} {base h₀ : Heap} {L : Addr} {m : Str → Option Value} {s : Shared} {Q E : Value → Shared → Prop}
    (B : Below A₀ base outer h₀) (F : Fr h₀ L s.heap m) (X : (Mine.hd.heap_39 w.params).In h₀) (N : News h₀ L s.heap news) (T : Top Mine.hd.view_39 (looseW Mine.hd.view_39 []) mean mg mb h₀) (hk : cs.kind = .function) (hd : dp + d < recursionLimit) (hu : un + 8 * d < cLine)
    (C : Sp w mean mg mb f d vs news Ret)
    (ret : ∀ (r : Value) (tl : Led) (h' : Heap) (tk' : Nat), Ret r tl → (∀ p ∈ tl, ∀ q ∈ news, q.1 < p.1) → Fr h₀ L h' m → News h₀ L h' (tl ++ news) → Q r { s with heap := h', toks := tk' }) :
    wpAny (model PySem.Challenge.rw_nt0590_01.row.prog w) (ktrTop dp un gd cn cs L a ccd cl outer) (call (.ref f) vs) Q E s :=
  C _ _ _ _ _ _ _ _ _ _ _ _ _ _ _ _ _ B F X N T hk hd hu fun r tl h' tk' F' N' ho hr => ret r tl h' tk' hr ho F' N'
theorem sp_call0 {w : World} {mean : ExcName → Option Value} {mg mb : Str → Option Value} {f : Addr} {d : Nat} {vs : List Value} {news : Led} {Ret : Value → Led → Prop}
    {dp un : Nat} {gd : Option (List Code)} {cn : Str} {cs : Scope} {a : Addr} {ccd : Value} {cl : List (Str × Addr)} {outer : List Env} {A₀ : Around} {base h₀ : Heap} {L : Addr} {m : Str → Option Value} {s : Shared} {Q E : Value → Shared → Prop}
    (B : Below A₀ base outer h₀) (F : Fr h₀ L s.heap m) (X : (Mine.hd.heap_39 w.params).In h₀) (N : News h₀ L s.heap news) (T : Top Mine.hd.view_39 (looseW Mine.hd.view_39 []) mean mg mb h₀) (hk : cs.kind = .function) (hd : dp + d < recursionLimit) (hu : un + 8 * d < cLine)
    (C : Sp w mean mg mb f d vs news Ret)
    (ret : ∀ (r : Value) (tl : Led) (h' : Heap) (tk' : Nat), Ret r tl → Fr h₀ L h' m → News h₀ L h' news → Q r { s with heap := h', toks := tk' }) :
    wpAny (model PySem.Challenge.rw_nt0590_01.row.prog w) (ktrTop dp un gd cn cs L a ccd cl outer) (call (.ref f) vs) Q E s :=
  sp_call B F X N T hk hd hu C fun r tl h' tk' R _ F' N' => ret r tl h' tk' R F' (kst_newsOf N' fun _ hp => List.mem_append_right _ hp)

def leadRet (o : Int) (r : Value) (tl : Led) : Prop :=
  ∃ a t1 t2 t3 t4 x1 x2 x3 x4, lead o = (x1, x2, x3, x4) ∧ Ok8 (x1, x2, x3, x4) ∧ r = .ref a ∧ tl = [(a, { cls := .type "tuple", data := .seq #[.int x1 t1, .int x2 t2, .int x3 t3, .int x4 t4] })]

theorem lead_ret {o : Int} (h0 : 0 ≤ o) (h1 : o < 256) {a : Addr} {t1 t2 t3 t4 : Tok} {x1 x2 x3 x4 : Int} (e : lead o = (x1, x2, x3, x4)) :
    leadRet o (.ref a) [(a, { cls := .type "tuple", data := .seq #[.int x1 t1, .int x2 t2, .int x3 t3, .int x4 t4] })] :=
  ⟨_, _, _, _, _, _, _, _, _, e, e ▸ lead_ok h0 h1, rfl, rfl⟩

theorem lead_of_sp (w mean mg mb) (octet : Int) (t : Tok) (news : Led) (h0 : 0 ≤ octet) (h1 : octet < 256) :
    Sp w mean mg mb 60 1 [.int octet t] news (leadRet octet) := by
  w_on
  unfold Sp
  k_fill
  intro dp un gd cn cs a ccd cl outer A₀ base h₀ L m s Q E B F X N T hk hd hu hret
  refine wpAny_call ?_
  k_dflt cell_enter
  w_strict k_steps
  all_goals (refine hret _ [_] _ _ (by assumption) (by assumption) ?_ (lead_ret h0 h1 ?_))
  all_goals first
    | (intro p hp q hq; rw [List.mem_singleton.mp hp]; exact (by assumption : ∀ p ∈ news, p.1 < _) q hq)
    | ((try simp only [bitAnd_m3, bitAnd_m4, bitAnd_m5]); unfold lead; (repeat' split) <;> first | rfl | (exfalso; omega))
end Mine
namespace Mine
local macro_rules | `(tactic| walk_at $s:str) => `(tactic| k_extra $s)


theorem decode_utf8_sp (w mean mg mb) (b : Array UInt8) (t : Tok) (news : Led) (hb : b.size ≤ 1000) :
    Sp w mean mg mb 67 2 [.bytes b t] news (fun r tl => ∃ t, r = .str (dec8 (KBw.bInts b)) t) := by
  k_with_none
  k_with "binaryOp BitOr int int" => (k_here; (with_reducible refine or_int ?_); simp only [bits_join])
  k_with "call builtin:list.append" => (k_here; (show wpAny _ _ (call (Value.builtin "list.append") [Value.ref _, _]) _ _ _); k_dflt (refine app1 (by k_asm) (by k_asm) (by k_upd) (by ((try simp only [List.length_append, List.length_cons, List.length_nil]); omega)) ?_); intro h' F' N'; (try k_sweep))
  k_with "call builtin:str.join" => (k_here; (show wpAny _ _ (call (Value.builtin "str.join") [Value.str _ _, Value.ref _]) _ _ _); (rename News _ _ _ _ => nE'); (try dsimp only at nE'); (try simp only [List.push_toArray] at nE'); k_dflt (refine join_listW (by is_list) (by first | assumption | exact StrsAre.append' (by assumption) (.cons _ _ .nil)) (by decide +kernel) (ones_room (n := 2500) (by first | assumption | exact ones_snoc (by assumption) rfl) (by (try simp only [List.length_append, List.length_cons, List.length_nil]); omega) (by decide)) ?_); intro _ _)
  k_with "call ref" => (k_here; (show wpAny _ _ (call (Value.ref 60) [Value.int _ _]) _ _ _); k_dflt (refine sp_call (by k_asm) (by k_asm) (by k_asm) (by k_asm) (by k_asm) (by first | exact rfl | assumption) (by ktr_room) (by ktr_units) (lead_of_sp _ _ _ _ _ _ _ (by l_fact) (by l_fact)) ?_); intro r9 tl9 h9 tk9 R9 O9 F9 N9; (obtain ⟨a9, t91, t92, t93, t94, x1, x2, x3, x4, e9, g9, er9, et9⟩ := R9); (subst er9); (subst et9); (have l9 := allLt_of (O9 _ (List.Mem.head _))); (dsimp only at l9); (simp only [AllLt, and_true] at l9); (clear O9); (unfold Ok8 at g9); (dsimp only at g9); (simp only [List.cons_append, List.nil_append] at N9); (try dsimp only); (try k_fold))
  k_with "InvEndN" => (k_here; k_dflt ((rename News _ _ _ _ => nE'); (try dsimp only at nE'); (try simp only [List.push_toArray] at nE'); (refine kst_end ⟨_, _, _, _, _, _, _, _, _, _, _⟩ (by assumption) nE' (by (dsimp only; refine List.forall_mem_cons.mpr ⟨by k_mem, List.forall_mem_cons.mpr ⟨by k_mem, ?_⟩⟩; intro p hp; kst_mem)) (by intro p hp; kst_mem) (by rfl) (by first | assumption | exact StrsAre.append' (by assumption) (.cons _ _ .nil) | exact StrsAre.append' (StrsAre.append' (by assumption) (.cons _ _ .nil)) (.cons _ _ .nil)) (by kst_all) (by kst_same) ?_); (try dsimp only)))
  w_on
  unfold Sp
  k_fill
  intro dp un gd cn cs a ccd cl outer A₀ base h₀ L m s Q E B F X N T hk hd hu hret
  refine wpAny_call ?_
  k_dflt cell_enter
  iterate 37 (first | (k_unfold; (try dsimp only)) | walk1 | (dsimp only; walk1))
  rename Fr _ _ _ _ => F1
  rename News _ _ _ _ => N1
  rename_i l' _ l1 _ D' _ l2 _ _ _ _ _
  dsimp only at F1 N1
  refine KStb.kst_bytes (σ := List Value × List Str × Nat × Int × Nat × Int × Nat × Int × Nat × Int × Nat) (fun c => (D', _) :: (l', listOf c.1.toArray c.2.2.1) :: news)
     (fun c => [(Str.ofString "needed", .int c.2.2.2.1 c.2.2.2.2.1), (Str.ofString "code", .int c.2.2.2.2.2.1 c.2.2.2.2.2.2.1), (Str.ofString "low", .int c.2.2.2.2.2.2.2.1 c.2.2.2.2.2.2.2.2.1), (Str.ofString "high", .int c.2.2.2.2.2.2.2.2.2.1 c.2.2.2.2.2.2.2.2.2.2)])
     (fun c => StrsAre c.1 c.2.1) [Str.ofString "needed", Str.ofString "code", Str.ofString "low", Str.ofString "high"]
     (fun pre c => run8 pre = ((c.2.2.2.1, c.2.2.2.2.2.1, c.2.2.2.2.2.2.2.1, c.2.2.2.2.2.2.2.2.2.1), c.2.1) ∧ Ok8 (c.2.2.2.1, c.2.2.2.2.2.1, c.2.2.2.2.2.2.2.1, c.2.2.2.2.2.2.2.2.2.1) ∧ c.2.1.length ≤ 2 * pre.length) ([], [], 0, 0, tk+1, 0, tk+1+1, 128, tk+1+1+1, 191, tk+1+1+1+1) rfl (by rfl) rfl F1 N1 StrsAre.nil ?_ ?_ ?_ ?_
  · intro p hp
    revert p hp
    kst_all
  · exact ⟨rfl, by unfold Ok8; simp, Nat.le_refl _⟩
  · clear F1 N1
    rintro ⟨vs, xs, nn, needed, t1, code, t2, low, t3, high, t4⟩ pre post o t5 u h tk5 own hks hlen ho0 ho1 hoff hf hp F2 N2
    have kmk := kstMark
    dsimp only [kstB, envOf] at F2 N2 hf hp
    simp only [List.cons_append] at N2
    simp only [List.map_cons] at hoff
    obtain ⟨hp1, hp2, hp3⟩ := hp
    have hq := hp2
    unfold Ok8 at hq
    dsimp only at hq
    have hvl := hf.length
    have hlen2 : pre.length < 1000 := by rw [KBw.ints_length] at hlen; omega
    try k_fold
    k_steps
    all_goals (repeat' (with_reducible refine And.intro ?_ ?_))
    all_goals first
      | (simp only [List.length_append, List.length_cons, List.length_nil]; omega)
      | (rw [run8_snoc, hp1]; unfold step8 emit8; dsimp only; (try rw [(‹lead o = _› : lead o = _)]); (try dsimp only); (repeat' split) <;> first | rfl | (exfalso; omega))
      | (unfold Ok8; dsimp only; omega)
  · clear F1 N1
    rintro ⟨vs, xs, nn, needed, t1, code, t2, low, t3, high, t4⟩ u h tk5 hks hf hp F2 N2
    have kmk := kstMark
    dsimp only [kstB, envOf] at F2 N2 hf hp
    obtain ⟨hp1, hp2, hp3⟩ := hp
    have hones : Ones xs := by have h := run8_ones (KBw.bInts b); rw [hp1] at h; exact h
    have hvl := hf.length
    have hlen2 : (KBw.bInts b).length ≤ 1000 := by rw [KBw.ints_length]; omega
    try k_fold
    k_steps
    all_goals (refine hret _ [] _ _ (by assumption) (by first | assumption | (refine kst_newsOf ‹News _ _ _ _› ?_; kst_in)) (fun _ h => nomatch h) ⟨_, dec8_eq hp1 (by first | exact (if_pos (by assumption)).symm | exact (if_neg (by assumption)).symm)⟩)
end Mine
namespace Mine
local macro_rules | `(tactic| walk_at $s:str) => `(tactic| k_extra $s)

theorem decode_utf16_sp (w mean mg mb) (b : Array UInt8) (t : Tok) (big : Bool) (news : Led) (hb : b.size ≤ 1000) :
    Sp w mean mg mb 74 2 [.bytes b t, .bool big] news (fun r tl => ∃ t, r = .str (dec16 big (KBw.bInts b)) t) := by
  k_with_none
  k_with "binaryOp BitOr int int" => (k_here; (with_reducible refine or_int ?_); simp only [bits_join])
  k_with "call builtin:list.append" => (k_here; (show wpAny _ _ (call (Value.builtin "list.append") [Value.ref _, _]) _ _ _); k_dflt (refine app1 (by k_asm) (by k_asm) (by k_upd) (by ((try simp only [List.length_append, List.length_cons, List.length_nil]); omega)) ?_); intro h' F' N'; (try k_sweep))
  k_with "call builtin:str.join" => (k_here; (show wpAny _ _ (call (Value.builtin "str.join") [Value.str _ _, Value.ref _]) _ _ _); (rename News _ _ _ _ => nE'); (try dsimp only at nE'); (try simp only [List.push_toArray] at nE'); k_dflt (refine join_listW (by is_list) (by first | assumption | exact StrsAre.append' (by assumption) (.cons _ _ .nil)) (by decide +kernel) (ones_room (n := 2500) (by first | assumption | exact ones_snoc (by assumption) rfl) (by (try simp only [List.length_append, List.length_cons, List.length_nil]); omega) (by decide)) ?_); intro _ _)
  k_with "subscriptTail" => (k_here; (with_reducible show wpAny _ _ (subscriptTail _ _ (Value.bytes _ _) (Value.int _ _)) _ _ _); k_dflt (refine byte_at (by omega) (by omega) (by omega) (by with_unfolding_all rfl) (by intro _; with_unfolding_all rfl) ?_); intro l9 u9; (simp only [idx_two, idx_two1] at l9 u9 ⊢))
  k_with "binaryOp LShift int int" => (k_here; k_dflt (refine lshift_int_small (by decide) (by decide) (by omega) ?_); (simp only [pow6, pow8, pow10]))
  k_with "InvEndN" => (k_here; k_dflt ((rename News _ _ _ _ => nE'); (try dsimp only at nE'); (try simp only [List.push_toArray] at nE'); (refine kst_end ⟨_, _, _, _, _⟩ (by assumption) nE' (by (dsimp only; refine List.forall_mem_cons.mpr ⟨by k_mem, ?_⟩; intro p hp; kst_mem)) (by intro p hp; kst_mem) (by rfl) (by first | assumption | exact StrsAre.append' (by assumption) (.cons _ _ .nil) | exact StrsAre.append' (StrsAre.append' (by assumption) (.cons _ _ .nil)) (.cons _ _ .nil)) (by kst_all) (by kst_same) ?_); (try dsimp only); (rw [List.length_replicate])))
  w_on
  unfold Sp
  k_fill
  intro dp un gd cn cs a ccd cl outer A₀ base h₀ L m s Q E B F X N T hk hd hu hret
  refine wpAny_call ?_
  k_dflt cell_enter
  iterate 33 (first | (k_unfold; (try dsimp only)) | walk1 | (dsimp only; walk1))
  rename Fr _ _ _ _ => F1
  rename News _ _ _ _ => N1
  rename IsRange _ _ _ _ _ _ _ _ => R1
  dsimp only at F1 N1
  refine rng_loop (σ := List Value × List Str × Nat × Int × Nat) (fun c => (_, listOf c.1.toArray c.2.2.1) :: news)
     (fun c => [(Str.ofString "lead", .int c.2.2.2.1 c.2.2.2.2)])
     (fun c => StrsAre c.1 c.2.1) [Str.ofString "lead", Str.ofString "unit", Str.ofString "is_trail"]
     (fun i c => run16 big (KBw.bInts b) i = (c.2.2.2.1, c.2.1) ∧ (0 ≤ c.2.2.2.1 ∧ (0 < c.2.2.2.1 → 55296 ≤ c.2.2.2.1 ∧ c.2.2.2.1 ≤ 56319)) ∧ c.2.1.length ≤ 2 * i) ([], [], 0, 0, tk + 1) rfl R1 (small16 hb) (size16 _) F1 N1 StrsAre.nil ?_ ?_ ?_ ?_
  · intro p hp
    revert p hp
    kst_all
  · exact ⟨rfl, ⟨Int.le_refl _, fun h => absurd h (Int.lt_irrefl _)⟩, Nat.le_refl _⟩
  · clear F1 N1
    rintro ⟨vs, xs, nn, lead, t1⟩ i t5 u h tk5 own hi hoff hf hp F2 N2
    have kmk := kstMark
    dsimp only [kstB, envOf] at F2 N2 hf hp
    simp only [List.cons_append] at N2
    simp only [List.map_cons] at hoff
    obtain ⟨hp1, hp2, hp3⟩ := hp
    have hvl := hf.length
    have hbl := KBw.ints_length b
    try k_fold
    k_steps
    all_goals (repeat' (with_reducible refine And.intro ?_ ?_))
    all_goals first
      | (simp only [List.length_append, List.length_cons, List.length_nil]; omega)
      | omega
      | (rw [run16_succ, hp1]; (first | rw [show at16 big (KBw.bInts b) i = _ from if_pos (by assumption)] | rw [show at16 big (KBw.bInts b) i = _ from if_neg (by simp_all)]); unfold step16; dsimp only; (repeat' split) <;> first | rfl | (exfalso; omega) | (refine Prod.ext ?_ rfl; dsimp only; omega))
  · clear F1 N1
    rintro ⟨vs, xs, nn, lead, t1⟩ u h tk5 hf hp F2 N2
    have kmk := kstMark
    dsimp only [kstB, envOf] at F2 N2 hf hp
    obtain ⟨hp1, hp2, hp3⟩ := hp
    have hones : Ones xs := by have h := run16_ones big (KBw.bInts b) (b.size / 2); rw [hp1] at h; exact h
    have hvl := hf.length
    have hbl := KBw.ints_length b
    try k_fold
    k_steps
    all_goals (rw [← hbl] at hp1)
    all_goals (refine hret _ [] _ _ (by assumption) (by first | assumption | (refine kst_newsOf ‹News _ _ _ _› ?_; kst_in)) (fun _ h => nomatch h) ⟨_, dec16_eq hp1 (by first | exact (if_pos (Or.inl (by assumption))).symm | exact (if_pos (Or.inr (odd16 hbl (by assumption)))).symm | exact (if_neg (even16 hbl (by assumption) (by assumption))).symm)⟩)
end Mine
namespace Mine
local macro_rules | `(tactic| walk_at $s:str) => `(tactic| k_extra $s)

def strRet (x : Str) (r : Value) (_ : Led) : Prop := ∃ t, r = .str x t
theorem strRet_of {x y : Str} {t : Tok} {tl : Led} (h : x = y) : strRet y (.str x t) tl := ⟨t, h ▸ rfl⟩

theorem decode_8_sp (w mean mg mb) (b : Array UInt8) (t t2 : Tok) (news : Led) (hb : b.size ≤ 1000) :
    Sp w mean mg mb 86 3 [.bytes b t, .str (Str.ofString "UTF-8") t2] news (strRet (dec8 (unmark [239, 187, 191] (KBw.bInts b)))) := by
  k_with_none
  k_with "call ref" => (k_here; (show wpAny _ _ (call (Value.ref 67) [Value.bytes _ _]) _ _ _); k_dflt (refine sp_call (by k_asm) (by k_asm) (by k_asm) (by k_asm) (by k_asm) (by first | exact rfl | assumption) (by ktr_room) (by ktr_units) (decode_utf8_sp _ _ _ _ _ _ _ (by first | assumption | exact Nat.le_trans (KBc.size_picked_le _ _ _) (by assumption))) ?_); intro r9 tl9 h9 tk9 R9 O9 F9 N9; (obtain ⟨t91, er9⟩ := R9); (subst er9); (try dsimp only); (try k_fold))
  k_with "call ref" => (k_here; (show wpAny _ _ (call (Value.ref 74) [Value.bytes _ _, Value.bool _]) _ _ _); k_dflt (refine sp_call (by k_asm) (by k_asm) (by k_asm) (by k_asm) (by k_asm) (by first | exact rfl | assumption) (by ktr_room) (by ktr_units) (decode_utf16_sp _ _ _ _ _ _ _ _ (by first | assumption | exact Nat.le_trans (KBc.size_picked_le _ _ _) (by assumption))) ?_); intro r9 tl9 h9 tk9 R9 O9 F9 N9; (obtain ⟨t91, er9⟩ := R9); (subst er9); (try dsimp only); (try k_fold))
  w_on
  unfold Sp
  k_fill
  intro dp un gd cn cs a ccd cl outer A₀ base h₀ L m s Q E B F X N T hk hd hu hret
  obtain ⟨ks, hks⟩ : ∃ ks, KBw.bInts b = ks := ⟨_, rfl⟩
  have hkl : ks.length ≤ 1000 := by rw [← hks, KBw.ints_length]; exact hb
  refine wpAny_call ?_
  k_dflt cell_enter
  k_steps
  all_goals (refine hret _ _ _ _ (by assumption) (by assumption) (by assumption) (strRet_of (congrArg dec8 ?_)); rw [hks])
  · exact unmark_yes (l := [239, 187, 191]) (b1 := KBy.picked b (some 0) (some 3)) (KBc.clip_lit ks.length 0 |>.trans (Nat.zero_min _)) (KBc.clip_lit ks.length 3) (by assumption) (by assumption) (by assumption)
  · exact unmark_no (l := [239, 187, 191]) (b1 := KBy.picked b (some 0) (some 3)) (KBc.clip_lit ks.length 0 |>.trans (Nat.zero_min _)) (KBc.clip_lit ks.length 3) (by assumption) (by assumption)

theorem decode_be_sp (w mean mg mb) (b : Array UInt8) (t t2 : Tok) (news : Led) (hb : b.size ≤ 1000) :
    Sp w mean mg mb 86 3 [.bytes b t, .str (Str.ofString "UTF-16BE") t2] news (strRet (dec16 true (unmark [254, 255] (KBw.bInts b)))) := by
  k_with_none
  k_with "call ref" => (k_here; (show wpAny _ _ (call (Value.ref 67) [Value.bytes _ _]) _ _ _); k_dflt (refine sp_call (by k_asm) (by k_asm) (by k_asm) (by k_asm) (by k_asm) (by first | exact rfl | assumption) (by ktr_room) (by ktr_units) (decode_utf8_sp _ _ _ _ _ _ _ (by first | assumption | exact Nat.le_trans (KBc.size_picked_le _ _ _) (by assumption))) ?_); intro r9 tl9 h9 tk9 R9 O9 F9 N9; (obtain ⟨t91, er9⟩ := R9); (subst er9); (try dsimp only); (try k_fold))
  k_with "call ref" => (k_here; (show wpAny _ _ (call (Value.ref 74) [Value.bytes _ _, Value.bool _]) _ _ _); k_dflt (refine sp_call (by k_asm) (by k_asm) (by k_asm) (by k_asm) (by k_asm) (by first | exact rfl | assumption) (by ktr_room) (by ktr_units) (decode_utf16_sp _ _ _ _ _ _ _ _ (by first | assumption | exact Nat.le_trans (KBc.size_picked_le _ _ _) (by assumption))) ?_); intro r9 tl9 h9 tk9 R9 O9 F9 N9; (obtain ⟨t91, er9⟩ := R9); (subst er9); (try dsimp only); (try k_fold))
  w_on
  unfold Sp
  k_fill
  intro dp un gd cn cs a ccd cl outer A₀ base h₀ L m s Q E B F X N T hk hd hu hret
  obtain ⟨ks, hks⟩ : ∃ ks, KBw.bInts b = ks := ⟨_, rfl⟩
  have hkl : ks.length ≤ 1000 := by rw [← hks, KBw.ints_length]; exact hb
  refine wpAny_call ?_
  k_dflt cell_enter
  k_steps
  all_goals (refine hret _ _ _ _ (by assumption) (by assumption) (by assumption) (strRet_of (congrArg (dec16 true) ?_)); rw [hks])
  · exact unmark_yes (l := [254, 255]) (b1 := KBy.picked b (some 0) (some 2)) (KBc.clip_lit ks.length 0 |>.trans (Nat.zero_min _)) (KBc.clip_lit ks.length 2) (by assumption) (by assumption) (by assumption)
  · exact unmark_no (l := [254, 255]) (b1 := KBy.picked b (some 0) (some 2)) (KBc.clip_lit ks.length 0 |>.trans (Nat.zero_min _)) (KBc.clip_lit ks.length 2) (by assumption) (by assumption)

theorem decode_le_sp (w mean mg mb) (b : Array UInt8) (t t2 : Tok) (news : Led) (hb : b.size ≤ 1000) :
    Sp w mean mg mb 86 3 [.bytes b t, .str (Str.ofString "UTF-16LE") t2] news (strRet (dec16 false (unmark [255, 254] (KBw.bInts b)))) := by
  k_with_none
  k_with "call ref" => (k_here; (show wpAny _ _ (call (Value.ref 67) [Value.bytes _ _]) _ _ _); k_dflt (refine sp_call (by k_asm) (by k_asm) (by k_asm) (by k_asm) (by k_asm) (by first | exact rfl | assumption) (by ktr_room) (by ktr_units) (decode_utf8_sp _ _ _ _ _ _ _ (by first | assumption | exact Nat.le_trans (KBc.size_picked_le _ _ _) (by assumption))) ?_); intro r9 tl9 h9 tk9 R9 O9 F9 N9; (obtain ⟨t91, er9⟩ := R9); (subst er9); (try dsimp only); (try k_fold))
  k_with "call ref" => (k_here; (show wpAny _ _ (call (Value.ref 74) [Value.bytes _ _, Value.bool _]) _ _ _); k_dflt (refine sp_call (by k_asm) (by k_asm) (by k_asm) (by k_asm) (by k_asm) (by first | exact rfl | assumption) (by ktr_room) (by ktr_units) (decode_utf16_sp _ _ _ _ _ _ _ _ (by first | assumption | exact Nat.le_trans (KBc.size_picked_le _ _ _) (by assumption))) ?_); intro r9 tl9 h9 tk9 R9 O9 F9 N9; (obtain ⟨t91, er9⟩ := R9); (subst er9); (try dsimp only); (try k_fold))
  w_on
  unfold Sp
  k_fill
  intro dp un gd cn cs a ccd cl outer A₀ base h₀ L m s Q E B F X N T hk hd hu hret
  obtain ⟨ks, hks⟩ : ∃ ks, KBw.bInts b = ks := ⟨_, rfl⟩
  have hkl : ks.length ≤ 1000 := by rw [← hks, KBw.ints_length]; exact hb
  refine wpAny_call ?_
  k_dflt cell_enter
  k_steps
  all_goals (refine hret _ _ _ _ (by assumption) (by assumption) (by assumption) (strRet_of (congrArg (dec16 false) ?_)); rw [hks])
  · exact unmark_yes (l := [255, 254]) (b1 := KBy.picked b (some 0) (some 2)) (KBc.clip_lit ks.length 0 |>.trans (Nat.zero_min _)) (KBc.clip_lit ks.length 2) (by assumption) (by assumption) (by assumption)
  · exact unmark_no (l := [255, 254]) (b1 := KBy.picked b (some 0) (some 2)) (KBc.clip_lit ks.length 0 |>.trans (Nat.zero_min _)) (KBc.clip_lit ks.length 2) (by assumption) (by assumption)
end Mine
namespace Mine
local macro_rules | `(tactic| walk_at $s:str) => `(tactic| k_extra $s)
inductive KInts : List Kn → List Int → Prop
  | nil : KInts [] []
  | cons {n Rs ns} : KInts Rs ns → KInts (KInt n :: Rs) (n :: ns)
theorem all2_intsR {led : Led} {Rs : List Kn} {ns : List Int} (k : KInts Rs ns) : ∀ {vs : List Value}, All2 led Rs vs → IntsAre vs ns := by
  induction k with
  | nil => rintro vs ⟨⟩; exact .nil
  | cons _ ih => rintro vs (_ | ⟨⟨t, rfl⟩, h⟩); exact .cons _ _ (ih h)
/-- a written list of ints that lie in a range -/
def Octs (led : Led) (v : Value) (lo hi : Nat) : Prop := ∃ l ws ms, v = .ref l ∧ (l, listOf (List.toArray ws) 0) ∈ led ∧ IntsAre ws ms ∧ (∀ x ∈ ms, 0 ≤ x ∧ x < 256) ∧ lo ≤ ws.length ∧ ws.length ≤ hi
theorem octs_of {led led' : Led} {v : Value} {Rs : List Kn} {ns : List Int} {lo hi : Nat} (h : KList Rs led v) (k : KInts Rs ns) (hs : ∀ p ∈ led, p ∈ led') (hx : ∀ x ∈ ns, 0 ≤ x ∧ x < 256) (h1 : lo ≤ Rs.length) (h2 : Rs.length ≤ hi) : Octs led' v lo hi := by
  obtain ⟨a, vs, rfl, hm, h3⟩ := h
  exact ⟨a, vs, ns, rfl, hs _ hm, all2_intsR k h3, hx, by rw [all2_length h3]; exact h1, by rw [all2_length h3]; exact h2⟩
inductive KOcts (lo hi : Nat) : List Kn → Prop
  | nil : KOcts lo hi []
  | cons {Rs Rs' ns} : KInts Rs ns → (∀ x ∈ ns, 0 ≤ x ∧ x < 256) → lo ≤ Rs.length → Rs.length ≤ hi → KOcts lo hi Rs' → KOcts lo hi (KList Rs :: Rs')
theorem octs_all {led led' : Led} {lo hi : Nat} {Rs : List Kn} (k : KOcts lo hi Rs) (hs : ∀ p ∈ led, p ∈ led') : ∀ {vs : List Value}, All2 led Rs vs → ∀ v ∈ vs, Octs led' v lo hi := by
  induction k with
  | nil => rintro vs ⟨⟩ v hv; exact nomatch hv
  | cons k1 h1 h2 h3 _ ih =>
    rintro vs (_ | ⟨hr, h⟩) v hv
    rcases List.mem_cons.mp hv with rfl | hv
    · exact octs_of hr k1 hs h1 h2 h3
    · exact ih h v hv
abbrev first12 : List Kn := [KList [KInt 237, KInt 244, KInt 224, KInt 240], KList [KInt 194, KInt 223, KInt 225, KInt 236, KInt 238, KInt 239, KInt 241, KInt 243]]
abbrev first3 : List Kn := [KList [KInt 192, KInt 193, KInt 245, KInt 255, KInt 128, KInt 191, KInt 0, KInt 127]]
abbrev tails6 : List Kn := [KList [KInt 128, KInt 191], KList [KInt 191, KInt 128], KList [KInt 128, KInt 192], KList [KInt 192], KList [KInt 191, KInt 127], KList [KInt 128]]
theorem run_hide {h₀ h : Heap} {L : Addr} {eo es et e2 e3 : Addr × Obj} {af : Addr} {news tl3 tl2 tl1 tl0 : Led} {vs3 vs2 vs1 : List Value} {k : Int} {G : Prop}
    (N : News h₀ L h (eo :: es :: et :: (af, listOf (List.toArray (vs3 ++ vs2)) 0) :: e2 :: e3 :: (news ++ (tl3 ++ (tl2 ++ (tl1 ++ tl0)))))) (h1 : All2 tl3 first12 vs3) (h2 : All2 tl2 first3 vs2) (h3 : All2 tl1 tails6 vs1) (hk : k = 0 ∨ k = 1 ∨ k = 2)
    (go : ∀ led l ws ms, News h₀ L h (eo :: es :: et :: (af, listOf (List.toArray (vs3 ++ vs2)) 0) :: (l, listOf (List.toArray ws) 0) :: led) → (∀ p ∈ news, p ∈ led) → (vs3 ++ vs2)[k.toNat]? = some (.ref l) → IntsAre ws ms → (∀ x ∈ ms, 0 ≤ x ∧ x < 256) → 4 ≤ ws.length → ws.length ≤ 8 → (∀ v ∈ vs1, Octs led v 0 2) → vs1.length = 6 → G) : G := by
  have hf : ∃ l ws ms, (vs3 ++ vs2)[k.toNat]? = some (.ref l) ∧ (l, listOf (List.toArray ws) 0) ∈ tl3 ++ tl2 ∧ IntsAre ws ms ∧ (∀ x ∈ ms, 0 ≤ x ∧ x < 256) ∧ 4 ≤ ws.length ∧ ws.length ≤ 8 := by
    obtain _ | ⟨a1, _ | ⟨a2, ⟨⟩⟩⟩ := h1
    obtain _ | ⟨a3, ⟨⟩⟩ := h2
    rcases hk with rfl | rfl | rfl
    · obtain ⟨l, ws, ms, rfl, q⟩ := octs_of (lo := 4) (hi := 8) a1 (by (repeat' (first | exact KInts.nil | apply KInts.cons))) (fun _ hp => List.mem_append_left tl2 hp) (by decide) (by decide) (by decide)
      exact ⟨l, ws, ms, rfl, q⟩
    · obtain ⟨l, ws, ms, rfl, q⟩ := octs_of (lo := 4) (hi := 8) a2 (by (repeat' (first | exact KInts.nil | apply KInts.cons))) (fun _ hp => List.mem_append_left tl2 hp) (by decide) (by decide) (by decide)
      exact ⟨l, ws, ms, rfl, q⟩
    · obtain ⟨l, ws, ms, rfl, q⟩ := octs_of (lo := 4) (hi := 8) a3 (by (repeat' (first | exact KInts.nil | apply KInts.cons))) (fun _ hp => List.mem_append_right tl3 hp) (by decide) (by decide) (by decide)
      exact ⟨l, ws, ms, rfl, q⟩
  obtain ⟨l, ws, ms, q1, q2, q3, q4, q5, q6⟩ := hf
  refine go (news ++ (tl3 ++ (tl2 ++ (tl1 ++ tl0)))) l ws ms (kst_newsOf N ?_) (fun p hp => List.mem_append_left _ hp) q1 q3 q4 q5 q6 (octs_all (by (repeat' (first | exact KOcts.nil | refine KOcts.cons (ns := [_]) (KInts.cons KInts.nil) (by decide) (by decide) (by decide) ?_ | refine KOcts.cons (ns := [_, _]) (KInts.cons (KInts.cons KInts.nil)) (by decide) (by decide) (by decide) ?_))) (fun p hp => ?_) h3) (all2_length h3)
  · intro p hp
    simp only [List.mem_cons, List.mem_append] at hp q2 ⊢
    rcases hp with hp | hp | hp | hp | hp | hp
    · simp [hp]
    · simp [hp]
    · simp [hp]
    · simp [hp]
    · subst hp
      rcases q2 with q2 | q2 <;> simp [q2]
    · simp [hp]
  · simp [hp]
theorem octs_picks {led : Led} {vs : List Value} {h₀ h : Heap} {L : Addr} {all : Led} (N : News h₀ L h all) (o : ∀ v ∈ vs, Octs led v 0 2) (hs : ∀ p ∈ led, p ∈ all) : ∀ v ∈ vs, PickT h v := by
  intro v hv
  obtain ⟨l, ws, ms, rfl, hm, hi, hx, _, h2⟩ := o v hv
  exact ⟨l, ws, ms, rfl, N.isList (hs _ hm), hi, hx, by rw [← hi.length]; exact h2⟩

/-- an item of a list at a place that is known to bear a value -/
theorem item_at {prog : Program} {w : World} {A : Around} {E : Value → Shared → Prop} {s : Shared} {value slice : PySem.Expr} {l : Addr} {vs : List Value} {k : Int} {u : Tok} {v : Value} {Q : Value → Shared → Prop} (hx : vs[k.toNat]? = some v) (hl : s.heap.IsList l vs.toArray) (h0 : 0 ≤ k) (hhi : k < 2 ^ 63) (h : Q v s)
    (hs : subscripted slice false (.ref l) (.int k u) = operate [.ref l, .int k u] (getItem (.ref l) (.int k u)) := by with_unfolding_all rfl) :
    wpAny (model prog w) A (subscriptTail value slice (.ref l) (.int k u)) Q E s :=
  tail_any hl.typeIs slot_list_getitem.lookup (wpAny_getItem_list hl h0 hhi (x := v) (by rw [List.getElem?_toArray]; exact hx) h) hs



theorem law_run_sp (w mean mg mb) (k first number : Int) (t1 t2 t3 : Tok) (news : Led) (hk3 : k = 0 ∨ k = 1 ∨ k = 2) :
    Sp w mean mg mb 100 1 [.int k t1, .int first t2, .int number t3] news (listRet RunFin) := by
  k_with_none
  k_with "spliced" => (k_here; dsimp only; walk_at "spliced")
  k_with "execs cons" => (k_here; dsimp only; walk_at "execs cons")
  k_with "execs nil" => (k_here; dsimp only; walk_at "execs nil")
  k_with "eval List cons" => (k_here; (with_reducible refine list_step (by (repeat' (first | exact Makes2.nil | apply Makes2.cons | exact makes_int | apply makes_list | apply makes_tup | decide))) (by decide) (by k_asm) (by k_asm) ?_); intro a' vs' h' tk' tl' F' N' l1 ha' hn'; (try dsimp only); (try simp only [List.cons_append, List.append_assoc] at N'); (try k_lt l1); (try have hI' : IntsAre _ _ := all2_intsR (by (repeat' (first | exact KInts.nil | apply KInts.cons))) ha'))
  k_with "subscriptTail Name Name ref int" => (k_here; k_dflt (refine item_at (by assumption) (News.isList (by assumption) (by k_mem)) (by omega) (by omega) ?_))
  k_with "subscriptTail Name BinOp ref int" => (k_here; (with_reducible show wpAny _ _ (subscriptTail _ _ (Value.ref _) (Value.int (Int.fmod _ 6) _)) _ _ _); (rename News _ _ _ _ => nE'); k_dflt (refine item_pick (C := PickT _) (News.isList nE' (by k_mem)) (fmod6 _).1 (Int.lt_trans (fmod6 _).2 (by decide)) (Int.lt_of_lt_of_le (fmod6 _).2 (by omega)) (octs_picks nE' (by assumption) (by intro p hp; kst_mem)) ?_); (intro v9 hv9); (obtain ⟨l9, w9, m9, e9, i9, j9, b9, n9⟩ := hv9); (subst e9))
  k_with "UnrEnd" => (k_here; k_dflt ((rename News _ _ _ _ => nE'); (try dsimp only at nE'); (refine krs_end ⟨_, _, _, _⟩ (by assumption) nE' (by k_mem) (by (dsimp only; refine List.forall_mem_cons.mpr ⟨by k_mem, ?_⟩; intro p hp; kst_mem)) (by (dsimp only; refine List.forall_mem_cons.mpr ⟨by k_ne, ?_⟩; intro p hp; exact Nat.ne_of_lt (‹∀ p ∈ _ :: _, p.1 < _› p (List.Mem.tail _ hp)))) (by assumption) (by kst_all) (by kst_same) ?_); (try dsimp only)))
  w_on
  unfold Sp
  k_fill
  intro dp un gd cn cs a ccd cl outer A₀ base h₀ L m s Q E B F X N T hk hd hu hret
  refine wpAny_call ?_
  k_dflt cell_enter
  iterate 40 (first | (k_unfold; (try dsimp only)) | walk1 | (dsimp only; walk1))
  rename Fr _ _ _ _ => F1
  rename News _ _ _ _ => N1
  rename IsRange _ _ _ _ _ _ _ _ => R1
  dsimp only at F1 N1
  refine run_hide N1 (by assumption) (by assumption) (by assumption) hk3 ?_
  clear N1
  intro led l ws ms N1 hnl hpk hws hms hw4 hw8 htl htn
  have hwl := hws.length
  refine rng_unr (σ := Addr × List Value × List Int × Nat) (fun q => (q.1, listOf q.2.1.toArray q.2.2.2) :: _)
    (fun q => [(Str.ofString "octets", .ref q.1)])
    (fun q => IntsAre q.2.1 q.2.2.1) [Str.ofString "octets"]
    (fun i q => RunOk i q.2.2.1) (_, [], [], 0) rfl R1 (by decide +kernel) (n := 8) (by rfl) F1 N1 IntsAre.nil ?_ ?_ ?_ ?_
  · intro p hp
    revert p hp
    kst_all
  · exact ⟨(fun _ h => nomatch h), Nat.le_refl _, fun h => absurd h (Nat.lt_irrefl _)⟩
  · clear F1 N1
    rintro I ⟨oa, vs, ns, nn⟩ i t5 u h tk5 it hI hi hf hp F2 N2
    have kmk := kstMark
    dsimp only [kstB, envOf] at F2 N2 hf hp hI
    obtain ⟨hr1, hr2, hr3⟩ := hp
    have hvl := hf.length
    try k_fold
    k_steps
    all_goals exact run_step hr1 hr2 hr3 hms (by assumption) (by assumption)
  · clear F1 N1
    rintro ⟨oa, vs, ns, nn⟩ u h tk5 hf hp F2 N2
    have kmk := kstMark
    dsimp only [kstB, envOf] at F2 N2 hf hp
    have hp2 := hp
    obtain ⟨hr1, hr2, hr3⟩ := hp2
    have hvl := hf.length
    try k_fold
    k_steps
    refine hret _ [_] _ _ (by assumption) ?_ ?_ ⟨_, _, _, rfl, rfl, ‹IntsAre _ (_ ++ _)›, run_fin hp (by decide)⟩
    · refine kst_newsOf (by assumption) (List.forall_mem_cons.mpr ⟨by k_mem, ?_⟩)
      intro p hp
      have hp' := hnl p hp
      kst_mem
    · intro p hp q hq
      rw [List.mem_singleton.mp hp]
      have hA := ‹_ < _ ∧ _›
      repeat (first | exact ktn_ltOf hA q (List.mem_append_left _ (hnl q hq)) | replace hA := hA.2)
end Mine
namespace Mine
local macro_rules | `(tactic| walk_at $s:str) => `(tactic| k_extra $s)

/-- as Sp, of a def that reads the script's list -/
def SpL (w : World) (mean : ExcName → Option Value) (mg mb : Str → Option Value) (f : Addr) (d : Nat) (l : Addr) (ls : List Value) (vs : List Value) (news : Led) (Ret : Value → Led → Prop) : Prop :=
  ∀ (dp un : Nat) (gd : Option (List Code)) (cn : Str) (cs : Scope) (a : Addr) (ccd : Value) (cl : List (Str × Addr)) (outer : List Env) (A₀ : Around) (base h₀ : Heap) (L : Addr) (m : Str → Option Value) (s : Shared) (Q E : Value → Shared → Prop),
    base.IsList l ls.toArray →
    Below A₀ base outer h₀ → Fr h₀ L s.heap m → (Mine.hd.heap_39 w.params).In h₀ → News h₀ L s.heap news → Top Mine.hd.view_39 (looseW Mine.hd.view_39 []) mean mg mb h₀ → cs.kind = .function → dp + d < recursionLimit → un + 8 * d < cLine →
    (∀ (r : Value) (tl : Led) (h' : Heap) (tk' : Nat), Fr h₀ L h' m → News h₀ L h' (tl ++ news) → (∀ p ∈ tl, ∀ q ∈ news, q.1 < p.1) → Ret r tl → Q r { s with heap := h', toks := tk' }) →
    wpAny (model PySem.Challenge.rw_nt0590_01.row.prog w) (ktrTop dp un gd cn cs L a ccd cl outer) (call (.ref f) vs) Q E s

def intRet (r : Value) (tl : Led) : Prop := tl = [] ∧ ∃ x t, r = .int x t

theorem law_digit_sp (w mean mg mb) (l : Addr) (ls : List Value) (ns : List Int) (place : Int) (t1 : Tok) (news : Led) (hi : IntsAre ls ns) (hn : ns.length ≤ 63) (h0 : 0 ≤ place) (h1 : place ≤ 9) :
    SpL w mean mg mb 93 1 l ls [.ref l, .int place t1] news intRet := by
  k_with_none
  k_with "spliced" => (k_here; dsimp only; walk_at "spliced")
  w_on
  unfold SpL
  k_fill
  intro dp un gd cn cs a ccd cl outer A₀ base h₀ L m s Q E hl B F X N T hk hd hu hret
  refine wpAny_call ?_
  k_dflt cell_enter
  k_steps
  all_goals (refine hret _ [] _ _ (by assumption) (by (refine kst_newsOf ‹News _ _ _ _› ?_); intro p hp; kst_mem) (fun _ h => nomatch h) ⟨rfl, _, _, rfl⟩)
end Mine
namespace Mine
local macro_rules | `(tactic| walk_at $s:str) => `(tactic| k_extra $s)


def boolRet (x : Bool) (r : Value) (_ : Led) : Prop := r = .bool x
abbrev pairOf (lo be : Int) (t1 t2 : Tok) : Obj := { cls := .type "tuple", data := .seq #[.int lo t1, .int be t2] }

theorem boolRet_of {x y : Bool} {tl : Led} (h : x = y) : boolRet y (.bool x) tl := congrArg Value.bool h

theorem law_may1_sp (w mean mg mb) (number left lo be : Int) (t1 t2 t3 t4 : Tok) (ls p1 : Addr) (news : Led) (hs : (ls, listOf #[.ref p1] 0) ∈ news) (hp : (p1, pairOf lo be t3 t4) ∈ news)
    (h0 : 0 ≤ number) (h1 : number < 4194304) (h2 : 0 ≤ left) (h3 : left ≤ 3) :
    Sp w mean mg mb 107 1 [.int number t1, .int left t2, .ref ls] news (boolRet (may number left [(lo, be)])) := by
  k_with_none
  k_with "spliced" => (k_here; dsimp only; walk_at "spliced")
  k_with "execs cons" => (k_here; dsimp only; walk_at "execs cons")
  k_with "execs nil" => (k_here; dsimp only; walk_at "execs nil")
  k_with "exec For Tuple Name cons nil" => (k_here; (rename Fr _ _ _ _ => lF'); (with_unfolding_all refine' For_turns lF' ?_; k_whole))
  k_with "pyIter ref" => (k_here; (with_reducible show wpAny _ _ (pyIter (Value.ref _)) (fun it s₂ => TurnsAt _ _ _ _ _ _ _ _ _ it s₂) _ _); (rename Fr _ _ _ _ => lF'); (rename News _ _ _ _ => lN'); (with_unfolding_all refine iter_listTurns (by rfl) lF' lN' (by k_mem) (by rfl) (by rfl) ?_); clear lF'; intro i' l1)
  k_with "UnrEndW" => (k_here; (rename News _ _ _ _ => nE'); (refine unrW_end (by assumption) nE' (by assumption) (by k_mem) ?_))
  w_on
  unfold Sp
  k_fill
  intro dp un gd cn cs a ccd cl outer A₀ base h₀ L m s Q E B F X N T hk hd hu hret
  have N0 : News h₀ L s.heap ((ls, listOf #[.ref p1] 0) :: (p1, pairOf lo be t3 t4) :: news) := kst_newsOf N (List.forall_mem_cons.mpr ⟨hs, List.forall_mem_cons.mpr ⟨hp, fun _ h => h⟩⟩)
  refine wpAny_call ?_
  k_dflt cell_enter
  k_steps
  all_goals (refine hret _ [] _ _ (by assumption) (by (refine kst_newsOf ‹News _ _ _ _› ?_); intro p hp; kst_mem) (fun _ h => nomatch h) (boolRet_of ?_))
  all_goals (repeat' (first | exact rfl | exact (may_yes (by assumption) (by assumption)).symm | refine Eq.trans ?_ (may_no1 (by assumption)).symm | refine Eq.trans ?_ (may_no2 (by assumption)).symm))

theorem law_may2_sp (w mean mg mb) (number left lo be lo2 be2 : Int) (t1 t2 t3 t4 t5 t6 : Tok) (ls p1 p2 : Addr) (news : Led) (hs : (ls, listOf #[.ref p1, .ref p2] 0) ∈ news) (hp : (p1, pairOf lo be t3 t4) ∈ news) (hp2 : (p2, pairOf lo2 be2 t5 t6) ∈ news)
    (h0 : 0 ≤ number) (h1 : number < 4194304) (h2 : 0 ≤ left) (h3 : left ≤ 3) :
    Sp w mean mg mb 107 1 [.int number t1, .int left t2, .ref ls] news (boolRet (may number left [(lo, be), (lo2, be2)])) := by
  k_with_none
  k_with "spliced" => (k_here; dsimp only; walk_at "spliced")
  k_with "execs cons" => (k_here; dsimp only; walk_at "execs cons")
  k_with "execs nil" => (k_here; dsimp only; walk_at "execs nil")
  k_with "exec For Tuple Name cons nil" => (k_here; (rename Fr _ _ _ _ => lF'); (with_unfolding_all refine' For_turns lF' ?_; k_whole))
  k_with "pyIter ref" => (k_here; (with_reducible show wpAny _ _ (pyIter (Value.ref _)) (fun it s₂ => TurnsAt _ _ _ _ _ _ _ _ _ it s₂) _ _); (rename Fr _ _ _ _ => lF'); (rename News _ _ _ _ => lN'); (with_unfolding_all refine iter_listTurns (by rfl) lF' lN' (by k_mem) (by rfl) (by rfl) ?_); clear lF'; intro i' l1)
  k_with "UnrEndW" => (k_here; (rename News _ _ _ _ => nE'); (refine unrW_end (by assumption) nE' (by assumption) (by k_mem) ?_))
  w_on
  unfold Sp
  k_fill
  intro dp un gd cn cs a ccd cl outer A₀ base h₀ L m s Q E B F X N T hk hd hu hret
  have N0 : News h₀ L s.heap ((ls, listOf #[.ref p1, .ref p2] 0) :: (p1, pairOf lo be t3 t4) :: (p2, pairOf lo2 be2 t5 t6) :: news) := kst_newsOf N (List.forall_mem_cons.mpr ⟨hs, List.forall_mem_cons.mpr ⟨hp, List.forall_mem_cons.mpr ⟨hp2, fun _ h => h⟩⟩⟩)
  refine wpAny_call ?_
  k_dflt cell_enter
  k_steps
  all_goals (refine hret _ [] _ _ (by assumption) (by (refine kst_newsOf ‹News _ _ _ _› ?_); intro p hp; kst_mem) (fun _ h => nomatch h) (boolRet_of ?_))
  all_goals (repeat' (first | exact rfl | exact (may_yes (by assumption) (by assumption)).symm | refine Eq.trans ?_ (may_no1 (by assumption)).symm | refine Eq.trans ?_ (may_no2 (by assumption)).symm))
end Mine
namespace Mine
local macro_rules | `(tactic| walk_at $s:str) => `(tactic| k_extra $s)
/-- a list of one or two pairs of ints -/
def MayAt (led : Led) (sa : Addr) (sp : List (Int × Int)) : Prop :=
  (∃ p1 lo be t3 t4, sp = [(lo, be)] ∧ (sa, listOf #[.ref p1] 0) ∈ led ∧ (p1, pairOf lo be t3 t4) ∈ led) ∨
  (∃ p1 p2 lo be lo2 be2 t3 t4 t5 t6, sp = [(lo, be), (lo2, be2)] ∧ (sa, listOf #[.ref p1, .ref p2] 0) ∈ led ∧ (p1, pairOf lo be t3 t4) ∈ led ∧ (p2, pairOf lo2 be2 t5 t6) ∈ led)
theorem MayAt.mono {led led' : Led} {sa : Addr} {sp : List (Int × Int)} (h : MayAt led sa sp) (hs : ∀ p ∈ led, p ∈ led') : MayAt led' sa sp := by
  rcases h with ⟨p1, lo, be, t3, t4, e, h1, h2⟩ | ⟨p1, p2, lo, be, lo2, be2, t3, t4, t5, t6, e, h1, h2, h3⟩
  · exact .inl ⟨p1, lo, be, t3, t4, e, hs _ h1, hs _ h2⟩
  · exact .inr ⟨p1, p2, lo, be, lo2, be2, t3, t4, t5, t6, e, hs _ h1, hs _ h2, hs _ h3⟩
theorem law_may_sp (w mean mg mb) (number left : Int) (sp : List (Int × Int)) (t1 t2 : Tok) (sa : Addr) (news : Led) (hm : MayAt news sa sp) (h0 : 0 ≤ number) (h1 : number < 4194304) (h2 : 0 ≤ left) (h3 : left ≤ 3) :
    Sp w mean mg mb 107 1 [.int number t1, .int left t2, .ref sa] news (boolRet (may number left sp)) := by
  rcases hm with ⟨p1, lo, be, t3, t4, rfl, k1, k2⟩ | ⟨p1, p2, lo, be, lo2, be2, t3, t4, t5, t6, rfl, k1, k2, k3⟩
  · exact law_may1_sp w mean mg mb number left lo be t1 t2 t3 t4 sa p1 news k1 k2 h0 h1 h2 h3
  · exact law_may2_sp w mean mg mb number left lo be lo2 be2 t1 t2 t3 t4 t5 t6 sa p1 p2 news k1 k2 k3 h0 h1 h2 h3
/-- a class as the law's list holds it -/
def ClsAt (led : Led) (v : Value) (c : Cls) : Prop :=
  ∃ D sa t1 t2 t3, v = .ref D ∧ (D, ({ cls := .type "tuple", data := .seq #[.int c.1 t1, .int c.2.1 t2, .int c.2.2.1 t3, .ref sa] } : Obj)) ∈ led ∧ MayAt led sa c.2.2.2 ∧ 0 ≤ c.1 ∧ 0 ≤ c.2.2.1 ∧ c.2.2.1 ≤ 3 ∧ ∀ p ∈ c.2.2.2, p.2 ≤ 1114112
inductive AllCls (led : Led) : List Value → List Cls → Prop
  | nil : AllCls led [] []
  | cons {v c vs cs} : ClsAt led v c → AllCls led vs cs → AllCls led (v :: vs) (c :: cs)


def formRet (p : Int × Str) (r : Value) (tl : Led) : Prop := ∃ a t1 t2, r = .ref a ∧ tl = [(a, { cls := .type "tuple", data := .seq #[.int p.1 t1, .str p.2 t2] })]
theorem formRet_of {p : Int × Str} {x : Int} {y : Str} {a : Addr} {t1 t2 : Tok} (h : p = (x, y)) : formRet p (.ref a) [(a, { cls := .type "tuple", data := .seq #[.int x t1, .str y t2] })] := by
  subst h; exact ⟨a, t1, t2, rfl, rfl⟩

/-- what holds between the turns of the while -/
def FormP (ks : List Int) (at0 : Int) (sp : List (Int × Int)) (R : Int × Str) (number left many : Int) : Prop :=
  R = go8 ks at0 sp left.toNat number many ∧ may number left sp = true ∧ 0 ≤ number ∧ number < 1114112 ∧ 0 ≤ left ∧ left ≤ 3 ∧ 1 ≤ many ∧ at0 + many ≤ (ks.length : Int)
theorem form_step {ks : List Int} {at0 number left many : Int} {sp : List (Int × Int)} {R : Int × Str} (hs : ∀ p ∈ sp, p.2 ≤ 1114112) (P : FormP ks at0 sp R number left many) (h0 : 0 < left) (h1 : at0 + many ≠ (ks.length : Int)) (h2 : Int.fdiv (oct ks (at0 + many)) 64 = 2) (h3 : may (nxt ks (at0 + many) number) (left - 1) sp = true) :
    FormP ks at0 sp R (nxt ks (at0 + many) number) (left - 1) (many + 1) := by
  obtain ⟨p1, p2, p3, p4, p5, p6, p7, p8⟩ := P
  have q : 0 ≤ nxt ks (at0 + many) number := by unfold nxt; rw [fmod64]; omega
  exact ⟨go_yes p1 h0 h1 h2 h3, h3, q, may_lt0 hs h3 q, by omega, by omega, by omega, by omega⟩
abbrev FormS := Int × Nat × Int × Nat × Int × Nat
abbrev formPs (c : FormS) : List (Str × Value) := [(Str.ofString "number", .int c.1 c.2.1), (Str.ofString "left", .int c.2.2.1 c.2.2.2.1), (Str.ofString "many", .int c.2.2.2.2.1 c.2.2.2.2.2)]
theorem form_while {prog : Program} {w : World} {A : Around} {E : Value → Shared → Prop} {Q : Flow → Shared → Prop} {s : Shared} {env : Env} {h₀ : Heap} {L : Addr} {test : PySem.Expr} {body : List Stmt} {pos : Pos} {m₀ : Str → Option Value} {led : Led} {ks : List Int} {at0 number left : Int} {t1 t2 t3 : Nat} {sp : List (Int × Int)} {R : Int × Str}
    (h1 : R = go8 ks at0 sp left.toNat number 1) (h2 : may number left sp = true) (h3 : 0 ≤ number) (h4 : number < 1114112) (h5 : 0 ≤ left) (h6 : left ≤ 3) (h7 : at0 + 1 ≤ (ks.length : Int))
    (F : Fr h₀ L s.heap m₀) (N : News h₀ L s.heap led) (hk : ∀ p ∈ formPs (number, t1, left, t2, 1, t3), m₀ p.1 = some p.2)
    (turn : ∀ (c : FormS) (u : Str → Option Value) h tk, FormP ks at0 sp R c.1 c.2.2.1 c.2.2.2.2.1 → Fr h₀ L h (kstB (fun z => if ([] : List Str).contains z then u z else m₀ z) (formPs c)) → News h₀ L h led →
      wpAny (model prog w) A (isTrue test env (eval test env)) (fun b s₂ =>
        if b = true then wpAny (model prog w) A (execs body env) (KswPost h₀ L s (fun _ => led) formPs (fun _ => True) [] m₀ (fun c => FormP ks at0 sp R c.1 c.2.2.1 c.2.2.2.2.1) (fun c => c.2.2.1.toNat) Q c) E s₂ else Q .next s₂) E { s with heap := h, toks := tk })
    (hE : PassesOwn (model prog w) A env E := by passes_own) :
    wpAny (model prog w) A (exec (.While test body [] pos) env) Q E s :=
  ksw_while (fun _ => led) formPs (fun _ => True) [] (fun c => FormP ks at0 sp R c.1 c.2.2.1 c.2.2.2.2.1) (fun c => c.2.2.1.toNat) (number, t1, left, t2, 1, t3) F N trivial hk ⟨h1, h2, h3, h4, h5, h6, Int.le_refl 1, h7⟩ (fun c u h tk _ p F' N' => turn c u h tk p F' N') hE

theorem may_at1 {led led' : Led} {sa : Addr} {vs : List Value} {lo be : Int} (hm : (sa, listOf (List.toArray vs) 0) ∈ led) (h : All2 led [KTup [KInt lo, KInt be]] vs) (hs : ∀ p ∈ led, p ∈ led') : MayAt led' sa [(lo, be)] := by
  obtain _ | ⟨⟨p1, us, rfl, h1, _ | ⟨⟨t3, rfl⟩, _ | ⟨⟨t4, rfl⟩, ⟨⟩⟩⟩⟩, ⟨⟩⟩ := h
  exact .inl ⟨p1, lo, be, t3, t4, rfl, hs _ hm, hs _ h1⟩
theorem may_at2 {led led' : Led} {sa : Addr} {vs : List Value} {lo be lo2 be2 : Int} (hm : (sa, listOf (List.toArray vs) 0) ∈ led) (h : All2 led [KTup [KInt lo, KInt be], KTup [KInt lo2, KInt be2]] vs) (hs : ∀ p ∈ led, p ∈ led') : MayAt led' sa [(lo, be), (lo2, be2)] := by
  obtain _ | ⟨⟨p1, us, rfl, h1, _ | ⟨⟨t3, rfl⟩, _ | ⟨⟨t4, rfl⟩, ⟨⟩⟩⟩⟩, _ | ⟨⟨p2, us2, rfl, h2, _ | ⟨⟨t5, rfl⟩, _ | ⟨⟨t6, rfl⟩, ⟨⟩⟩⟩⟩, ⟨⟩⟩⟩ := h
  exact .inr ⟨p1, p2, lo, be, lo2, be2, t3, t4, t5, t6, rfl, hs _ hm, hs _ h1, hs _ h2⟩
theorem cls_at {led led' : Led} {v : Value} {lo be l : Int} {R : List Kn} {sp : List (Int × Int)} (h : KTup [KInt lo, KInt be, KInt l, KList R] led v) (hs : ∀ p ∈ led, p ∈ led')
    (hm : ∀ sa vs, (sa, listOf (List.toArray vs) 0) ∈ led → All2 led R vs → MayAt led' sa sp) (h0 : 0 ≤ lo) (h1 : 0 ≤ l) (h2 : l ≤ 3) (h3 : ∀ p ∈ sp, p.2 ≤ 1114112) : ClsAt led' v (lo, be, l, sp) := by
  obtain ⟨D, us, rfl, hD, _ | ⟨⟨t1, rfl⟩, _ | ⟨⟨t2, rfl⟩, _ | ⟨⟨t3, rfl⟩, _ | ⟨⟨sa, ws, rfl, hsa, hw⟩, ⟨⟩⟩⟩⟩⟩⟩ := h
  exact ⟨D, sa, t1, t2, t3, rfl, hs _ hD, hm sa ws hsa hw, h0, h1, h2, h3⟩
theorem cls_all {led tl1 tl2 : Led} {vs1 vs2 : List Value} (h1 : All2 tl1 [KTup [KInt 0, KInt 128, KInt 0, KList [KTup [KInt 0, KInt 128]]], KTup [KInt 192, KInt 224, KInt 1, KList [KTup [KInt 128, KInt 2048]]]] vs1)
    (h2 : All2 tl2 [KTup [KInt 224, KInt 240, KInt 2, KList [KTup [KInt 2048, KInt 55296], KTup [KInt 57344, KInt 65536]]], KTup [KInt 240, KInt 248, KInt 3, KList [KTup [KInt 65536, KInt 1114112]]]] vs2)
    (s1 : ∀ p ∈ tl1, p ∈ led) (s2 : ∀ p ∈ tl2, p ∈ led) : AllCls led (vs1 ++ vs2) classes := by
  obtain _ | ⟨a1, _ | ⟨a2, ⟨⟩⟩⟩ := h1
  obtain _ | ⟨a3, _ | ⟨a4, ⟨⟩⟩⟩ := h2
  exact .cons (cls_at a1 s1 (fun _ _ x y => may_at1 x y s1) (by decide) (by decide) (by decide) (by decide)) (.cons (cls_at a2 s1 (fun _ _ x y => may_at1 x y s1) (by decide) (by decide) (by decide) (by decide))
    (.cons (cls_at a3 s2 (fun _ _ x y => may_at2 x y s2) (by decide) (by decide) (by decide) (by decide)) (.cons (cls_at a4 s2 (fun _ _ x y => may_at1 x y s2) (by decide) (by decide) (by decide) (by decide)) .nil)))
theorem led_hide {h₀ : Heap} {L : Addr} {h : Heap} {led news : Led} {ax lo : Addr} {vs0 : List Value} {o0 : Obj} {cs : List Cls} {G : Prop} (N : News h₀ L h led) (h1 : (ax, listOf (List.toArray vs0) 0) ∈ led) (h2 : AllCls led vs0 cs) (h3 : (lo, o0) ∈ led) (h4 : ∀ p ∈ news, p ∈ led)
    (k : ∀ led', News h₀ L h led' → (ax, listOf (List.toArray vs0) 0) ∈ led' → AllCls led' vs0 cs → (lo, o0) ∈ led' → (∀ p ∈ news, p ∈ led') → G) : G := k led N h1 h2 h3 h4

theorem law_form_sp (w mean mg mb) (ks : List Int) (vs : List Value) (at0 : Int) (t1 : Tok) (lo : Addr) (n : Nat) (news : Led) (hl : (lo, listOf vs.toArray n) ∈ news) (hv : IntsAre vs ks) (ho : ∀ x ∈ ks, 0 ≤ x ∧ x < 256) (hlen : ks.length ≤ 40) (h0 : 0 ≤ at0) (h1 : at0 < (ks.length : Int)) :
    Sp w mean mg mb 114 2 [.ref lo, .int at0 t1] news (formRet (form8 ks at0)) := by
  k_with_none
  k_with "spliced" => (k_here; dsimp only; walk_at "spliced")
  k_with "eval List cons" => (k_here; (with_reducible refine list_step (by (repeat' (first | exact Makes2.nil | apply Makes2.cons | exact makes_int | apply makes_list | apply makes_tup | decide))) (by decide) (by k_asm) (by k_asm) ?_); intro a' vs' h' tk' tl' F' N' l1 ha' hn'; (try dsimp only); (try simp only [List.cons_append, List.append_assoc] at N'); (try k_lt l1))
  k_with "execs cons" => (k_here; dsimp only; walk_at "execs cons")
  k_with "execs nil" => (k_here; dsimp only; walk_at "execs nil")
  k_with "exec For Tuple Name cons nil" => (k_here; (rename Fr _ _ _ _ => lF'); (with_unfolding_all refine' For_turns lF' ?_; k_whole))
  k_with "call builtin:chr" => (k_here; (have q9 := may_lt0 (by assumption) (by assumption) (by assumption)); (refine chr_of_range (by omega) (by omega) ?_))
  k_with "call ref" => (k_here; (show wpAny _ _ (call (Value.ref 107) [Value.int _ _, Value.int _ _, Value.ref _]) _ _ _); k_dflt (refine sp_call0 (by k_asm) (by k_asm) (by k_asm) (by k_asm) (by k_asm) (by first | exact rfl | assumption) (by ktr_room) (by ktr_units) (law_may_sp _ _ _ _ _ _ _ _ _ _ _ (MayAt.mono (by assumption) (by intro p hp; kst_mem)) (by first | omega | ((have q9 := may_lt1 (by assumption) (by assumption) (by assumption) (by assumption)); (simp only [fmod64]); omega)) (by first | omega | ((have q9 := may_lt1 (by assumption) (by assumption) (by assumption) (by assumption)); (simp only [fmod64]); omega)) (by omega) (by omega)) ?_); intro r9 tl9 h9 tk9 R9 F9 N9; (unfold boolRet at R9); (subst R9); (try dsimp only); (try k_fold))
  k_with "exec While Compare cons nil" => (k_here; (rename Fr _ _ _ _ => lF'); (rename News _ _ _ _ => lN'); (with_unfolding_all refine form_while (fl_go (by assumption) (by assumption) (by assumption) (by assumption)) (by assumption) (by (dsimp only [oct]; omega)) (by (dsimp only [oct]; omega)) (by assumption) (by assumption) (by assumption) lF' lN' (by kst_all) ?_); clear lF' lN'; intro c9 u9 h9 tk9 P9 F9 N9; (obtain ⟨nm9, tn9, lf9, tl9, mn9, tm9⟩ := c9); (dsimp only [formPs, kstB] at P9 F9); (have P8 := P9); (obtain ⟨pa9, pb9, pc9, pd9, pe9, pf9, pg9, ph9⟩ := P9); (try k_fold))
  k_with "KswEnd" => (k_here; (rename News _ _ _ _ => nE'); (refine ksw_end ⟨_, _, _, _, _, _⟩ (by assumption) nE' (by intro p hp; kst_mem) trivial (by kst_all) (by ksw_same) (form_step (by assumption) (by assumption) (by assumption) (by assumption) (by assumption) (by assumption)) (by (dsimp only; omega))))
  k_with "UnrEndW" => (k_here; (rename News _ _ _ _ => nE'); (refine li_end (by assumption) nE' (by k_mem) (by intro p hp; kst_mem) (by assumption) (by intro z h3; (simp only [List.contains_cons, List.contains_nil, Bool.or_false, Bool.or_eq_false_iff, beq_eq_false_iff_ne, ne_eq] at h3); (simp [h3])) ?_); (refine ⟨_, (by assumption), ?_⟩); first | exact fl_lo (by assumption) (by assumption) | exact fl_hi (by assumption) (by assumption) | exact fl_no (by assumption) (by assumption))
  w_on
  unfold Sp
  k_fill
  intro dp un gd cn cs a ccd cl outer A₀ base h₀ L m s Q E B F X N T hk hd hu hret
  have N0 : News h₀ L s.heap ((lo, listOf vs.toArray n) :: news) := kst_newsOf N (List.forall_mem_cons.mpr ⟨hl, fun _ h => h⟩)
  have hvl := hv.length
  have ho0 : 0 ≤ ks.getD at0.toNat 0 := getD_all (P := fun x => 0 ≤ x) (fun x hx => (ho x hx).1) (by decide) _
  have ho1 : ks.getD at0.toNat 0 < 256 := getD_all (P := fun x => x < 256) (fun x hx => (ho x hx).2) (by decide) _
  refine wpAny_call ?_
  k_dflt cell_enter
  iterate 17 (first | (k_unfold; (try dsimp only)) | walk1 | (dsimp only; walk1))
  rename Fr _ _ _ _ => F1
  rename News _ _ _ _ => N1
  dsimp only at F1 N1
  refine led_hide (cs := classes) (lo := lo) (o0 := listOf vs.toArray n) (news := news) N1 (List.Mem.head _) (cls_all (by assumption) (by assumption) (by intro p hp; (try simp only [List.mem_cons, List.mem_append]); simp [hp]) (by intro p hp; (try simp only [List.mem_cons, List.mem_append]); simp [hp])) (by k_mem) (by intro p hp; (try simp only [List.mem_cons, List.mem_append]); simp [hp]) ?_
  clear N1
  intro led N1 hD hA hlo hnl
  refine list_inv rfl F1 N1 hD rfl rfl [Str.ofString "low", Str.ofString "behind", Str.ofString "left", Str.ofString "spans", Str.ofString "number", Str.ofString "many"] (fun r => ∃ cs, AllCls led r cs ∧ form8 ks at0 = formL ks at0 cs) ⟨_, hA, rfl⟩ ?_ ?_
  · clear F1 N1
    rintro I v r u h tk5 it hI ⟨cs, hcs, hform⟩ F2 N2
    cases hcs
    rename_i c cs hc hcs
    obtain ⟨low, be, left, sp⟩ := c
    obtain ⟨D, sa, t6, t7, t8, rfl, hD2, hM, hc0, hc1, hc2, hc3⟩ := hc
    dsimp only at hD2 hM hc0 hc1 hc2 hc3
    have N3 : News _ _ _ ((I, it) :: (D, ({ cls := .type "tuple", data := .seq #[.int low t6, .int be t7, .int left t8, .ref sa] } : Obj)) :: (lo, listOf vs.toArray n) :: led) := kst_newsOf N2 (List.forall_mem_cons.mpr ⟨List.Mem.head _, List.forall_mem_cons.mpr ⟨List.Mem.tail _ hD2, List.forall_mem_cons.mpr ⟨List.Mem.tail _ hlo, fun p hp => List.Mem.tail _ hp⟩⟩⟩)
    clear N2
    have kmk := kstMark
    dsimp only [kstB, envOf] at F2
    try k_fold
    k_steps
    all_goals (refine hret _ [_] _ _ (by assumption) (kst_newsOf ‹News _ _ _ _› (List.forall_mem_cons.mpr ⟨by k_mem, fun p hp => by (have hp' := hnl p hp); kst_mem⟩)) ?_ (formRet_of ?_))
    all_goals first
      | (intro p hp q hq
         rw [List.mem_singleton.mp hp]
         have hA := ‹_ < _ ∧ _›
         repeat (first | exact ktn_ltOf hA q (hnl q hq) | replace hA := hA.2))
      | exact go_end (by assumption) (by assumption) (by assumption)
      | exact go_cut (by assumption) (by assumption) (by assumption) (by assumption)
      | exact go_no (by assumption) (by assumption) (by assumption) (by assumption) (by assumption)
      | exact go_zero (by assumption) (by assumption)
  · clear F1 N1
    rintro u h tk5 ⟨cs, hcs, hform⟩ F2 N2
    cases hcs
    have kmk := kstMark
    dsimp only [kstB, envOf] at F2
    try k_fold
    k_steps
    all_goals (refine hret _ [_] _ _ (by assumption) (kst_newsOf ‹News _ _ _ _› (List.forall_mem_cons.mpr ⟨by k_mem, fun p hp => by (have hp' := hnl p hp); kst_mem⟩)) ?_ (formRet_of hform))
    all_goals
      intro p hp q hq
      rw [List.mem_singleton.mp hp]
      exact (by assumption : ∀ p ∈ led, p.1 < _) q (hnl q hq)
end Mine
namespace Mine
local macro_rules | `(tactic| walk_at $s:str) => `(tactic| k_extra $s)
abbrev TextS := Str × Nat × Int × Nat
abbrev textPs (c : TextS) : List (Str × Value) := [(Str.ofString "text", .str c.1 c.2.1), (Str.ofString "at", .int c.2.2.1 c.2.2.2)]
theorem text_while {prog : Program} {w : World} {A : Around} {E : Value → Shared → Prop} {Q : Flow → Shared → Prop} {s : Shared} {env : Env} {h₀ : Heap} {L : Addr} {test : PySem.Expr} {body : List Stmt} {pos : Pos} {m₀ : Str → Option Value} {led : Led} {t1 t2 : Nat} (ks : List Int)
    (F : Fr h₀ L s.heap m₀) (N : News h₀ L s.heap led) (hk : ∀ p ∈ textPs (Str.ofString "", t1, 0, t2), m₀ p.1 = some p.2)
    (turn : ∀ (c : TextS) (u : Str → Option Value) h tk, TextP ks c.1 c.2.2.1 → Fr h₀ L h (kstB (fun z => if [Str.ofString "many", Str.ofString "sign"].contains z then u z else m₀ z) (textPs c)) → News h₀ L h led →
      wpAny (model prog w) A (isTrue test env (eval test env)) (fun b s₂ =>
        if b = true then wpAny (model prog w) A (execs body env) (KswPost h₀ L s (fun _ => led) textPs (fun _ => True) [Str.ofString "many", Str.ofString "sign"] m₀ (fun c => TextP ks c.1 c.2.2.1) (fun c => ks.length - c.2.2.1.toNat) Q c) E s₂ else Q .next s₂) E { s with heap := h, toks := tk })
    (hE : PassesOwn (model prog w) A env E := by passes_own) :
    wpAny (model prog w) A (exec (.While test body [] pos) env) Q E s :=
  ksw_while (fun _ => led) textPs (fun _ => True) [Str.ofString "many", Str.ofString "sign"] (fun c => TextP ks c.1 c.2.2.1) (fun c => ks.length - c.2.2.1.toNat) (Str.ofString "", t1, 0, t2) F N trivial hk (text_start ks) (fun c u h tk _ p F' N' => turn c u h tk p F' N') hE


theorem law_text_sp (w mean mg mb) (ks : List Int) (vs : List Value) (lo : Addr) (n : Nat) (news : Led) (hl : (lo, listOf vs.toArray n) ∈ news) (hv : IntsAre vs ks) (ho : ∀ x ∈ ks, 0 ≤ x ∧ x < 256) (hlen : ks.length ≤ 40) :
    Sp w mean mg mb 121 3 [.ref lo] news (strRet (dec8 ks)) := by
  k_with_none
  k_with "execs cons" => (k_here; dsimp only; walk_at "execs cons")
  k_with "execs nil" => (k_here; dsimp only; walk_at "execs nil")
  k_with "spliced" => (k_here; dsimp only; walk_at "spliced")
  k_with "binaryOp Add str str" => (k_here; k_dflt (refine add_str ?_ (by (rw [PySem.sizeLine_eq]; omega))); intro _ _)
  k_with "call ref" => (k_here; (show wpAny _ _ (call (Value.ref 114) [Value.ref _, Value.int _ _]) _ _ _); k_dflt (refine sp_call (by k_asm) (by k_asm) (by k_asm) (by k_asm) (by k_asm) (by first | exact rfl | assumption) (by ktr_room) (by ktr_units) (law_form_sp _ _ _ _ _ _ _ _ _ _ _ (by k_mem) (by assumption) (by assumption) (by assumption) (by assumption) (by assumption)) ?_); intro r9 tl9 h9 tk9 R9 l9 F9 N9; (obtain ⟨a9, t91, t92, er9, et9⟩ := R9); (subst er9); (subst et9); (simp only [List.cons_append, List.nil_append] at N9); (try dsimp only); (try k_fold))
  k_with "KswEnd" => (k_here; (rename News _ _ _ _ => nE'); (refine ksw_end ⟨_, _, _, _⟩ (by assumption) nE' (by intro p hp; kst_mem) trivial (by kst_all) (by ksw_same) (text_step (by assumption) (by assumption) (by assumption)) (by (dsimp only; omega))))
  w_on
  unfold Sp
  k_fill
  intro dp un gd cn cs a ccd cl outer A₀ base h₀ L m s Q E B F X N T hk hd hu hret
  have N0 : News h₀ L s.heap ((lo, listOf vs.toArray n) :: news) := kst_newsOf N (List.forall_mem_cons.mpr ⟨hl, fun _ h => h⟩)
  have hvl := hv.length
  refine wpAny_call ?_
  k_dflt cell_enter
  iterate 12 (first | (k_unfold; (try dsimp only)) | walk1 | (dsimp only; walk1))
  rename Fr _ _ _ _ => F1
  rename News _ _ _ _ => N1
  dsimp only at F1 N1
  refine' text_while ks F1 N1 ?gk ?gt
  case gk => kst_all
  clear F1 N1
  rintro ⟨text, t3, at0, t4⟩ u h tk5 hp F2 N2
  have kmk := kstMark
  dsimp only [kstB, envOf, textPs] at F2 hp
  obtain ⟨hp0, hp1, hp2⟩ := text_in hp
  have hF := form_facts ho hp0
  try k_fold
  k_steps
  exact hret _ [] _ _ (by assumption) (kst_newsOf ‹News _ _ _ _› (by intro p hp; kst_mem)) (fun _ h => nomatch h) (strRet_of (text_end hp (by assumption)))
end Mine
namespace Mine
local macro_rules | `(tactic| walk_at $s:str) => `(tactic| k_extra $s)

theorem decode_at (w mean mg mb) (b : Array UInt8) (ks : List Int) (t t2 : Tok) (nm : Str) (news : Led) (hb : KBw.bInts b = ks) (hs : b.size ≤ 1000) (hn : nm = Str.ofString "UTF-8" ∨ nm = Str.ofString "UTF-16BE" ∨ nm = Str.ofString "UTF-16LE") :
    Sp w mean mg mb 86 3 [.bytes b t, .str nm t2] news (strRet (decOf nm ks)) := by
  subst hb
  rcases hn with rfl | rfl | rfl
  · rw [decOf_8]; exact decode_8_sp w mean mg mb b t t2 news hs
  · rw [decOf_be]; exact decode_be_sp w mean mg mb b t t2 news hs
  · rw [decOf_le]; exact decode_le_sp w mean mg mb b t t2 news hs

theorem bytes_step {prog : Program} {w : World} {A : Around} {E : Value → Shared → Prop} {s : Shared} {h₀ : Heap} {L D : Addr} {m : Str → Option Value} {news : Led} {vs : List Value} {ns : List Int} {Q : Value → Shared → Prop} (F : Fr h₀ L s.heap m) (N : News h₀ L s.heap news) (hh : A.handled = none) (hl : s.heap.IsList D vs.toArray) (hi : IntsAre vs ns) (hr : ∀ n ∈ ns, 0 ≤ n ∧ n < 256) (hn : ns.length ≤ 1000)
    (h : ∀ b h' t' k, Fr h₀ L h' m → News h₀ L h' news → KBw.bInts b = ns → b.size ≤ 1000 → Q (.bytes b t') { s with heap := h', toks := k }) : wpAny (model prog w) A (call (.type "bytes") [.ref D]) Q E s :=
  KBa.make_K F N hh hl hi hr (by omega) fun h' t' k F' N' _ => h _ h' t' k F' N' (KBa.ints_make hr) (by rw [← KBw.ints_length, KBa.ints_make hr]; exact hn)


theorem ints1 {vs : List Value} {ns : List Int} {x : Int} {t : Tok} (h : IntsAre vs ns) : IntsAre (vs ++ [.int x t]) (ns ++ [x]) := h.append (.cons _ _ .nil)
theorem ints2 {vs : List Value} {ns : List Int} {x y : Int} {t u : Tok} (h : IntsAre vs ns) : IntsAre (vs ++ [.int x t, .int y u]) (ns ++ [x, y]) := h.append (.cons _ _ (.cons _ _ .nil))

theorem law_is_read_sp (w mean mg mb) (ks : List Int) (vs : List Value) (marks : Int) (t1 : Tok) (lo : Addr) (n : Nat) (news : Led) (hl : (lo, listOf vs.toArray n) ∈ news) (hv : IntsAre vs ks) (ho : ∀ x ∈ ks, 0 ≤ x ∧ x < 256) (hlen : ks.length ≤ 33) (hR : ReadOk marks ks) (hm0 : 0 ≤ marks) (hm1 : marks ≤ 2) :
    Sp w mean mg mb 128 4 [.ref lo, .int marks t1] news (boolRet true) := by
  k_with_none
  k_with "execs cons" => (k_here; dsimp only; walk_at "execs cons")
  k_with "execs nil" => (k_here; dsimp only; walk_at "execs nil")
  k_with "spliced" => (k_here; dsimp only; walk_at "spliced")
  k_with "binaryOp Add str str" => (k_here; k_dflt (refine add_str ?_ (by (rw [PySem.sizeLine_eq]; omega))); intro _ _)
  k_with "call ref" => (k_here; (show wpAny _ _ (call (Value.ref 121) [Value.ref _]) _ _ _); k_dflt (refine sp_call0 (by k_asm) (by k_asm) (by k_asm) (by k_asm) (by k_asm) (by first | exact rfl | assumption) (by ktr_room) (by ktr_units) (law_text_sp _ _ _ _ _ _ _ _ _ (by k_mem) (by assumption) (by assumption) (by omega)) ?_); intro r9 tl9 h9 tk9 R9 F9 N9; (obtain ⟨t91, er9⟩ := R9); (subst er9); (try dsimp only); (try k_fold))
  k_with "call ref" => (k_here; (show wpAny _ _ (call (Value.ref 86) [Value.bytes _ _, Value.str _ _]) _ _ _); k_dflt (refine sp_call0 (by k_asm) (by k_asm) (by k_asm) (by k_asm) (by k_asm) (by first | exact rfl | assumption) (by ktr_room) (by ktr_units) (decode_at _ _ _ _ _ _ _ _ _ _ (by assumption) (by assumption) (by with_reducible (first | exact .inl rfl | exact .inr (.inl rfl) | exact .inr (.inr rfl)))) ?_); intro r9 tl9 h9 tk9 R9 F9 N9; (obtain ⟨t91, er9⟩ := R9); (subst er9); (try dsimp only); (try k_fold))
  k_with "call type:bytes" => (k_here; k_dflt (refine bytes_step (by k_asm) (by k_asm) rfl (News.isList (by k_asm) (by k_mem)) (by assumption) (by assumption) (by (first | omega | assumption)) ?_); intro b' h' t' tk' F' N' kb' ks'; (try dsimp only))
  k_with "call builtin:list.append" => (k_here; (show wpAny _ _ (call (Value.builtin "list.append") [Value.ref _, _]) _ _ _); k_dflt (refine app1 (by k_asm) (by k_asm) (by k_upd) (by omega) ?_); intro h' F' N'; (try k_sweep))
  k_with "call builtin:list.extend" => (k_here; (show wpAny _ _ (call (Value.builtin "list.extend") [Value.ref _, Value.ref _]) _ _ _); k_dflt (refine ext2 (by k_asm) (by k_asm) (by k_mem) (by k_upd) (by omega) ?_); intro h' F' N'; (try k_sweep))
  k_with "InvEndN" => (k_here; (rename News _ _ _ _ => nE'); (refine kst_end (_, _, _) (by assumption) nE' (by (dsimp only; refine List.forall_mem_cons.mpr ⟨by k_mem, ?_⟩; intro p hp; kst_mem)) (by intro p hp; kst_mem) (by rfl) (by first | exact ints1 (by assumption) | exact ints2 (by assumption)) (by intro p hp; exact nomatch hp) (by kst_same) ?_); first | exact units_snoc1 (by assumption) (by assumption) | exact units_snoc2 (by assumption) (by assumption))
  k_with "InvEndN" => (k_here; (rename News _ _ _ _ => nE'); (refine kst_end ((_, _, _), (_, _, _)) (by assumption) nE' (by (dsimp only; refine List.forall_mem_cons.mpr ⟨by k_mem, List.forall_mem_cons.mpr ⟨by k_mem, List.forall_mem_cons.mpr ⟨by k_mem, ?_⟩⟩⟩; intro p hp; kst_mem)) (by intro p hp; kst_mem) (by rfl) ⟨ints2 (by assumption), ints2 (by assumption)⟩ (by intro p hp; exact nomatch hp) (by kst_same) ⟨be_snoc (by assumption), le_snoc (by assumption)⟩))
  w_on
  unfold Sp
  k_fill
  intro dp un gd cn cs a ccd cl outer A₀ base h₀ L m s Q E B F X N T hk hd hu hret
  have N0 : News h₀ L s.heap ((lo, listOf vs.toArray n) :: news) := kst_newsOf N (List.forall_mem_cons.mpr ⟨hl, fun _ h => h⟩)
  have hvl := hv.length
  obtain ⟨hdl, hk8, hl8, h8, hsc, hun, hlu, hbe, hle, hlb, hll, h16b, h16l⟩ := hR
  refine wpAny_call ?_
  k_dflt cell_enter
  k_steps
  · exact absurd h8 (bne_iff_ne.mp (by assumption))
  rename Fr _ _ _ _ => F1
  rename News _ _ _ _ => N1
  dsimp only at F1 N1
  refine KStt.kst_text (σ := List Value × List Int × Nat) (fun c => (_, listOf c.1.toArray c.2.2) :: news) (fun _ => []) (fun c => IntsAre c.1 c.2.1) [Str.ofString "point"] (fun pre c => c.2.1 = marksOf marks ++ unitsOf pre) (_, _, 0) rfl F1 (kst_newsOf N1 (List.forall_mem_cons.mpr ⟨List.Mem.head _, by intro p hp; kst_mem⟩)) (by assumption) (by intro p hp; exact nomatch hp) ?_ ?_ ?_
  · show _ = marksOf marks ++ []
    rw [List.append_nil]
  · clear F1 N1
    rintro ⟨us, ns, nn⟩ pre post o t5 u h tk5 own hks hoff hf hp F2 N2
    have kmk := kstMark
    dsimp only [kstB, envOf] at F2 N2 hf hp
    simp only [List.cons_append] at N2
    simp only [List.map_cons] at hoff
    have ho2 := hsc o (hks ▸ List.mem_append_right _ (List.Mem.head _))
    have hul := hf.length
    have hpl : ns.length ≤ 100 := units_pre hp hks hlu
    try k_fold
    k_steps
  · clear F1 N1
    rintro ⟨us, ns, nn⟩ u h tk5 hf hp F2 N2
    have kmk := kstMark
    dsimp only [kstB, envOf] at F2 N2 hf hp
    subst hp
    have hul := hf.length
    try k_fold
    iterate 16 (first | (k_unfold; (try dsimp only)) | walk1 | (dsimp only; walk1))
    rename Fr _ _ _ _ => F1
    rename News _ _ _ _ => N1
    try dsimp only at F1 N1
    refine kst_listL (σ := (List Value × List Int × Nat) × (List Value × List Int × Nat)) (fun c => (_, listOf c.2.1.toArray c.2.2.2) :: (_, listOf c.1.1.toArray c.1.2.2) :: (_, listOf us.toArray nn) :: news) (fun _ => []) (fun c => IntsAre c.1.1 c.1.2.1 ∧ IntsAre c.2.1 c.2.2.1) [] (fun pre c => c.1.2.1 = beOf pre ∧ c.2.2.1 = leOf pre) (([], [], 0), ([], [], 0)) rfl (by intro c; exact List.Mem.tail _ (List.Mem.tail _ (List.Mem.head _))) (by assumption) F1 N1 ⟨IntsAre.nil, IntsAre.nil⟩ (by intro p hp; exact nomatch hp) ⟨rfl, rfl⟩ ?_ ?_
    · clear F1 N1
      rintro ⟨⟨bs, bn, nb⟩, ⟨ls, ln, nl⟩⟩ pre post o t6 u2 h2 tk6 own hks hmem hoff hf2 hp2 F3 N3
      dsimp only [kstB, envOf] at F3 N3 hf2 hp2
      obtain ⟨hf2, hf3⟩ := hf2
      obtain ⟨hp2, hp3⟩ := hp2
      simp only [List.cons_append] at N3
      simp only [List.map_cons] at hoff
      have ho2 := hun o hmem
      have hb1 := hf2.length
      have hb2 := hf3.length
      have hb3 := pre_len hks hlu
      rw [hp2, be_len] at hb1
      rw [hp3, le_len] at hb2
      try k_fold
      k_steps
    · clear F1 N1
      rintro ⟨⟨bs, bn, nb⟩, ⟨ls, ln, nl⟩⟩ u2 h2 tk6 hf2 hp2 F3 N3
      dsimp only [kstB, envOf] at F3 N3 hf2 hp2
      obtain ⟨hf2, hf3⟩ := hf2
      obtain ⟨rfl, rfl⟩ := hp2
      try k_fold
      k_steps
      all_goals exact hret _ [] _ _ (by assumption) (kst_newsOf ‹News _ _ _ _› (by intro p hp; kst_mem)) (fun _ h => nomatch h) (boolRet_of (beq_iff_eq.mpr (by first | exact h16l | exact h16b)))
end Mine
namespace Mine
local macro_rules | `(tactic| walk_at $s:str) => `(tactic| k_extra $s)
theorem spl_call {w : World} {mean : ExcName → Option Value} {mg mb : Str → Option Value} {f : Addr} {d : Nat} {l : Addr} {ls vs : List Value} {news : Led} {Ret : Value → Led → Prop}
    {dp un : Nat} {gd : Option (List Code)} {cn : Str} {cs : Scope} {a : Addr} {ccd : Value} {cl : List (Str × Addr)} {outer : List Env} {A₀ : Around} {base h₀ : Heap} {L : Addr} {m : Str → Option Value} {s : Shared} {Q E : Value → Shared → Prop}
    (hl : base.IsList l ls.toArray) (B : Below A₀ base outer h₀) (F : Fr h₀ L s.heap m) (X : (Mine.hd.heap_39 w.params).In h₀) (N : News h₀ L s.heap news) (T : Top Mine.hd.view_39 (looseW Mine.hd.view_39 []) mean mg mb h₀) (hk : cs.kind = .function) (hd : dp + d < recursionLimit) (hu : un + 8 * d < cLine)
    (C : SpL w mean mg mb f d l ls vs news Ret)
    (ret : ∀ (r : Value) (tl : Led) (h' : Heap) (tk' : Nat), Ret r tl → Fr h₀ L h' m → News h₀ L h' news → Q r { s with heap := h', toks := tk' }) :
    wpAny (model PySem.Challenge.rw_nt0590_01.row.prog w) (ktrTop dp un gd cn cs L a ccd cl outer) (call (.ref f) vs) Q E s :=
  C _ _ _ _ _ _ _ _ _ _ _ _ _ _ _ _ _ hl B F X N T hk hd hu fun r tl h' tk' F' N' _ hr => ret r tl h' tk' hr F' (kst_newsOf N' fun _ hp => List.mem_append_right _ hp)
theorem fmod3 (a : Int) : 0 ≤ Int.fmod a 3 ∧ Int.fmod a 3 ≤ 2 := ⟨fmod_lo a (by decide), Int.lt_add_one_iff.mp (fmod_hi a (by decide))⟩
theorem take_in {ks : List Int} (h : RunFin ks) {j : Nat} : ∀ x ∈ ks.take j, 0 ≤ x ∧ x < 256 := fun x hx => h.1 x (List.mem_of_mem_take hx)
theorem take_len {ks : List Int} (h : RunFin ks) {j : Nat} : (ks.take j).length ≤ 40 := by rw [List.length_take]; have := h.2.1; omega
theorem holds : PySem.Challenge.rw_nt0590_01.Holds := by
  k_with_none
  k_with "call ref cons nil" => (k_here; (show wpAny _ _ (call (Value.ref 93) [Value.ref _, Value.int _ _]) _ _ _); k_dflt (refine spl_call (by k_asm) (by k_asm) (by k_asm) (by k_asm) (by k_asm) (by k_asm) (by first | exact rfl | assumption) (by ktr_room) (by ktr_units) (law_digit_sp _ _ _ _ _ _ _ _ _ _ (by assumption) (by omega) (by omega) (by omega)) ?_); intro r9 tl9 h9 tk9 R9 F9 N9; (obtain ⟨_, x9, t9, er9⟩ := R9); (subst er9); (try dsimp only); (try k_fold))
  k_with "call ref cons nil" => (k_here; (show wpAny _ _ (call (Value.ref 100) [Value.int _ _, Value.int _ _, Value.int _ _]) _ _ _); k_dflt (refine sp_call (by k_asm) (by k_asm) (by k_asm) (by k_asm) (by k_asm) (by first | exact rfl | assumption) (by ktr_room) (by ktr_units) (law_run_sp _ _ _ _ _ _ _ _ _ _ _ (by omega)) ?_); intro r9 tl9 h9 tk9 R9 l9 F9 N9; (obtain ⟨a9, v9, n9, er9, et9, i9, R8⟩ := R9); (have l33 := R8.2.1); (have l34 := i9.length); (subst er9); (subst et9); (simp only [List.cons_append, List.nil_append] at N9); (try dsimp only); (try k_fold))
  k_with "call ref cons nil" => (k_here; (show wpAny _ _ (call (Value.ref 128) [Value.ref _, Value.int _ _]) _ _ _); k_dflt (refine sp_call0 (by k_asm) (by k_asm) (by k_asm) (by k_asm) (by k_asm) (by first | exact rfl | assumption) (by ktr_room) (by ktr_units) (law_is_read_sp _ _ _ _ _ _ _ _ _ _ _ (by k_mem) (by assumption) (‹RunFin _›).1 (‹RunFin _›).2.1 (read_ok (by assumption) (fmod3 _).1 (fmod3 _).2) (fmod3 _).1 (fmod3 _).2) ?_); intro r9 tl9 h9 tk9 R9 F9 N9; (unfold boolRet at R9); (subst R9); (try dsimp only); (try k_fold))
  k_with "subscriptTail Name Slice ref ref" => (k_here; (rename (Int.fmod _ _ < 0) => hn9); exact absurd hn9 (Int.not_lt.mpr (fmod_lo _ (by omega))))
  k_with "call type:bytes" => (k_here; k_dflt (refine bytes_step (by k_asm) (by k_asm) rfl (News.isList (by k_asm) (by k_mem)) (by assumption) (take_in (by assumption)) (Nat.le_trans (take_len (by assumption)) (by decide)) ?_); intro b' h' t' tk' F' N' kb' ks'; (try dsimp only))
  k_with "call ref cons nil" => (k_here; (show wpAny _ _ (call (Value.ref 121) [Value.ref _]) _ _ _); k_dflt (refine sp_call0 (by k_asm) (by k_asm) (by k_asm) (by k_asm) (by k_asm) (by first | exact rfl | assumption) (by ktr_room) (by ktr_units) (law_text_sp _ _ _ _ _ _ _ _ _ (by k_mem) (by assumption) (take_in (by assumption)) (take_len (by assumption))) ?_); intro r9 tl9 h9 tk9 R9 F9 N9; (obtain ⟨t91, er9⟩ := R9); (subst er9); (try dsimp only); (try k_fold))
  k_with "call ref cons nil" => (k_here; (show wpAny _ _ (call (Value.ref 86) [Value.bytes _ _, Value.str _ _]) _ _ _); k_dflt (refine sp_call0 (by k_asm) (by k_asm) (by k_asm) (by k_asm) (by k_asm) (by first | exact rfl | assumption) (by ktr_room) (by ktr_units) (decode_at _ _ _ _ _ _ _ _ _ _ (by assumption) (by assumption) (by with_reducible exact .inl rfl)) ?_); intro r9 tl9 h9 tk9 R9 F9 N9; (obtain ⟨t91, er9⟩ := R9); (subst er9); (try dsimp only); (try k_fold))
  k_with "execs cons Return nil" => (k_here; (rename ((_ != _) = true) => hb9); exact absurd (cut_ok (by assumption) _) (bne_iff_ne.mp hb9))
  k_with "UnrEnd" => (k_here; (rename News _ _ _ _ => nE'); (refine krs_end () (by assumption) nE' (by k_mem) (by intro p hp; exact nomatch hp) (by intro p hp; exact nomatch hp) trivial (by intro p hp; exact nomatch hp) (by kst_same) trivial))
  refine hd ?_
  k_go0
  (all_goals try k_fold)
  iterate 27 (first | (k_unfold; (try dsimp only)) | walk1 | (dsimp only; walk1))
  rename Fr _ _ _ _ => F1
  rename News _ _ _ _ => N1
  rename IsRange _ _ _ _ _ _ _ _ => R1
  dsimp only at F1 N1
  refine rng_unr (σ := Unit) (fun _ => []) (fun _ => []) (fun _ => True) [Str.ofString "octets", Str.ofString "cut"] (fun _ _ => True) () rfl R1 (by decide +kernel) (n := 3) (by rfl) F1 N1 trivial (by intro p hp; exact nomatch hp) trivial ?_ ?_
  · clear F1 N1
    rintro I ⟨⟩ i t5 u h tk5 it hI hi hf hp F2 N2
    have kmk := kstMark
    dsimp only [kstB, envOf] at F2 N2
    try k_fold
    k_steps
  · clear F1 N1
    rintro ⟨⟩ u h tk5 hf hp F2 N2
    have kmk := kstMark
    dsimp only [kstB, envOf] at F2 N2
    try k_fold
    k_steps
end Mine
theorem PySem.Challenge.cw_nt0590_01_holds : PySem.Challenge.rw_nt0590_01.Holds :=
  Mine.holds
