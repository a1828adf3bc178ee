import PyProof.Rows.All
import Wide.All
import OpenK.AllK
import Wide.FinOn
import PySem.Challenge.RW_tk0087_01
set_option Elab.async false

section
open PySem PySem.W PyProof.Rows
namespace Mine
set_option maxRecDepth 100000 in
set_option maxHeartbeats 8000000 in
open_top hd for PySem.Challenge.rw_tk0087_01
end Mine
end

section
open PySem PySem.W PyProof.Rows
namespace Mine
section
variable {prog : Program} {w : World} {A : Around} {E : Value → Shared → Prop} {s : Shared} {h₀ : Heap} {L p : Addr} {m : Str → Option Value} {news : List (Addr × Obj)}

theorem off_tail {own : List (Addr × Obj)} {b : Addr} {adr : List Addr} (h : OwnOff own (b :: adr)) : ∀ q ∈ own, q.1 ≠ b := h.ne (List.Mem.head _)

theorem off_cons {q : Addr} {o : Obj} (h : p ≠ q) (hr : ∀ z ∈ news, z.1 ≠ p) : ∀ z ∈ (q, o) :: news, z.1 ≠ p := by
  intro z hz
  rcases List.mem_cons.mp hz with rfl | hz
  · exact fun e => h e.symm
  · exact hr z hz
/-- pool[1] = v -/
theorem setPair {x y v : Value} {n : Nat} {t : Tok} {Q : Unit → Shared → Prop} (F : Fr h₀ L s.heap m)
    (N : News h₀ L s.heap ((p, listOf [x, y].toArray n) :: news)) (ho : ∀ z ∈ news, z.1 ≠ p)
    (h : ∀ h', Fr h₀ L h' m → News h₀ L h' ((p, listOf [x, v].toArray n) :: news) → Q () { s with heap := h' }) :
    wpAny (model prog w) A (setItem (.ref p) (.int 1 t) v) Q E s := by
  have z := N _ (List.Mem.head _)
  refine ki_setAt z.1 (by decide) (by decide) (by show (1 : Int) < 2; decide) (h _ (F.change (Heap.SameBut.update ..) z.2.1 z.2.2) ?_)
  exact ki_turn (pre := []) _ N (fun _ h => nomatch h) ho rfl rfl
end
end Mine
end

section
open PySem PySem.W PyProof.Rows
namespace Mine
local macro_rules | `(tactic| walk_at "setItem ref int") => `(tactic| (k_here; k_dflt (refine' setPair ?k1 ?k2 ?k3 ?_; (case k1 => k_asm); (case k2 => k_asm); (case k3 => exact off_cons (by assumption) (off_tail (by assumption))); k_whole); intro h' F' N'; (try k_sweep)))
set_option maxRecDepth 100000 in
set_option maxHeartbeats 8000000 in
theorem draw_spec {w : World} {mean : ExcName → Option Value} {mg mb : Str → Option Value} {dp un : Nat} {gd : Option (List Code)} {cn : Str} {cs : Scope} {a : Addr} {ccd : Value} {cl : List (Str × Addr)} {outer : List Env} {A₀ : Around} {base h₀ : Heap} {L : Addr} {m : Str → Option Value} {s : Shared} {Q E : Value → Shared → Prop}
    {p q : Addr} {vs : List Value} {ns : List Int} {k many : Int} {t tm : Tok} {n n' : Nat} {news : List (Addr × Obj)}
    (B : Below A₀ base outer h₀) (F : Fr h₀ L s.heap m) (X : (hd.heap_39 w.params).In h₀)
    (N : News h₀ L s.heap ((p, listOf [.ref q, .int k t].toArray n) :: (q, listOf vs.toArray n') :: news))
    (T : Top hd.view_39 (looseW hd.view_39 []) mean mg mb h₀) (hk : cs.kind = .function)
    (hoff : OwnOff news [p]) (hpq : p ≠ q) (hi : IntsAre vs ns) (hlen : ns.length ≤ 31) (h0 : 0 ≤ k) (h1 : k ≤ 1000) (hm : 0 < many) (hm' : many ≤ 8)
    (hdp : dp + 1 < recursionLimit) (hu : un + 8 < cLine)
    (ret : ∀ (r : Int) t h' tk' t', 0 ≤ r → r < many → Fr h₀ L h' m → News h₀ L h' ((p, listOf [.ref q, .int (k + 1) t'].toArray n) :: (q, listOf vs.toArray n') :: news) → Q (.int r t) { s with heap := h', toks := tk' }) :
    wpAny (model PySem.Challenge.rw_tk0087_01.row.prog w) (ktrTop dp un gd cn cs L a ccd cl outer) (call (.ref 133) [.ref p, .int many tm]) Q E s := by
  w_top off
  revert X; k_fill; intro X
  refine wpAny_call ?_
  k_dflt cell_enter
  k_steps
  all_goals (first
    | exact ret _ _ _ _ _ (Int.fmod_nonneg_of_pos _ hm) (Int.fmod_lt_of_pos _ hm) (by assumption) (by assumption)
    | exact ret _ _ _ _ _ (Int.fmod_nonneg_of_pos _ hm) (Int.fmod_lt_of_pos _ hm) (by assumption) (cb_drop (by assumption) fun _ h => List.Mem.tail _ h))

theorem upd_split_off {d : Addr} {o o' : Obj} {l l' : List (Addr × Obj)} (U : Upd d o o' l l') : ∃ r, (∀ z ∈ r, z.1 ≠ d) ∧ (∀ z ∈ (d, o) :: r, z ∈ l) ∧ (∀ z ∈ l', z ∈ (d, o') :: r) ∧ (∀ z ∈ l, z.1 ≠ d → z ∈ r) := by
  obtain ⟨pre, post, rfl, rfl, a, b⟩ := U.split
  refine ⟨pre ++ post, fun z hz => (List.mem_append.mp hz).elim (a z) (b z), fun z hz => ?_, fun z hz => ?_, fun z hz hn => ?_⟩
  · rcases List.mem_cons.mp hz with rfl | hz
    · exact List.mem_append.mpr (.inr (List.Mem.head _))
    · exact (List.mem_append.mp hz).elim (fun h => List.mem_append.mpr (.inl h)) fun h => List.mem_append.mpr (.inr (List.Mem.tail _ h))
  · rcases List.mem_append.mp hz with h | h
    · exact List.Mem.tail _ (List.mem_append.mpr (.inl h))
    · rcases List.mem_cons.mp h with rfl | h
      · exact List.Mem.head _
      · exact List.Mem.tail _ (List.mem_append.mpr (.inr h))
  · rcases List.mem_append.mp hz with h | h
    · exact List.mem_append.mpr (.inl h)
    · rcases List.mem_cons.mp h with rfl | h
      · exact absurd rfl hn
      · exact List.mem_append.mpr (.inr h)

theorem draw_call {w : World} {mean : ExcName → Option Value} {mg mb : Str → Option Value} {dp un : Nat} {gd : Option (List Code)} {cn : Str} {cs : Scope} {a : Addr} {ccd : Value} {cl : List (Str × Addr)} {outer : List Env} {A₀ : Around} {base h₀ : Heap} {L : Addr} {m : Str → Option Value} {s : Shared} {Q E : Value → Shared → Prop}
    {p q : Addr} {vs : List Value} {ns : List Int} {k many : Int} {t tm : Tok} {n n' : Nat} {led : List (Addr × Obj)} {led' : Tok → List (Addr × Obj)}
    (B : Below A₀ base outer h₀) (F : Fr h₀ L s.heap m) (X : (hd.heap_39 w.params).In h₀)
    (N : News h₀ L s.heap led)
    (T : Top hd.view_39 (looseW hd.view_39 []) mean mg mb h₀) (hk : cs.kind = .function)
    (U : ∀ t', Upd p (listOf [.ref q, .int k t].toArray n) (listOf [.ref q, .int (k + 1) t'].toArray n) led (led' t'))
    (hq : (q, listOf vs.toArray n') ∈ led) (hpq : q ≠ p) (hi : IntsAre vs ns) (hlen : ns.length ≤ 31) (h0 : 0 ≤ k) (h1 : k ≤ 1000) (hm : 0 < many) (hm' : many ≤ 8)
    (hdp : dp + 1 < recursionLimit) (hu : un + 8 < cLine)
    (ret : ∀ (r : Int) t h' tk' t', 0 ≤ r → r < many → Fr h₀ L h' m → News h₀ L h' (led' t') → Q (.int r t) { s with heap := h', toks := tk' }) :
    wpAny (model PySem.Challenge.rw_tk0087_01.row.prog w) (ktrTop dp un gd cn cs L a ccd cl outer) (call (.ref 133) [.ref p, .int many tm]) Q E s := by
  obtain ⟨r, ho, h1', _, h3⟩ := upd_split_off (U 0)
  have hqr := h3 _ hq hpq
  refine draw_spec (news := r) (t := t) (n := n) (n' := n') B F X (cb_drop N fun z hz => ?_) T hk (fun z hz b hb => by rw [List.mem_singleton.mp hb]; exact ho z hz) (fun e => hpq e.symm) hi hlen h0 h1 hm hm' hdp hu ?_
  · rcases List.mem_cons.mp hz with rfl | hz
    · exact h1' _ (List.Mem.head _)
    · rcases List.mem_cons.mp hz with rfl | hz
      · exact hq
      · exact h1' _ (List.Mem.tail _ hz)
  · intro r' t1 h' tk' t' a b F' N'
    refine ret r' t1 h' tk' t' a b F' (cb_drop N' fun z hz => ?_)
    obtain ⟨pre, post, e1, e2, o1, o2⟩ := (U t').split
    rw [e2] at hz
    rcases List.mem_append.mp hz with h | h
    · exact List.Mem.tail _ (List.Mem.tail _ (h3 z (e1 ▸ List.mem_append.mpr (.inl h)) (o1 z h)))
    · rcases List.mem_cons.mp h with rfl | h
      · exact List.Mem.head _
      · exact List.Mem.tail _ (List.Mem.tail _ (h3 z (e1 ▸ List.mem_append.mpr (.inr (List.Mem.tail _ h))) (o2 z h)))
end Mine
end

section
open PySem PySem.W PyProof.Rows
namespace Mine
/-- one turn's datum -/
def Turn (d : Dat) : Prop := ∃ a b c : Int, d = .tuple [.int a, .int b, .int c] ∧ (0 ≤ a ∧ a < 8) ∧ (0 ≤ b ∧ b < 5) ∧ (0 ≤ c ∧ c < 4)
def Turns (ds : List Dat) : Prop := ∀ d ∈ ds, Turn d
theorem allLt_mem {d : Addr} {l : List (Addr × Obj)} (h : AllLt d l) (p : Addr × Obj) (hp : p ∈ l) : @LT.lt Nat _ p.1 d := by
  induction l with
  | nil => cases hp
  | cons q r ih =>
    cases List.mem_cons.mp hp with
    | inl e => exact e ▸ h.1
    | inr hp => exact ih h.2 hp
theorem Turns.snoc {ds : List Dat} {a b c : Int} (h : Turns ds) (a0 : 0 ≤ a) (a1 : a < 8) (b0 : 0 ≤ b) (b1 : b < 5) (c0 : 0 ≤ c) (c1 : c < 4) : Turns (ds ++ [.tuple [.int a, .int b, .int c]]) := by
  intro d hd
  rcases List.mem_append.mp hd with h' | h'
  · exact h d h'
  · rw [List.mem_singleton.mp h']; exact ⟨a, b, c, rfl, ⟨a0, a1⟩, ⟨b0, b1⟩, ⟨c0, c1⟩⟩

section
variable {prog : Program} {w : World} {A : Around} {E : Value → Shared → Prop} {s : Shared} {env : Env} {h₀ : Heap} {x : Str} {body : List Stmt} {Q : Flow → Shared → Prop}
abbrev TS := List Value × List Dat × Nat × Int × Tok
abbrev tsLed (l p q : Addr) (n : Nat) (c : TS) : List (Addr × Obj) := [(l, listOf c.1.toArray c.2.2.1), (p, listOf [.ref q, .int c.2.2.2.1 c.2.2.2.2].toArray n)]
abbrev tsStored : List Str := [Str.ofString "last", Str.ofString "deed", Str.ofString "which"]
abbrev tsP (pre : List Int) (c : TS) : Prop := c.2.1.length = pre.length ∧ c.2.2.2.1 = 1 + 3 * (pre.length : Int) ∧ Turns c.2.1
abbrev tsJ (l p q : Addr) (n n' : Nat) (vs : List Value) (m₀ : Str → Option Value) (x : Str) (pre : List Int) := KdS (σ := TS) (tsLed l p q n) [(q, listOf vs.toArray n')] (fun _ => []) (fun L9 c => DatAll L9 c.1 c.2.1) x tsStored m₀ tsP [l, p, q] pre

theorem turns_loop {r l p q : Addr} {rr : Int} {t₀ u₀ v₀ tp : Tok} {m₀ : Str → Option Value} {n n' : Nat} {vs : List Value}
    (hh : A.handled = none) (hr : IsRange s.heap r 0 (6 + rr) 1 t₀ u₀ v₀) (r0 : 0 ≤ rr) (r1 : rr < 5) (F : Fr h₀ env.locals s.heap m₀)
    (N : News h₀ env.locals s.heap [(l, listOf #[] 0), (p, listOf [.ref q, .int (0 + 1) tp].toArray n), (q, listOf vs.toArray n')])
    (turn : ∀ us ds c tp (tl : List (Addr × Obj)) (pre : List Int) (k : Int) t (u : Str → Option Value) h tk own, pre.length < 10 → us.length < 10 → ds.length = pre.length → Turns ds → DatAll ((q, listOf vs.toArray n') :: tl) us ds → KdSep own tl [l, p, q] → OwnOff (tl ++ own) [l, p, q] →
      Fr h₀ env.locals h (fun y => if y = x then some (.int k t) else if tsStored.contains y then u y else m₀ y) →
      News h₀ env.locals h ((l, listOf us.toArray c) :: (p, listOf [.ref q, .int (1 + 3 * (pre.length : Int)) tp].toArray n) :: (q, listOf vs.toArray n') :: (tl ++ own)) →
      wpAny (model prog w) A (execs body env) (InvPostG h₀ env.locals (tsJ l p q n n' vs m₀ x (pre ++ [k])) own { s with heap := h, toks := tk } Q) E { s with heap := h, toks := tk })
    (done : ∀ us ds c (tl : List (Addr × Obj)) (u : Str → Option Value) h tk, us.length ≤ 10 → 6 ≤ ds.length → ds.length ≤ 10 → Turns ds → DatAll tl us ds →
      Fr h₀ env.locals h (fun y => if y = x then u y else if tsStored.contains y then u y else m₀ y) → News h₀ env.locals h ((l, listOf us.toArray c) :: tl) → Q .next { s with heap := h, toks := tk }) :
    wpAny (model prog w) A (pyIter (.ref r)) (fun it s₂ => LoopAtV prog w A h₀ env x body Q E it s₂) E s := by
  have e6 : Builtin.Range.rangeSize 0 (6 + rr) 1 = ((6 + rr).toNat : Int) := by rw [rangeSize_nat]; simp
  have hb : Builtin.Range.small 0 (6 + rr) 1 = true := small_one (by omega) (by omega) (by omega) (by omega)
  refine kd_range (σ := TS) (tsLed l p q n) [(q, listOf vs.toArray n')] (fun _ => []) (fun L9 c => DatAll L9 c.1 c.2.1) tsStored tsP [l, p, q] ([], [], 0, 0 + 1, tp) hh hr hb e6 F N (fun z hz => hz) (fun _ => rfl) .nil (fun _ h => nomatch h) ⟨rfl, rfl, fun _ h => nomatch h⟩ ?_ ?_
  · rintro ⟨us, ds, c, k', tp'⟩ tl pre k t u h tk own hk hlt hsep hoff hf ⟨e1, e2, e3⟩ F' N'
    dsimp only at e1 e2 e3 hf
    subst e2
    exact turn us ds c tp' tl pre k t u h tk own (by omega) (by rw [hf.length]; omega) e1 e3 hf hsep hoff F' N'
  · rintro ⟨us, ds, c, k', tp'⟩ tl u h tk hoff hf ⟨e1, e2, e3⟩ F' N'
    dsimp only at e1 e2 e3 hf
    rw [rangeKs_length] at e1
    exact done us ds c ((q, listOf vs.toArray n') :: tl) u h tk (by rw [hf.length]; omega) (by omega) (by omega) e3 hf F' (cb_drop N' fun z hz => by
      rcases List.mem_cons.mp hz with rfl | hz
      · exact List.Mem.head _
      · exact List.Mem.tail _ (List.Mem.tail _ hz))

abbrev tupOf (vs : List Value) : Obj := { cls := .type "tuple", data := .seq vs.toArray }
theorem turns_end {l p q D D1 L : Addr} {n n' c' : Nat} {us vs : List Value} {ds : List Dat} {pre : List Int} {k k' a b e : Int} {ta tb te tp : Tok} {own tl : List (Addr × Obj)} {m₀ m' : Str → Option Value} {s₁ : Shared} {h' : Heap} {tk : Nat} {o1 : Obj}
    (hsep : KdSep own tl [l, p, q]) (hT : Turns ds) (hlen : ds.length = pre.length) (hD : DatAll ((q, listOf vs.toArray n') :: tl) us ds)
    (a0 : 0 ≤ a) (a1 : a < 8) (b0 : 0 ≤ b) (b1 : b < 5) (e0 : 0 ≤ e) (e1 : e < 4)
    (hlt : @LT.lt Nat _ D1 D ∧ @LT.lt Nat _ l D ∧ @LT.lt Nat _ p D ∧ @LT.lt Nat _ q D ∧ AllLt D (tl ++ own))
    (hk : k' = 1 + 3 * (pre.length : Int) + 3)
    (F : Fr h₀ L h' m')
    (N : News h₀ L h' ((D, tupOf [.int a ta, .int b tb, .int e te]) :: (D1, o1) :: (l, listOf (us.toArray.push (.ref D)) c') :: (p, listOf [.ref q, .int k' tp].toArray n) :: (q, listOf vs.toArray n') :: (tl ++ own)))
    (hm : ∀ z, z ≠ x → tsStored.contains z = false → m' z = m₀ z) :
    InvEndG h₀ L (tsJ l p q n n' vs m₀ x (pre ++ [k])) own s₁ { s₁ with heap := h', toks := tk } := by
  have hAll := allLt_mem hlt.2.2.2.2
  refine kd_end (σ := TS) (us ++ [.ref D], ds ++ [.tuple [.int a, .int b, .int e]], c', k', tp) [(D, tupOf [.int a ta, .int b tb, .int e te])] hsep F N ?_ ?_ rfl ?_ ?_ (fun _ h => nomatch h) (fun z h1 _ h3 => hm z h1 h3) ?_ ?_
  · intro z hz
    simp only [tsLed, List.cons_append, List.nil_append, List.mem_cons, List.mem_append, List.push_toArray, List.not_mem_nil, or_false] at hz ⊢
    grind
  · intro z hz
    simp only [List.mem_cons, List.mem_append]
    grind
  · intro z hz y hy
    simp only [List.mem_singleton] at hz
    subst hz
    simp only [List.mem_cons, List.not_mem_nil, or_false] at hy
    obtain ⟨_, h2, h3, h4, _⟩ := hlt
    rcases hy with rfl | rfl | rfl
    · exact Nat.ne_of_lt h2
    · exact Nat.ne_of_lt h3
    · exact Nat.ne_of_lt h4
  · intro z hz y hy
    simp only [List.mem_singleton] at hz
    subst hz
    exact Nat.ne_of_lt (hAll y (List.mem_append.mpr (.inr hy)))
  · refine DatAll.append (DatAll.mono (fun z hz => ?_) hD) (.one (.tuple (a := D) (vs := [.int a ta, .int b tb, .int e te]) (n := 0) ?_ (.cons (.int _ _) (.cons (.int _ _) (.cons (.int _ _) .nil)))))
    · rcases List.mem_cons.mp hz with rfl | hz
      · exact List.Mem.head _
      · exact List.Mem.tail _ (List.Mem.tail _ hz)
    · exact List.Mem.tail _ (List.Mem.head _)
  · refine ⟨by simp [hlen], ?_, hT.snoc a0 a1 b0 b1 e0 e1⟩
    show k' = _
    rw [hk]; simp; omega
end

local macro_rules | `(tactic| walk_at "call ref") => `(tactic| (k_here; k_dflt (refine' draw_call ?B ?F ?X ?N ?T ?hk ?U ?hq ?hpq ?hi ?hlen ?h0 ?h1 ?hm ?hm' ?hdp ?hu ?_; (case B => k_asm); (case F => k_asm); (case X => k_asm); (case N => k_asm); (case T => k_asm); (case hk => first | exact rfl | assumption); (case U => (intro t'; k_upd)); (case hq => k_memK); (case hpq => first | assumption | omega); (case hi => assumption); (case hlen => assumption); (case h0 => omega); (case h1 => omega); (case hm => decide); (case hm' => decide); (case hdp => ktr_room); (case hu => ktr_units); k_whole); intro r' t' h' tk' t'' hr0' hr1' F' N'; (try dsimp only); (try k_sweep)))
local macro_rules | `(tactic| walk_at "pyIter ref") => `(tactic| ((with_reducible show wpAny _ _ (pyIter (Value.ref _)) (fun it s₂ => LoopAtV _ _ _ _ _ _ _ _ _ it s₂) _ _); k_here; (with_unfolding_all refine' turns_loop ?hh ?hr ?r0 ?r1 ?F ?N ?_ ?_; (case hh => exact rfl); (case hr => assumption); (case r0 => assumption); (case r1 => assumption); (case F => k_asm); (case N => k_asm)); (case' _ => (intro us ds c tp tl pre k t u h tk own hlt hul hlen9 hT hD hsep hoff F' N')); (try k_fold)))
set_option maxRecDepth 100000 in
set_option maxHeartbeats 8000000 in
theorem turns_spec {w : World} {mean : ExcName → Option Value} {mg mb : Str → Option Value} {dp un : Nat} {gd : Option (List Code)} {cn : Str} {cs : Scope} {a : Addr} {ccd : Value} {cl : List (Str × Addr)} {outer : List Env} {A₀ : Around} {base h₀ : Heap} {L : Addr} {m : Str → Option Value} {s : Shared} {Q E : Value → Shared → Prop}
    {p q : Addr} {vs : List Value} {ns : List Int} {t : Tok} {n n' : Nat}
    (B : Below A₀ base outer h₀) (F : Fr h₀ L s.heap m) (X : (hd.heap_39 w.params).In h₀)
    (N : News h₀ L s.heap [(p, listOf [.ref q, .int 0 t].toArray n), (q, listOf vs.toArray n')])
    (T : Top hd.view_39 (looseW hd.view_39 []) mean mg mb h₀) (hk : cs.kind = .function)
    (hpq : @Ne Nat q p) (hi : IntsAre vs ns) (hlen : ns.length ≤ 31)
    (hdp : dp + 2 < recursionLimit) (hu : un + 16 < cLine)
    (ret : ∀ l us ds c tl h' tk', us.length ≤ 10 → 6 ≤ ds.length → ds.length ≤ 10 → Turns ds → DatAll tl us ds → Fr h₀ L h' m → News h₀ L h' ((l, listOf us.toArray c) :: tl) → Q (.ref l) { s with heap := h', toks := tk' }) :
    wpAny (model PySem.Challenge.rw_tk0087_01.row.prog w) (ktrTop dp un gd cn cs L a ccd cl outer) (call (.ref 140) [.ref p]) Q E s := by
  w_top off
  revert X; k_fill; intro X
  refine wpAny_call ?_
  k_dflt cell_enter
  k_steps
  all_goals (first
    | exact ret _ _ _ _ _ _ _ (by assumption) (by assumption) (by assumption) (by assumption) (by assumption) (by assumption) (by assumption)
    | skip)
  all_goals (refine turns_end (hsep := by assumption) (hT := by assumption) (hlen := by assumption) (hD := by assumption) (a0 := ?_) (a1 := ?_) (b0 := ?_) (b1 := ?_) (e0 := ?_) (e1 := ?_) (hlt := by assumption) (F := by assumption) (N := by assumption) (hk := ?_) (hm := ?_))
  all_goals first
    | assumption
    | omega
    | (intro z h1 h3
       have h4 := h3
       simp only [tsStored, List.contains_cons, List.contains_nil, Bool.or_false, Bool.or_eq_false_iff, beq_eq_false_iff_ne, ne_eq] at h4
       simp only [h1, h3, h4.1, h4.2.1, h4.2.2, if_false, Bool.false_eq_true])
end Mine
end

section
open PySem PySem.W PyProof.Rows
namespace Mine
/-- the sender's state: window, threshold, recovery_at, in_flight, credit (with their marks) -/
abbrev SS := Int × Tok × Value × Value × Int × Tok × Int × Tok
abbrev Ks := Tok × Tok × Tok × Tok × Tok × Tok × Tok
abbrev sEs (w : World) (k : Ks) (c : SS) : List DictEntry :=
  [⟨PyData.keyHash w.params (Str.ofString "datagram"), .str (Str.ofString "datagram") k.1, .int 100 k.2.1⟩,
   ⟨PyData.keyHash w.params (Str.ofString "window"), .str (Str.ofString "window") k.2.2.1, .int c.1 c.2.1⟩,
   ⟨PyData.keyHash w.params (Str.ofString "threshold"), .str (Str.ofString "threshold") k.2.2.2.1, c.2.2.1⟩,
   ⟨PyData.keyHash w.params (Str.ofString "recovery_at"), .str (Str.ofString "recovery_at") k.2.2.2.2.1, c.2.2.2.1⟩,
   ⟨PyData.keyHash w.params (Str.ofString "in_flight"), .str (Str.ofString "in_flight") k.2.2.2.2.2.1, .int c.2.2.2.2.1 c.2.2.2.2.2.1⟩,
   ⟨PyData.keyHash w.params (Str.ofString "credit"), .str (Str.ofString "credit") k.2.2.2.2.2.2, .int c.2.2.2.2.2.2.1 c.2.2.2.2.2.2.2⟩]
inductive OptInt : Value → Prop
  | none : OptInt .none
  | int (i : Int) (t : Tok) : OptInt (.int i t)
/-- what always holds of the window, the threshold, recovery_at and the credit -/
abbrev SOk (bnd : Int) (c : SS) : Prop := 200 ≤ c.1 ∧ c.1 ≤ bnd ∧ 0 ≤ c.2.2.2.2.2.2.1 ∧ c.2.2.2.2.2.2.1 < c.1 ∧ OptInt c.2.2.1 ∧ OptInt c.2.2.2.1
abbrev inFl (c : SS) : Int := c.2.2.2.2.1
theorem widen_ok {W C sz : Int} (hs0 : 0 ≤ sz) (hs1 : sz ≤ 93) (hW : 200 ≤ W) (hC : 0 ≤ C) (hC2 : C < W) :
    0 ≤ (C + 100 * sz).fdiv W ∧ (C + 100 * sz).fdiv W ≤ 50 ∧ 0 ≤ C + 100 * sz - (C + 100 * sz).fdiv W * W ∧ C + 100 * sz - (C + 100 * sz).fdiv W * W < W := by
  have hf : (C + 100 * sz).fdiv W = (C + 100 * sz) / W := Int.fdiv_eq_ediv_of_nonneg _ (by omega)
  rw [hf]
  have h1 : 0 ≤ (C + 100 * sz) / W := Int.ediv_nonneg (by omega) (by omega)
  have h2 : (C + 100 * sz) / W < 48 := Int.ediv_lt_of_lt_mul (by omega) (by omega)
  have h3 := Int.emod_nonneg (C + 100 * sz) (b := W) (by omega)
  have h4 := Int.emod_lt_of_pos (C + 100 * sz) (b := W) (by omega)
  have h5 := Int.emod_add_mul_ediv (C + 100 * sz) W
  rw [Int.mul_comm W ((C + 100 * sz) / W)] at h5
  omega
theorem widen_ok2 {W C sz bnd : Int} {a b : Tok} {I : Int} {e : Tok} {V1 V2 : Value} (hs0 : 0 ≤ sz) (hs1 : sz ≤ 93) (hb9 : bnd ≤ 3000) (hW : 200 ≤ W) (hW2 : W ≤ bnd) (hC : 0 ≤ C) (hC2 : C < W) (h1 : OptInt V1) (h2 : OptInt V2) :
    SOk (bnd + 100) (W + (C + 100 * sz).fdiv W, a, V1, V2, I, e, C + 100 * sz - (C + 100 * sz).fdiv W * W, b) := by
  obtain ⟨q1, q2, q3, q4⟩ := widen_ok hs0 hs1 hW hC hC2
  exact ⟨by dsimp only; omega, by dsimp only; omega, by dsimp only; omega, by dsimp only; omega, h1, h2⟩
theorem lost_ok {W bnd : Int} {a b e t' : Tok} {I y : Int} {V2 : Value} (hW : 200 ≤ W) (hW2 : W ≤ bnd) (h2 : OptInt V2) :
    SOk bnd (if 2 * 100 > (W * 1).fdiv 2 then 2 * 100 else (W * 1).fdiv 2, a, .int y t', V2, I, e, 0, b) := by
  have hf : (W * 1).fdiv 2 = W / 2 := by rw [Int.mul_one]; exact Int.fdiv_eq_ediv_of_nonneg _ (by omega)
  rw [hf]
  refine ⟨?_, ?_, Int.le_refl 0, ?_, .int _ _, h2⟩ <;> dsimp only <;> split <;> omega
local macro_rules | `(tactic| k_room) => `(tactic| ktr_room)
local macro_rules | `(tactic| walk_at "call ref") => `(tactic| (k_here; k_dflt (refine wpAny_call ?_; k_enter)))
section
variable {w : World} {mean : ExcName → Option Value} {mg mb : Str → Option Value} {dp un : Nat} {gd : Option (List Code)} {cn : Str} {cs : Scope} {a : Addr} {ccd : Value} {cl : List (Str × Addr)} {outer : List Env} {A₀ : Around} {base h₀ : Heap} {L : Addr} {m : Str → Option Value} {s : Shared} {Q E : Value → Shared → Prop}
    {x d : Addr} {ks : Ks} {c : SS} {bnd sz : Int} {t : Tok} {r : List (Addr × Obj)}
set_option maxRecDepth 100000 in
set_option maxHeartbeats 8000000 in
theorem sent_spec 
    (B : Below A₀ base outer h₀) (F : Fr h₀ L s.heap m) (X : (hd.heap_39 w.params).In h₀)
    (N : News h₀ L s.heap ((d, dictOf (sEs w ks c) 6) :: (x, instObj 122 d) :: r))
    (T : Top hd.view_39 (looseW hd.view_39 []) mean mg mb h₀) (hk : cs.kind = .function)
    (hoff : OwnOff r [d]) (hxd : @Ne Nat x d) (hc : SOk bnd c) 
    (hdp : dp + 1 < recursionLimit) (hu : un + 8 < cLine)
    (ret : ∀ c' h' tk', SOk bnd c' → inFl c' = inFl c + sz → Fr h₀ L h' m → News h₀ L h' ((d, dictOf (sEs w ks c') 6) :: (x, instObj 122 d) :: r) → Q .none { s with heap := h', toks := tk' }) :
    wpAny (model PySem.Challenge.rw_tk0087_01.row.prog w) (ktrTop dp un gd cn cs L a ccd cl outer) (call (.ref 77) [.ref x, .int sz t]) Q E s := by
  w_top off
  revert X; k_fill; intro X
  obtain ⟨W, tW, V1, V2, I, tI, C, tC⟩ := c
  obtain ⟨hW, hW2, hC, hC2, hV1, hV2⟩ := hc
  dsimp only at hW hW2 hC hC2 hV1 hV2
  dsimp only [sEs] at N
  refine wpAny_call ?_
  k_dflt cell_enter
  k_steps
  all_goals (refine' ret (_, _, _, _, _, _, _, _) _ _ ?h1 ?h2 ?h3 ?h4; (case h4 => assumption); (case h3 => assumption); (case h2 => rfl); (case h1 => exact ⟨by first | assumption | omega, by first | assumption | omega, by first | assumption | omega, by first | assumption | omega, by first | assumption | constructor, by first | assumption | constructor⟩))

set_option maxRecDepth 100000 in
set_option maxHeartbeats 8000000 in
theorem disc_spec 
    (B : Below A₀ base outer h₀) (F : Fr h₀ L s.heap m) (X : (hd.heap_39 w.params).In h₀)
    (N : News h₀ L s.heap ((d, dictOf (sEs w ks c) 6) :: (x, instObj 122 d) :: r))
    (T : Top hd.view_39 (looseW hd.view_39 []) mean mg mb h₀) (hk : cs.kind = .function)
    (hoff : OwnOff r [d]) (hxd : @Ne Nat x d) (hc : SOk bnd c) 
    (hdp : dp + 1 < recursionLimit) (hu : un + 8 < cLine)
    (ret : ∀ c' h' tk', SOk bnd c' → inFl c' = inFl c - sz → Fr h₀ L h' m → News h₀ L h' ((d, dictOf (sEs w ks c') 6) :: (x, instObj 122 d) :: r) → Q .none { s with heap := h', toks := tk' }) :
    wpAny (model PySem.Challenge.rw_tk0087_01.row.prog w) (ktrTop dp un gd cn cs L a ccd cl outer) (call (.ref 84) [.ref x, .int sz t]) Q E s := by
  w_top off
  revert X; k_fill; intro X
  obtain ⟨W, tW, V1, V2, I, tI, C, tC⟩ := c
  obtain ⟨hW, hW2, hC, hC2, hV1, hV2⟩ := hc
  dsimp only at hW hW2 hC hC2 hV1 hV2
  dsimp only [sEs] at N
  refine wpAny_call ?_
  k_dflt cell_enter
  k_steps
  all_goals (refine' ret (_, _, _, _, _, _, _, _) _ _ ?h1 ?h2 ?h3 ?h4; (case h4 => assumption); (case h3 => assumption); (case h2 => rfl); (case h1 => exact ⟨by first | assumption | omega, by first | assumption | omega, by first | assumption | omega, by first | assumption | omega, by first | assumption | constructor, by first | assumption | constructor⟩))

set_option maxRecDepth 100000 in
set_option maxHeartbeats 8000000 in
theorem acked_spec {u now : Int} {tu tn t9 : Tok} 
    (B : Below A₀ base outer h₀) (F : Fr h₀ L s.heap m) (X : (hd.heap_39 w.params).In h₀)
    (N : News h₀ L s.heap ((d, dictOf (sEs w ks c) 6) :: (x, instObj 122 d) :: r))
    (T : Top hd.view_39 (looseW hd.view_39 []) mean mg mb h₀) (hk : cs.kind = .function)
    (hoff : OwnOff r [d]) (hxd : @Ne Nat x d) (hc : SOk bnd c) (hs0 : 0 ≤ sz) (hs1 : sz ≤ 93) (hb : bnd ≤ 3000)
    (hdp : dp + 3 < recursionLimit) (hu : un + 24 < cLine)
    (ret : ∀ c' h' tk', SOk (bnd + 100) c' → inFl c' = inFl c - sz → Fr h₀ L h' m → News h₀ L h' ((d, dictOf (sEs w ks c') 6) :: (x, instObj 122 d) :: r) → Q .none { s with heap := h', toks := tk' }) :
    wpAny (model PySem.Challenge.rw_tk0087_01.row.prog w) (ktrTop dp un gd cn cs L a ccd cl outer) (call (.ref 91) [.ref x, .int sz t, .int u tu, .bool true, .int now tn, .int 100 t9]) Q E s := by
  w_top off
  revert X; k_fill; intro X
  obtain ⟨W, tW, V1, V2, I, tI, C, tC⟩ := c
  obtain ⟨hW, hW2, hC, hC2, hV1, hV2⟩ := hc
  dsimp only at hW hW2 hC hC2 hV1 hV2
  dsimp only [sEs] at N
  cases hV1 <;> cases hV2
  all_goals (
    refine wpAny_call ?_
    k_dflt cell_enter
    k_steps)
  all_goals (refine' ret (_, _, _, _, _, _, _, _) _ _ ?h1 ?h2 ?h3 ?h4; (case h4 => assumption); (case h3 => assumption); (case h2 => rfl); (case h1 => first | exact ⟨by dsimp only; omega, by dsimp only; omega, by dsimp only; omega, by dsimp only; omega, by constructor, by constructor⟩ | exact widen_ok2 hs0 hs1 hb hW hW2 hC hC2 (by constructor) (by constructor)))
set_option maxRecDepth 100000 in
set_option maxHeartbeats 8000000 in
theorem lost_spec {u now : Int} {tu tn : Tok} 
    (B : Below A₀ base outer h₀) (F : Fr h₀ L s.heap m) (X : (hd.heap_39 w.params).In h₀)
    (N : News h₀ L s.heap ((d, dictOf (sEs w ks c) 6) :: (x, instObj 122 d) :: r))
    (T : Top hd.view_39 (looseW hd.view_39 []) mean mg mb h₀) (hk : cs.kind = .function)
    (hoff : OwnOff r [d]) (hxd : @Ne Nat x d) (hc : SOk bnd c) (hs0 : 0 ≤ sz) (hs1 : sz ≤ 93) (hb : bnd ≤ 3000)
    (hdp : dp + 3 < recursionLimit) (hu : un + 24 < cLine)
    (ret : ∀ c' h' tk', SOk bnd c' → inFl c' = inFl c - sz → Fr h₀ L h' m → News h₀ L h' ((d, dictOf (sEs w ks c') 6) :: (x, instObj 122 d) :: r) → Q .none { s with heap := h', toks := tk' }) :
    wpAny (model PySem.Challenge.rw_tk0087_01.row.prog w) (ktrTop dp un gd cn cs L a ccd cl outer) (call (.ref 112) [.ref x, .int sz t, .int u tu, .int now tn]) Q E s := by
  w_top off
  revert X; k_fill; intro X
  obtain ⟨W, tW, V1, V2, I, tI, C, tC⟩ := c
  obtain ⟨hW, hW2, hC, hC2, hV1, hV2⟩ := hc
  dsimp only at hW hW2 hC hC2 hV1 hV2
  dsimp only [sEs] at N
  cases hV1 <;> cases hV2
  all_goals (
    refine wpAny_call ?_
    k_dflt cell_enter
    k_steps)
  all_goals (refine' ret (_, _, _, _, _, _, _, _) _ _ ?_ ?h2 ?h3 ?h4; (case h4 => assumption); (case h3 => assumption); (case h2 => rfl))
  all_goals (try exact ⟨by dsimp only; omega, by dsimp only; omega, by dsimp only; omega, by dsimp only; omega, by constructor, by constructor⟩)
  all_goals exact lost_ok hW hW2 (by constructor)

theorem split_two {led : List (Addr × Obj)} {led' : SS → List (Addr × Obj)} {o : Obj} {f : SS → Obj} {ox : Obj} (U : ∀ c', Upd d o (f c') led (led' c')) (hx : (x, ox) ∈ led) (hxd : @Ne Nat x d) :
    ∃ r, OwnOff r [d] ∧ (∀ z ∈ (d, o) :: (x, ox) :: r, z ∈ led) ∧ True ∧ ∀ c', ∀ z ∈ led' c', z ∈ (d, f c') :: (x, ox) :: r := by
  obtain ⟨r, ho, h1, _, h3⟩ := upd_split_off (U (0, 0, .none, .none, 0, 0, 0, 0))
  refine ⟨r, fun z hz b hb => by rw [List.mem_singleton.mp hb]; exact ho z hz, fun z hz => ?_, trivial, fun c' z hz => ?_⟩
  · rcases List.mem_cons.mp hz with rfl | hz
    · exact h1 _ (List.Mem.head _)
    · rcases List.mem_cons.mp hz with rfl | hz
      · exact hx
      · exact h1 _ (List.Mem.tail _ hz)
  · obtain ⟨pre, post, e1, e2, o1, o2⟩ := (U c').split
    rw [e2] at hz
    rcases List.mem_append.mp hz with h | h
    · exact List.Mem.tail _ (List.Mem.tail _ (h3 z (e1 ▸ List.mem_append.mpr (.inl h)) (o1 z h)))
    · rcases List.mem_cons.mp h with rfl | h
      · exact List.Mem.head _
      · exact List.Mem.tail _ (List.Mem.tail _ (h3 z (e1 ▸ List.mem_append.mpr (.inr (List.Mem.tail _ h))) (o2 z h)))

theorem sent_call  {led : List (Addr × Obj)} {led' : SS → List (Addr × Obj)}
    (B : Below A₀ base outer h₀) (F : Fr h₀ L s.heap m) (X : (hd.heap_39 w.params).In h₀) (N : News h₀ L s.heap led)
    (T : Top hd.view_39 (looseW hd.view_39 []) mean mg mb h₀) (hk : cs.kind = .function)
    (hx : (x, instObj 122 d) ∈ led) (U : ∀ c', Upd d (dictOf (sEs w ks c) 6) (dictOf (sEs w ks c') 6) led (led' c')) (hxd : @Ne Nat x d) (hc : SOk bnd c) 
    (hdp : dp + 1 < recursionLimit) (hu : un + 8 < cLine)
    (ret : ∀ c' h' tk', SOk bnd c' → inFl c' = inFl c + sz → Fr h₀ L h' m → News h₀ L h' (led' c') → Q .none { s with heap := h', toks := tk' }) :
    wpAny (model PySem.Challenge.rw_tk0087_01.row.prog w) (ktrTop dp un gd cn cs L a ccd cl outer) (call (.ref 77) [.ref x, .int sz t]) Q E s := by
  obtain ⟨r, ho, h1, h3, h4⟩ := split_two U hx hxd
  exact sent_spec B F X (cb_drop N h1) T hk ho hxd hc hdp hu fun c' h' tk' a1 a2 F' N' => ret c' h' tk' a1 a2 F' (cb_drop N' (h4 c'))

theorem disc_call  {led : List (Addr × Obj)} {led' : SS → List (Addr × Obj)}
    (B : Below A₀ base outer h₀) (F : Fr h₀ L s.heap m) (X : (hd.heap_39 w.params).In h₀) (N : News h₀ L s.heap led)
    (T : Top hd.view_39 (looseW hd.view_39 []) mean mg mb h₀) (hk : cs.kind = .function)
    (hx : (x, instObj 122 d) ∈ led) (U : ∀ c', Upd d (dictOf (sEs w ks c) 6) (dictOf (sEs w ks c') 6) led (led' c')) (hxd : @Ne Nat x d) (hc : SOk bnd c) 
    (hdp : dp + 1 < recursionLimit) (hu : un + 8 < cLine)
    (ret : ∀ c' h' tk', SOk bnd c' → inFl c' = inFl c - sz → Fr h₀ L h' m → News h₀ L h' (led' c') → Q .none { s with heap := h', toks := tk' }) :
    wpAny (model PySem.Challenge.rw_tk0087_01.row.prog w) (ktrTop dp un gd cn cs L a ccd cl outer) (call (.ref 84) [.ref x, .int sz t]) Q E s := by
  obtain ⟨r, ho, h1, h3, h4⟩ := split_two U hx hxd
  exact disc_spec B F X (cb_drop N h1) T hk ho hxd hc hdp hu fun c' h' tk' a1 a2 F' N' => ret c' h' tk' a1 a2 F' (cb_drop N' (h4 c'))

theorem acked_call {u now : Int} {tu tn t9 : Tok}  {led : List (Addr × Obj)} {led' : SS → List (Addr × Obj)}
    (B : Below A₀ base outer h₀) (F : Fr h₀ L s.heap m) (X : (hd.heap_39 w.params).In h₀) (N : News h₀ L s.heap led)
    (T : Top hd.view_39 (looseW hd.view_39 []) mean mg mb h₀) (hk : cs.kind = .function)
    (hx : (x, instObj 122 d) ∈ led) (U : ∀ c', Upd d (dictOf (sEs w ks c) 6) (dictOf (sEs w ks c') 6) led (led' c')) (hxd : @Ne Nat x d) (hc : SOk bnd c) (hs0 : 0 ≤ sz) (hs1 : sz ≤ 93) (hb : bnd ≤ 3000)
    (hdp : dp + 3 < recursionLimit) (hu : un + 24 < cLine)
    (ret : ∀ c' h' tk', SOk (bnd + 100) c' → inFl c' = inFl c - sz → Fr h₀ L h' m → News h₀ L h' (led' c') → Q .none { s with heap := h', toks := tk' }) :
    wpAny (model PySem.Challenge.rw_tk0087_01.row.prog w) (ktrTop dp un gd cn cs L a ccd cl outer) (call (.ref 91) [.ref x, .int sz t, .int u tu, .bool true, .int now tn, .int 100 t9]) Q E s := by
  obtain ⟨r, ho, h1, h3, h4⟩ := split_two U hx hxd
  exact acked_spec B F X (cb_drop N h1) T hk ho hxd hc hs0 hs1 hb hdp hu fun c' h' tk' a1 a2 F' N' => ret c' h' tk' a1 a2 F' (cb_drop N' (h4 c'))

theorem lost_call {u now : Int} {tu tn : Tok}  {led : List (Addr × Obj)} {led' : SS → List (Addr × Obj)}
    (B : Below A₀ base outer h₀) (F : Fr h₀ L s.heap m) (X : (hd.heap_39 w.params).In h₀) (N : News h₀ L s.heap led)
    (T : Top hd.view_39 (looseW hd.view_39 []) mean mg mb h₀) (hk : cs.kind = .function)
    (hx : (x, instObj 122 d) ∈ led) (U : ∀ c', Upd d (dictOf (sEs w ks c) 6) (dictOf (sEs w ks c') 6) led (led' c')) (hxd : @Ne Nat x d) (hc : SOk bnd c) (hs0 : 0 ≤ sz) (hs1 : sz ≤ 93) (hb : bnd ≤ 3000)
    (hdp : dp + 3 < recursionLimit) (hu : un + 24 < cLine)
    (ret : ∀ c' h' tk', SOk bnd c' → inFl c' = inFl c - sz → Fr h₀ L h' m → News h₀ L h' (led' c') → Q .none { s with heap := h', toks := tk' }) :
    wpAny (model PySem.Challenge.rw_tk0087_01.row.prog w) (ktrTop dp un gd cn cs L a ccd cl outer) (call (.ref 112) [.ref x, .int sz t, .int u tu, .int now tn]) Q E s := by
  obtain ⟨r, ho, h1, h3, h4⟩ := split_two U hx hxd
  exact lost_spec B F X (cb_drop N h1) T hk ho hxd hc hs0 hs1 hb hdp hu fun c' h' tk' a1 a2 F' N' => ret c' h' tk' a1 a2 F' (cb_drop N' (h4 c'))
end
end Mine
end

section
open PySem PySem.W PyProof.Rows
namespace Mine
/-! The plain law: what one run of the area reckons. -/
/-- told, now, own, what is out (size, since when) -/
abbrev AS := Int × Int × Int × List (Int × Int)
abbrev Tr := Int × Int × Int
def sumSz (os : List (Int × Int)) : Int := (os.map fun p => p.1).sum
def sumAge (now : Int) (os : List (Int × Int)) : Int := (os.map fun p => p.1 * (now - p.2)).sum
/-- which one is taken -/
def atOf (isT : Bool) (which : Int) (n : Nat) : Nat := if ((which.fmod 2 == 0) != isT) = true then 0 else n - 1
def astep (times : Int) (isT : Bool) (c : AS) (t : Tr) : AS :=
  if t.2.1 < 2 ∨ c.2.2.2 = [] then
    (c.1 + sumSz c.2.2.2 * t.1, c.2.1 + t.1, c.2.2.1, c.2.2.2 ++ [(times * (10 + 7 * t.2.2), c.2.1 + t.1)])
  else
    (c.1 + sumSz c.2.2.2 * t.1, c.2.1 + t.1,
      c.2.2.1 + (c.2.2.2.getD (atOf isT t.2.2 c.2.2.2.length) (0, 0)).1 * (c.2.1 + t.1 - (c.2.2.2.getD (atOf isT t.2.2 c.2.2.2.length) (0, 0)).2),
      c.2.2.2.take (atOf isT t.2.2 c.2.2.2.length) ++ c.2.2.2.drop (atOf isT t.2.2 c.2.2.2.length + 1))
abbrev a0 : AS := (0, 0, 0, [])
def area (times : Int) (isT : Bool) (ts : List Tr) : AS := ts.foldl (astep times isT) a0

theorem atOf_lt {isT : Bool} {which : Int} {n : Nat} (h : 0 < n) : atOf isT which n < n := by
  unfold atOf; split <;> omega
theorem sumSz_append (a b : List (Int × Int)) : sumSz (a ++ b) = sumSz a + sumSz b := by simp [sumSz]
theorem sumAge_append (now : Int) (a b : List (Int × Int)) : sumAge now (a ++ b) = sumAge now a + sumAge now b := by simp [sumAge]
theorem split_at {α : Type} (l : List α) (d : α) (k : Nat) (h : k < l.length) : l = l.take k ++ ([l.getD k d] ++ l.drop (k + 1)) := by
  have e : l.getD k d = l[k] := by simp [List.getD, h]
  rw [e]; simp
theorem sumSz_cut {os : List (Int × Int)} {k : Nat} (h : k < os.length) : sumSz (os.take k ++ os.drop (k + 1)) = sumSz os - (os.getD k (0, 0)).1 := by
  have e := congrArg sumSz (split_at os (0, 0) k h)
  rw [sumSz_append, sumSz_append] at e
  rw [sumSz_append, e]
  have : sumSz [os.getD k (0, 0)] = (os.getD k (0, 0)).1 := by simp [sumSz]
  omega
theorem sumAge_cut {now : Int} {os : List (Int × Int)} {k : Nat} (h : k < os.length) : sumAge now (os.take k ++ os.drop (k + 1)) = sumAge now os - (os.getD k (0, 0)).1 * (now - (os.getD k (0, 0)).2) := by
  have e := congrArg (sumAge now) (split_at os (0, 0) k h)
  rw [sumAge_append, sumAge_append] at e
  rw [sumAge_append, e]
  have : sumAge now [os.getD k (0, 0)] = (os.getD k (0, 0)).1 * (now - (os.getD k (0, 0)).2) := by simp [sumAge]
  omega
theorem sumAge_later (now d : Int) (os : List (Int × Int)) : sumAge (now + d) os = sumAge now os + sumSz os * d := by
  induction os with
  | nil => simp [sumAge, sumSz]
  | cons p r ih =>
    have h1 : sumAge (now + d) (p :: r) = p.1 * (now + d - p.2) + sumAge (now + d) r := by simp [sumAge]
    have h2 : sumAge now (p :: r) = p.1 * (now - p.2) + sumAge now r := by simp [sumAge]
    have h3 : sumSz (p :: r) = p.1 + sumSz r := by simp [sumSz]
    rw [h1, h2, h3, ih, Int.add_mul, show now + d - p.2 = (now - p.2) + d by omega, Int.mul_add]
    omega
/-- Little's law, at every moment -/
theorem little (times : Int) (isT : Bool) (ts : List Tr) : (area times isT ts).1 = (area times isT ts).2.2.1 + sumAge (area times isT ts).2.1 (area times isT ts).2.2.2 := by
  have key : ∀ (ts : List Tr) (c : AS), c.1 = c.2.2.1 + sumAge c.2.1 c.2.2.2 → (ts.foldl (astep times isT) c).1 = (ts.foldl (astep times isT) c).2.2.1 + sumAge (ts.foldl (astep times isT) c).2.1 (ts.foldl (astep times isT) c).2.2.2 := by
    intro ts
    induction ts with
    | nil => intro c h; exact h
    | cons t r ih =>
      intro c h
      refine ih _ ?_
      unfold astep
      split
      · show c.1 + sumSz c.2.2.2 * t.1 = c.2.2.1 + sumAge (c.2.1 + t.1) (c.2.2.2 ++ _)
        rw [sumAge_append, sumAge_later, h]
        have : sumAge (c.2.1 + t.1) [(times * (10 + 7 * t.2.2), c.2.1 + t.1)] = 0 := by simp [sumAge]
        omega
      · rename_i hn
        have hne : c.2.2.2 ≠ [] := fun e => hn (.inr e)
        have hl : 0 < c.2.2.2.length := List.length_pos_iff.mpr hne
        show c.1 + sumSz c.2.2.2 * t.1 = c.2.2.1 + _ + sumAge (c.2.1 + t.1) _
        rw [sumAge_cut (atOf_lt hl), sumAge_later, h]
        omega
  exact key ts a0 (by simp [sumAge])
/-- all sizes times as great: all sums times as great -/
theorem area_scale (times : Int) (isT : Bool) (ts : List Tr) : (area times isT ts).1 = times * (area 1 isT ts).1 := by
  have sum_map : ∀ os : List (Int × Int), sumSz (os.map fun p => (times * p.1, p.2)) = times * sumSz os := by
    intro os
    induction os with
    | nil => simp [sumSz]
    | cons p r ih => simp only [sumSz, List.map_cons, List.sum_cons] at ih ⊢; rw [ih, Int.mul_add]
  have key : ∀ (ts : List Tr) (c b : AS), c.1 = times * b.1 → c.2.1 = b.2.1 → c.2.2.2 = b.2.2.2.map (fun p => (times * p.1, p.2)) → (ts.foldl (astep times isT) c).1 = times * (ts.foldl (astep 1 isT) b).1 := by
    intro ts
    induction ts with
    | nil => intro c b h _ _; exact h
    | cons t r ih =>
      intro c b h1 h2 h3
      have he : (c.2.2.2 = []) ↔ (b.2.2.2 = []) := by rw [h3]; simp
      have hl : c.2.2.2.length = b.2.2.2.length := by rw [h3]; simp
      have hsum : c.1 + sumSz c.2.2.2 * t.1 = times * (b.1 + sumSz b.2.2.2 * t.1) := by rw [h1, h3, sum_map, Int.mul_add, Int.mul_assoc]
      simp only [List.foldl_cons]
      refine ih _ _ ?_ ?_ ?_
      · unfold astep
        by_cases hc : t.2.1 < 2 ∨ b.2.2.2 = []
        · rw [if_pos hc, if_pos (by rw [he]; exact hc)]; exact hsum
        · rw [if_neg hc, if_neg (by rw [he]; exact hc)]; exact hsum
      · unfold astep
        by_cases hc : t.2.1 < 2 ∨ b.2.2.2 = []
        · rw [if_pos hc, if_pos (by rw [he]; exact hc)]; show c.2.1 + t.1 = b.2.1 + t.1; rw [h2]
        · rw [if_neg hc, if_neg (by rw [he]; exact hc)]; show c.2.1 + t.1 = b.2.1 + t.1; rw [h2]
      · unfold astep
        by_cases hc : t.2.1 < 2 ∨ b.2.2.2 = []
        · rw [if_pos hc, if_pos (by rw [he]; exact hc)]
          show c.2.2.2 ++ _ = (b.2.2.2 ++ _).map _
          rw [List.map_append, ← h3, h2]; simp
        · rw [if_neg hc, if_neg (by rw [he]; exact hc)]
          show c.2.2.2.take _ ++ c.2.2.2.drop _ = (b.2.2.2.take _ ++ b.2.2.2.drop _).map _
          rw [hl, h3, List.map_append, List.map_take, List.map_drop]
  exact key ts a0 a0 (by simp) rfl rfl
theorem area_snoc (times : Int) (isT : Bool) (ts : List Tr) (t : Tr) : area times isT (ts ++ [t]) = astep times isT (area times isT ts) t := by simp [area]
end Mine
end

section
open PySem PySem.W PyProof.Rows PyProof.Rows.LCg PyProof.Rows.LCp
namespace Mine
abbrev pd (p : Int × Int) : Dat := .tuple [.int p.1, .int p.2]
theorem datIn_pair {L9 : List (Addr × Obj)} {v : Value} {p : Int × Int} (h : DatIn L9 v (pd p)) : ∃ a ta tb n, v = .ref a ∧ (a, ({ cls := .type "tuple", data := .seq [.int p.1 ta, .int p.2 tb].toArray n } : Obj)) ∈ L9 := by
  cases h with
  | tuple hm hd =>
    cases hd with
    | cons h1 h2 =>
      cases h2 with
      | cons h3 h4 =>
        cases h4
        cases h1
        cases h3
        exact ⟨_, _, _, _, rfl, hm⟩
section
variable {prog : Program} {w : World} {A : Around} {E : Value → Shared → Prop} {s : Shared} {h₀ : Heap} {L : Addr} {m : Str → Option Value} {env : Env}
  {elt : Expr} {x x₂ : Str} {scope : Scope} {cl : List (Str × Addr)} {S : List (Addr × Obj) → Prop} {news : List (Addr × Obj)} {Fin : List Value → List (Addr × Obj) → Prop}
/-- a comprehension over a list of pairs of ints, of any length -/
theorem comp_pairs {us : List Value} {os : List (Int × Int)} (g : Int → Int → Int) (hD : DatAll news us (os.map pd))
    (turn : ∀ a b ta tb I oI C oC D m₂ ys h tk (E' : Value → Shared → Prop), (a, b) ∈ os → NsObj oC m₂ → m₂ x = some (.int a ta) → m₂ x₂ = some (.int b tb) → Fr h₀ L h m → News h₀ L h ((I, oI) :: (C, oC) :: (D, lst ys) :: news) → Off3 I C D news → ((@Ne Nat I C) ∧ (@Ne Nat I D) ∧ (@Ne Nat C D)) →
      wpAny (model prog w) A (eval elt (compEnvC scope cl C env)) (CompEnd h₀ L m { s with heap := h, toks := tk } I oI C oC D (lst ys) S (fun y news' => KCfEl news (g a b) y news')) E' { s with heap := h, toks := tk })
    (fin : ∀ ys, IntsAre ys (os.map fun p => g p.1 p.2) → Fin ys news) :
    CompRestP prog w A h₀ L m env elt x x₂ scope cl s S (fun i v => us.toArray[i]? = some v) Fin us.toArray.size 0 [] news := by
  have hlen : us.length = os.length := by rw [hD.length, List.length_map]
  have key : ∀ k i ys, i + k = us.length → IntsAre ys ((os.take i).map fun p => g p.1 p.2) → CompRestP prog w A h₀ L m env elt x x₂ scope cl s S (fun i v => us.toArray[i]? = some v) Fin k i ys news := by
    intro k
    induction k with
    | zero =>
      intro i ys hi hy
      refine CompRestP.zero (fin ys ?_)
      rw [List.take_of_length_le (by omega)] at hy
      exact hy
    | succ k ih =>
      intro i ys hi hy
      refine CompRestP.succ fun v hv => ?_
      have hi' : i < os.length := by omega
      have hv' : us[i]? = some v := by simpa using hv
      obtain ⟨v', e', hd⟩ := hD.get (k := i) (by rw [List.length_map]; exact hi')
      rw [hv'] at e'
      obtain rfl := Option.some.inj e'
      rw [List.getElem_map] at hd
      obtain ⟨a, ta, tb, n, rfl, hm⟩ := datIn_pair hd
      refine ⟨a, _, _, _, n, rfl, hm, rfl, rfl, ?_⟩
      intro I oI C oC D m₂ h tk E' hC hx hx₂ F' N' off ne
      refine wpAny_mono (turn _ _ ta tb I oI C oC D m₂ ys h tk E' (List.getElem_mem hi') hC hx hx₂ F' N' off ne) (fun y s₂ he => ?_) fun _ _ e => e
      obtain ⟨h', tk', news', es, F₂, N₂, off₂, hS₂, hn, t, rfl⟩ := he
      subst hn
      refine ⟨h', tk', news', es, F₂, N₂, off₂, hS₂, ih (i + 1) _ (by omega) ?_⟩
      rw [List.take_add_one, List.getElem?_eq_getElem hi', List.map_append]
      exact hy.append (.cons _ _ .nil)
  exact key us.toArray.size 0 [] (by simp) .nil

theorem comp_ages {us : List Value} {os : List (Int × Int)} {now : Int} {tn : Tok} {oc : Obj} (hoc9 : oc.data = .cell (some (.int now tn))) (hsz : ∀ p ∈ os, 0 ≤ p.1 ∧ p.1 ≤ 93) (hD : DatAll news us (os.map pd))
    (turn : ∀ a b ta tb I oI C oC D m₂ ys h tk (E' : Value → Shared → Prop), 0 ≤ a → a ≤ 93 → NsObj oC m₂ → m₂ x = some (.int a ta) → m₂ x₂ = some (.int b tb) → Fr h₀ L h m → News h₀ L h ((I, oI) :: (C, oC) :: (D, lst ys) :: news) → Off3 I C D news → ((@Ne Nat I C) ∧ (@Ne Nat I D) ∧ (@Ne Nat C D)) →
      wpAny (model prog w) A (eval elt (compEnvC scope cl C env)) (CompEnd h₀ L m { s with heap := h, toks := tk } I oI C oC D (lst ys) S (fun y news' => KCfEl news (a * (now - b)) y news')) E' { s with heap := h, toks := tk })
    (fin : ∀ ys, IntsAre ys (os.map fun p => p.1 * (now - p.2)) → Fin ys news) :
    CompRestP prog w A h₀ L m env elt x x₂ scope cl s S (fun i v => us.toArray[i]? = some v) Fin us.toArray.size 0 [] news :=
  comp_pairs (fun a b => a * (now - b)) hD (fun a b ta tb I oI C oC D m₂ ys h tk E' hm hC hx hx₂ F N o n => turn a b ta tb I oI C oC D m₂ ys h tk E' (hsz _ hm).1 (hsz _ hm).2 hC hx hx₂ F N o n) fin
/-- out[:y] and out[x:] of any list -/
theorem pick_upto (us : List Value) {y : Int} (h : 0 ≤ y) : slicePick us.toArray none (some y) none = (us.take y.toNat).toArray := by
  rw [kms_pick_eq]
  simp only [kms_pick, kms_lo, kms_hi, if_neg (show ¬ y < 0 by omega), List.drop_zero, Nat.sub_zero, kmk_take_min]
theorem pick_from (us : List Value) {x : Int} (h : 0 ≤ x) : slicePick us.toArray (some x) none none = (us.drop x.toNat).toArray := by
  rw [kms_pick_eq]
  simp only [kms_pick, kms_lo, kms_hi, if_neg (show ¬ x < 0 by omega), kmk_drop_min]
  rw [List.take_of_length_le (by rw [List.length_drop]; omega)]
end
end Mine
end

section
open PySem PySem.W PyProof.Rows
namespace Mine
abbrev td (t : Tr) : Dat := .tuple [.int t.1, .int t.2.1, .int t.2.2]
abbrev TOk (t : Tr) : Prop := (0 ≤ t.1 ∧ t.1 < 8) ∧ (0 ≤ t.2.1 ∧ t.2.1 < 5) ∧ (0 ≤ t.2.2 ∧ t.2.2 < 4)
theorem datIn_trip {L9 : List (Addr × Obj)} {v : Value} {p : Tr} (h : DatIn L9 v (td p)) : ∃ a ta tb tc n, v = .ref a ∧ (a, ({ cls := .type "tuple", data := .seq [.int p.1 ta, .int p.2.1 tb, .int p.2.2 tc].toArray n } : Obj)) ∈ L9 := by
  cases h with
  | tuple hm hd =>
    cases hd with
    | cons h1 h2 =>
      cases h2 with
      | cons h3 h4 =>
        cases h4 with
        | cons h5 h6 =>
          cases h6
          cases h1
          cases h3
          cases h5
          exact ⟨_, _, _, _, _, rfl, hm⟩
/-- the frame's names that the loop reads -/
abbrev aPs (l x lo : Addr) (times : Int) (tt : Tok) (isT : Bool) (told : Int) (t1 : Tok) (own : Int) (t2 : Tok) : List (Str × Value) :=
  [(Str.ofString "turns", .ref l), (Str.ofString "times", .int times tt), (Str.ofString "is_turned", .bool isT), (Str.ofString "sender", .ref x),
   (Str.ofString "told", .int told t1), (Str.ofString "own", .int own t2), (Str.ofString "out", .ref lo), (Str.ofString "is_right", .bool true)]
abbrev aLed (w : World) (ks : Ks) (d lo lc x : Addr) (c : SS) (us : List Value) (cnt : Nat) (oc : Obj) (tl : List (Addr × Obj)) : List (Addr × Obj) :=
  (d, dictOf (sEs w ks c) 6) :: (lo, listOf us.toArray cnt) :: (lc, oc) :: (x, instObj 122 d) :: tl
structure AJ (w : World) (ks : Ks) (l x d lc : Addr) (vs : List Value) (nn : Nat) (ts : List Tr) (times : Int) (tt : Tok) (isT : Bool) (tl₀ : List (Addr × Obj)) (i : Nat) (m : Str → Option Value) (nx : List (Addr × Obj)) : Prop where
  ex : ∃ (told now own : Int) (os : List (Int × Int)) (c : SS) (t1 t2 tn : Tok) (lo : Addr) (us : List Value) (cnt : Nat) (oc : Obj) (tl : List (Addr × Obj)),
    nx = aLed w ks d lo lc x c us cnt oc tl ∧ (∀ p ∈ aPs l x lo times tt isT told t1 own t2, m p.1 = some p.2) ∧
    area times isT (ts.take i) = (told, now, own, os) ∧ SOk (1000 + 100 * (i : Int)) c ∧ inFl c = sumSz os ∧ (∀ p ∈ os, 0 ≤ p.1 ∧ p.1 ≤ 93) ∧ os.length ≤ i ∧
    DatAll tl us (os.map pd) ∧ oc.data = .cell (some (.int now tn)) ∧ (@Ne Nat lo d ∧ @Ne Nat lo lc ∧ @Ne Nat lo x) ∧ OwnOff tl [d, lo, lc] ∧ (l, listOf vs.toArray nn) ∈ tl ∧ DatAll tl vs (ts.map td) ∧ ∀ z ∈ tl₀, z ∈ tl

theorem fr_known {h₀ h : Heap} {L : Addr} {m : Str → Option Value} {ps : List (Str × Value)} (hp : ∀ p ∈ ps, m p.1 = some p.2) (F : Fr h₀ L h m) : Fr h₀ L h (kstB m ps) := by
  have e : kstB m ps = m := funext fun z => kstB_eq hp fun _ => rfl
  rw [e]; exact F

/-- the end of a turn -/
def AEndP (h₀ : Heap) (L : Addr) (J : (Str → Option Value) → List (Addr × Obj) → Prop) (own : List (Addr × Obj)) (s₁ : Shared) (f : Flow) (s₂ : Shared) : Prop := f = .next ∧ InvEndG h₀ L J own s₁ s₂

section
variable {prog : Program} {w : World} {A : Around} {E : Value → Shared → Prop} {s : Shared} {env : Env} {h₀ : Heap} {target : Expr} {body : List Stmt} {Q : Flow → Shared → Prop}
/-- a for over a list that the ledger bears, any target -/
theorem iterT {l : Addr} {vs : List Value} {nn : Nat} {m₀ : Str → Option Value} {news : List (Addr × Obj)} (J : Nat → (Str → Option Value) → List (Addr × Obj) → Prop)
    (hh : A.handled = none) (hJl : ∀ i m nx, J i m nx → (l, listOf vs.toArray nn) ∈ nx) (F : Fr h₀ env.locals s.heap m₀) (N : News h₀ env.locals s.heap news) (hj : J 0 m₀ news)
    (turn : ∀ i v m₁ nx own (s₁ : Shared), vs[i]? = some v → OwnOff own (nx.map (·.1)) → J i m₁ nx → Fr h₀ env.locals s₁.heap m₁ → News h₀ env.locals s₁.heap (nx ++ own) →
      wpAny (model prog w) A (assign target env v) (fun _ s₃ => wpAny (model prog w) A (execs body env) (AEndP h₀ env.locals (J (i + 1)) own s₁) E s₃) E s₁)
    (done : ∀ m₁ nx h tk, J vs.length m₁ nx → Fr h₀ env.locals h m₁ → News h₀ env.locals h nx → Q .next { s with heap := h, toks := tk }) :
    wpAny (model prog w) A (pyIter (.ref l)) (fun it s₂ => LoopAtT prog w A h₀ env target body Q E it s₂) E s := by
  have hln := hJl _ _ _ hj
  have hol : s.heap.get? l = some (listOf vs.toArray nn) := (N _ hln).1
  have hls : s.heap.IsList l vs.toArray := ⟨_, hol, rfl, nn, rfl⟩
  have hne : l ≠ s.heap.objs.size := Nat.ne_of_lt (Heap.lt_size hol)
  refine wpAny_pyIter_list hls ?_
  have W := Walks.list (prog := prog) (w := w) hh s.heap.objs.size l hne vs.toArray
  rw [show vs.toArray.size = vs.length from by simp] at W
  have hI0 : h₀.get? s.heap.objs.size = none := next_is_new F
  refine ⟨_, _, _, vs.length, _, _, m₀, news, J, rfl, W, ?_, ?_, ?_, ⟨⟨_, Heap.get?_push_size _ rfl, rfl, rfl⟩, hls.at fun o e => Heap.get?_push_of_some _ e⟩, F.push _, (fun p hp => ⟨Heap.get?_push_of_some _ (N p hp).1, (N p hp).2⟩), (fun i s' v Q' st hQ' => letGo_listiter st.1 hQ'), hj, ?_, ?_⟩
  · intro hm
    rcases List.mem_cons.mp hm with e | hm
    · exact absurd F.ns.lt (e ▸ Nat.lt_irrefl _)
    · exact (N _ hln).2.1 (List.mem_singleton.mp hm).symm
  · intro b hb
    rw [List.mem_singleton.mp hb]
    exact hI0
  · intro p hp hI
    exact absurd (Heap.lt_size (N p hp).1) ((List.mem_singleton.mp hI) ▸ Nat.lt_irrefl _)
  · intro i v m₁ nx s₁ own hi hP hJ hoff hown hget hfp hst F₁ N₁
    have hv : vs[i]? = some v := by simpa using hP
    obtain ⟨⟨oI, hoI, _⟩, _⟩ := id hst
    let oI' := own.filter fun p => decide (p.1 = s.heap.objs.size)
    have hmemI : ∀ p ∈ oI', p ∈ own ∧ p.1 = s.heap.objs.size := fun p hp => ⟨(List.mem_filter.mp hp).1, by simpa using (List.mem_filter.mp hp).2⟩
    have hsep : OwnOff oI' (nx.map (·.1)) := by
      intro p hp b hb e
      obtain ⟨q, hq, rfl⟩ := List.mem_map.mp hb
      exact hoff q hq (List.mem_singleton.mpr (by rw [← e]; exact (hmemI p hp).2))
    have hI' : (s.heap.objs.size, oI) ∈ oI' := List.mem_filter.mpr ⟨hfp _ (List.mem_cons.mpr (.inl rfl)) hI0 _ hoI, by simp⟩
    have hlo : s₁.heap.get? l = some (listOf vs.toArray nn) := (N₁ _ (List.mem_append.mpr (.inr (hJl _ _ _ hJ)))).1
    have N₂ : News h₀ env.locals s₁.heap (nx ++ oI') := fun p hp => (List.mem_append.mp hp).elim (fun h => N₁ p (List.mem_append.mpr (.inr h))) fun h => N₁ p (List.mem_append.mpr (.inl (hmemI p h).1))
    refine wpAny_mono (turn i v m₁ nx oI' s₁ hv hsep hJ F₁ N₂) (fun _ s₃ h₃ => wpAny_mono h₃ (fun f s₂ h₂ => ?_) fun _ _ e => e) fun _ _ e => e
    obtain ⟨rfl, h', tk, m', news', nx', e, F', N', hn, ho, ha, hm⟩ := h₂
    refine ⟨rfl, h', tk, m', nx', e, F', fun p hp => ?_, fun p hp hq => ?_, hm⟩
    · rcases List.mem_append.mp hp with h | h
      · by_cases hpI : p.1 = s.heap.objs.size
        · exact N' p (ho p (List.mem_filter.mpr ⟨h, by simpa using hpI⟩))
        · have h1 : p.1 = l := (List.mem_cons.mp (hown p h)).elim (fun e => absurd e hpI) fun e => List.mem_singleton.mp e
          have h2 := hget p h
          rw [h1, hlo] at h2
          have h3 : p = (l, listOf vs.toArray nn) := Prod.ext h1 (Option.some.inj h2).symm
          rw [h3]
          exact N' _ (hn _ (hJl _ _ _ hm))
      · exact N' p (hn p h)
    · exact ha _ hI' p.1 (List.mem_map.mpr ⟨p, hp, rfl⟩) (List.mem_singleton.mp hq).symm
  · intro h' tk m' nx F' N' _ hJ
    exact done m' nx h' tk hJ F' N'

/-- a goal that the walk leaves for later -/
def Hold (P : Prop) : Prop := P
theorem Hold.mk {P : Prop} (h : P) : Hold P := h
theorem Hold.out {P : Prop} (h : Hold P) : P := h
theorem area_iter {l x d lc lo : Addr} {vs : List Value} {nn : Nat} {ts : List Tr} {times : Int} {tt t1 t2 tn : Tok} {isT : Bool} {ks : Ks} {c₀ : SS} {oc : Obj} {m₀ : Str → Option Value} {news tl₀ : List (Addr × Obj)}
    (hh : A.handled = none) (F : Fr h₀ env.locals s.heap m₀) (N : News h₀ env.locals s.heap news)
    (hps : ∀ p ∈ aPs l x lo times tt isT 0 t1 0 t2, m₀ p.1 = some p.2)
    (hn : ∀ z ∈ aLed w ks d lo lc x c₀ [] 0 oc tl₀, z ∈ news)
    (hl : (l, listOf vs.toArray nn) ∈ tl₀) (hD : DatAll tl₀ vs (ts.map td)) (hT : ∀ t ∈ ts, TOk t) (hlen : ts.length ≤ 10)
    (hoc : oc.data = .cell (some (.int 0 tn))) (hc : SOk 1000 c₀) (hI : inFl c₀ = 0) (hlo : @Ne Nat lo d ∧ @Ne Nat lo lc ∧ @Ne Nat lo x) (hoff : OwnOff tl₀ [d, lo, lc])
    (turn : Hold (∀ (i : Nat) (told now own : Int) (os : List (Int × Int)) (c : SS) (t1 t2 tn : Tok) (lo : Addr) (us : List Value) (cnt : Nat) (oc : Obj) (tl ow : List (Addr × Obj)) (u : Str → Option Value) (t : Tr) (a : Addr) (ta tb tc : Tok) (n9 : Nat) (s₁ : Shared),
      i < 10 → ts[i]? = some t → TOk t → area times isT (ts.take i) = (told, now, own, os) → SOk (1000 + 100 * (i : Int)) c → inFl c = sumSz os → (∀ p ∈ os, 0 ≤ p.1 ∧ p.1 ≤ 93) → os.length ≤ i → us.length = os.length →
      DatAll tl us (os.map pd) → oc.data = .cell (some (.int now tn)) → (@Ne Nat lo d ∧ @Ne Nat lo lc ∧ @Ne Nat lo x) → OwnOff tl [d, lo, lc] → OwnOff (tl ++ ow) [d, lo, lc] → OwnOff ow ((aLed w ks d lo lc x c us cnt oc tl).map (·.1)) →
      (l, listOf vs.toArray nn) ∈ tl → DatAll tl vs (ts.map td) → (∀ z ∈ tl₀, z ∈ tl) → (a, ({ cls := .type "tuple", data := .seq [.int t.1 ta, .int t.2.1 tb, .int t.2.2 tc].toArray n9 } : Obj)) ∈ tl ++ ow →
      Fr h₀ env.locals s₁.heap (kstB u (aPs l x lo times tt isT told t1 own t2)) → News h₀ env.locals s₁.heap (aLed w ks d lo lc x c us cnt oc (tl ++ ow)) →
      wpAny (model prog w) A (assign target env (.ref a)) (fun _ s₃ => wpAny (model prog w) A (execs body env) (AEndP h₀ env.locals (AJ w ks l x d lc vs nn ts times tt isT tl₀ (i + 1)) ow s₁) E s₃) E s₁))
    (done : Hold (∀ (told now own : Int) (os : List (Int × Int)) (c : SS) (t1 t2 tn : Tok) (lo : Addr) (us : List Value) (cnt : Nat) (oc : Obj) (tl : List (Addr × Obj)) (u : Str → Option Value) h tk,
      area times isT ts = (told, now, own, os) → inFl c = sumSz os → (∀ p ∈ os, 0 ≤ p.1 ∧ p.1 ≤ 93) → os.length ≤ 10 → us.length = os.length →
      DatAll tl us (os.map pd) → oc.data = .cell (some (.int now tn)) → (@Ne Nat lo d ∧ @Ne Nat lo lc ∧ @Ne Nat lo x) → OwnOff tl [d, lo, lc] → (∀ z ∈ tl₀, z ∈ tl) →
      Fr h₀ env.locals h (kstB u (aPs l x lo times tt isT told t1 own t2)) → News h₀ env.locals h (aLed w ks d lo lc x c us cnt oc tl) → Q .next { s with heap := h, toks := tk })) :
    wpAny (model prog w) A (pyIter (.ref l)) (fun it s₂ => LoopAtT prog w A h₀ env target body Q E it s₂) E s := by
  have hvl : vs.length = ts.length := by rw [hD.length, List.length_map]
  refine iterT (vs := vs) (nn := nn) (news := aLed w ks d lo lc x c₀ [] 0 oc tl₀) (AJ w ks l x d lc vs nn ts times tt isT tl₀) hh ?_ F (fun z hz => N z (hn z hz)) ⟨0, 0, 0, [], c₀, t1, t2, tn, lo, [], 0, oc, tl₀, rfl, hps, by simp [area], ?_, ?_, ?_, ?_, .nil, hoc, hlo, hoff, hl, hD, fun _ h => h⟩ ?_ ?_
  · rintro i m nx ⟨_, _, _, _, _, _, _, _, _, _, _, _, tl', rfl, _, _, _, _, _, _, _, _, _, _, h, _⟩
    exact List.Mem.tail _ (List.Mem.tail _ (List.Mem.tail _ (List.Mem.tail _ h)))
  · simpa using hc
  · rw [hI]; rfl
  · intro p hp; cases hp
  · exact Nat.le_refl _
  · rintro i v m₁ nx ow s₁ hv hsep ⟨told, now, own, os, c, t1, t2, tn, lo, us, cnt, oc, tl, rfl, hps, har, hok, hfl, hsz, hol, hDu, hoc, hlo, hoff, hl, hD', hkp⟩ F₁ N₁
    have hi : i < ts.length := by rw [← hvl]; exact (List.getElem?_eq_some_iff.mp hv).1
    obtain ⟨v', e', hd⟩ := hD'.get (k := i) (by rw [List.length_map]; exact hi)
    rw [hv] at e'
    obtain rfl := Option.some.inj e'
    rw [List.getElem_map] at hd
    obtain ⟨a, ta, tb, tc, n9, rfl, hm⟩ := datIn_trip hd
    refine turn.out i told now own os c t1 t2 tn lo us cnt oc tl ow m₁ ts[i] a ta tb tc n9 s₁ (by omega) (List.getElem?_eq_getElem hi) (hT _ (List.getElem_mem hi)) har hok hfl hsz hol (by rw [hDu.length, List.length_map]) hDu hoc hlo hoff ?_ hsep hl hD' hkp (List.mem_append.mpr (.inl hm)) (fr_known hps F₁) N₁
    intro p hp b hb
    rcases List.mem_append.mp hp with h | h
    · exact hoff p h b hb
    · refine hsep p h b ?_
      simp only [List.mem_cons, List.not_mem_nil, or_false] at hb
      simp only [List.map_cons, List.mem_cons]
      rcases hb with rfl | rfl | rfl
      · exact .inl rfl
      · exact .inr (.inl rfl)
      · exact .inr (.inr (.inl rfl))
  · rintro m₁ nx h tk ⟨told, now, own, os, c, t1, t2, tn, lo, us, cnt, oc, tl, rfl, hps, har, hok, hfl, hsz, hol, hDu, hoc, hlo, hoff, hl, hD', hkp⟩ F₁ N₁
    rw [hvl, List.take_length] at har
    exact done.out told now own os c t1 t2 tn lo us cnt oc tl m₁ h tk har hfl hsz (by omega) (by rw [hDu.length, List.length_map]) hDu hoc hlo hoff hkp (fr_known hps F₁) N₁
end
end Mine
end

section
open PySem PySem.W PyProof.Rows
namespace Mine
theorem datAll_take {L9 : List (Addr × Obj)} {vs : List Value} {ds : List Dat} (h : DatAll L9 vs ds) (k : Nat) : DatAll L9 (vs.take k) (ds.take k) := by
  induction vs generalizing ds k with
  | nil => cases h; simpa using DatAll.nil
  | cons v vs ih =>
    cases h with
    | cons h r =>
      cases k with
      | zero => exact .nil
      | succ k => exact .cons h (ih r k)
theorem datAll_drop {L9 : List (Addr × Obj)} {vs : List Value} {ds : List Dat} (h : DatAll L9 vs ds) (k : Nat) : DatAll L9 (vs.drop k) (ds.drop k) := by
  induction vs generalizing ds k with
  | nil => cases h; simpa using DatAll.nil
  | cons v vs ih =>
    cases h with
    | cons h r =>
      cases k with
      | zero => exact .cons h r
      | succ k => exact ih r k
/-- the names' part that a turn's end shows one by one -/
abbrev aPs7 (l x lo : Addr) (times : Int) (tt : Tok) (isT : Bool) (told : Int) (t1 : Tok) (own : Int) (t2 : Tok) : List (Str × Value) :=
  [(Str.ofString "turns", .ref l), (Str.ofString "times", .int times tt), (Str.ofString "is_turned", .bool isT), (Str.ofString "sender", .ref x),
   (Str.ofString "told", .int told t1), (Str.ofString "own", .int own t2), (Str.ofString "out", .ref lo)]
theorem aps_of {l x lo : Addr} {times : Int} {tt : Tok} {isT : Bool} {told : Int} {t1 : Tok} {own : Int} {t2 : Tok} {m : Str → Option Value} {b : Bool}
    (h : ∀ p ∈ aPs7 l x lo times tt isT told t1 own t2, m p.1 = some p.2) (hr : m (Str.ofString "is_right") = some (.bool b)) (hb : b = true) :
    ∀ p ∈ aPs l x lo times tt isT told t1 own t2, m p.1 = some p.2 := by
  intro p hp
  have e : aPs l x lo times tt isT told t1 own t2 = aPs7 l x lo times tt isT told t1 own t2 ++ [(Str.ofString "is_right", .bool true)] := rfl
  rw [e] at hp
  rcases List.mem_append.mp hp with h1 | h1
  · exact h p h1
  · rw [List.mem_singleton.mp h1, ← hb]; exact hr
section
variable {w : World} {ks : Ks} {l x d lc lo D : Addr} {vs us : List Value} {nn cnt cnt' : Nat} {ts : List Tr} {times told now own last deed which : Int} {os : List (Int × Int)} {tt t1 t2 tn ta tb : Tok} {isT b : Bool} {i : Nat}
  {c c' : SS} {oc' : Obj} {tl tl₀ ow led : List (Addr × Obj)} {h₀ h' : Heap} {L : Addr} {m' : Str → Option Value} {s₁ : Shared} {tk : Nat} {bnd : Int}
theorem sok_le {bnd bnd' : Int} {c : SS} (h : SOk bnd c) (hb : bnd ≤ bnd') : SOk bnd' c := ⟨h.1, Int.le_trans h.2.1 hb, h.2.2⟩
theorem take_next {t : Tr} (h : ts[i]? = some t) : ts.take (i + 1) = ts.take i ++ [t] := by rw [List.take_add_one, h]; rfl
theorem atOf_zero {n : Nat} (h : ((which.fmod 2 == 0) != isT) = true) : (0 : Int).toNat = atOf isT which n := by unfold atOf; rw [if_pos h]; rfl
theorem atOf_last {n : Nat} (h : ((which.fmod 2 == 0) != isT) = false) : ((n : Int) - 1).toNat = atOf isT which n := by unfold atOf; rw [if_neg (by rw [h]; decide)]; omega
/-- a turn that sends -/
theorem area_send (F : Fr h₀ L h' m') (N : News h₀ L h' led)
    (hts : ts[i]? = some (last, deed, which)) (har : area times isT (ts.take i) = (told, now, own, os)) (hfl : inFl c = sumSz os) (hsz : ∀ p ∈ os, 0 ≤ p.1 ∧ p.1 ≤ 93) (hol : os.length ≤ i)
    (hDu : DatAll tl us (os.map pd)) (hlo : @Ne Nat lo d ∧ @Ne Nat lo lc ∧ @Ne Nat lo x) (hoff : OwnOff tl [d, lo, lc]) (hl : (l, listOf vs.toArray nn) ∈ tl) (hD : DatAll tl vs (ts.map td)) (hkp : ∀ z ∈ tl₀, z ∈ tl)
    (hsep : ∀ z ∈ ow, z.1 ≠ d ∧ z.1 ≠ lo ∧ z.1 ≠ lc ∧ z.1 ≠ x ∧ ∀ y ∈ tl, z.1 ≠ y.1)
    (ht0 : 1 ≤ times) (ht1 : times ≤ 3) (hc0 : 0 ≤ which) (hc1 : which < 4)
    (hcond : deed < 2 ∨ os.length = 0) (hok : SOk bnd c') (hB : bnd ≤ 1000 + 100 * ((i : Int) + 1)) (hI : inFl c' = inFl c + times * (10 + 7 * which))
    (hoc : oc'.data = .cell (some (.int (now + last) tn)))
    (hin : ∀ z ∈ [(d, dictOf (sEs w ks c') 6), (lo, listOf (us.toArray.push (.ref D)) cnt'), (lc, oc'), (x, instObj 122 d), (D, ({ cls := .type "tuple", data := .seq #[.int (times * (10 + 7 * which)) ta, .int (now + last) tb] } : Obj))], z ∈ led)
    (hrest : ∀ z ∈ tl ++ ow, z ∈ led) (hne : @Ne Nat D d ∧ @Ne Nat D lo ∧ @Ne Nat D lc ∧ @Ne Nat D x) (hall : ∀ z ∈ tl ++ ow, z.1 ≠ D)
    (hps : ∀ p ∈ aPs7 l x lo times tt isT (told + inFl c * last) t1 own t2, m' p.1 = some p.2) (hr : m' (Str.ofString "is_right") = some (.bool (decide (2 * 100 ≤ c'.1)))) :
    AEndP h₀ L (AJ w ks l x d lc vs nn ts times tt isT tl₀ (i + 1)) ow s₁ .next { s₁ with heap := h', toks := tk } := by
  have hD9 : ∀ z ∈ tl, z ∈ (D, ({ cls := .type "tuple", data := .seq #[.int (times * (10 + 7 * which)) ta, .int (now + last) tb] } : Obj)) :: tl := fun z hz => List.Mem.tail _ hz
  obtain ⟨i1, hin⟩ := List.forall_mem_cons.mp hin
  obtain ⟨i2, hin⟩ := List.forall_mem_cons.mp hin
  obtain ⟨i3, hin⟩ := List.forall_mem_cons.mp hin
  obtain ⟨i4, hin⟩ := List.forall_mem_cons.mp hin
  obtain ⟨i5, _⟩ := List.forall_mem_cons.mp hin
  refine ⟨rfl, h', tk, m', led, aLed w ks d lo lc x c' (us ++ [.ref D]) cnt' oc' ((D, { cls := .type "tuple", data := .seq #[.int (times * (10 + 7 * which)) ta, .int (now + last) tb] }) :: tl), rfl, F, N, ?_, fun z hz => hrest z (List.mem_append.mpr (.inr hz)), ?_,
    ⟨told + inFl c * last, now + last, own, os ++ [(times * (10 + 7 * which), now + last)], c', t1, t2, tn, lo, us ++ [.ref D], cnt', oc', _, rfl, aps_of hps hr (decide_eq_true (by have := hok.1; omega)), ?_, sok_le hok (by push_cast; omega), ?_, ?_, ?_, ?_, hoc, hlo, ?_, List.Mem.tail _ hl, hD.mono hD9, fun z hz => List.Mem.tail _ (hkp z hz)⟩⟩
  · refine List.forall_mem_cons.mpr ⟨i1, List.forall_mem_cons.mpr ⟨?_, List.forall_mem_cons.mpr ⟨i3, List.forall_mem_cons.mpr ⟨i4, List.forall_mem_cons.mpr ⟨i5, fun z hz => hrest z (List.mem_append.mpr (.inl hz))⟩⟩⟩⟩⟩
    rw [List.push_toArray] at i2
    exact i2
  · intro z hz y hy
    obtain ⟨h1, h2, h3, h4, h5⟩ := hsep z hz
    simp only [List.map_cons, List.mem_cons] at hy
    rcases hy with rfl | rfl | rfl | rfl | rfl | hy
    · exact h1
    · exact h2
    · exact h3
    · exact h4
    · exact hall z (List.mem_append.mpr (.inr hz))
    · obtain ⟨q, hq, rfl⟩ := List.mem_map.mp hy
      exact h5 q hq
  · rw [take_next hts, area_snoc, har]
    unfold astep
    rw [if_pos (hcond.imp id fun h => List.length_eq_zero_iff.mp h)]
    show (told + sumSz os * last, _, _, _) = _
    rw [hfl]
  · rw [hI, hfl, sumSz_append]; simp [sumSz]
  · intro p hp
    rcases List.mem_append.mp hp with h | h
    · exact hsz p h
    · rw [List.mem_singleton.mp h]
      have h1 : 0 ≤ 10 + 7 * which := by omega
      have h2 : 10 + 7 * which ≤ 31 := by omega
      refine ⟨Int.mul_nonneg (by omega) h1, ?_⟩
      have h3 : times * (10 + 7 * which) ≤ 3 * (10 + 7 * which) := Int.mul_le_mul_of_nonneg_right ht1 h1
      show times * (10 + 7 * which) ≤ 93
      omega
  · rw [List.length_append]; simp; omega
  · rw [List.map_append]
    exact (hDu.mono hD9).append (.one (.tuple (a := D) (vs := [.int (times * (10 + 7 * which)) ta, .int (now + last) tb]) (n := 0) (List.Mem.head _) (.cons (.int _ _) (.cons (.int _ _) .nil))))
  · intro z hz y hy
    rcases List.mem_cons.mp hz with rfl | hz
    · simp only [List.mem_cons, List.not_mem_nil, or_false] at hy
      rcases hy with rfl | rfl | rfl
      · exact hne.1
      · exact hne.2.1
      · exact hne.2.2.1
    · exact hoff z hz y hy
/-- a turn that ends one -/
theorem area_cut {k k2 : Int} {p : Int × Int} (F : Fr h₀ L h' m') (N : News h₀ L h' led)
    (hts : ts[i]? = some (last, deed, which)) (har : area times isT (ts.take i) = (told, now, own, os)) (hfl : inFl c = sumSz os) (hsz : ∀ p ∈ os, 0 ≤ p.1 ∧ p.1 ≤ 93) (hol : os.length ≤ i)
    (hDu : DatAll tl us (os.map pd)) (hoff : OwnOff tl [d, lo, lc]) (hl : (l, listOf vs.toArray nn) ∈ tl) (hD : DatAll tl vs (ts.map td)) (hkp : ∀ z ∈ tl₀, z ∈ tl)
    (hsep : ∀ z ∈ ow, z.1 ≠ d ∧ z.1 ≠ lo ∧ z.1 ≠ lc ∧ z.1 ≠ x ∧ ∀ y ∈ tl, z.1 ≠ y.1)
    (hcond : ¬ deed < 2) (hne0 : ¬ os.length = 0) (hp : p = os.getD k.toNat (0, 0)) (hk : k.toNat = atOf isT which os.length) (hk2 : k2.toNat = k.toNat + 1)
    (hok : SOk bnd c') (hB : bnd ≤ 1000 + 100 * ((i : Int) + 1)) (hI : inFl c' = inFl c - p.1)
    (hoc : oc'.data = .cell (some (.int (now + last) tn)))
    (hin : ∀ z ∈ [(d, dictOf (sEs w ks c') 6), (D, listOf (us.take k.toNat ++ us.drop k2.toNat).toArray cnt'), (lc, oc'), (x, instObj 122 d)], z ∈ led)
    (hrest : ∀ z ∈ tl ++ ow, z ∈ led) (hne : @Ne Nat D d ∧ @Ne Nat D lc ∧ @Ne Nat D x) (hall : ∀ z ∈ tl ++ ow, z.1 ≠ D)
    (hps : ∀ q ∈ aPs7 l x D times tt isT (told + inFl c * last) t1 (own + p.1 * (now + last - p.2)) t2, m' q.1 = some q.2) (hr : m' (Str.ofString "is_right") = some (.bool (decide (2 * 100 ≤ c'.1)))) :
    AEndP h₀ L (AJ w ks l x d lc vs nn ts times tt isT tl₀ (i + 1)) ow s₁ .next { s₁ with heap := h', toks := tk } := by
  obtain ⟨i1, hin⟩ := List.forall_mem_cons.mp hin
  obtain ⟨i2, hin⟩ := List.forall_mem_cons.mp hin
  obtain ⟨i3, hin⟩ := List.forall_mem_cons.mp hin
  obtain ⟨i4, _⟩ := List.forall_mem_cons.mp hin
  have hlt : k.toNat < os.length := by rw [hk]; exact atOf_lt (by omega)
  refine ⟨rfl, h', tk, m', led, aLed w ks d D lc x c' (us.take k.toNat ++ us.drop k2.toNat) cnt' oc' tl, rfl, F, N, ?_, fun z hz => hrest z (List.mem_append.mpr (.inr hz)), ?_,
    ⟨told + inFl c * last, now + last, own + p.1 * (now + last - p.2), os.take k.toNat ++ os.drop (k.toNat + 1), c', t1, t2, tn, D, _, cnt', oc', tl, rfl, aps_of hps hr (decide_eq_true (by have := hok.1; omega)), ?_, sok_le hok (by push_cast; omega), ?_, ?_, ?_, ?_, hoc, hne, ?_, hl, hD, hkp⟩⟩
  · exact List.forall_mem_cons.mpr ⟨i1, List.forall_mem_cons.mpr ⟨i2, List.forall_mem_cons.mpr ⟨i3, List.forall_mem_cons.mpr ⟨i4, fun z hz => hrest z (List.mem_append.mpr (.inl hz))⟩⟩⟩⟩
  · intro z hz y hy
    obtain ⟨h1, h2, h3, h4, h5⟩ := hsep z hz
    simp only [List.map_cons, List.mem_cons] at hy
    rcases hy with rfl | rfl | rfl | rfl | hy
    · exact h1
    · exact hall z (List.mem_append.mpr (.inr hz))
    · exact h3
    · exact h4
    · obtain ⟨q, hq, rfl⟩ := List.mem_map.mp hy
      exact h5 q hq
  · rw [take_next hts, area_snoc, har]
    unfold astep
    rw [if_neg (by rintro (h | h); exact hcond h; exact hne0 (List.length_eq_zero_iff.mpr h))]
    show (told + sumSz os * last, now + last, own + (os.getD (atOf isT which os.length) (0, 0)).1 * (now + last - (os.getD (atOf isT which os.length) (0, 0)).2), os.take (atOf isT which os.length) ++ os.drop (atOf isT which os.length + 1)) = _
    rw [hfl, ← hk, ← hp]
  · rw [hI, hfl, sumSz_cut hlt, ← hp]
  · intro q hq
    rcases List.mem_append.mp hq with h | h
    · exact hsz q (List.mem_of_mem_take h)
    · exact hsz q (List.mem_of_mem_drop h)
  · rw [List.length_append, List.length_take, List.length_drop]; omega
  · rw [hk2, List.map_append, List.map_take, List.map_drop]
    exact (datAll_take hDu _).append (datAll_drop hDu _)
  · intro z hz y hy
    simp only [List.mem_cons, List.not_mem_nil, or_false] at hy
    rcases hy with rfl | rfl | rfl
    · exact hoff z hz _ (List.Mem.head _)
    · exact hall z (List.mem_append.mpr (.inl hz))
    · exact hoff z hz _ (List.Mem.tail _ (List.Mem.tail _ (List.Mem.head _)))
theorem area_last {A : Int} {D : Addr} {told own' : Int} {b : Bool} {rest : List (Addr × Obj)} (N : News h₀ L h' ((D, tupOf [.int told t1, .int own' t2, .bool b]) :: rest)) (e1 : told = A) (e2 : own' = A) (e3 : b = true) (hr : ∀ z ∈ tl, z ∈ rest) :
    News h₀ L h' ((D, tupOf [.int A t1, .int A t2, .bool true]) :: tl) := by
  subst e3
  subst e2
  subst e1
  intro z hz
  rcases List.mem_cons.mp hz with rfl | hz
  · exact N _ (List.Mem.head _)
  · exact N z (List.Mem.tail _ (hr z hz))
theorem sep_of {oc : Obj} (h : OwnOff ow ((aLed w ks d lo lc x c us cnt oc tl).map (·.1))) : ∀ z ∈ ow, z.1 ≠ d ∧ z.1 ≠ lo ∧ z.1 ≠ lc ∧ z.1 ≠ x ∧ ∀ y ∈ tl, z.1 ≠ y.1 := by
  intro z hz
  refine ⟨h z hz _ ?_, h z hz _ ?_, h z hz _ ?_, h z hz _ ?_, fun y hy => h z hz _ ?_⟩ <;> simp only [List.map_cons, List.mem_cons, true_or, or_true]
  exact .inr (.inr (.inr (.inr (List.mem_map.mpr ⟨y, hy, rfl⟩))))
end
end Mine
end

section
open PySem PySem.W PyProof.Rows
namespace Mine
section
variable {prog : Program} {w : World} {A : Around} {E : Value → Shared → Prop} {s : Shared} {h₀ : Heap} {L : Addr} {m : Str → Option Value} {env : Env} {news tl : List (Addr × Obj)}
theorem gen_tk {α : Type} {M : Model} {t : Sem α} {Q : α → Shared → Prop} {h : Heap} {g : Array GenState} {d : Drawn} {X : Nat} {o : OsState} (H : ∀ tk, wpAny M A t Q E ⟨h, g, d, tk, o⟩) : wpAny M A t Q E ⟨h, g, d, X, o⟩ := H X
/-- out[at] -/
theorem item_pair {value slice : PySem.Expr} {l : Addr} {us : List Value} {os : List (Int × Int)} {n : Nat} {k : Int} {u : Tok} {Q : Value → Shared → Prop} (N : News h₀ L s.heap news) (hm : (l, listOf us.toArray n) ∈ news) (hd : DatAll tl us (os.map pd)) (hsub : ∀ z ∈ tl, z ∈ news)
    (hsz : ∀ p ∈ os, 0 ≤ p.1 ∧ p.1 ≤ 93) (h0 : 0 ≤ k) (h1 : k < (os.length : Int)) (hfit : k < 2 ^ 63)
    (h : ∀ a ta tb p, p = os.getD k.toNat (0, 0) → 0 ≤ p.1 → p.1 ≤ 93 → IsTup s.heap a #[.int p.1 ta, .int p.2 tb] → Q (.ref a) s)
    (hs : subscripted slice false (.ref l) (.int k u) = operate [.ref l, .int k u] (getItem (.ref l) (.int k u)) := by with_unfolding_all rfl) :
    wpAny (model prog w) A (subscriptTail value slice (.ref l) (.int k u)) Q E s := by
  refine kd_item N hm hd h0 (by simpa using h1) hfit (fun v d hk _ hD => ?_) hs
  have hlt : k.toNat < os.length := by omega
  have e0 : os.getD k.toNat (0, 0) = os[k.toNat] := by simp [List.getD, hlt]
  have e : d = pd (os.getD k.toNat (0, 0)) := by
    rw [List.getElem?_map, List.getElem?_eq_getElem hlt] at hk
    rw [e0]
    exact (Option.some.inj hk).symm
  subst e
  obtain ⟨a, ta, tb, n9, rfl, hm9⟩ := datIn_pair hD
  have hz := hsz _ (List.getElem_mem hlt)
  rw [← e0] at hz
  exact h a ta tb _ rfl hz.1 hz.2 (News.isTup N (hsub _ hm9))
theorem len_pairs {l : Addr} {us : List Value} {os : List (Int × Int)} {n : Nat} {Q : Value → Shared → Prop} (N : News h₀ L s.heap news) (hm : (l, listOf us.toArray n) ∈ news) (hd : DatAll tl us (os.map pd)) (hlen : us.length ≤ 100)
    (h : Q (.int (os.length : Int) (s.toks + 1)) { s with toks := s.toks + 1 + 1 }) : wpAny (model prog w) A (call (.builtin "len") [.ref l]) Q E s := by
  have hl := hd.length
  rw [List.length_map] at hl
  exact kd_len N hm hd (by rw [List.length_map]; omega) (by rw [List.length_map]; exact h)
/-- out == [] -/
theorem eq_empty {a b : Addr} {us : List Value} {os : List (Int × Int)} {n n' : Nat} {Q : Value → Shared → Prop} (N : News h₀ L s.heap news) (ha : (a, listOf us.toArray n) ∈ news) (hd : DatAll tl us (os.map pd)) (hsub : ∀ z ∈ tl, z ∈ news)
    (hb : (b, listOf #[] n') ∈ news) (hu : A.units + 64 < cLine) (h : Q (.bool (decide (os.length = 0))) s) : wpAny (model prog w) A (compareOp .Eq (.ref a) (.ref b)) Q E s := by
  refine kqd_eq (n₂ := []) (ys := []) (es := []) N ha rfl rfl hd hsub hb rfl rfl .nil (fun _ h => nomatch h) ?_ (fun _ h => nomatch h) hu ?_
  · intro d hd
    obtain ⟨x, _, rfl⟩ := List.mem_map.mp hd
    rfl
  · have e : (List.map pd os = []) ↔ os.length = 0 := by rw [List.map_eq_nil_iff, List.length_eq_zero_iff]
    by_cases hq : os.length = 0
    · rw [decide_eq_true hq] at h
      rw [decide_eq_true (e.mpr hq)]
      exact h
    · rw [decide_eq_false hq] at h
      rw [decide_eq_false (fun x => hq (e.mp x))]
      exact h
theorem off_three {a b c : Addr} (h1 : ∀ p ∈ tl, p.1 ≠ a) (h2 : ∀ p ∈ tl, p.1 ≠ b) (h3 : ∀ p ∈ tl, p.1 ≠ c) : OwnOff tl [a, b, c] := by
  intro p hp x hx
  simp only [List.mem_cons, List.not_mem_nil, or_false] at hx
  rcases hx with rfl | rfl | rfl
  · exact h1 p hp
  · exact h2 p hp
  · exact h3 p hp
theorem slice_to {value slice : PySem.Expr} {l : Addr} {us : List Value} {n : Nat} {k : Int} {vl vu : Value} {Q : Value → Shared → Prop} (F : Fr h₀ L s.heap m) (N : News h₀ L s.heap news) (hm : (l, listOf us.toArray n) ∈ news) (pl : IsPart vl none) (pu : IsPart vu (some k)) (h0 : 0 ≤ k) (hlen : us.length ≤ 100)
    (h : ∀ D h', Fr h₀ L h' m → News h₀ L h' ((D, listOf (us.take k.toNat).toArray 0) :: news) → (∀ p ∈ news, p.1 < D) → Q (.ref D) { s with heap := h' })
    (hs : subscripted slice false (.ref l) (.ref s.heap.objs.size) = operate [.ref s.heap.objs.size, .ref l] (getItem (.ref l) (.ref s.heap.objs.size))) (ht : ∀ r, letTemporaryGo value (.ref l) r = pure ()) :
    wpAny (model prog w) A (subscriptTail value slice (.ref l) (.ref s.heap.objs.size)) Q E { s with heap := s.heap.push { cls := .type "slice", data := .fields #[vl, vu, .none] } } :=
  kmk_slice F N ⟨_, (N _ hm).1, rfl, n, rfl⟩ pl pu (fun D h' F' N' l1 => h D h' F' (by rw [← pick_upto us h0]; exact N') l1) hs ht (by rw [sizeLine_eq, List.size_toArray]; omega)
theorem slice_on {value slice : PySem.Expr} {l : Addr} {us : List Value} {n : Nat} {k : Int} {vl vu : Value} {Q : Value → Shared → Prop} (F : Fr h₀ L s.heap m) (N : News h₀ L s.heap news) (hm : (l, listOf us.toArray n) ∈ news) (pl : IsPart vl (some k)) (pu : IsPart vu none) (h0 : 0 ≤ k) (hlen : us.length ≤ 100)
    (h : ∀ D h', Fr h₀ L h' m → News h₀ L h' ((D, listOf (us.drop k.toNat).toArray 0) :: news) → (∀ p ∈ news, p.1 < D) → Q (.ref D) { s with heap := h' })
    (hs : subscripted slice false (.ref l) (.ref s.heap.objs.size) = operate [.ref s.heap.objs.size, .ref l] (getItem (.ref l) (.ref s.heap.objs.size))) (ht : ∀ r, letTemporaryGo value (.ref l) r = pure ()) :
    wpAny (model prog w) A (subscriptTail value slice (.ref l) (.ref s.heap.objs.size)) Q E { s with heap := s.heap.push { cls := .type "slice", data := .fields #[vl, vu, .none] } } :=
  kmk_slice F N ⟨_, (N _ hm).1, rfl, n, rfl⟩ pl pu (fun D h' F' N' l1 => h D h' F' (by rw [← pick_from us h0]; exact N') l1) hs ht (by rw [sizeLine_eq, List.size_toArray]; omega)
theorem add_two {a b : Addr} {us : List Value} {j k n n' : Nat} {Q : Value → Shared → Prop} (F : Fr h₀ L s.heap m) (N : News h₀ L s.heap news) (ha : (a, listOf (us.take j).toArray n) ∈ news) (hb : (b, listOf (us.drop k).toArray n') ∈ news) (hlen : us.length ≤ 100)
    (h : ∀ D h', Fr h₀ L h' m → News h₀ L h' ((D, listOf (us.take j ++ us.drop k).toArray 0) :: news) → (∀ p ∈ news, p.1 < D) → Q (.ref D) { s with heap := h' }) :
    wpAny (model prog w) A (binaryOp .Add (.ref a) (.ref b)) Q E s := by
  refine add_arrays F N ⟨_, (N _ ha).1, rfl, n, rfl⟩ ⟨_, (N _ hb).1, rfl, n', rfl⟩ (fun h' F' N' => h _ h' F' ?_ fun p hp => Heap.lt_size (N p hp).1) ?_
  · simpa using N'
  · rw [sizeLine_eq, List.size_toArray, List.size_toArray, List.length_take, List.length_drop]; omega
end
local macro_rules | `(tactic| walk_at "execs cons") => `(tactic| (k_here; (with_reducible refine wpAny_execs_cons ?_); (try dsimp only); (try (with_reducible refine gen_tk ?_; intro tk'))))
local macro_rules | `(tactic| k_room) => `(tactic| ktr_room)
local macro_rules | `(tactic| ke_room) => `(tactic| ktr_units)
-- the sender's methods, once each
local macro_rules | `(tactic| walk_at "call ref") => `(tactic| (k_here; k_dflt (refine' sent_call ?B ?F ?X ?N ?T ?hk ?hx ?U ?hxd ?hc ?hdp ?hu ?_; (case B => k_asm); (case F => k_asm); (case X => k_asm); (case N => k_asm); (case T => k_asm); (case hk => exact rfl); (case hx => k_mem); (case U => (intro c'; k_upd)); (case hxd => omega); (case hc => assumption); (case hdp => ktr_room); (case hu => ktr_units); k_whole); intro c' h' tk' hc' hI' F' N'; (try dsimp only); (try k_sweep)))
local macro_rules | `(tactic| walk_at "call ref") => `(tactic| (k_here; k_dflt (refine' disc_call ?B ?F ?X ?N ?T ?hk ?hx ?U ?hxd ?hc ?hdp ?hu ?_; (case B => k_asm); (case F => k_asm); (case X => k_asm); (case N => k_asm); (case T => k_asm); (case hk => exact rfl); (case hx => k_mem); (case U => (intro c'; k_upd)); (case hxd => omega); (case hc => assumption); (case hdp => ktr_room); (case hu => ktr_units); k_whole); intro c' h' tk' hc' hI' F' N'; (try dsimp only); (try k_sweep)))
local macro_rules | `(tactic| walk_at "call ref") => `(tactic| (k_here; k_dflt (refine' acked_call ?B ?F ?X ?N ?T ?hk ?hx ?U ?hxd ?hc ?hs0 ?hs1 ?hb ?hdp ?hu ?_; (case B => k_asm); (case F => k_asm); (case X => k_asm); (case N => k_asm); (case T => k_asm); (case hk => exact rfl); (case hx => k_mem); (case U => (intro c'; k_upd)); (case hxd => omega); (case hc => assumption); (case hs0 => omega); (case hs1 => omega); (case hb => omega); (case hdp => ktr_room); (case hu => ktr_units); k_whole); intro c' h' tk' hc' hI' F' N'; (try dsimp only); (try k_sweep)))
local macro_rules | `(tactic| walk_at "call ref") => `(tactic| (k_here; k_dflt (refine' lost_call ?B ?F ?X ?N ?T ?hk ?hx ?U ?hxd ?hc ?hs0 ?hs1 ?hb ?hdp ?hu ?_; (case B => k_asm); (case F => k_asm); (case X => k_asm); (case N => k_asm); (case T => k_asm); (case hk => exact rfl); (case hx => k_mem); (case U => (intro c'; k_upd)); (case hxd => omega); (case hc => assumption); (case hs0 => omega); (case hs1 => omega); (case hb => omega); (case hdp => ktr_room); (case hu => ktr_units); k_whole); intro c' h' tk' hc' hI' F' N'; (try dsimp only); (try k_sweep)))
-- the comprehensions
local macro_rules | `(tactic| walk_at "eval ListComp") => `(tactic| (k_here; k_dflt (refine LCp.ListComp_P (F₀ := by k_asm) (by with_unfolding_all rfl) (by decide) (by rfl) (by decide) (by rfl) (by rfl) (by decide) ?_)))
local macro_rules | `(tactic| walk_at "SrcLP") => `(tactic| (k_here; (with_reducible show LCp.SrcLP _ _ _ _ _ _ _ (PySem.Expr.Name _ _) _ _ _ _ _ _ _); k_dflt (refine LCp.SrcLP.ledger (by rfl) (by k_asm) (by k_asm) (by k_mem) (by rw [sizeLine_eq, List.size_toArray]; omega) ?_); intro g'; (refine' comp_pairs (fun a _ => a) ?hD ?_ ?_); (case hD => (refine' DatAll.mono ?hs9 ?hd9; (case hd9 => assumption); (case hs9 => (intro p9 h9; kst_mem)))); kcf_last))
local macro_rules | `(tactic| walk_at "SrcLP") => `(tactic| (k_here; (with_reducible show LCp.SrcLP _ _ _ _ _ _ _ (PySem.Expr.BinOp _ _ _ _) _ _ _ _ _ _ _); k_dflt (refine LCp.SrcLP.ledger (by rfl) (by k_asm) (by k_asm) (by k_mem) (by rw [sizeLine_eq, List.size_toArray]; omega) ?_); intro g'; (refine' comp_ages ?hoc9 ?hsz9 ?hD ?_ ?_); (case hoc9 => assumption); (case hsz9 => assumption); (case hD => (refine' DatAll.mono ?hs9 ?hd9; (case hd9 => assumption); (case hs9 => (intro p9 h9; kst_mem)))); kcf_last))
-- out[at], len(out), out[:at], out[at + 1:], their sum
local macro_rules | `(tactic| walk_at "subscriptTail") => `(tactic| (k_here; (with_reducible show wpAny _ _ (subscriptTail _ _ (Value.ref _) (Value.int _ _)) _ _ _); k_dflt (refine' item_pair ?N ?hm ?hd ?hsub ?hsz ?h0 ?h1 ?hfit ?_ ?hs; (case N => k_asm); (case hm => k_mem); (case hd => assumption); (case hsub => (intro z9 h9; kst_mem)); (case hsz => assumption); (case h0 => omega); (case h1 => omega); (case hfit => omega); (case hs => with_unfolding_all rfl); k_whole); intro a9 ta9 tb9 p9 hp9 hz9 hz9' hT9))
local macro_rules | `(tactic| walk_at "call builtin:len") => `(tactic| (k_here; k_dflt (refine' len_pairs ?N ?hm ?hd ?hl ?_; (case N => k_asm); (case hm => k_mem); (case hd => assumption); (case hl => omega); k_whole)))
local macro_rules | `(tactic| walk_at "subscriptTail Name Slice ref ref") => `(tactic| (k_here; (with_reducible show wpAny _ _ (subscriptTail _ (PySem.Expr.Slice _ _ none _) (Value.ref _) (Value.ref _)) _ _ _); k_dflt (first | (refine' slice_to ?F ?N ?l ?p ?q ?h0 ?z ?_ ?s ?t; (case F => k_asm); (case N => k_asm); (case l => k_mem); (case p => kmk_part); (case q => kmk_part); (case h0 => omega); (case z => omega); (case s => with_unfolding_all rfl); (case t => kmk_pure); k_whole) | (refine' slice_on ?F ?N ?l ?p ?q ?h0 ?z ?_ ?s ?t; (case F => k_asm); (case N => k_asm); (case l => k_mem); (case p => kmk_part); (case q => kmk_part); (case h0 => omega); (case z => omega); (case s => with_unfolding_all rfl); (case t => kmk_pure); k_whole)); intro D' h' F' N' l1; (try k_lt l1); (try k_sweep)))
local macro_rules | `(tactic| walk_at "binaryOp Add ref ref") => `(tactic| (k_here; (with_reducible show wpAny _ _ (binaryOp _ (Value.ref _) (Value.ref _)) _ _ _); k_dflt (refine' add_two ?F ?N ?a ?b ?z ?_; (case F => k_asm); (case N => k_asm); (case a => k_mem); (case b => k_mem); (case z => omega); k_whole); intro D' h' F' N' l1; (try k_lt l1); (try k_sweep)))
local macro_rules | `(tactic| walk_at "compareOp Eq ref ref") => `(tactic| (k_here; k_dflt (refine' eq_empty ?N ?ha ?hd ?hs ?hb ?hu ?_; (case N => k_asm); (case ha => k_mem); (case hd => assumption); (case hs => (intro z9 h9; kst_mem)); (case hb => k_mem); (case hu => ktr_units); k_whole)))
-- the loop
local macro_rules | `(tactic| walk_at "exec For Tuple Name cons nil") => `(tactic| (k_here; (rename Fr _ _ _ _ => lF'); (with_unfolding_all refine' For_invTF lF' ?_ ?hs; (case hs => (intro _; rfl)); k_whole)))
local macro_rules | `(tactic| walk_at "pyIter ref") => `(tactic| (k_here; (with_reducible show wpAny _ _ (pyIter (Value.ref _)) (fun it s₂ => LoopAtT _ _ _ _ _ _ _ _ _ it s₂) _ _); (with_unfolding_all refine' area_iter (ks := (_, _, _, _, _, _, _)) (c₀ := (_, _, _, _, _, _, _, _)) ?hh ?F ?N ?hps ?hn ?hl ?hD ?hT ?hlen ?hoc ?hc ?hI ?hlo ?hoff ?_ ?_); (case hh => exact rfl); (case F => k_asm); (case N => k_asm); (case hl => assumption); (case hD => assumption); (case hT => assumption); (case hlen => assumption); (case hps => kst_all); (case hoc => assumption); (case hn => exact List.forall_mem_cons.mpr ⟨by k_memK, List.forall_mem_cons.mpr ⟨by k_memK, List.forall_mem_cons.mpr ⟨by k_memK, List.forall_mem_cons.mpr ⟨by k_memK, fun z9 h9 => by kst_mem⟩⟩⟩⟩); (case hc => exact ⟨by dsimp only; omega, by dsimp only; omega, by dsimp only; omega, by dsimp only; omega, .none, .none⟩); (case hI => rfl); (case hlo => exact ⟨neN (by omega), neN (by omega), neN (by omega)⟩); (case hoff => exact off_three (by k_all) (by k_all) (by k_all))))
set_option maxRecDepth 100000 in
set_option maxHeartbeats 2000000 in
theorem area_spec {w : World} {mean : ExcName → Option Value} {mg mb : Str → Option Value} {dp un : Nat} {gd : Option (List Code)} {cn : Str} {cs : Scope} {a : Addr} {ccd : Value} {cl : List (Str × Addr)} {outer : List Env} {A₀ : Around} {base h₀ : Heap} {L : Addr} {m : Str → Option Value} {s : Shared} {Q E : Value → Shared → Prop}
    {l : Addr} {vs : List Value} {ts : List Tr} {times : Int} {isT : Bool} {tt : Tok} {n : Nat} {tl : List (Addr × Obj)}
    (B : Below A₀ base outer h₀) (F : Fr h₀ L s.heap m) (X : (hd.heap_39 w.params).In h₀)
    (N : News h₀ L s.heap tl)
    (T : Top hd.view_39 (looseW hd.view_39 []) mean mg mb h₀) (hk : cs.kind = .function)
    (hl : (l, listOf vs.toArray n) ∈ tl) (hD : DatAll tl vs (ts.map td)) (hT : ∀ t ∈ ts, TOk t) (hlen : ts.length ≤ 10)
    (ht0 : 1 ≤ times) (ht1 : times ≤ 3)
    (hdp : dp + 6 < recursionLimit) (hu : un + 200 < cLine)
    (ret : ∀ r t1 t2 h' tk', Fr h₀ L h' m → News h₀ L h' ((r, tupOf [.int (area times isT ts).1 t1, .int (area times isT ts).1 t2, .bool true]) :: tl) → Q (.ref r) { s with heap := h', toks := tk' }) :
    wpAny (model PySem.Challenge.rw_tk0087_01.row.prog w) (ktrTop dp un gd cn cs L a ccd cl outer) (call (.ref 145) [.ref l, .int times tt, .bool isT]) Q E s := by
  w_top off
  revert X; k_fill; intro X
  refine wpAny_call ?_
  k_dflt (refine' code_defC ?k1 ?k2 ?k3 ?k4 ?k5 ?kA ?kF ?kK ?k6 ?k7 ?k8 ?k9 ?kB ?kD ?_ ?c2 ?c3 ?c4; (case kA => exact rfl); (case kF => exact rfl); (case kK => assumption); (case k1 => k_asm); (case k2 => k_asm); (case k3 => k_asm); (case k4 => k_asm); (case k5 => k_asm); (case k6 => k_is); (case k7 => k_is); (case k8 => ktr_room); (case k9 => exact BindsTo.of_eq rfl); (case kB => exact rfl); (case kD => decide +kernel); (case c2 => exact rfl); (case c3 => exact rfl); (case c4 => exact rfl); k_whole; intro g' L' h' tk' cells' FG' F' N' Y' B' X' T' l1; k_cells Y'; (try simp only [List.cons_append, List.nil_append] at N'); (try dsimp only); (try k_lift B'); (try k_fold))
  have hoffL : OwnOff tl [L' + 1] := fun p hp b hb => by rw [List.mem_singleton.mp hb]; exact Nat.ne_of_lt (Nat.lt_succ_of_lt (l1 p hp))
  clear l1
  k_steps
  · refine Hold.mk ?_
    intro i told now own os c t1 t2 tn lo us cnt oc tl' ow u t ad ta tb tc n9 s₁ hi hts hTk har hok hfl hsz hol hul hDu hoc hlo hoff hoff2 hsep hl' hD' hkp hm F9 N9
    obtain ⟨last, deed, which⟩ := t
    obtain ⟨⟨ha0, ha1⟩, ⟨hb0, hb1⟩, ⟨hc0, hc1⟩⟩ := hTk
    dsimp only at ha0 ha1 hb0 hb1 hc0 hc1 hm
    dsimp only [aLed, aPs, kstB] at F9 N9
    have hfl' : c.2.2.2.2.1 = (os.map fun p => p.1).sum := hfl
    have hul' : us.length ≤ 9 := by omega
    have hol' : os.length ≤ 9 := by omega
    have hTup := News.isTup N9 (List.Mem.tail _ (List.Mem.tail _ (List.Mem.tail _ (List.Mem.tail _ hm))))
    refine unpackN_ F9 N9 hTup ?_ ?_ ?_ ?_
    · exact rfl
    · exact rfl
    · exact rfl
    intro h' F' N'
    k_fold
    k_steps
    all_goals (try exact absurd hfl' (by assumption))
    all_goals first
      | (refine' area_send ?F ?N hts har hfl hsz hol hDu hlo hoff hl' hD' hkp (sep_of hsep) ht0 ht1 hc0 hc1 ?cond ?hok ?hB ?hI ?hoc ?hin ?hrest ?hne ?hall ?hps ?hr
         case F => assumption
         case N => assumption
         case cond => first | exact .inl (by assumption) | exact .inr (by assumption)
         case hI => assumption
         case hok => assumption
         case hB => omega
         case hoc => assumption
         case hin => exact List.forall_mem_cons.mpr ⟨by k_memK, List.forall_mem_cons.mpr ⟨by k_memK, List.forall_mem_cons.mpr ⟨by k_memK, List.forall_mem_cons.mpr ⟨by k_memK, List.forall_mem_cons.mpr ⟨by k_memK, List.forall_mem_nil _⟩⟩⟩⟩⟩
         case hrest => (intro z9 h9; kst_mem)
         case hne => exact ⟨neN (by omega), neN (by omega), neN (by omega), neN (by omega)⟩
         case hall => k_all
         case hps => kst_all
         case hr => with_unfolding_all rfl)
      | (refine' area_cut ?F ?N hts har hfl hsz hol hDu hoff hl' hD' hkp (sep_of hsep) ?cond ?hne0 ?hp ?hk ?hk2 ?hok ?hB ?hI ?hoc ?hin ?hrest ?hne ?hall ?hps ?hr
         case F => assumption
         case N => assumption
         case cond => assumption
         case hne0 => assumption
         case hI => assumption
         case hp => assumption
         case hk => first | exact atOf_zero (by assumption) | exact atOf_last (by assumption)
         case hok => assumption
         case hB => omega
         case hoc => assumption
         case hin => exact List.forall_mem_cons.mpr ⟨by k_memK, List.forall_mem_cons.mpr ⟨by k_memK, List.forall_mem_cons.mpr ⟨by k_memK, List.forall_mem_cons.mpr ⟨by k_memK, List.forall_mem_nil _⟩⟩⟩⟩
         case hk2 => omega
         case hrest => (intro z9 h9; kst_mem)
         case hne => exact ⟨neN (by omega), neN (by omega), neN (by omega)⟩
         case hall => k_all
         case hps => kst_all
         case hr => with_unfolding_all rfl)
      | skip
  · refine Hold.mk ?_
    intro told now own os c t1 t2 tn lo us cnt oc tl' u h tk har hfl hsz hol hul hDu hoc hlo hoff hkp F9 N9
    dsimp only [aLed, aPs, kstB] at F9 N9
    have hfl' : c.2.2.2.2.1 = (os.map fun p => p.1).sum := hfl
    have hul' : us.length ≤ 10 := by omega
    try dsimp only
    try k_fold
    have e1 : told = (area times isT ts).1 := by rw [har]
    have e2 : own + (os.map fun p => p.1 * (now - p.2)).sum = (area times isT ts).1 := by
      have q := little times isT ts
      rw [har] at q ⊢
      exact q.symm
    k_steps
    all_goals (refine ret _ _ _ _ _ (by assumption) (area_last (by assumption) e1 e2 (by rw [hfl']; exact beq_self_eq_true _) (fun z9 h9 => ?_)))
    all_goals (have h8 := hkp z9 h9; kst_mem)
end Mine
end

section
open PySem PySem.W PyProof.Rows
namespace Mine
theorem turns_ts {ds : List Dat} (h : Turns ds) : ∃ ts : List Tr, ds = ts.map td ∧ ∀ t ∈ ts, TOk t := by
  induction ds with
  | nil => exact ⟨[], rfl, fun _ h => nomatch h⟩
  | cons d r ih =>
    obtain ⟨ts, e, ht⟩ := ih (fun x hx => h x (List.Mem.tail _ hx))
    obtain ⟨a, b, c, e', h1⟩ := h d (List.Mem.head _)
    refine ⟨(a, b, c) :: ts, by rw [e, e']; rfl, fun t hm => ?_⟩
    rcases List.mem_cons.mp hm with rfl | hm
    · exact h1
    · exact ht t hm
section
variable {w : World} {mean : ExcName → Option Value} {mg mb : Str → Option Value} {dp un : Nat} {gd : Option (List Code)} {cn : Str} {cs : Scope} {a : Addr} {ccd : Value} {cl : List (Str × Addr)} {outer : List Env} {A₀ : Around} {base h₀ : Heap} {L : Addr} {m : Str → Option Value} {s : Shared} {Q E : Value → Shared → Prop}
theorem turns_call {p q : Addr} {vs : List Value} {ns : List Int} {t : Tok} {n n' : Nat} {led : List (Addr × Obj)}
    (B : Below A₀ base outer h₀) (F : Fr h₀ L s.heap m) (X : (hd.heap_39 w.params).In h₀) (N : News h₀ L s.heap led)
    (T : Top hd.view_39 (looseW hd.view_39 []) mean mg mb h₀) (hk : cs.kind = .function)
    (hp : (p, listOf [.ref q, .int 0 t].toArray n) ∈ led) (hq : (q, listOf vs.toArray n') ∈ led)
    (hpq : @Ne Nat q p) (hi : IntsAre vs ns) (hlen : ns.length ≤ 31)
    (hdp : dp + 2 < recursionLimit) (hu : un + 16 < cLine)
    (ret : ∀ l us (ts : List Tr) c tl h' tk', us.length ≤ 10 → 6 ≤ ts.length → ts.length ≤ 10 → (∀ t ∈ ts, TOk t) → DatAll tl us (ts.map td) → Fr h₀ L h' m → News h₀ L h' ((l, listOf us.toArray c) :: tl) → Q (.ref l) { s with heap := h', toks := tk' }) :
    wpAny (model PySem.Challenge.rw_tk0087_01.row.prog w) (ktrTop dp un gd cn cs L a ccd cl outer) (call (.ref 140) [.ref p]) Q E s := by
  refine turns_spec (t := t) (n := n) (n' := n') B F X (cb_drop N fun z hz => ?_) T hk hpq hi hlen hdp hu fun l us ds c tl h' tk' a1 a2 a3 a4 a5 F' N' => ?_
  · rcases List.mem_cons.mp hz with rfl | hz
    · exact hp
    · rw [List.mem_singleton.mp hz]; exact hq
  · obtain ⟨ts, rfl, ht⟩ := turns_ts a4
    rw [List.length_map] at a2 a3
    exact ret l us ts c tl h' tk' a1 a2 a3 ht a5 F' N'

theorem len_trips {tl led : List (Addr × Obj)} {l : Addr} {us : List Value} {ts : List Tr} {n : Nat} {prog : Program} {A : Around} (N : News h₀ L s.heap led) (hm : (l, listOf us.toArray n) ∈ led) (hd : DatAll tl us (ts.map td)) (hlen : us.length ≤ 100)
    (h : Q (.int (ts.length : Int) (s.toks + 1)) { s with toks := s.toks + 1 + 1 }) : wpAny (model prog w) A (call (.builtin "len") [.ref l]) Q E s := by
  have hl := hd.length
  rw [List.length_map] at hl
  exact kd_len N hm hd (by rw [List.length_map]; omega) (by rw [List.length_map]; exact h)

/-- the area of a list of turns, as a call -/
theorem area_call {l : Addr} {vs : List Value} {ts : List Tr} {times : Int} {isT : Bool} {tt : Tok} {n : Nat} {tl led : List (Addr × Obj)}
    (B : Below A₀ base outer h₀) (F : Fr h₀ L s.heap m) (X : (hd.heap_39 w.params).In h₀) (N : News h₀ L s.heap led)
    (T : Top hd.view_39 (looseW hd.view_39 []) mean mg mb h₀) (hk : cs.kind = .function)
    (hl : (l, listOf vs.toArray n) ∈ led) (hD : DatAll tl vs (ts.map td)) (hsub : ∀ z ∈ tl, z ∈ led) (hT : ∀ t ∈ ts, TOk t) (hlen : ts.length ≤ 10)
    (ht0 : 1 ≤ times) (ht1 : times ≤ 3) (hdp : dp + 6 < recursionLimit) (hu : un + 200 < cLine)
    (ret : ∀ r t1 t2 h' tk', Fr h₀ L h' m → News h₀ L h' ((r, tupOf [.int (area times isT ts).1 t1, .int (area times isT ts).1 t2, .bool true]) :: led) → Q (.ref r) { s with heap := h', toks := tk' }) :
    wpAny (model PySem.Challenge.rw_tk0087_01.row.prog w) (ktrTop dp un gd cn cs L a ccd cl outer) (call (.ref 145) [.ref l, .int times tt, .bool isT]) Q E s :=
  area_spec B F X N T hk hl (hD.mono hsub) hT hlen ht0 ht1 hdp hu ret
theorem trips_take {tl : List (Addr × Obj)} {us : List Value} {ts : List Tr} (h : DatAll tl us (ts.map td)) (k : Nat) : DatAll tl (us.take k) ((ts.take k).map td) := by
  rw [List.map_take]; exact datAll_take h k
theorem tok_take {ts : List Tr} (h : ∀ t ∈ ts, TOk t) (k : Nat) : ∀ t ∈ ts.take k, TOk t := fun t ht => h t (List.mem_of_mem_take ht)
end
section
variable {prog : Program} {w : World} {A : Around} {E : Value → Shared → Prop} {s : Shared} {env : Env} {h₀ : Heap} {x : Str} {body : List Stmt} {Q : Flow → Shared → Prop}
/-- what the prefixes' loop keeps -/
structure MJ (l : Addr) (us : List Value) (cnt : Nat) (tl : List (Addr × Obj)) (ts : List Tr) (i : Nat) (m : Str → Option Value) (nx : List (Addr × Obj)) : Prop where
  led : nx = (l, listOf us.toArray cnt) :: tl
  turns : m (Str.ofString "turns") = some (.ref l)
  told : 0 < i → ∃ t, m (Str.ofString "told") = some (.int (area 1 false (ts.take i)).1 t)
theorem many_loop {r l : Addr} {us : List Value} {cnt : Nat} {tl news : List (Addr × Obj)} {ts : List Tr} {t₀ u₀ v₀ : Tok} {m₀ : Str → Option Value}
    (hh : A.handled = none) (hr : IsRange s.heap r 1 ((ts.length : Int) + 1) 1 t₀ u₀ v₀) (h1 : 1 ≤ ts.length) (h10 : ts.length ≤ 10) (F : Fr h₀ env.locals s.heap m₀) (N : News h₀ env.locals s.heap news)
    (hsub : ∀ z ∈ (l, listOf us.toArray cnt) :: tl, z ∈ news) (hm : m₀ (Str.ofString "turns") = some (.ref l)) (hx : x ≠ Str.ofString "turns" ∧ x ≠ Str.ofString "told")
    (turn : Hold (∀ (i : Nat) (k : Int) t (u : Str → Option Value) h tk own, i < ts.length → k = 1 + (i : Int) → OwnOff own (((l, listOf us.toArray cnt) :: tl).map (·.1)) →
      Fr h₀ env.locals h (fun y => if y = x then some (.int k t) else if y = Str.ofString "turns" then some (.ref l) else u y) → News h₀ env.locals h ((l, listOf us.toArray cnt) :: (tl ++ own)) →
      wpAny (model prog w) A (execs body env) (InvPostG h₀ env.locals (MJ l us cnt tl ts (i + 1)) own { s with heap := h, toks := tk } Q) E { s with heap := h, toks := tk }))
    (done : Hold (∀ (u : Str → Option Value) t h tk, Fr h₀ env.locals h (fun y => if y = Str.ofString "turns" then some (.ref l) else if y = Str.ofString "told" then some (.int (area 1 false ts).1 t) else u y) →
      News h₀ env.locals h ((l, listOf us.toArray cnt) :: tl) → Q .next { s with heap := h, toks := tk })) :
    wpAny (model prog w) A (pyIter (.ref r)) (fun it s₂ => LoopAtV prog w A h₀ env x body Q E it s₂) E s := by
  have hsz : Builtin.Range.rangeSize 1 ((ts.length : Int) + 1) 1 = (ts.length : Int) := by rw [rangeSize_nat]; omega
  have hsm : Builtin.Range.small 1 ((ts.length : Int) + 1) 1 = true := small_one (by omega) (by omega) (by omega) (by omega)
  refine wpAny_pyIter_range hr hsm ?_
  have W : Walks prog w A s.heap.objs.size [s.heap.objs.size] [s.heap.objs.size] ts.length (fun i v => i < ts.length ∧ ∃ t, v = .int (1 + i * 1) t)
      (fun i h => IsRangeIter h s.heap.objs.size (1 + (i : Nat) * 1) ((ts.length : Int) - (i : Nat)) 1) := (Walks.range hh _ 1 1 ts.length).bound
  refine kdr_loop (news := (l, listOf us.toArray cnt) :: tl) (MJ l us cnt tl ts) W (fun _ h => h) (fun _ h => h) ?_ ?_ ?_ ?_ (by show IsRangeIter _ _ _ _ _; rw [hsz]; simpa using Heap.get?_push_size _ rfl) (F.push _) (fun p hp => ⟨Heap.get?_push_of_some _ (N p (hsub p hp)).1, (N p (hsub p hp)).2⟩) ⟨rfl, hm, fun h => absurd h (Nat.lt_irrefl _)⟩ ?_ ?_
  · intro i h hi b hb
    rw [List.mem_singleton.mp hb]
    exact ⟨_, hi⟩
  · intro hm
    exact absurd F.ns.lt ((List.mem_singleton.mp hm) ▸ Nat.lt_irrefl _)
  · intro b hb
    rw [List.mem_singleton.mp hb]
    exact next_is_new F
  · intro p hp hI
    exact absurd (Heap.lt_size (N p (hsub p hp)).1) ((List.mem_singleton.mp hI) ▸ Nat.lt_irrefl _)
  · rintro i v m₁ nx h tk own hi ⟨_, t, rfl⟩ hoff ⟨rfl, h2, _⟩ F₁ N₁
    refine turn.out i (1 + (i : Int) * 1) t m₁ h tk own hi (by omega) hoff ?_ N₁
    have e : (fun y => if y = x then some (Value.int (1 + (i : Int) * 1) t) else if y = Str.ofString "turns" then some (Value.ref l) else m₁ y) = fun y => if y = x then some (Value.int (1 + (i : Int) * 1) t) else m₁ y := by
      funext y
      by_cases hy : y = x
      · rw [if_pos hy, if_pos hy]
      · rw [if_neg hy, if_neg hy]
        by_cases hy2 : y = Str.ofString "turns"
        · rw [if_pos hy2, hy2, h2]
        · rw [if_neg hy2]
    rw [e]; exact F₁
  · rintro m₁ nx h tk ⟨rfl, h2, h3⟩ F₁ N₁
    have h0 : 0 < ts.length := h1
    obtain ⟨t, h3⟩ := h3 h0
    rw [List.take_length] at h3
    refine done.out m₁ t h tk ?_ N₁
    have e : (fun y => if y = Str.ofString "turns" then some (Value.ref l) else if y = Str.ofString "told" then some (Value.int (area 1 false ts).1 t) else m₁ y) = m₁ := by
      funext y
      by_cases hy : y = Str.ofString "turns"
      · rw [if_pos hy, hy, h2]
      · rw [if_neg hy]
        by_cases hy2 : y = Str.ofString "told"
        · rw [if_pos hy2, hy2, h3]
        · rw [if_neg hy2]
    rw [e]; exact F₁
end
end Mine
end

section
open PySem PySem.W PyProof.Rows
namespace Mine
local macro_rules | `(tactic| walk_at "call ref") => `(tactic| (k_here; k_dflt (refine' turns_call ?B ?F ?X ?N ?T ?hk ?hp ?hq ?hpq ?hi ?hlen ?hdp ?hu ?_; (case B => k_asm); (case F => k_asm); (case X => k_asm); (case N => k_asm); (case T => k_asm); (case hk => exact rfl); (case hp => k_mem); (case hq => k_mem); (case hpq => (refine neN ?_; omega)); (case hi => assumption); (case hlen => ((try simp only [List.length_map, List.length_take]); omega)); (case hdp => ktr_room); (case hu => ktr_units); k_whole); intro l9 us9 ts9 c9 tl9 h' tk' hu9 hl9 hl9' hT9 hD9 F' N'; (try dsimp only); (try k_sweep)))
local macro_rules | `(tactic| walk_at "call builtin:len") => `(tactic| (k_here; k_dflt (refine' len_trips ?N ?hm ?hd ?hl ?_; (case N => k_asm); (case hm => k_mem); (case hd => assumption); (case hl => omega); k_whole)))
local macro_rules | `(tactic| walk_at "execs cons") => `(tactic| (k_here; (with_reducible refine wpAny_execs_cons ?_); (try dsimp only); (try (with_reducible refine gen_tk ?_; intro tk'))))
local macro_rules | `(tactic| walk_at "pyIter ref") => `(tactic| (k_here; (with_reducible show wpAny _ _ (pyIter (Value.ref _)) (fun it s₂ => LoopAtV _ _ _ _ _ _ _ _ _ it s₂) _ _); refine Hold.out ?_))
local macro_rules | `(tactic| walk_at "subscriptTail Name Slice ref ref") => `(tactic| (k_here; (with_reducible show wpAny _ _ (subscriptTail _ (PySem.Expr.Slice _ _ none _) (Value.ref _) (Value.ref _)) _ _ _); k_dflt (refine' slice_to ?F ?N ?l ?p ?q ?h0 ?z ?_ ?s ?t; (case F => k_asm); (case N => k_asm); (case l => k_mem); (case p => kmk_part); (case q => kmk_part); (case h0 => omega); (case z => omega); (case s => with_unfolding_all rfl); (case t => kmk_pure); k_whole); intro D' h' F' N' l1; (try k_lt l1); (try k_sweep)))
local macro_rules | `(tactic| walk_at "call ref") => `(tactic| (k_here; k_dflt (refine' area_call ?B ?F ?X ?N ?T ?hk ?hl ?hD ?hsub ?hT ?hlen ?ht0 ?ht1 ?hdp ?hu ?_; (case B => k_asm); (case F => k_asm); (case X => k_asm); (case N => k_asm); (case T => k_asm); (case hk => exact rfl); (case hl => k_mem); (case hD => first | assumption | exact trips_take (by assumption) _); (case hsub => (intro z9 h9; kst_mem)); (case hT => first | assumption | exact tok_take (by assumption) _); (case hlen => ((try simp only [List.length_take]); omega)); (case ht0 => decide); (case ht1 => decide); (case hdp => ktr_room); (case hu => ktr_units); k_whole); intro r9 t9 t9' h' tk' F' N'; (try dsimp only); (try k_sweep)))
set_option maxRecDepth 100000 in
set_option maxHeartbeats 1000000 in
theorem main : PySem.Challenge.rw_tk0087_01.Holds := hd (by
  w_strict (k_go0; (all_goals try k_fold); k_steps)
  refine Hold.mk ?_
  with_unfolding_all refine' many_loop ?hh ?hr ?h1 ?h10 ?F ?N ?hsub ?hm ?hx ?_ ?_
  case hh => exact rfl
  case hr => assumption
  case F => k_asm
  case N => k_asm
  case hsub => exact fun _ h => h
  case hm => rfl
  case h1 => omega
  case h10 => omega
  case hx => decide
  · refine Hold.mk ?_
    intro i k t u h tk own hi hk hoff F9 N9
    subst hk
    k_fold
    k_steps
    have e9 : (1 + (i : Int)).toNat = i + 1 := by omega
    refine' InvEndG.intro ?F ?N ⟨rfl, ?turns, fun _ => ⟨_, ?told⟩⟩ hoff (List.forall_mem_cons.mpr ⟨?hl, fun z9 h9 => ?hn⟩) (fun z9 h9 => ?ho)
    case F => assumption
    case N => assumption
    case turns => exact rfl
    case told => (rw [← e9]; exact rfl)
    case hl => k_memK
    case hn => kst_mem
    case ho => kst_mem
  · refine Hold.mk ?_
    intro u t h tk F9 N9
    have hsc := area_scale 3 false
    try dsimp only
    try k_fold
    k_steps)
end Mine
end

theorem PySem.Challenge.cw_tk0087_01_holds : PySem.Challenge.rw_tk0087_01.Holds :=
  Mine.main
