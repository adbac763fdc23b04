import PyProof.Rows.All
import Wide.All
import OpenK.AllK
import Wide.FinOn
import PySem.Challenge.RW_nz0561_01
set_option Elab.async false

section PNTop
open PySem PySem.W PyProof.Rows
namespace NZ
set_option maxRecDepth 100000
set_option maxHeartbeats 8000000
/-- the statements of the text that the walk asks for: all but the three that set the module's name -/
def vw : Program := view PySem.Challenge.rw_nz0561_01.row.prog [1, 2, 3, 4, 5, 6, 7, 8, 9, 10, 11, 12, 14, 15, 16, 17, 18, 19, 20, 21, 22, 23, 25, 26, 27, 28, 29, 30, 31, 32, 33]
-- the head at once: the top is run by one check
local macro_rules | `(tactic| o_head $H) => `(tactic| (
  (apply holds_open (q := NZ.vw) (loose := []) (Xt := fun s => xlAt NZ.vw [] s && recOk (RowW.records PySem.Challenge.rw_nz0561_01.row.toRowW) s) (XP := XL NZ.vw []) (Yf := Hook.obs $H) (Ya := Hook.val $H) (YP := Hook.says $H) (N := 2182)
    (hY := Hook.of $H) (hYk := Hook.keeps $H) (hX := fun s e => xl_of s (Bool.and_eq_true_iff.mp e).1) (hXk := XL.keeps) (hdef := by rfl) (hp := by rfl) (hk := by rfl) (hRf := fun s e => recFacts_of (Bool.and_eq_true_iff.mp e).2) (hwr := by rfl)
    (k1 := by first | assumption | decide +kernel) (ok := by decide +kernel) (hb := ⟨rfl, rfl, rfl, rfl, rfl, by decide +kernel⟩))
  (case left => (intro w; kernel_rfl))))
open_top hd for PySem.Challenge.rw_nz0561_01
end NZ
end PNTop

local macro_rules | `(tactic| walk_at $s:str) => `(tactic| k_extra $s)
local macro_rules | `(tactic| k_all) => `(tactic| k_extra "k_all")
local macro_rules | `(tactic| ktr_enter) => `(tactic| k_extra "ktr_enter")
local macro_rules | `(tactic| k_mem) => `(tactic| k_extra "k_mem")
local macro_rules | `(tactic| k_ne) => `(tactic| k_extra "k_ne")

section PNBase
open PySem PySem.W PyProof.Rows PySem.Calls
set_option maxRecDepth 100000
set_option maxHeartbeats 8000000
namespace NZ

/-- a call of the def at f upon vs with the ledger news: it comes back, and Ret says of the value and of the ledger behind -/
def Does (f : Addr) (vs : List Value) (news : List (Addr × Obj)) (k : Nat) (Ret : Value → List (Addr × Obj) → Prop) : Prop :=
  ∀ (w : World) (p : Program) (loose : List Str) (mean : ExcName → Option Value) (mg mb : Str → Option Value) (dp un : Nat) (gd : Option (List Code)) (cn : Str) (cs : Scope) (a : Addr) (ccd : Value) (cl : List (Str × Addr)) (outer : List Env) (A₀ : Around) (base h₀ : Heap) (L : Addr) (m : Str → Option Value) (s : Shared) (Q E : Value → Shared → Prop),
    Below A₀ base outer h₀ → Fr h₀ L s.heap m → (NZ.hd.heap_39 w.params).In h₀ → News h₀ L s.heap news → Top p loose mean mg mb h₀ → cs.kind = .function → dp + k < recursionLimit → un + 8 * k < cLine →
    (∀ v news' h' tk', Ret v news' → Fr h₀ L h' m → News h₀ L h' news' → Q v { s with heap := h', toks := tk' }) →
    wpAny (model PySem.Challenge.rw_nz0561_01.row.prog w) (ktrTop dp un gd cn cs L a ccd cl outer) (call (.ref f) vs) Q E s

theorem does_use {f : Addr} {vs : List Value} {news : List (Addr × Obj)} {k : Nat} {Ret : Value → List (Addr × Obj) → Prop} {w : World} {p : Program} {loose : List Str} {mean : ExcName → Option Value} {mg mb : Str → Option Value} {dp un : Nat} {gd : Option (List Code)} {cn : Str} {cs : Scope} {a : Addr} {ccd : Value} {cl : List (Str × Addr)} {outer : List Env} {A₀ : Around} {base h₀ : Heap} {L : Addr} {m : Str → Option Value} {s : Shared} {Q E : Value → Shared → Prop}
    (D : Does f vs news k Ret) (B : Below A₀ base outer h₀) (F : Fr h₀ L s.heap m) (X : (NZ.hd.heap_39 w.params).In h₀) (N : News h₀ L s.heap news) (T : Top p loose mean mg mb h₀) (hk : cs.kind = .function) (hd : dp + k < recursionLimit) (hu : un + 8 * k < cLine)
    (ret : ∀ v news' h' tk', Ret v news' → Fr h₀ L h' m → News h₀ L h' news' → Q v { s with heap := h', toks := tk' }) :
    wpAny (model PySem.Challenge.rw_nz0561_01.row.prog w) (ktrTop dp un gd cn cs L a ccd cl outer) (call (.ref f) vs) Q E s :=
  D _ _ _ _ _ _ _ _ _ _ _ _ _ _ _ _ _ _ _ _ _ _ _ B F X N T hk hd hu ret

/-- Does, where what comes back may speak of the world -/
def DoesW (f : Addr) (vs : List Value) (news : List (Addr × Obj)) (k : Nat) (Ret : World → Value → List (Addr × Obj) → Prop) : Prop :=
  ∀ (w : World) (p : Program) (loose : List Str) (mean : ExcName → Option Value) (mg mb : Str → Option Value) (dp un : Nat) (gd : Option (List Code)) (cn : Str) (cs : Scope) (a : Addr) (ccd : Value) (cl : List (Str × Addr)) (outer : List Env) (A₀ : Around) (base h₀ : Heap) (L : Addr) (m : Str → Option Value) (s : Shared) (Q E : Value → Shared → Prop),
    Below A₀ base outer h₀ → Fr h₀ L s.heap m → (NZ.hd.heap_39 w.params).In h₀ → News h₀ L s.heap news → Top p loose mean mg mb h₀ → cs.kind = .function → dp + k < recursionLimit → un + 8 * k < cLine →
    (∀ v news' h' tk', Ret w v news' → Fr h₀ L h' m → News h₀ L h' news' → Q v { s with heap := h', toks := tk' }) →
    wpAny (model PySem.Challenge.rw_nz0561_01.row.prog w) (ktrTop dp un gd cn cs L a ccd cl outer) (call (.ref f) vs) Q E s

theorem doesW_use {f : Addr} {vs : List Value} {news : List (Addr × Obj)} {k : Nat} {Ret : World → Value → List (Addr × Obj) → Prop} {w : World} {p : Program} {loose : List Str} {mean : ExcName → Option Value} {mg mb : Str → Option Value} {dp un : Nat} {gd : Option (List Code)} {cn : Str} {cs : Scope} {a : Addr} {ccd : Value} {cl : List (Str × Addr)} {outer : List Env} {A₀ : Around} {base h₀ : Heap} {L : Addr} {m : Str → Option Value} {s : Shared} {Q E : Value → Shared → Prop}
    (D : DoesW f vs news k Ret) (B : Below A₀ base outer h₀) (F : Fr h₀ L s.heap m) (X : (NZ.hd.heap_39 w.params).In h₀) (N : News h₀ L s.heap news) (T : Top p loose mean mg mb h₀) (hk : cs.kind = .function) (hd : dp + k < recursionLimit) (hu : un + 8 * k < cLine)
    (ret : ∀ v news' h' tk', Ret w v news' → Fr h₀ L h' m → News h₀ L h' news' → Q v { s with heap := h', toks := tk' }) :
    wpAny (model PySem.Challenge.rw_nz0561_01.row.prog w) (ktrTop dp un gd cn cs L a ccd cl outer) (call (.ref f) vs) Q E s :=
  D _ _ _ _ _ _ _ _ _ _ _ _ _ _ _ _ _ _ _ _ _ _ _ B F X N T hk hd hu ret

/-- from the list ahead of the ledger to a ledger that holds it -/
theorem doesW_read {f : Addr} {vs : List Value} {k : Nat} {e : Addr × Obj} {news : List (Addr × Obj)} {Ret Ret' : World → Value → List (Addr × Obj) → Prop} (raw : DoesW f vs (e :: news) k Ret) (hm : e ∈ news)
    (h : ∀ w v nw, Ret w v nw → ∃ nw', Ret' w v nw' ∧ ∀ p ∈ nw', p ∈ nw) : DoesW f vs news k Ret' := by
  intro w p loose mean mg mb dp un gd cn cs a ccd cl outer A₀ base h₀ L m s Q E B F X N T hk hd hu ret
  refine raw _ _ _ _ _ _ _ _ _ _ _ _ _ _ _ _ _ _ _ _ _ _ _ B F X (fun p hp => ?_) T hk hd hu fun v nw h' tk' hR F' N' => ?_
  · rcases List.mem_cons.mp hp with rfl | hp
    · exact N _ hm
    · exact N _ hp
  · obtain ⟨nw', hR', sub⟩ := h w v nw hR
    exact ret v nw' h' tk' hR' F' fun p hp => N' p (sub p hp)

theorem does_mono {f : Addr} {vs : List Value} {news : List (Addr × Obj)} {k : Nat} {Ret Ret' : Value → List (Addr × Obj) → Prop} (D : Does f vs news k Ret)
    (h : ∀ v nw, Ret v nw → ∃ nw', Ret' v nw' ∧ ∀ p ∈ nw', p ∈ nw) : Does f vs news k Ret' := by
  intro w p loose mean mg mb dp un gd cn cs a ccd cl outer A₀ base h₀ L m s Q E B F X N T hk hd hu ret
  refine D _ _ _ _ _ _ _ _ _ _ _ _ _ _ _ _ _ _ _ _ _ _ _ B F X N T hk hd hu fun v nw h' tk' hR F' N' => ?_
  obtain ⟨nw', hR', sub⟩ := h v nw hR
  exact ret v nw' h' tk' hR' F' fun p hp => N' p (sub p hp)

theorem does_news {f : Addr} {vs : List Value} {news news₁ : List (Addr × Obj)} {k : Nat} {Ret : Value → List (Addr × Obj) → Prop} (D : Does f vs news₁ k Ret) (sub : ∀ p ∈ news₁, p ∈ news) : Does f vs news k Ret := by
  intro w p loose mean mg mb dp un gd cn cs a ccd cl outer A₀ base h₀ L m s Q E B F X N T hk hd hu ret
  exact D _ _ _ _ _ _ _ _ _ _ _ _ _ _ _ _ _ _ _ _ _ _ _ B F X (fun p hp => N p (sub p hp)) T hk hd hu ret

theorem news_drop1 {h₀ h : Heap} {L : Addr} {a : Addr × Obj} {l : List (Addr × Obj)} (N : News h₀ L h (a :: l)) : News h₀ L h l := fun p hp => N p (.tail _ hp)
theorem news_drop2 {h₀ h : Heap} {L : Addr} {a b : Addr × Obj} {l : List (Addr × Obj)} (N : News h₀ L h (a :: b :: l)) : News h₀ L h (a :: l) := fun p hp => by
  rcases List.mem_cons.mp hp with rfl | hp
  · exact N _ (.head _)
  · exact N _ (.tail _ (.tail _ hp))
/-- the hand that deals: the numbers' place, how many are taken, the seed -/
def DealOk (o : Obj) (nA : Addr) (len : Nat) : Prop := ∃ (i sd : Int) (ti tsd n : Nat), o = listOf #[.ref nA, .int i ti, .int sd tsd] n ∧ 0 ≤ i ∧ i ≤ len ∧ 0 ≤ sd ∧ sd < 2147483647
def NumsOk (o : Obj) (len : Nat) : Prop := ∃ (vs : List Value) (ns : List Int) (n : Nat), o = listOf vs.toArray n ∧ IntsAre vs ns ∧ ns.length = len ∧ len ≤ 40 ∧ ∀ x ∈ ns, 0 ≤ x ∧ x < 1000003

/-- from the ledger's two first places to any ledger that holds them -/
theorem does_deal {f : Addr} {vs : List Value} {k : Nat} {d nA : Addr} {oD oN : Obj} {news : List (Addr × Obj)} {news' : Obj → List (Addr × Obj)} {R : Value → Obj → List (Addr × Obj) → Prop}
    (raw : ∀ rest, (∀ p ∈ rest, p.1 ≠ d) → Does f vs ((d, oD) :: (nA, oN) :: rest) k (fun v nw => ∃ o ex, R v o ex ∧ (∀ p ∈ ex, AllLt p.1 ((d, oD) :: (nA, oN) :: rest)) ∧ nw = ex ++ (d, o) :: (nA, oN) :: rest))
    (hn : (nA, oN) ∈ news) (hne : nA ≠ d) (U : ∀ o, Upd d oD o news (news' o)) :
    Does f vs news k (fun v nw => ∃ o ex, R v o ex ∧ (∀ p ∈ ex, AllLt p.1 news) ∧ nw = ex ++ news' o) := by
  obtain ⟨pre, post, e1, _, h1, h2⟩ := (U oD).split
  have sub : ∀ p ∈ (d, oD) :: (nA, oN) :: (pre ++ post), p ∈ news := by
    intro p hp
    rcases List.mem_cons.mp hp with rfl | hp
    · rw [e1]; simp
    rcases List.mem_cons.mp hp with rfl | hp
    · exact hn
    rw [e1]
    rcases List.mem_append.mp hp with q | q
    · exact List.mem_append_left _ q
    · exact List.mem_append_right _ (.tail _ q)
  have sub' : ∀ p ∈ news, p ∈ (d, oD) :: (nA, oN) :: (pre ++ post) := by
    intro p hp
    rw [e1] at hp
    rcases List.mem_append.mp hp with q | q
    · exact .tail _ (.tail _ (List.mem_append_left _ q))
    rcases List.mem_cons.mp q with rfl | q
    · exact .head _
    · exact .tail _ (.tail _ (List.mem_append_right _ q))
  have all : ∀ {a : Addr} {l : List (Addr × Obj)}, AllLt a l → ∀ p ∈ l, p.1 < a := by
    intro a l
    induction l with
    | nil => intro _ p hp; cases hp
    | cons q r ih =>
      intro h p hp
      rcases List.mem_cons.mp hp with rfl | hp
      · exact h.1
      · exact ih h.2 p hp
  refine does_mono (does_news (raw (pre ++ post) (fun p hp => (List.mem_append.mp hp).elim (h1 p) (h2 p))) sub) ?_
  rintro v nw ⟨o, ex, hR, hl, rfl⟩
  refine ⟨ex ++ news' o, ⟨o, ex, hR, fun p hp => allLt_of fun q hq => all (hl p hp) q (sub' q hq), rfl⟩, ?_⟩
  intro p hp
  rcases List.mem_append.mp hp with q | q
  · exact List.mem_append_left _ q
  · refine List.mem_append_right _ ?_
    obtain ⟨pre', post', e1', e2', h1', h2'⟩ := (U o).split
    by_cases hpd : p.1 = d
    · rw [e2'] at q
      rcases List.mem_append.mp q with q | q
      · exact absurd hpd (h1' p q)
      rcases List.mem_cons.mp q with rfl | q
      · exact .head _
      · exact absurd hpd (h2' p q)
    · have hnw : p ∈ news := by
        rw [e2'] at q; rw [e1']
        rcases List.mem_append.mp q with q | q
        · exact List.mem_append_left _ q
        rcases List.mem_cons.mp q with rfl | q
        · exact absurd rfl hpd
        · exact List.mem_append_right _ (.tail _ q)
      have := sub' p hnw
      rcases List.mem_cons.mp this with rfl | this
      · exact absurd rfl hpd
      · exact .tail _ this
theorem use00 {f : Addr} {vs : List Value} {news : List (Addr × Obj)} {k : Nat} {V : Value} {NW : List (Addr × Obj)} {w : World} {p : Program} {loose : List Str} {mean : ExcName → Option Value} {mg mb : Str → Option Value} {dp un : Nat} {gd : Option (List Code)} {cn : Str} {cs : Scope} {a : Addr} {ccd : Value} {cl : List (Str × Addr)} {outer : List Env} {A₀ : Around} {base h₀ : Heap} {L : Addr} {m : Str → Option Value} {s : Shared} {Q E : Value → Shared → Prop}
    (B : Below A₀ base outer h₀) (F : Fr h₀ L s.heap m) (X : (NZ.hd.heap_39 w.params).In h₀) (N : News h₀ L s.heap news) (T : Top p loose mean mg mb h₀) (hk : cs.kind = .function) (D : Does f vs news k (fun v nw => v = V ∧ nw = NW)) (hd : dp + k < recursionLimit) (hu : un + 8 * k < cLine)
    (ret : ∀ h' tk', Fr h₀ L h' m → News h₀ L h' NW → Q V { s with heap := h', toks := tk' }) :
    wpAny (model PySem.Challenge.rw_nz0561_01.row.prog w) (ktrTop dp un gd cn cs L a ccd cl outer) (call (.ref f) vs) Q E s :=
  does_use D B F X N T hk hd hu (by
    rintro v nw h' tk' ⟨rfl, rfl⟩ F' N'
    exact ret  h' tk' F' N')
theorem use10 {f : Addr} {vs : List Value} {news : List (Addr × Obj)} {k : Nat} {α0 : Type} {V : α0 → Value} {NW : α0 → List (Addr × Obj)} {w : World} {p : Program} {loose : List Str} {mean : ExcName → Option Value} {mg mb : Str → Option Value} {dp un : Nat} {gd : Option (List Code)} {cn : Str} {cs : Scope} {a : Addr} {ccd : Value} {cl : List (Str × Addr)} {outer : List Env} {A₀ : Around} {base h₀ : Heap} {L : Addr} {m : Str → Option Value} {s : Shared} {Q E : Value → Shared → Prop}
    (B : Below A₀ base outer h₀) (F : Fr h₀ L s.heap m) (X : (NZ.hd.heap_39 w.params).In h₀) (N : News h₀ L s.heap news) (T : Top p loose mean mg mb h₀) (hk : cs.kind = .function) (D : Does f vs news k (fun v nw => ∃ x0, v = (V x0) ∧ nw = (NW x0))) (hd : dp + k < recursionLimit) (hu : un + 8 * k < cLine)
    (ret : ∀ x0, ∀ h' tk', Fr h₀ L h' m → News h₀ L h' (NW x0) → Q (V x0) { s with heap := h', toks := tk' }) :
    wpAny (model PySem.Challenge.rw_nz0561_01.row.prog w) (ktrTop dp un gd cn cs L a ccd cl outer) (call (.ref f) vs) Q E s :=
  does_use D B F X N T hk hd hu (by
    rintro v nw h' tk' ⟨x0, rfl, rfl⟩ F' N'
    exact ret x0 h' tk' F' N')
theorem use10i {f : Addr} {vs : List Value} {news : List (Addr × Obj)} {k : Nat} {α0 : Type} {V : α0 → Value} {NW : List (Addr × Obj)} {w : World} {p : Program} {loose : List Str} {mean : ExcName → Option Value} {mg mb : Str → Option Value} {dp un : Nat} {gd : Option (List Code)} {cn : Str} {cs : Scope} {a : Addr} {ccd : Value} {cl : List (Str × Addr)} {outer : List Env} {A₀ : Around} {base h₀ : Heap} {L : Addr} {m : Str → Option Value} {s : Shared} {Q E : Value → Shared → Prop}
    (B : Below A₀ base outer h₀) (F : Fr h₀ L s.heap m) (X : (NZ.hd.heap_39 w.params).In h₀) (N : News h₀ L s.heap news) (T : Top p loose mean mg mb h₀) (hk : cs.kind = .function) (D : Does f vs news k (fun v nw => (∃ x0, v = (V x0)) ∧ nw = NW)) (hd : dp + k < recursionLimit) (hu : un + 8 * k < cLine)
    (ret : ∀ x0, ∀ h' tk', Fr h₀ L h' m → News h₀ L h' NW → Q (V x0) { s with heap := h', toks := tk' }) :
    wpAny (model PySem.Challenge.rw_nz0561_01.row.prog w) (ktrTop dp un gd cn cs L a ccd cl outer) (call (.ref f) vs) Q E s :=
  does_use D B F X N T hk hd hu (by
    rintro v nw h' tk' ⟨⟨x0, rfl⟩, rfl⟩ F' N'
    exact ret x0 h' tk' F' N')
theorem use21i {f : Addr} {vs : List Value} {news : List (Addr × Obj)} {k : Nat} {α0 α1 : Type} {V : α0 → α1 → Value} {NW : List (Addr × Obj)} {P0 : α0 → α1 → Prop} {w : World} {p : Program} {loose : List Str} {mean : ExcName → Option Value} {mg mb : Str → Option Value} {dp un : Nat} {gd : Option (List Code)} {cn : Str} {cs : Scope} {a : Addr} {ccd : Value} {cl : List (Str × Addr)} {outer : List Env} {A₀ : Around} {base h₀ : Heap} {L : Addr} {m : Str → Option Value} {s : Shared} {Q E : Value → Shared → Prop}
    (B : Below A₀ base outer h₀) (F : Fr h₀ L s.heap m) (X : (NZ.hd.heap_39 w.params).In h₀) (N : News h₀ L s.heap news) (T : Top p loose mean mg mb h₀) (hk : cs.kind = .function) (D : Does f vs news k (fun v nw => (∃ x0 x1, v = (V x0 x1) ∧ (P0 x0 x1)) ∧ nw = NW)) (hd : dp + k < recursionLimit) (hu : un + 8 * k < cLine)
    (ret : ∀ x0 x1, (P0 x0 x1) → ∀ h' tk', Fr h₀ L h' m → News h₀ L h' NW → Q (V x0 x1) { s with heap := h', toks := tk' }) :
    wpAny (model PySem.Challenge.rw_nz0561_01.row.prog w) (ktrTop dp un gd cn cs L a ccd cl outer) (call (.ref f) vs) Q E s :=
  does_use D B F X N T hk hd hu (by
    rintro v nw h' tk' ⟨⟨x0, x1, rfl, q0⟩, rfl⟩ F' N'
    exact ret x0 x1 q0 h' tk' F' N')
theorem use33 {f : Addr} {vs : List Value} {news : List (Addr × Obj)} {k : Nat} {α0 α1 α2 : Type} {V : α0 → α1 → α2 → Value} {NW : α0 → α1 → α2 → List (Addr × Obj)} {P0 P1 P2 : α0 → α1 → α2 → Prop} {w : World} {p : Program} {loose : List Str} {mean : ExcName → Option Value} {mg mb : Str → Option Value} {dp un : Nat} {gd : Option (List Code)} {cn : Str} {cs : Scope} {a : Addr} {ccd : Value} {cl : List (Str × Addr)} {outer : List Env} {A₀ : Around} {base h₀ : Heap} {L : Addr} {m : Str → Option Value} {s : Shared} {Q E : Value → Shared → Prop}
    (B : Below A₀ base outer h₀) (F : Fr h₀ L s.heap m) (X : (NZ.hd.heap_39 w.params).In h₀) (N : News h₀ L s.heap news) (T : Top p loose mean mg mb h₀) (hk : cs.kind = .function) (D : Does f vs news k (fun v nw => ∃ x0 x1 x2, v = (V x0 x1 x2) ∧ (P0 x0 x1 x2) ∧ (P1 x0 x1 x2) ∧ (P2 x0 x1 x2) ∧ nw = (NW x0 x1 x2))) (hd : dp + k < recursionLimit) (hu : un + 8 * k < cLine)
    (ret : ∀ x0 x1 x2, (P0 x0 x1 x2) → (P1 x0 x1 x2) → (P2 x0 x1 x2) → ∀ h' tk', Fr h₀ L h' m → News h₀ L h' (NW x0 x1 x2) → Q (V x0 x1 x2) { s with heap := h', toks := tk' }) :
    wpAny (model PySem.Challenge.rw_nz0561_01.row.prog w) (ktrTop dp un gd cn cs L a ccd cl outer) (call (.ref f) vs) Q E s :=
  does_use D B F X N T hk hd hu (by
    rintro v nw h' tk' ⟨x0, x1, x2, rfl, q0, q1, q2, rfl⟩ F' N'
    exact ret x0 x1 x2 q0 q1 q2 h' tk' F' N')
theorem use32 {f : Addr} {vs : List Value} {news : List (Addr × Obj)} {k : Nat} {α0 α1 α2 : Type} {V : α0 → α1 → α2 → Value} {NW : α0 → α1 → α2 → List (Addr × Obj)} {P0 P1 : α0 → α1 → α2 → Prop} {w : World} {p : Program} {loose : List Str} {mean : ExcName → Option Value} {mg mb : Str → Option Value} {dp un : Nat} {gd : Option (List Code)} {cn : Str} {cs : Scope} {a : Addr} {ccd : Value} {cl : List (Str × Addr)} {outer : List Env} {A₀ : Around} {base h₀ : Heap} {L : Addr} {m : Str → Option Value} {s : Shared} {Q E : Value → Shared → Prop}
    (B : Below A₀ base outer h₀) (F : Fr h₀ L s.heap m) (X : (NZ.hd.heap_39 w.params).In h₀) (N : News h₀ L s.heap news) (T : Top p loose mean mg mb h₀) (hk : cs.kind = .function) (D : Does f vs news k (fun v nw => ∃ x0 x1 x2, v = (V x0 x1 x2) ∧ (P0 x0 x1 x2) ∧ (P1 x0 x1 x2) ∧ nw = (NW x0 x1 x2))) (hd : dp + k < recursionLimit) (hu : un + 8 * k < cLine)
    (ret : ∀ x0 x1 x2, (P0 x0 x1 x2) → (P1 x0 x1 x2) → ∀ h' tk', Fr h₀ L h' m → News h₀ L h' (NW x0 x1 x2) → Q (V x0 x1 x2) { s with heap := h', toks := tk' }) :
    wpAny (model PySem.Challenge.rw_nz0561_01.row.prog w) (ktrTop dp un gd cn cs L a ccd cl outer) (call (.ref f) vs) Q E s :=
  does_use D B F X N T hk hd hu (by
    rintro v nw h' tk' ⟨x0, x1, x2, rfl, q0, q1, rfl⟩ F' N'
    exact ret x0 x1 x2 q0 q1 h' tk' F' N')
theorem use22 {f : Addr} {vs : List Value} {news : List (Addr × Obj)} {k : Nat} {α0 α1 : Type} {V : α0 → α1 → Value} {NW : α0 → α1 → List (Addr × Obj)} {P0 P1 : α0 → α1 → Prop} {w : World} {p : Program} {loose : List Str} {mean : ExcName → Option Value} {mg mb : Str → Option Value} {dp un : Nat} {gd : Option (List Code)} {cn : Str} {cs : Scope} {a : Addr} {ccd : Value} {cl : List (Str × Addr)} {outer : List Env} {A₀ : Around} {base h₀ : Heap} {L : Addr} {m : Str → Option Value} {s : Shared} {Q E : Value → Shared → Prop}
    (B : Below A₀ base outer h₀) (F : Fr h₀ L s.heap m) (X : (NZ.hd.heap_39 w.params).In h₀) (N : News h₀ L s.heap news) (T : Top p loose mean mg mb h₀) (hk : cs.kind = .function) (D : Does f vs news k (fun v nw => ∃ x0 x1, v = (V x0 x1) ∧ (P0 x0 x1) ∧ (P1 x0 x1) ∧ nw = (NW x0 x1))) (hd : dp + k < recursionLimit) (hu : un + 8 * k < cLine)
    (ret : ∀ x0 x1, (P0 x0 x1) → (P1 x0 x1) → ∀ h' tk', Fr h₀ L h' m → News h₀ L h' (NW x0 x1) → Q (V x0 x1) { s with heap := h', toks := tk' }) :
    wpAny (model PySem.Challenge.rw_nz0561_01.row.prog w) (ktrTop dp un gd cn cs L a ccd cl outer) (call (.ref f) vs) Q E s :=
  does_use D B F X N T hk hd hu (by
    rintro v nw h' tk' ⟨x0, x1, rfl, q0, q1, rfl⟩ F' N'
    exact ret x0 x1 q0 q1 h' tk' F' N')
theorem use64 {f : Addr} {vs : List Value} {news : List (Addr × Obj)} {k : Nat} {α0 α1 α2 α3 α4 α5 : Type} {V : α0 → α1 → α2 → α3 → α4 → α5 → Value} {NW : α0 → α1 → α2 → α3 → α4 → α5 → List (Addr × Obj)} {P0 P1 P2 P3 : α0 → α1 → α2 → α3 → α4 → α5 → Prop} {w : World} {p : Program} {loose : List Str} {mean : ExcName → Option Value} {mg mb : Str → Option Value} {dp un : Nat} {gd : Option (List Code)} {cn : Str} {cs : Scope} {a : Addr} {ccd : Value} {cl : List (Str × Addr)} {outer : List Env} {A₀ : Around} {base h₀ : Heap} {L : Addr} {m : Str → Option Value} {s : Shared} {Q E : Value → Shared → Prop}
    (B : Below A₀ base outer h₀) (F : Fr h₀ L s.heap m) (X : (NZ.hd.heap_39 w.params).In h₀) (N : News h₀ L s.heap news) (T : Top p loose mean mg mb h₀) (hk : cs.kind = .function) (D : Does f vs news k (fun v nw => ∃ x0 x1 x2 x3 x4 x5, v = (V x0 x1 x2 x3 x4 x5) ∧ (P0 x0 x1 x2 x3 x4 x5) ∧ (P1 x0 x1 x2 x3 x4 x5) ∧ (P2 x0 x1 x2 x3 x4 x5) ∧ (P3 x0 x1 x2 x3 x4 x5) ∧ nw = (NW x0 x1 x2 x3 x4 x5))) (hd : dp + k < recursionLimit) (hu : un + 8 * k < cLine)
    (ret : ∀ x0 x1 x2 x3 x4 x5, (P0 x0 x1 x2 x3 x4 x5) → (P1 x0 x1 x2 x3 x4 x5) → (P2 x0 x1 x2 x3 x4 x5) → (P3 x0 x1 x2 x3 x4 x5) → ∀ h' tk', Fr h₀ L h' m → News h₀ L h' (NW x0 x1 x2 x3 x4 x5) → Q (V x0 x1 x2 x3 x4 x5) { s with heap := h', toks := tk' }) :
    wpAny (model PySem.Challenge.rw_nz0561_01.row.prog w) (ktrTop dp un gd cn cs L a ccd cl outer) (call (.ref f) vs) Q E s :=
  does_use D B F X N T hk hd hu (by
    rintro v nw h' tk' ⟨x0, x1, x2, x3, x4, x5, rfl, q0, q1, q2, q3, rfl⟩ F' N'
    exact ret x0 x1 x2 x3 x4 x5 q0 q1 q2 q3 h' tk' F' N')
theorem use54 {f : Addr} {vs : List Value} {news : List (Addr × Obj)} {k : Nat} {α0 α1 α2 α3 α4 : Type} {V : α0 → α1 → α2 → α3 → α4 → Value} {NW : α0 → α1 → α2 → α3 → α4 → List (Addr × Obj)} {P0 P1 P2 P3 : α0 → α1 → α2 → α3 → α4 → Prop} {w : World} {p : Program} {loose : List Str} {mean : ExcName → Option Value} {mg mb : Str → Option Value} {dp un : Nat} {gd : Option (List Code)} {cn : Str} {cs : Scope} {a : Addr} {ccd : Value} {cl : List (Str × Addr)} {outer : List Env} {A₀ : Around} {base h₀ : Heap} {L : Addr} {m : Str → Option Value} {s : Shared} {Q E : Value → Shared → Prop}
    (B : Below A₀ base outer h₀) (F : Fr h₀ L s.heap m) (X : (NZ.hd.heap_39 w.params).In h₀) (N : News h₀ L s.heap news) (T : Top p loose mean mg mb h₀) (hk : cs.kind = .function) (D : Does f vs news k (fun v nw => ∃ x0 x1 x2 x3 x4, v = (V x0 x1 x2 x3 x4) ∧ (P0 x0 x1 x2 x3 x4) ∧ (P1 x0 x1 x2 x3 x4) ∧ (P2 x0 x1 x2 x3 x4) ∧ (P3 x0 x1 x2 x3 x4) ∧ nw = (NW x0 x1 x2 x3 x4))) (hd : dp + k < recursionLimit) (hu : un + 8 * k < cLine)
    (ret : ∀ x0 x1 x2 x3 x4, (P0 x0 x1 x2 x3 x4) → (P1 x0 x1 x2 x3 x4) → (P2 x0 x1 x2 x3 x4) → (P3 x0 x1 x2 x3 x4) → ∀ h' tk', Fr h₀ L h' m → News h₀ L h' (NW x0 x1 x2 x3 x4) → Q (V x0 x1 x2 x3 x4) { s with heap := h', toks := tk' }) :
    wpAny (model PySem.Challenge.rw_nz0561_01.row.prog w) (ktrTop dp un gd cn cs L a ccd cl outer) (call (.ref f) vs) Q E s :=
  does_use D B F X N T hk hd hu (by
    rintro v nw h' tk' ⟨x0, x1, x2, x3, x4, rfl, q0, q1, q2, q3, rfl⟩ F' N'
    exact ret x0 x1 x2 x3 x4 q0 q1 q2 q3 h' tk' F' N')
theorem use105 {f : Addr} {vs : List Value} {news : List (Addr × Obj)} {k : Nat} {α0 α1 α2 α3 α4 α5 α6 α7 α8 α9 : Type} {V : α0 → α1 → α2 → α3 → α4 → α5 → α6 → α7 → α8 → α9 → Value} {NW : α0 → α1 → α2 → α3 → α4 → α5 → α6 → α7 → α8 → α9 → List (Addr × Obj)} {P0 P1 P2 P3 P4 : α0 → α1 → α2 → α3 → α4 → α5 → α6 → α7 → α8 → α9 → Prop} {w : World} {p : Program} {loose : List Str} {mean : ExcName → Option Value} {mg mb : Str → Option Value} {dp un : Nat} {gd : Option (List Code)} {cn : Str} {cs : Scope} {a : Addr} {ccd : Value} {cl : List (Str × Addr)} {outer : List Env} {A₀ : Around} {base h₀ : Heap} {L : Addr} {m : Str → Option Value} {s : Shared} {Q E : Value → Shared → Prop}
    (B : Below A₀ base outer h₀) (F : Fr h₀ L s.heap m) (X : (NZ.hd.heap_39 w.params).In h₀) (N : News h₀ L s.heap news) (T : Top p loose mean mg mb h₀) (hk : cs.kind = .function) (D : Does f vs news k (fun v nw => ∃ x0 x1 x2 x3 x4 x5 x6 x7 x8 x9, v = (V x0 x1 x2 x3 x4 x5 x6 x7 x8 x9) ∧ (P0 x0 x1 x2 x3 x4 x5 x6 x7 x8 x9) ∧ (P1 x0 x1 x2 x3 x4 x5 x6 x7 x8 x9) ∧ (P2 x0 x1 x2 x3 x4 x5 x6 x7 x8 x9) ∧ (P3 x0 x1 x2 x3 x4 x5 x6 x7 x8 x9) ∧ (P4 x0 x1 x2 x3 x4 x5 x6 x7 x8 x9) ∧ nw = (NW x0 x1 x2 x3 x4 x5 x6 x7 x8 x9))) (hd : dp + k < recursionLimit) (hu : un + 8 * k < cLine)
    (ret : ∀ x0 x1 x2 x3 x4 x5 x6 x7 x8 x9, (P0 x0 x1 x2 x3 x4 x5 x6 x7 x8 x9) → (P1 x0 x1 x2 x3 x4 x5 x6 x7 x8 x9) → (P2 x0 x1 x2 x3 x4 x5 x6 x7 x8 x9) → (P3 x0 x1 x2 x3 x4 x5 x6 x7 x8 x9) → (P4 x0 x1 x2 x3 x4 x5 x6 x7 x8 x9) → ∀ h' tk', Fr h₀ L h' m → News h₀ L h' (NW x0 x1 x2 x3 x4 x5 x6 x7 x8 x9) → Q (V x0 x1 x2 x3 x4 x5 x6 x7 x8 x9) { s with heap := h', toks := tk' }) :
    wpAny (model PySem.Challenge.rw_nz0561_01.row.prog w) (ktrTop dp un gd cn cs L a ccd cl outer) (call (.ref f) vs) Q E s :=
  does_use D B F X N T hk hd hu (by
    rintro v nw h' tk' ⟨x0, x1, x2, x3, x4, x5, x6, x7, x8, x9, rfl, q0, q1, q2, q3, q4, rfl⟩ F' N'
    exact ret x0 x1 x2 x3 x4 x5 x6 x7 x8 x9 q0 q1 q2 q3 q4 h' tk' F' N')
theorem use135W {f : Addr} {vs : List Value} {news : List (Addr × Obj)} {k : Nat} {α0 α1 α2 α3 α4 α5 α6 α7 α8 α9 α10 α11 α12 : Type} {V : World → α0 → α1 → α2 → α3 → α4 → α5 → α6 → α7 → α8 → α9 → α10 → α11 → α12 → Value} {NW : World → α0 → α1 → α2 → α3 → α4 → α5 → α6 → α7 → α8 → α9 → α10 → α11 → α12 → List (Addr × Obj)} {P0 P1 P2 P3 P4 : α0 → α1 → α2 → α3 → α4 → α5 → α6 → α7 → α8 → α9 → α10 → α11 → α12 → Prop} {w : World} {p : Program} {loose : List Str} {mean : ExcName → Option Value} {mg mb : Str → Option Value} {dp un : Nat} {gd : Option (List Code)} {cn : Str} {cs : Scope} {a : Addr} {ccd : Value} {cl : List (Str × Addr)} {outer : List Env} {A₀ : Around} {base h₀ : Heap} {L : Addr} {m : Str → Option Value} {s : Shared} {Q E : Value → Shared → Prop}
    (B : Below A₀ base outer h₀) (F : Fr h₀ L s.heap m) (X : (NZ.hd.heap_39 w.params).In h₀) (N : News h₀ L s.heap news) (T : Top p loose mean mg mb h₀) (hk : cs.kind = .function) (D : DoesW f vs news k (fun w v nw => ∃ x0 x1 x2 x3 x4 x5 x6 x7 x8 x9 x10 x11 x12, v = (V w x0 x1 x2 x3 x4 x5 x6 x7 x8 x9 x10 x11 x12) ∧ (P0 x0 x1 x2 x3 x4 x5 x6 x7 x8 x9 x10 x11 x12) ∧ (P1 x0 x1 x2 x3 x4 x5 x6 x7 x8 x9 x10 x11 x12) ∧ (P2 x0 x1 x2 x3 x4 x5 x6 x7 x8 x9 x10 x11 x12) ∧ (P3 x0 x1 x2 x3 x4 x5 x6 x7 x8 x9 x10 x11 x12) ∧ (P4 x0 x1 x2 x3 x4 x5 x6 x7 x8 x9 x10 x11 x12) ∧ nw = (NW w x0 x1 x2 x3 x4 x5 x6 x7 x8 x9 x10 x11 x12))) (hd : dp + k < recursionLimit) (hu : un + 8 * k < cLine)
    (ret : ∀ x0 x1 x2 x3 x4 x5 x6 x7 x8 x9 x10 x11 x12, (P0 x0 x1 x2 x3 x4 x5 x6 x7 x8 x9 x10 x11 x12) → (P1 x0 x1 x2 x3 x4 x5 x6 x7 x8 x9 x10 x11 x12) → (P2 x0 x1 x2 x3 x4 x5 x6 x7 x8 x9 x10 x11 x12) → (P3 x0 x1 x2 x3 x4 x5 x6 x7 x8 x9 x10 x11 x12) → (P4 x0 x1 x2 x3 x4 x5 x6 x7 x8 x9 x10 x11 x12) → ∀ h' tk', Fr h₀ L h' m → News h₀ L h' (NW w x0 x1 x2 x3 x4 x5 x6 x7 x8 x9 x10 x11 x12) → Q (V w x0 x1 x2 x3 x4 x5 x6 x7 x8 x9 x10 x11 x12) { s with heap := h', toks := tk' }) :
    wpAny (model PySem.Challenge.rw_nz0561_01.row.prog w) (ktrTop dp un gd cn cs L a ccd cl outer) (call (.ref f) vs) Q E s :=
  doesW_use D B F X N T hk hd hu (by
    rintro v nw h' tk' ⟨x0, x1, x2, x3, x4, x5, x6, x7, x8, x9, x10, x11, x12, rfl, q0, q1, q2, q3, q4, rfl⟩ F' N'
    exact ret x0 x1 x2 x3 x4 x5 x6 x7 x8 x9 x10 x11 x12 q0 q1 q2 q3 q4 h' tk' F' N')
theorem use11 {f : Addr} {vs : List Value} {news : List (Addr × Obj)} {k : Nat} {α0 : Type} {V : α0 → Value} {NW : α0 → List (Addr × Obj)} {P0 : α0 → Prop} {w : World} {p : Program} {loose : List Str} {mean : ExcName → Option Value} {mg mb : Str → Option Value} {dp un : Nat} {gd : Option (List Code)} {cn : Str} {cs : Scope} {a : Addr} {ccd : Value} {cl : List (Str × Addr)} {outer : List Env} {A₀ : Around} {base h₀ : Heap} {L : Addr} {m : Str → Option Value} {s : Shared} {Q E : Value → Shared → Prop}
    (B : Below A₀ base outer h₀) (F : Fr h₀ L s.heap m) (X : (NZ.hd.heap_39 w.params).In h₀) (N : News h₀ L s.heap news) (T : Top p loose mean mg mb h₀) (hk : cs.kind = .function) (D : Does f vs news k (fun v nw => ∃ x0, v = (V x0) ∧ (P0 x0) ∧ nw = (NW x0))) (hd : dp + k < recursionLimit) (hu : un + 8 * k < cLine)
    (ret : ∀ x0, (P0 x0) → ∀ h' tk', Fr h₀ L h' m → News h₀ L h' (NW x0) → Q (V x0) { s with heap := h', toks := tk' }) :
    wpAny (model PySem.Challenge.rw_nz0561_01.row.prog w) (ktrTop dp un gd cn cs L a ccd cl outer) (call (.ref f) vs) Q E s :=
  does_use D B F X N T hk hd hu (by
    rintro v nw h' tk' ⟨x0, rfl, q0, rfl⟩ F' N'
    exact ret x0 q0 h' tk' F' N')
/-- what comes behind, held under one name -/
def HoldQ {α : Type} (Q : α → Shared → Prop) (v : α) (s : Shared) : Prop := Q v s
theorem wp_holdE {α : Type} {M : Model} {A : Around} {x : Sem α} {E : Value → Shared → Prop} {s : Shared} {Q : α → Shared → Prop} (h : ∀ (Q' : α → Shared → Prop) (E' : Value → Shared → Prop), (∀ v s', Q v s' → Q' v s') → wpAny M A x (HoldQ Q') E' s) : wpAny M A x Q E s := h Q E fun _ _ q => q
theorem hold_ {α : Type} {Q Q' : α → Shared → Prop} {v : α} {s : Shared} (h : ∀ v s', Q v s' → Q' v s') (q : Q v s) : HoldQ Q' v s := h v s q
end NZ
end PNBase

section PNTake
open PySem PySem.W PyProof.Rows PySem.Calls
set_option maxRecDepth 100000
set_option maxHeartbeats 8000000
namespace NZ
theorem take_raw {d nA : Addr} {oD oN : Obj} {len : Nat} {many : Int} {tm : Tok} (hD : DealOk oD nA len) (hN : NumsOk oN len) (hne : nA ≠ d) (hm : 0 < many) (hm2 : many < 1000) (rest : List (Addr × Obj)) (hr : ∀ p ∈ rest, p.1 ≠ d) :
    Does 144 [.ref d, .int many tm] ((d, oD) :: (nA, oN) :: rest) 2 (fun v nw => ∃ o ex, ((∃ x t, v = .int x t ∧ 0 ≤ x ∧ x < many) ∧ DealOk o nA len ∧ ex = []) ∧ (∀ p ∈ ex, AllLt p.1 ((d, oD) :: (nA, oN) :: rest)) ∧ nw = ex ++ (d, o) :: (nA, oN) :: rest) := by
  k_with_none
  w_top off
  k_with "k_all" => first | (assumption)
  obtain ⟨i, sd, ti, tsd, n, rfl, hi0, hi1, hs0, hs1⟩ := hD
  obtain ⟨vs, ns, nn, rfl, hI, rfl, hlen, h0⟩ := hN
  unfold Does; k_fill
  intro w p loose mean mg mb dp un gd cn cs a ccd cl outer A₀ base h₀ L m s Q E B F X N T hk hd hu hret
  refine wpAny_call ?_
  k_dflt ktr_enter
  k_steps
  all_goals refine hret _ _ _ _ ⟨_, [], ⟨⟨_, _, rfl, ?_, ?_⟩, ⟨_, _, _, _, _, rfl, ?_, ?_, ?_, ?_⟩, rfl⟩, (fun _ h => nomatch h), rfl⟩ (by k_asm) (by k_asm)
  all_goals first
    | omega
    | exact Int.fmod_nonneg_of_pos _ (by omega)
    | exact Int.fmod_lt_of_pos _ (by omega)

theorem take_ok {d nA : Addr} {oD oN : Obj} {len : Nat} {many : Int} {tm : Tok} {news : List (Addr × Obj)} {news' : Obj → List (Addr × Obj)}
    (hd : (d, oD) ∈ news) (hD : DealOk oD nA len) (hn : (nA, oN) ∈ news) (hN : NumsOk oN len) (hne : nA ≠ d) (hm : 0 < many) (hm2 : many < 1000) (U : ∀ o, Upd d oD o news (news' o)) :
    Does 144 [.ref d, .int many tm] news 2 (fun v nw => ∃ o x t, v = .int x t ∧ 0 ≤ x ∧ x < many ∧ DealOk o nA len ∧ nw = news' o) :=
  does_mono (does_deal (take_raw hD hN hne hm hm2) hn hne U) (by
    rintro v nw ⟨o, ex, ⟨⟨x, t, hv, h0, h1⟩, hD', rfl⟩, _, rfl⟩
    exact ⟨_, ⟨o, x, t, hv, h0, h1, hD', rfl⟩, fun p hp => hp⟩)
end NZ
end PNTake

section PNComp
open PySem PySem.W PyProof.Rows PySem.Calls
set_option maxRecDepth 100000
set_option maxHeartbeats 8000000
namespace NZ
theorem upd_self {d : Addr} {o : Obj} {news news' : List (Addr × Obj)} (U : Upd d o o news news') : news' = news := by
  obtain ⟨pre, post, e1, e2, _⟩ := U.split
  rw [e1, e2]
section
variable {prog : Program} {w : World} {A : Around} {h₀ : Heap} {L : Addr} {m : Str → Option Value} {env : Env} {elt : Expr} {x : Str} {scope : Scope} {cl : List (Str × Addr)} {s : Shared} {S : List (Addr × Obj) → Prop} {P : Nat → Value → Prop} {Fin : List Value → List (Addr × Obj) → Prop} {news : List (Addr × Obj)}
/-- a comprehension whose element draws: an invariant over what is made and the hand that deals -/
theorem comp_draw {d nA : Addr} {oD : Obj} {len n : Nat} {led : Obj → List (Addr × Obj)} (J : Nat → List Value → Prop) (hD : DealOk oD nA len) (_hm : (d, oD) ∈ news) (U : ∀ o, Upd d oD o news (led o)) (j0 : J 0 [])
    (turn : ∀ i o v ys I oI C oC D m₂ h tk (E' : Value → Shared → Prop), i < n → DealOk o nA len → J i ys → P i v → LCg.NsObj oC m₂ → m₂ x = some v → Fr h₀ L h m → News h₀ L h ((I, oI) :: (C, oC) :: (D, LCg.lst ys) :: led o) → LCg.Off3 I C D (led o) → ((@Ne Nat I C) ∧ (@Ne Nat I D) ∧ (@Ne Nat C D)) →
      wpAny (model prog w) A (eval elt (compEnvC scope cl C env)) (LCg.CompEnd h₀ L m { s with heap := h, toks := tk } I oI C oC D (LCg.lst ys) S (fun y news' => ∃ o', DealOk o' nA len ∧ news' = led o' ∧ J (i + 1) (ys ++ [y]))) E' { s with heap := h, toks := tk })
    (fin : ∀ o ys, DealOk o nA len → J n ys → Fin ys (led o)) : LCg.CompRest prog w A h₀ L m env elt x scope cl s S P Fin n 0 [] news := by
  have key : ∀ (j i : Nat) (o : Obj) (ys : List Value), i + j = n → DealOk o nA len → J i ys → LCg.CompRest prog w A h₀ L m env elt x scope cl s S P Fin j i ys (led o) := by
    intro j
    induction j with
    | zero =>
      intro i o ys hi ho hj
      have e : i = n := by omega
      subst e
      exact LCg.CompRest.zero (fin o ys ho hj)
    | succ j ih =>
      intro i o ys hi ho hj
      refine LCg.CompRest.succ ?_
      intro v I oI C oC D m₂ h tk E' hv hC hx F N off ne
      refine wpAny_mono (turn i o v ys I oI C oC D m₂ h tk E' (by omega) ho hj hv hC hx F N off ne) (fun y s₂ hq => ?_) fun _ _ e => e
      obtain ⟨h', tk', nw, e, F', N', off', hS, o', ho', hn, hj'⟩ := hq
      rw [hn] at N' off' hS
      exact ⟨h', tk', led o', e, F', N', off', hS, ih (i + 1) o' _ (by omega) ho' hj'⟩
  have := key n 0 oD [] (by omega) hD j0
  rwa [upd_self (U oD)] at this
/-- a comprehension that draws nothing: the ledger stays -/
theorem comp_still {n : Nat} (J : Nat → List Value → Prop) (j0 : J 0 [])
    (turn : ∀ i v ys I oI C oC D m₂ h tk (E' : Value → Shared → Prop), i < n → J i ys → P i v → LCg.NsObj oC m₂ → m₂ x = some v → Fr h₀ L h m → News h₀ L h ((I, oI) :: (C, oC) :: (D, LCg.lst ys) :: news) → LCg.Off3 I C D news → ((@Ne Nat I C) ∧ (@Ne Nat I D) ∧ (@Ne Nat C D)) →
      wpAny (model prog w) A (eval elt (compEnvC scope cl C env)) (LCg.CompEnd h₀ L m { s with heap := h, toks := tk } I oI C oC D (LCg.lst ys) S (fun y news' => news' = news ∧ J (i + 1) (ys ++ [y]))) E' { s with heap := h, toks := tk })
    (fin : ∀ ys, J n ys → Fin ys news) : LCg.CompRest prog w A h₀ L m env elt x scope cl s S P Fin n 0 [] news := by
  have key : ∀ (j i : Nat) (ys : List Value), i + j = n → J i ys → LCg.CompRest prog w A h₀ L m env elt x scope cl s S P Fin j i ys news := by
    intro j
    induction j with
    | zero =>
      intro i ys hi hj
      have e : i = n := by omega
      subst e
      exact LCg.CompRest.zero (fin ys hj)
    | succ j ih =>
      intro i ys hi hj
      refine LCg.CompRest.succ ?_
      intro v I oI C oC D m₂ h tk E' hv hC hx F N off ne
      refine wpAny_mono (turn i v ys I oI C oC D m₂ h tk E' (by omega) hj hv hC hx F N off ne) (fun y s₂ hq => ?_) fun _ _ e => e
      obtain ⟨h', tk', nw, e, F', N', off', hS, hn, hj'⟩ := hq
      subst hn
      exact ⟨h', tk', _, e, F', N', off', hS, ih (i + 1) _ (by omega) hj'⟩
  exact key n 0 [] (by omega) j0
end

theorem compEnd_ {h₀ : Heap} {L I C D : Addr} {m : Str → Option Value} {s₁ : Shared} {oI oC oD : Obj} {S : List (Addr × Obj) → Prop} {rest : Value → List (Addr × Obj) → Prop} {y : Value} {h' : Heap} {tk : Nat} {news' : List (Addr × Obj)}
    (F : Fr h₀ L h' m) (N : News h₀ L h' ((I, oI) :: (C, oC) :: (D, oD) :: news')) (off : LCg.Off3 I C D news') (hS : S news') (r : rest y news') :
    LCg.CompEnd h₀ L m s₁ I oI C oC D oD S rest y { s₁ with heap := h', toks := tk } := ⟨h', tk, news', rfl, F, N, off, hS, r⟩
/-- one sign as a text -/
def chr1 (c : Nat) : Str := ⟨#[c]⟩
theorem chr1_len (c : Nat) : (chr1 c).length = 1 := rfl
theorem str_append (a b : Str) : a ++ b = ⟨a.cps ++ b.cps⟩ := rfl
theorem join_chr1 : ∀ ps : List Nat, Str.join ⟨#[]⟩ (ps.map chr1) = ⟨ps.toArray⟩
  | [] => rfl
  | [c] => rfl
  | c :: c' :: r => by
    have ih := join_chr1 (c' :: r)
    simp only [List.map_cons] at ih ⊢
    show chr1 c ++ ⟨#[]⟩ ++ Str.join ⟨#[]⟩ (chr1 c' :: r.map chr1) = _
    rw [ih]
    show (⟨#[c] ++ #[] ++ (c' :: r).toArray⟩ : Str) = _
    simp
theorem join_lens (ps : List Nat) : ((ps.map chr1).map (·.length)).sum + (ps.map chr1).length * (0 : Nat) = ps.length := by
  induction ps with
  | nil => rfl
  | cons c r ih => simp [chr1_len] at ih ⊢; omega
theorem strsAre_snoc {ys : List Value} {ps : List Nat} (h : StrsAre ys (ps.map chr1)) (c : Nat) (t : Tok) : StrsAre (ys ++ [.str (chr1 c) t]) ((ps ++ [c]).map chr1) := by
  induction ys generalizing ps with
  | nil => cases ps with
    | nil => exact .cons _ _ .nil
    | cons a b => cases h
  | cons y r ih => cases ps with
    | nil => cases h
    | cons a b => cases h with
      | cons _ _ h => exact .cons _ _ (ih h)
end NZ
end PNComp

section PNUp
open PySem PySem.W PyProof.Rows PySem.Calls
set_option maxRecDepth 100000
set_option maxHeartbeats 8000000
namespace NZ
def up (c : Int) : Int := if 97 ≤ c ∧ c ≤ 122 then c - 32 else c
theorem up_pos {c : Int} (h0 : 97 ≤ c) (h1 : c ≤ 122) : c - 32 = up c := by unfold up; rw [if_pos ⟨h0, h1⟩]
theorem up_neg {c : Int} (h : ¬ (97 ≤ c ∧ c ≤ 122)) : c = up c := by unfold up; rw [if_neg h]
theorem upper_ok {c : Int} {t : Tok} (news : List (Addr × Obj)) (h0 : 0 ≤ c) (h1 : c < 1000) : Does 21 [.int c t] news 2 (fun v nw => ∃ t', v = .int (up c) t' ∧ nw = news) := by
  k_with_none
  w_top off
  unfold Does; k_fill
  intro w p loose mean mg mb dp un gd cn cs a ccd cl outer A₀ base h₀ L m s Q E B F X N T hk hd hu hret
  refine wpAny_call ?_
  k_dflt ktr_enter
  k_steps
  all_goals first
    | exact hret _ _ _ _ ⟨_, congrArg (fun z => Value.int z _) (up_pos (by omega) (by omega)), rfl⟩ (by k_asm) (by k_asm)
    | exact hret _ _ _ _ ⟨_, congrArg (fun z => Value.int z _) (up_neg (by omega)), rfl⟩ (by k_asm) (by k_asm)
end NZ
end PNUp

section PNSkip
open PySem PySem.W PyProof.Rows PySem.Calls
set_option maxRecDepth 100000
set_option maxHeartbeats 8000000
namespace NZ
/-- the next place that is no blank -/
def SkipTo (ns : List Int) (i j : Int) : Prop := i ≤ j ∧ j ≤ ns.length ∧ (∀ k : Int, i ≤ k → k < j → ns.getD k.toNat 0 = 32) ∧ (j < ns.length → ns.getD j.toNat 0 ≠ 32)
theorem skip_step {ns : List Int} {i a : Int} (h1 : i ≤ a) (h2 : a < (ns.length : Int)) (h3 : ∀ j : Int, i ≤ j → j < a → ns.getD j.toNat 0 = 32) (h4 : ns.getD a.toNat 0 = 32) :
    i ≤ a + 1 ∧ a + 1 ≤ (ns.length : Int) ∧ ∀ j : Int, i ≤ j → j < a + 1 → ns.getD j.toNat 0 = 32 := by
  refine ⟨by omega, by omega, fun j hj hj' => ?_⟩
  by_cases h : j < a
  · exact h3 j hj h
  · have : j = a := by omega
    rw [this]; exact h4
theorem skip_raw {r : Addr} {vs : List Value} {ns : List Int} {k : Nat} {i : Int} {t : Tok} (rest : List (Addr × Obj)) (hI : IntsAre vs ns) (hl : ns.length ≤ 1000) (h0 : 0 ≤ i) (h1 : i ≤ ns.length) :
    Does 104 [.ref r, .int i t] ((r, listOf vs.toArray k) :: rest) 2 (fun v nw => ∃ j t', v = .int j t' ∧ SkipTo ns i j ∧ nw = (r, listOf vs.toArray k) :: rest) := by
  k_with_none
  w_top off
  unfold Does; k_fill
  intro w p loose mean mg mb dp un gd cn cs a ccd cl outer A₀ base h₀ L m s Q E B F X N T hk hd hu hret
  refine wpAny_call ?_
  k_dflt ktr_enter
  k_with "state" => exact skip_step (by assumption) (by assumption) (by assumption) (by assumption)
  k_with "exec While BoolOp cons nil" => k_while (fun ns' a => i ≤ a ∧ a ≤ (ns'.length : Int) ∧ ∀ j : Int, i ≤ j → j < a → ns'.getD j.toNat 0 = 32) (fun ns' a => ((ns'.length : Int) - a).toNat) "at"
  k_steps
  all_goals exact hret _ _ _ _ ⟨_, _, rfl, ⟨by assumption, by assumption, by assumption, fun _ => by first | assumption | omega⟩, rfl⟩ (by k_asm) (by k_asm)
theorem does_read {f : Addr} {vs : List Value} {k : Nat} {e : Addr × Obj} {news : List (Addr × Obj)} {R : Value → Prop} (raw : Does f vs (e :: news) k (fun v nw => R v ∧ nw = e :: news)) (hm : e ∈ news) : Does f vs news k (fun v nw => R v ∧ nw = news) :=
  does_mono (does_news raw fun p hp => by
    rcases List.mem_cons.mp hp with rfl | hp
    · exact hm
    · exact hp) (by
    rintro v nw ⟨h, rfl⟩
    exact ⟨news, ⟨h, rfl⟩, fun p hp => .tail _ hp⟩)
theorem skip_ok {r : Addr} {vs : List Value} {ns : List Int} {k : Nat} {i : Int} {t : Tok} {news : List (Addr × Obj)} (hm : (r, listOf vs.toArray k) ∈ news) (hI : IntsAre vs ns) (hl : ns.length ≤ 1000) (h0 : 0 ≤ i) (h1 : i ≤ ns.length) :
    Does 104 [.ref r, .int i t] news 2 (fun v nw => (∃ j t', v = .int j t' ∧ SkipTo ns i j) ∧ nw = news) :=
  does_read (does_mono (skip_raw news hI hl h0 h1) (by
    rintro v nw ⟨j, t', hv, hs, rfl⟩
    exact ⟨_, ⟨⟨j, t', hv, hs⟩, rfl⟩, fun p hp => hp⟩)) hm
end NZ
end PNSkip

section PNGreat
open PySem PySem.W PyProof.Rows PySem.Calls
set_option maxRecDepth 100000
set_option maxHeartbeats 8000000
namespace NZ
theorem oct_lo {ns : List Int} {c : Int} (hc : ∀ c ∈ ns, 0 ≤ c ∧ c < 256) (h : c ∈ ns) : 0 ≤ c := (hc c h).1
theorem oct_hi {ns : List Int} {c : Int} (hc : ∀ c ∈ ns, 0 ≤ c ∧ c < 256) (h : c ∈ ns) : c < 1000 := by have := (hc c h).2; omega
theorem news_less {a e : Addr × Obj} {l : List (Addr × Obj)} : ∀ p ∈ a :: l, p ∈ a :: e :: l := fun p hp => by
  rcases List.mem_cons.mp hp with rfl | hp
  · exact .head _
  · exact .tail _ (.tail _ hp)
theorem great_raw {r : Addr} {vs : List Value} {ns : List Int} {k : Nat} (rest : List (Addr × Obj)) (hI : IntsAre vs ns) (hl : ns.length ≤ 1000) (hc : ∀ c ∈ ns, 0 ≤ c ∧ c < 256) : Does 97 [.ref r] ((r, listOf vs.toArray k) :: rest) 5 (fun v nw => ∃ d ys, v = .ref d ∧ IntsAre ys (ns.map up) ∧ LCg.Off1 d ((r, listOf vs.toArray k) :: rest) ∧ nw = (d, LCg.lst ys) :: (r, listOf vs.toArray k) :: rest) := by
  k_with_none
  w_top off
  k_with "call ref" => first | (k_here; (with_reducible show wpAny _ _ (call (Value.ref 21) _) _ _ _); k_dflt (
  (refine' use10 ?q0k1 ?q0k2 ?q0k3 ?q0k4 ?q0k5 ?q0k6 (upper_ok _ ?q0t1 ?q0t2) ?q0k7 ?q0k8 ?_)
  (case q0k1 => k_asm)
  (case q0k2 => k_asm)
  (case q0k3 => k_asm)
  (case q0k4 => k_asm)
  (case q0t1 => exact oct_lo (by assumption) (by assumption))
  (case q0t2 => exact oct_hi (by assumption) (by assumption))
  (case q0k5 => k_asm)
  (case q0k6 => first | exact rfl | assumption)
  (case q0k7 => ktr_room)
  (case q0k8 => ktr_units)
  intro t' h' tk' F' N'
  (try k_sweep); (try dsimp only); (try k_fold)))
  k_with "eval ListComp" => first | (k_here; k_dflt (refine LCg.ListComp_U (F₀ := by k_asm) (by with_unfolding_all rfl) (by decide) (by rfl) (by decide) (by rfl) ?_))
  k_with "CompSrc" => first | (
  k_here
  k_dflt (
    (refine LCg.CompSrc.ledger (by rfl) (by k_asm) (by k_asm) (by k_mem) (by (rw [PySem.sizeLine_eq]; simp; (have hk9 := IntsAre.length (by assumption)); omega)) ?_)
    (intro g')
    (refine' kcf_list up (by assumption) (fun k' t' I' oI' C' oC' D' m' ys' h' tk' E' hk' hC' hx' F' N' off' ne' hMark' => ?_) ?_)
    (all_goals (try (simp only [LCg.Off3, and_true] at off')))
    kcf_last))
  unfold Does; k_fill
  intro w p loose mean mg mb dp un gd cn cs a ccd cl outer A₀ base h₀ L m s Q E B F X N T hk hd hu hret
  refine wpAny_call ?_
  k_dflt ktr_enter
  k_steps
  all_goals exact hret _ _ _ _ ⟨_, _, rfl, by assumption, by assumption, rfl⟩ (by k_asm) (by k_asm)
theorem great_ok {r : Addr} {vs : List Value} {ns : List Int} {k : Nat} {news : List (Addr × Obj)} (hm : (r, listOf vs.toArray k) ∈ news) (hI : IntsAre vs ns) (hl : ns.length ≤ 1000) (hc : ∀ c ∈ ns, 0 ≤ c ∧ c < 256) :
    Does 97 [.ref r] news 5 (fun v nw => ∃ d ys, v = .ref d ∧ IntsAre ys (ns.map up) ∧ LCg.Off1 d news ∧ nw = (d, LCg.lst ys) :: news) :=
  does_mono (does_news (great_raw news hI hl hc) (fun p hp => by
    rcases List.mem_cons.mp hp with rfl | hp
    · exact hm
    · exact hp)) (by
    rintro v nw ⟨d, ys, hv, hi, ho, rfl⟩
    exact ⟨_, ⟨d, ys, hv, hi, ho.2, rfl⟩, news_less⟩)
end NZ
end PNGreat

section PNNumber
open PySem PySem.W PyProof.Rows PySem.Calls
set_option maxRecDepth 100000
set_option maxHeartbeats 8000000
namespace NZ
/-- the number told by the figures from i on to a -/
def figs (ns : List Int) (i a : Int) : Int := ((ns.drop i.toNat).take (a - i).toNat).foldl (fun f c => f * 10 + c - 48) 0
def DigTo (ns : List Int) (j a : Int) : Prop := j ≤ a ∧ a ≤ (ns.length : Int) ∧ (∀ k : Int, j ≤ k → k < a → 48 ≤ ns.getD k.toNat 0 ∧ ns.getD k.toNat 0 ≤ 57) ∧ (a < (ns.length : Int) → ¬ (48 ≤ ns.getD a.toNat 0 ∧ ns.getD a.toNat 0 ≤ 57))
def NumRes (ns : List Int) (j a : Int) (res : Value) : Prop :=
  (res = .none ∧ (j = a ∨ figs ns j a > 255 ∨ (a < (ns.length : Int) ∧ ns.getD a.toNat 0 ≠ 32))) ∨ (∃ t, res = .int (figs ns j a) t ∧ j ≠ a ∧ figs ns j a ≤ 255 ∧ (a < (ns.length : Int) → ns.getD a.toNat 0 = 32))
theorem num_start {ns : List Int} {j : Int} (h : j ≤ (ns.length : Int)) : j ≤ j ∧ j ≤ (ns.length : Int) ∧ 0 = figs ns j j ∧ ∀ k : Int, j ≤ k → k < j → 48 ≤ ns.getD k.toNat 0 ∧ ns.getD k.toNat 0 ≤ 57 := by
  refine ⟨Int.le_refl _, h, ?_, fun k a b => by omega⟩
  unfold figs; rw [Int.sub_self]; rfl
theorem num_step {ns : List Int} {j a f : Int} (h0 : 0 ≤ j) (h1 : j ≤ a) (h2 : a < (ns.length : Int)) (h3 : f = figs ns j a) (h4 : ∀ k : Int, j ≤ k → k < a → 48 ≤ ns.getD k.toNat 0 ∧ ns.getD k.toNat 0 ≤ 57) (h5 : 48 ≤ ns.getD a.toNat 0) (h6 : ns.getD a.toNat 0 ≤ 57) :
    j ≤ a + 1 ∧ a + 1 ≤ (ns.length : Int) ∧ f * 10 + ns.getD a.toNat 0 - 48 = figs ns j (a + 1) ∧ ∀ k : Int, j ≤ k → k < a + 1 → 48 ≤ ns.getD k.toNat 0 ∧ ns.getD k.toNat 0 ≤ 57 := by
  refine ⟨by omega, by omega, ?_, fun k hk hk' => ?_⟩
  · unfold figs
    rw [show (a + 1 - j).toNat = (a - j).toNat + 1 from by omega, List.take_add_one, List.foldl_append]
    have : (ns.drop j.toNat)[(a - j).toNat]? = some (ns.getD a.toNat 0) := by
      rw [List.getElem?_drop, show j.toNat + (a - j).toNat = a.toNat from by omega, List.getD_eq_getElem?_getD, List.getElem?_eq_getElem (by omega)]
      rfl
    rw [this, h3]
    rfl
  · by_cases h : k < a
    · exact h4 k hk h
    · have : k = a := by omega
      rw [this]; exact ⟨h5, h6⟩
theorem number_raw {r : Addr} {vs : List Value} {ns : List Int} {k : Nat} (rest : List (Addr × Obj)) (hI : IntsAre vs ns) (hl : ns.length ≤ 1000) {i : Int} {t : Tok} (h0 : 0 ≤ i) (h1 : i ≤ ns.length) (hl5 : ns.length ≤ 12) (hc : ∀ c ∈ ns, 0 ≤ c ∧ c < 256) : Does 125 [.ref r, .int i t] ((r, listOf vs.toArray k) :: rest) 4 (fun v nw => ∃ tp j a ta res, v = .ref tp ∧ SkipTo ns i j ∧ DigTo ns j a ∧ NumRes ns j a res ∧ AllLt tp ((r, listOf vs.toArray k) :: rest) ∧ nw = (tp, { cls := .type "tuple", data := .seq #[res, .int a ta] }) :: (r, listOf vs.toArray k) :: rest) := by
  k_with_none
  w_top off
  k_with "call ref" => first | (k_here; (with_reducible show wpAny _ _ (call (Value.ref 104) _) _ _ _); k_dflt (
  (refine' use21i ?q0k1 ?q0k2 ?q0k3 ?q0k4 ?q0k5 ?q0k6 (skip_ok ?q0t1 ?q0t2 ?q0t3 ?q0t4 ?q0t5) ?q0k7 ?q0k8 ?_)
  (case q0k1 => k_asm)
  (case q0k2 => k_asm)
  (case q0k3 => k_asm)
  (case q0k4 => k_asm)
  (case q0t1 => k_mem)
  (case q0t2 => k_asm)
  (case q0t3 => omega)
  (case q0t4 => omega)
  (case q0t5 => omega)
  (case q0k5 => k_asm)
  (case q0k6 => first | exact rfl | assumption)
  (case q0k7 => ktr_room)
  (case q0k8 => ktr_units)
  intro j' t' hS' h' tk' F' N'
  (obtain ⟨hS1', hS2', hS3', hS4'⟩ := hS')
  (try k_sweep); (try dsimp only); (try k_fold)))
  unfold Does; k_fill
  intro w p loose mean mg mb dp un gd cn cs a ccd cl outer A₀ base h₀ L m s Q E B F X N T hk hd hu hret
  refine wpAny_call ?_
  k_dflt ktr_enter
  k_with "exec While BoolOp cons nil" => k_while_given ["begin"] (fun b ns' a f => b ≤ a ∧ a ≤ (ns'.length : Int) ∧ f = figs ns' b a ∧ ∀ k : Int, b ≤ k → k < a → 48 ≤ ns'.getD k.toNat 0 ∧ ns'.getD k.toNat 0 ≤ 57) (fun b ns' a _ => ((ns'.length : Int) - a).toNat) "at" "found"
  k_with "state" => first | exact num_start (by assumption) | exact num_step (by omega) (by assumption) (by assumption) (by assumption) (by assumption) (by assumption) (by assumption)
  k_steps
  all_goals (
    (rename _ = figs _ _ _ => hf9)
    (refine' hret _ _ _ _ ⟨_, _, _, _, _, rfl, ⟨?s1, ?s2, ?s3, ?s4⟩, ⟨?a1, ?a2, ?a3, ?a4⟩, ?b, ?d, rfl⟩ ?F (cb_drop (by assumption) (List.forall_mem_cons.mpr ⟨?m1, ?m3⟩)))
    (case m1 => k_mem)
    (case m3 => exact fun p hp => by repeat (first | exact hp | refine List.mem_cons_of_mem _ ?_))
    (case F => k_asm)
    (case a3 => assumption)
    (case s3 => assumption)
    (case s1 => assumption)
    (case s2 => assumption)
    (case s4 => assumption)
    (case a1 => assumption)
    (case a2 => assumption)
    (case b => first | exact .inl ⟨rfl, by omega⟩ | exact .inr ⟨_, congrArg (fun z => Value.int z _) hf9, by omega, by omega, fun _ => by omega⟩)
    (case d => exact And.right (by assumption))
    (case a4 => (intro hlt; omega)))
theorem number_ok {r : Addr} {vs : List Value} {ns : List Int} {k : Nat} {news : List (Addr × Obj)} {i : Int} {t : Tok} (hm : (r, listOf vs.toArray k) ∈ news) (hI : IntsAre vs ns) (hl : ns.length ≤ 1000) (h0 : 0 ≤ i) (h1 : i ≤ ns.length) (hl5 : ns.length ≤ 12) (hc : ∀ c ∈ ns, 0 ≤ c ∧ c < 256) :
    Does 125 [.ref r, .int i t] news 4 (fun v nw => ∃ tp j a ta res, v = .ref tp ∧ SkipTo ns i j ∧ DigTo ns j a ∧ NumRes ns j a res ∧ AllLt tp news ∧ nw = (tp, { cls := .type "tuple", data := .seq #[res, .int a ta] }) :: news) :=
  does_mono (does_news (number_raw news hI hl h0 h1 hl5 hc) (fun p hp => by
    rcases List.mem_cons.mp hp with rfl | hp
    · exact hm
    · exact hp)) (by
    rintro v nw ⟨tp, j, a, ta, res, hv, hs, hd, hr, ha, rfl⟩
    exact ⟨_, ⟨tp, j, a, ta, res, hv, hs, hd, hr, ha.2, rfl⟩, news_less⟩)
end NZ
end PNNumber

section PNTxt
open PySem PySem.W PyProof.Rows PySem.Calls PySem.Builtin PySem.Builtin.Str
set_option maxRecDepth 100000
set_option maxHeartbeats 8000000
namespace NZ
/-- a text of the signs l -/
def txt (l : List Nat) : Str := ⟨l.toArray⟩
theorem txt_len (l : List Nat) : (txt l).length = l.length := by simp [txt, Str.length]
theorem txt_eta (x : Str) : x = txt x.cps.toList := by cases x; simp [txt]
theorem txt_app (a b : List Nat) : txt a ++ txt b = txt (a ++ b) := by
  show (⟨a.toArray ++ b.toArray⟩ : Str) = _
  simp [txt]
def upN (c : Nat) : Nat := if 97 ≤ c ∧ c ≤ 122 then c - 32 else c
theorem upperOf_ascii : ∀ c : Nat, c < 128 → Unicode.upperOf c = [upN c] := by
  have h : ((List.range 128).all fun c => decide (Unicode.upperOf c = [upN c])) = true := by decide +kernel
  intro c hc
  have := List.all_eq_true.mp h c (List.mem_range.mpr hc)
  simpa using this
theorem upper_txt (l : List Nat) (h : ∀ c ∈ l, c < 128) : Txt.upper (txt l) = txt (l.map upN) := by
  unfold Txt.upper placed txt
  congr 1
  apply Array.ext'
  simp only [Array.toList_flatten, List.mapIdx_toArray]
  have : ∀ (l : List Nat) (_h : ∀ c ∈ l, c < 128), (l.map fun c => (Unicode.upperOf c)).flatten = l.map upN := by
    intro l
    induction l with
    | nil => intro _; rfl
    | cons a r ih =>
      intro h
      rw [List.map_cons, List.flatten_cons, ih fun c hc => h c (.tail _ hc), upperOf_ascii a (h a (.head _))]; rfl
  rw [← this l h]
  congr 1
  apply List.ext_getElem?
  intro i
  simp
  rfl
theorem strSub_txt (l : List Nat) (i j : Nat) : strSub (txt l) i j = txt ((l.drop i).take (j - i)) := by
  rw [txt_eta (strSub (txt l) i j), StrLaws.strSub_toList]; rfl
theorem at_star (l : List Nat) (c i : Nat) : StrLaws.At (txt l) (txt [c]) (txt l).length i ↔ l[i]? = some c := by
  unfold StrLaws.At
  rw [StrLaws.subAt_eq, txt_len, txt_len]
  constructor
  · rintro ⟨h1, h2⟩
    have h2 := eq_of_beq h2
    have hl : i < l.length := by simp at h1; omega
    have e : (l.drop i).take 1 = [c] := by simpa [txt, txt_len] using h2
    rw [List.getElem?_eq_getElem hl]
    rw [List.drop_eq_getElem_cons hl, List.take_succ_cons, List.take_zero] at e
    rw [(List.cons.inj e).1]
  · intro h
    have hl : i < l.length := by
      rcases Nat.lt_or_ge i l.length with q | q
      · exact q
      · rw [List.getElem?_eq_none q] at h; cases h
    refine ⟨by simp; omega, ?_⟩
    rw [List.getElem?_eq_getElem hl] at h
    have e : (l.drop i).take 1 = [c] := by
      rw [List.drop_eq_getElem_cons hl, List.take_succ_cons, List.take_zero, Option.some.inj h]
    simp [txt, e]
theorem take_first (l : List Nat) (c i : Nat) (h : l[i]? = some c) (hn : ∀ k, k < i → l[k]? ≠ some c) : l.take i = l.takeWhile (fun x => decide (x ≠ c)) ∧ c ∈ l := by
  induction l generalizing i with
  | nil => cases h
  | cons a r ih =>
    cases i with
    | zero => simp at h; subst h; simp
    | succ i =>
      have hac : a ≠ c := by have := hn 0 (Nat.succ_pos _); simpa using this
      obtain ⟨h1, h2⟩ := ih i (by simpa using h) (fun k hk => by have := hn (k + 1) (by omega); simpa using this)
      refine ⟨?_, .tail _ h2⟩
      rw [List.take_succ_cons, h1, List.takeWhile_cons]
      simp [hac]
/-- partition by one sign: the head, and the sign itself if it stands there -/
theorem partition_txt (l : List Nat) (c : Nat) : (Txt.partition (txt l) (txt [c])).1 = txt (l.takeWhile fun x => decide (x ≠ c)) ∧ (Txt.partition (txt l) (txt [c])).2.1 = if c ∈ l then txt [c] else txt [] := by
  unfold Txt.partition
  rcases StrLaws.occ_head (txt l) (txt [c]) 1 (Nat.le_refl _) with ⟨e, hn⟩ | ⟨i, r, e, hi, hn⟩
  · rw [e]
    have no : c ∉ l := by
      intro hm
      obtain ⟨i, hi, he⟩ := List.getElem_of_mem hm
      exact hn i ((at_star l c i).mpr (by rw [List.getElem?_eq_getElem hi, he]))
    refine ⟨?_, by rw [if_neg no]; rfl⟩
    show txt l = _
    congr 1
    have : ∀ l : List Nat, c ∉ l → l = l.takeWhile fun x => decide (x ≠ c) := by
      intro l
      induction l with
      | nil => intro _; rfl
      | cons a r ih =>
        intro h
        have ha : a ≠ c := fun q => h (q ▸ .head _)
        rw [List.takeWhile_cons]
        simp only [ne_eq, ha, not_false_eq_true, decide_true, if_true]
        rw [← ih fun q => h (.tail _ q)]
    exact this l no
  · rw [e]
    obtain ⟨h1, h2⟩ := take_first l c i ((at_star l c i).mp hi) fun k hk q => hn k hk ((at_star l c k).mpr q)
    refine ⟨?_, by rw [if_pos h2]⟩
    show strSub (txt l) 0 i = _
    rw [strSub_txt, List.drop_zero, Nat.sub_zero, h1]
theorem foldl_app (c : Nat) (a : Array Nat) : ∀ n : Nat, (List.replicate n (#[c] : Array Nat)).foldl (· ++ ·) a = a ++ (List.replicate n c).toArray
  | 0 => by simp
  | n + 1 => by rw [List.replicate_succ, List.foldl_cons, foldl_app c _ n]; apply Array.ext'; simp [List.replicate_succ]
theorem mul_txt (c n : Nat) : Txt.mul (txt [c]) (n : Int) = txt (List.replicate n c) := by
  unfold Txt.mul
  by_cases h : (n : Int) < 1
  · rw [if_pos h]
    have : n = 0 := by omega
    subst this; rfl
  · rw [if_neg h]
    split
    · rename_i q
      have hn : n = 1 := by
        rw [txt_len] at q
        have q' : (n : Int) = 1 := by simpa using q
        omega
      subst hn; rfl
    · show (⟨_⟩ : Str) = _
      rw [show (txt [c]).cps = #[c] from rfl, Int.toNat_natCast, foldl_app]
      simp [txt]
theorem slice_txt (l : List Nat) (n : Nat) : Txt.slice (txt l) none (some (n : Int)) = txt (l.take n) := by
  show StrLaws.sliceText (txt l) none (some (n : Int)) = _
  by_cases h : n ≤ l.length
  · rw [StrLaws.sliceText_to ⟨by omega, by simp [txt]; omega⟩]
    simp [txt]
  · have e : l.take n = l := List.take_of_length_le (by omega)
    rw [e]
    have := slice_ns_cases (txt l) n (by omega)
    rw [txt_len] at this
    have hl : (StrLaws.sliceText (txt l) none (some (n : Int))).length = l.length := by
      have h2 : ((Txt.slice (txt l) none (some (n : Int))).length : Int) = l.length := by omega
      have h3 : Txt.slice (txt l) none (some (n : Int)) = StrLaws.sliceText (txt l) none (some (n : Int)) := rfl
      rw [h3] at h2; omega
    have e2 : StrLaws.sliceText (txt l) none (some (n : Int)) = StrLaws.sliceText (txt l) none (some (l.length : Int)) := by
      unfold StrLaws.sliceText
      rw [show strSliceIndices none (some (n : Int)) 1 (txt l).length = strSliceIndices none (some (l.length : Int)) 1 (txt l).length from by
        unfold strSliceIndices
        simp only [txt_len]
        simp only [Int.not_lt.mpr (Int.natCast_nonneg _), if_false, show (1 : Int) > 0 from by decide, if_true]
        congr 1
        omega]
    rw [e2, StrLaws.sliceText_to ⟨by omega, by simp [txt]⟩]
    simp [txt]
end NZ
end PNTxt

section PNPart
open PySem PySem.W PyProof.Rows PySem.Calls
set_option maxRecDepth 100000
set_option maxHeartbeats 8000000
namespace NZ
theorem off3_i {A R : Prop} {d I C D : Addr} (h : A ∧ (@Ne Nat d I ∧ @Ne Nat d C ∧ @Ne Nat d D) ∧ R) : @Ne Nat I d := h.2.1.1.symm
theorem off3_c {A R : Prop} {d I C D : Addr} (h : A ∧ (@Ne Nat d I ∧ @Ne Nat d C ∧ @Ne Nat d D) ∧ R) : @Ne Nat C d := h.2.1.2.1.symm
/-- the signs that a part is made of: aBz09$*? -/
abbrev PartC (c : Nat) : Prop := c = 97 ∨ c = 66 ∨ c = 122 ∨ c = 48 ∨ c = 57 ∨ c = 36 ∨ c = 42 ∨ c = 63
theorem item_part {x : Int} (h0 : 0 ≤ x) (h1 : x < 8) : ∃ c, Txt.item (Str.ofString "aBz09$*?") x = chr1 c ∧ PartC c := by
  have : x = 0 ∨ x = 1 ∨ x = 2 ∨ x = 3 ∨ x = 4 ∨ x = 5 ∨ x = 6 ∨ x = 7 := by omega
  rcases this with rfl | rfl | rfl | rfl | rfl | rfl | rfl | rfl
  · exact ⟨97, by decide +kernel, by decide⟩
  · exact ⟨66, by decide +kernel, by decide⟩
  · exact ⟨122, by decide +kernel, by decide⟩
  · exact ⟨48, by decide +kernel, by decide⟩
  · exact ⟨57, by decide +kernel, by decide⟩
  · exact ⟨36, by decide +kernel, by decide⟩
  · exact ⟨42, by decide +kernel, by decide⟩
  · exact ⟨63, by decide +kernel, by decide⟩
def PartJ (i : Nat) (ys : List Value) (ps : List Nat) : Prop := StrsAre ys (ps.map chr1) ∧ ps.length = i ∧ ∀ c ∈ ps, PartC c
theorem partJ_snoc {i : Nat} {ys : List Value} {ps : List Nat} {x : Int} {t : Tok} (h : PartJ i ys ps) (h0 : 0 ≤ x) (h1 : x < 8) :
    ∃ c, PartJ (i + 1) (ys ++ [.str (Txt.item (Str.ofString "aBz09$*?") x) t]) (ps ++ [c]) := by
  obtain ⟨c, e, hc⟩ := item_part h0 h1
  rw [e]
  refine ⟨c, strsAre_snoc h.1 c t, by simp [h.2.1], fun c' hc' => ?_⟩
  rcases List.mem_append.mp hc' with q | q
  · exact h.2.2 c' q
  · rw [List.mem_singleton.mp q]; exact hc
def PartE (i : Nat) (ys : List Value) : Prop := ∃ ps, PartJ i ys ps
theorem partE_snoc {i : Nat} {ys : List Value} {x : Int} {t : Tok} (h : PartE i ys) (h0 : 0 ≤ x) (h1 : x < 8) : PartE (i + 1) (ys ++ [.str (Txt.item (Str.ofString "aBz09$*?") x) t]) := by
  obtain ⟨ps, h⟩ := h
  obtain ⟨c, hc⟩ := partJ_snoc (t := t) h h0 h1
  exact ⟨_, hc⟩
/-- a text that is a part: so many signs, each of them one of the eight -/
def PartS (n : Nat) (x : Str) : Prop := ∃ ps : List Nat, x = ⟨ps.toArray⟩ ∧ ps.length = n ∧ ∀ c ∈ ps, PartC c
theorem join_part {prog : Program} {w : World} {A : Around} {E Q : Value → Shared → Prop} {s : Shared} {t : Tok} {D : Addr} {ys : List Value} {n : Nat} (hl : s.heap.IsList D ys.toArray) (hJ : PartE n ys) (hn : n ≤ 100)
    (h : ∀ x t' k, PartS n x → Q (.str x t') { s with toks := k }) : wpAny (model prog w) A (call (.builtin "str.join") [.str (Str.ofString "") t, .ref D]) Q E s := by
  obtain ⟨ps, hs, hl1, hc⟩ := hJ
  refine join_list hl hs ?_ fun t' k => ?_
  · have := join_lens ps
    have e : (Str.ofString "").length = 0 := by decide +kernel
    rw [e]; omega
  · refine h _ t' k ⟨ps, ?_, hl1, hc⟩
    unfold Txt.join
    rw [StrLaws.glued_eq_join]
    rw [show Str.ofString "" = (⟨#[]⟩ : Str) from by decide +kernel]
    exact join_chr1 ps
theorem part_raw {d nA : Addr} {oD oN : Obj} {len : Nat} {size : Int} {tm : Tok} (hD : DealOk oD nA len) (hN : NumsOk oN len) (hne : nA ≠ d) (hm : 3 ≤ size) (hm2 : size ≤ 8) (rest : List (Addr × Obj)) (hr : ∀ p ∈ rest, p.1 ≠ d) :
    Does 149 [.ref d, .int size tm] ((d, oD) :: (nA, oN) :: rest) 4 (fun v nw => ∃ o ex, ((∃ x t n, v = .str x t ∧ PartS n x ∧ (n : Int) ≤ size + 2) ∧ DealOk o nA len ∧ ex = []) ∧ (∀ p ∈ ex, AllLt p.1 ((d, oD) :: (nA, oN) :: rest)) ∧ nw = ex ++ (d, o) :: (nA, oN) :: rest) := by
  k_with_none
  w_top off
  k_with "k_all" => first | (assumption)
  k_with "k_ne" => first | (refine neN ?_; (try dsimp only); first | exact off3_i (by assumption) | exact off3_c (by assumption) | omega)
  k_with "ktr_enter" => first | ((refine' code_defC ?q2k1 ?q2k2 ?q2k3 ?q2k4 ?q2k5 ?q2kA ?q2kF ?q2kK ?q2k6 ?q2k7 ?q2k8 ?q2k9 ?q2kB ?q2kD ?_ ?q2c2 ?q2c3 ?q2c4); (case q2kA => exact rfl); (case q2kF => exact rfl); (case q2kK => assumption); (case q2k1 => k_asm); (case q2k2 => k_asm); (case q2k3 => k_asm); (case q2k4 => k_asm); (case q2k5 => k_asm); (case q2k6 => k_is); (case q2k7 => k_is); (case q2k8 => ktr_room); (case q2k9 => exact BindsTo.of_eq rfl); (case q2kB => exact rfl); (case q2kD => decide +kernel); (case q2c2 => exact rfl); (case q2c3 => exact rfl); (case q2c4 => exact rfl); k_whole; intro g' L' h' tk' cells' FG' F' N' Y' B' X' T' l1; (try k_lt l1); k_cells Y'; (try simp only [List.cons_append, List.nil_append] at N'); (try dsimp only); (try k_fold))
  k_with "call ref" => first | (k_here; k_dflt (
  (refine' use33 ?q3k1 ?q3k2 ?q3k3 ?q3k4 ?q3k5 ?q3k6 (take_ok ?q3t1 ?q3t2 ?q3t3 ?q3t4 ?q3t5 ?q3t6 ?q3t7 ?q3t8) ?q3k7 ?q3k8 ?_)
  (case q3k4 => k_asm)
  (case q3t1 => k_mem)
  (case q3t2 => k_asm)
  (case q3t3 => k_mem)
  (case q3t4 => k_asm)
  (case q3t5 => k_asm)
  (case q3t6 => omega)
  (case q3t7 => omega)
  (case q3t8 => (intro o; k_upd))
  (case q3k1 => k_asm)
  (case q3k2 => k_asm)
  (case q3k3 => k_asm)
  (case q3k5 => k_asm)
  (case q3k6 => first | exact rfl | assumption)
  (case q3k7 => ktr_room)
  (case q3k8 => ktr_units)
  intro o' x' t' hx0' hx1' hD' h' tk' F' N'
  (try k_sweep); (try dsimp only); (try k_fold)))
  k_with "CompSrc" => first | (
  k_here
  k_dflt (
    (refine LCg.CompSrc.range (by rfl) (by k_asm) (by k_asm) (by assumption) (by first | exact small_one (by kcf_bnd) (by kcf_bnd) (by kcf_bnd) (by kcf_bnd) | decide) (by first | exact rangeSize_nat _ _ | rfl) (by first | exact Nat.le_of_ble_eq_true rfl | (rw [PySem.sizeLine_eq]; omega)) ?_)
    (intro g')
    (refine' comp_draw PartE ?q4c1 ?q4cm ?q4c2 ?q4c3 (fun i' o' v' ys' I' oI' C' oC' D' m' h' tk' E' hi' hD' hJ' hP' hC' hx' F' N' off' ne' => ?_) (fun o' ys' hD' hJ' => ?_))
    (case q4c1 => k_asm)
    (case q4cm => k_mem)
    (case q4c2 => (intro o; k_upd))
    (case q4c3 => exact ⟨[], .nil, rfl, fun _ h => nomatch h⟩)
    (all_goals (try (obtain ⟨tP', hP'⟩ := hP'; subst hP')))
    (all_goals (try simp only [LCg.Off3, and_true] at off'))
    kcf_last))
  k_with "CompEnd" => first | (k_dflt (
  (refine' compEnd_ ?q5e1 ?q5e2 ?q5e4 ?q5e5 ⟨_, ?q5e6, ?q5e7, ?q5e8⟩)
  (case q5e1 => k_asm)
  (case q5e2 => k_asm)
  (case q5e7 => exact rfl)
  (case q5e6 => k_asm)
  (case q5e4 => first | assumption | (simp only [LCg.Off3, and_true]; assumption))
  (case q5e5 => exact trivial)
  (case q5e8 => exact partE_snoc (by assumption) (by assumption) (by assumption))))
  k_with "call builtin:str.join" => first | (
  k_here
  k_dflt (
    (refine' join_part ?q6j1 ?q6j2 ?q6j3 ?_)
    (case q6j1 => exact News.isList (by k_asm) (by k_mem))
    (case q6j2 => assumption)
    (case q6j3 => omega)
    (intro x' t' k' hS')))
  unfold Does; k_fill
  intro w p loose mean mg mb dp un gd cn cs a ccd cl outer A₀ base h₀ L m s Q E B F X N T hk hd hu hret
  refine wpAny_call ?_
  k_dflt ktr_enter
  k_steps
  all_goals (refine hret _ _ _ _ ⟨_, [], ⟨⟨_, _, _, rfl, by assumption, by omega⟩, by assumption, rfl⟩, (fun _ h => nomatch h), rfl⟩ (by k_asm) (cb_drop (by assumption) ?_))
  all_goals exact fun p hp => by repeat (first | exact hp | refine List.mem_cons_of_mem _ ?_)

theorem part_ok {d nA : Addr} {oD oN : Obj} {len : Nat} {size : Int} {tm : Tok} {news : List (Addr × Obj)} {news' : Obj → List (Addr × Obj)}
    (_hd : (d, oD) ∈ news) (hD : DealOk oD nA len) (hn : (nA, oN) ∈ news) (hN : NumsOk oN len) (hne : nA ≠ d) (hm : 3 ≤ size) (hm2 : size ≤ 8) (U : ∀ o, Upd d oD o news (news' o)) :
    Does 149 [.ref d, .int size tm] news 4 (fun v nw => ∃ o ps t, v = .str (txt ps) t ∧ (ps.length : Int) ≤ size + 2 ∧ (∀ c ∈ ps, PartC c) ∧ DealOk o nA len ∧ nw = news' o) :=
  does_mono (does_deal (part_raw hD hN hne hm hm2) hn hne U) (by
    rintro v nw ⟨o, ex, ⟨⟨x, t, n, hv, ⟨ps, rfl, rfl, hc⟩, h1⟩, hD', rfl⟩, _, rfl⟩
    exact ⟨_, ⟨o, ps, t, hv, h1, hc, hD', rfl⟩, fun p hp => hp⟩)
theorem partC_lt {c : Nat} (h : PartC c) : c < 128 := by unfold PartC at h; omega
end NZ
end PNPart

section PNWp
open PySem PySem.W PyProof.Rows PySem.Calls PySem.Builtin PySem.Builtin.Str
set_option maxRecDepth 100000
set_option maxHeartbeats 8000000
namespace NZ
section
variable {prog : Program} {w : World} {A : Around} {E : Value → Shared → Prop} {s : Shared}
open Builtin._codecs
theorem bad_ascii {c : Nat} (h : c < 128) : utf8Codec.bad c = false := by
  show Str.isSurrogate c = false
  unfold Str.isSurrogate
  simp; omega
theorem bytesOf_ascii {c : Nat} (h : c < 128) : utf8Codec.bytesOf c = [c.toUInt8] := by
  show Str.utf8Of c = _
  unfold Str.utf8Of
  rw [if_pos h]
theorem foldl_bytes : ∀ (l : List Nat) (_ : ∀ c ∈ l, c < 128) (a : Array UInt8), l.foldl (fun acc y => acc ++ (utf8Codec.bytesOf y).toArray) a = a ++ (l.map fun c => c.toUInt8).toArray
  | [], _, a => by simp
  | c :: r, h, a => by
    rw [List.foldl_cons, foldl_bytes r (fun c hc => h c (.tail _ hc)), bytesOf_ascii (h c (.head _))]
    simp
theorem encodeNarrow_ascii {l : List Nat} {Q : Array UInt8 → Shared → Prop} (hl : ∀ c ∈ l, c < 128) (hn : l.length ≤ 1000) (id : String) (self : Value) (h : Q (l.map fun c => c.toUInt8).toArray s) :
    wpAny (model prog w) A (encodeNarrow id utf8Codec none self (txt l)) Q E s := by
  have hb : ∀ n, Array.findIdx? utf8Codec.bad ((txt l).cps.extract n) = none := by
    intro n
    rw [Array.findIdx?_eq_none_iff]
    intro c hc
    refine bad_ascii (hl c ?_)
    have : c ∈ ((txt l).cps.extract n).toList := hc.val
    rw [Array.toList_extract] at this
    exact List.mem_of_mem_drop (List.mem_of_mem_take this)
  unfold encodeNarrow
  simp only [Std.Legacy.Range.forIn_eq_forIn_range']
  refine wpAny_bind ?_
  refine (wpAny_forIn_list _ (fun xs b s' => s' = s ∧ ((xs.length = l.length ∧ b.1 = 0 ∧ b.2.1 = #[]) ∨ (b.1 = l.length ∧ b.2.1 = (l.map fun c => c.toUInt8).toArray))) _ ?_ ?_ _ _ ?_)
  · intro x rest b s' hsI
    obtain ⟨i, out, st⟩ := b
    obtain ⟨hs, hI⟩ := hsI
    subst hs
    have hI : (((x :: rest).length = l.length ∧ i = 0 ∧ out = #[]) ∨ (i = l.length ∧ out = (l.map fun c => c.toUInt8).toArray)) := hI
    have hsz : ¬ (i, out, st).snd.fst.size > sizeLine := by
      show ¬ out.size > sizeLine
      rw [sizeLine_eq]
      rcases hI with ⟨_, _, rfl⟩ | ⟨_, rfl⟩ <;> simp <;> omega
    rw [if_neg hsz]
    rcases hI with ⟨h1, rfl, rfl⟩ | ⟨rfl, rfl⟩
    · have hl0 : 0 < l.length := by rw [← h1]; simp
      obtain ⟨c, r, rfl⟩ : ∃ c r, l = c :: r := by cases l with | nil => simp at hl0 | cons c r => exact ⟨c, r, rfl⟩
      have e : (txt (c :: r)).cps[0]? = some c := by simp [txt]
      rw [show (txt (c :: r)).cps[((0 : Nat), (#[] : Array UInt8), st).fst]? = some c from e]
      show wpAny _ _ (if (!utf8Codec.bad c) = true then _ else _) _ _ _
      rw [bad_ascii (hl c (.head _)), if_pos (show (!false) = true from rfl)]
      refine wpAny_pure ⟨rfl, .inr ⟨?_, ?_⟩⟩
      · show 0 + _ = _
        rw [hb 0]; simp [txt]
      · show Array.foldl _ _ _ = _
        rw [hb 0]
        have := foldl_bytes (c :: r) hl #[]
        simp [txt] at this ⊢
        exact this
    · have e : (txt l).cps[l.length]? = none := by simp [txt]
      rw [show (txt l).cps[(l.length, (l.map fun c => c.toUInt8).toArray, st).fst]? = none from e]
      exact wpAny_pure (wpAny_pure h)
  · rintro ⟨i, out, st⟩ s' ⟨hs, hI⟩
    subst hs
    dsimp only at hI ⊢
    rcases hI with ⟨h1, rfl, rfl⟩ | ⟨rfl, rfl⟩
    · have : l = [] := List.eq_nil_of_length_eq_zero (by simpa using h1.symm)
      subst this
      exact wpAny_pure h
    · exact wpAny_pure h
  · exact ⟨rfl, .inl ⟨by simp [txt_len, Std.Legacy.Range.size], rfl, rfl⟩⟩
def nats (l : List Nat) : List Int := l.map fun (c : Nat) => (c : Int)
theorem byteArr_nats (l : List Nat) : (l.map fun c => c.toUInt8).toArray = byteArr (nats l) := by
  unfold byteArr nats
  simp
theorem encode_txt {l : List Nat} {t : Tok} {Q : Value → Shared → Prop} (hl : ∀ c ∈ l, c < 128) (hn : l.length ≤ 1000) (h : ∀ t' k, Q (.bytes (byteArr (nats l)) t') { s with toks := k }) :
    wpAny (model prog w) A (call (.builtin "str.encode") [.str (txt l) t]) Q E s := by
  refine wpAny_call_entry F.slot_str_encode (typeIs_str s _ _) F.entry_str_encode ?_ (F.args_str_encode_1 _)
  rw [encode_tree, encodeRoad_utf8]
  refine wpAny_bind (wpAny_bind (encodeNarrow_ascii hl hn _ _ (wpAny_mkBytes ?_ ?_)))
  · rw [byteArr_nats]
    exact wpAny_pure ⟨_, rfl, h _ _⟩
  · rw [sizeLine_eq]; simp; omega
end
end NZ
end PNWp

section PNWp2
open PySem PySem.W PyProof.Rows PySem.Calls PySem.Builtin PySem.Builtin.Str
set_option maxRecDepth 100000
set_option maxHeartbeats 8000000
namespace NZ
theorem bytes_has_len : typeLookup (.type "bytes") "__len__" = pure (some (.builtin "bytes.__len__")) := by rw [typeLookup_type, builtinLookup_eq_fast]; kernel_rfl
section
variable {prog : Program} {w : World} {A : Around} {E : Value → Shared → Prop} {s : Shared}
def ByteAt (b : Array UInt8) (i : Nat) (v : Value) : Prop := ∃ c u, b[i]? = some c ∧ v = .int (c.toNat : Int) u
theorem extend_bytes {R : Result → Shared → Prop} (hh : A.handled = none) (b : Array UInt8) (t : Tok) (S : Addr) (res : Value) (c₀ : Nat) (hS : s.heap.get? S = some { cls := .type "list", data := .seq #[] c₀ })
    (hR : ∀ h' tk acc' c', (∀ a o, a ≠ S → s.heap.get? a = some o → h'.get? a = some o) → h'.get? S = some { cls := .type "list", dict := none, data := .seq acc' c', slots := #[] } →
      ItemsOf (ByteAt b) acc' b.size → R (.ok (.ret res)) { s with heap := h', toks := tk }) (hn : b.size ≤ sizeLine) :
    wpAny (model prog w) A.in1 (Builtin.List.listExtendWith (.ref S) (.bytes b t) res)
      (fun fin s' => match fin with | .done f => R (.ok f) s' | .again c' => c'.quiet = true ∧ codeAny (model prog w) A c' R s') (fun e s' => R (.error e) s') s := by
  have hSI : S ≠ s.heap.objs.size := Nat.ne_of_lt (Heap.lt_size hS)
  have hSf : S ∉ [s.heap.objs.size] := fun hm => hSI (List.mem_singleton.mp hm)
  unfold Builtin.List.listExtendWith
  refine wpAny_bind (wpAny_typeOf (T := "bytes") (v := .bytes b t) rfl ?_)
  have h1 : Builtin.List.listSameRef (.ref S) (.bytes b t) = false := rfl
  have h2 : (Value.type "bytes" == Value.type "list") = false := by decide
  have h3 : (Value.type "bytes" == Value.type "tuple") = false := by decide
  simp only [h1, h2, h3, Bool.or_false, Bool.false_eq_true, if_false]
  refine wpAny_bind (KBw.pyIter_bytes ?_)
  refine wpAny_bind (wpAny_holding ?_)
  unfold Builtin.List.listLengthHint
  refine wpAny_bind (wpAny_specialOf (T := "bytes") (v := .bytes b t) rfl bytes_has_len ?_)
  wp_delta
  refine wpAny_bind (wpAny_isInstance (T := "bytes") (v := .bytes b t) (b := true) rfl (by rw [isSubtype_type]; kernel_rfl) ?_)
  show wpAny _ _ (typeOf (Value.bytes b t) >>= _) _ _ _
  refine wpAny_bind (wpAny_typeOf (T := "bytes") (v := .bytes b t) rfl ?_)
  refine wpAny_pure ?_
  rw [if_neg (by decide)]
  have W := KBw.walks (prog := prog) (w := w) (A := A.in1) hh s.heap.objs.size b t
  refine wpAny_pure ⟨plainId_quiet F.plain_extend_loop _, codeAny_extend_loopS W.toS hn _ hSf _ b.size 0 _ _ _ rfl (Nat.zero_le _) ⟨_, Heap.get?_push_size _ rfl, rfl, rfl⟩ (Heap.get?_push_of_some _ hS) (ItemsOf.nil _) fun s' acc' c' hm hS' hacc => ?_⟩
  rw [Moved.eq_with hm]
  refine hR s'.heap s'.toks acc' c' (fun b ob hb e => hm.heap b ob (fun hmem => ?_) (Heap.get?_push_of_some _ e)) hS' hacc
  rcases List.mem_cons.mp hmem with e' | hmem
  · exact hb e'
  · exact absurd (Heap.lt_size e) (by rw [List.mem_singleton.mp hmem]; exact Nat.lt_irrefl _)
theorem init_bytes {R : Result → Shared → Prop} (hh : A.handled = none) (x : Array UInt8) (t : Tok) (S : Addr) (hS : s.heap.get? S = some { cls := .type "list", data := .seq #[] })
    (hR : ∀ h' tk acc' c', (∀ b o, b ≠ S → s.heap.get? b = some o → h'.get? b = some o) → h'.get? S = some { cls := .type "list", dict := none, data := .seq acc' c', slots := #[] } →
      ItemsOf (ByteAt x) acc' x.size → R (.ok (.ret .none)) { s with heap := h', toks := tk }) (hn : x.size ≤ sizeLine) :
    wpAny (model prog w) A.in1 (Builtin.«list.__init__» ⟨[.ref S, .bytes x t], []⟩)
      (fun fin s' => match fin with | .done f => R (.ok f) s' | .again c' => c'.quiet = true ∧ codeAny (model prog w) A c' R s') (fun e s' => R (.error e) s') s := by
  show wpAny _ _ (do let old ← Builtin.List.listItems (.ref S); Builtin.List.listUpdate (.ref S) (fun _ => #[]); letGo old.toList.reverse; Builtin.List.listExtendWith (.ref S) (.bytes x t) .none) _ _ s
  refine wpAny_bind ?_
  unfold Builtin.List.listItems
  refine wpAny_bind (wpAny_seqItems hS rfl (wpAny_pure ?_))
  show wpAny _ _ (updateSeq S (fun _ => #[]) >>= fun _ => letGo (#[] : Array Value).toList.reverse >>= fun _ => Builtin.List.listExtendWith (.ref S) (.bytes x t) .none) _ _ s
  refine wpAny_bind (wpAny_updateSeq hS rfl ?_)
  have hS₂ := Heap.get?_update_self (Obj.mapSeq (fun _ => (#[] : Array Value))) hS rfl
  refine wpAny_bind (wpAny_letGo ?_)
  refine extend_bytes (hn := hn) hh x t S .none _ hS₂ fun h' tk acc' c' hk hS' hacc => ?_
  exact hR h' tk acc' c' (fun b o hb e => hk b o hb ((Heap.get?_update_other _ _ (Ne.symm hb)).trans e)) hS' hacc
theorem intsAre_bytes : ∀ (vs : List Value) (ks : List Int), vs.length = ks.length → (∀ (i : Nat) (v : Value), vs[i]? = some v → ∃ (k : Int) (u : Tok), ks[i]? = some k ∧ v = Value.int k u) → IntsAre vs ks
  | [], [], _, _ => .nil
  | v :: vs, k :: ks, h, hi => by
    obtain ⟨k', u, e, hv⟩ := hi 0 v rfl
    obtain rfl : k = k' := by simpa using e
    subst hv
    exact .cons _ _ (intsAre_bytes vs ks (by simpa using h) fun i v h => hi (i + 1) v (by simpa using h))
/-- list(bytes): a new list of its octets -/
theorem list_bytes {h₀ : Heap} {L : Addr} {m : Str → Option Value} {news : List (Addr × Obj)} {b : Array UInt8} {ks : List Int} {t : Tok} {Q : Value → Shared → Prop} (hb : KBw.bInts b = ks) (hn : ks.length ≤ 1000) (hh : A.handled = none)
    (Fh : Fr h₀ L s.heap m) (N : News h₀ L s.heap news)
    (hQ : ∀ r h' tk vs c', Fr h₀ L h' m → News h₀ L h' ((r, listOf (List.toArray vs) c') :: news) → IntsAre vs ks → (∀ p ∈ news, p.1 < r) → Q (.ref r) { s with heap := h', toks := tk }) :
    wpAny (model prog w) A (call (.type "list") [.bytes b t]) Q E s := by
  have hsz : b.size ≤ sizeLine := by rw [sizeLine_eq, ← KBw.ints_length b, hb]; omega
  refine callType_codes (Q₁ := fun obj s₁ => obj = .ref s.heap.objs.size ∧ s₁ = { s with heap := s.heap.push { cls := .type "list", data := .seq #[] } }) F.called_list (F.typeCall_list_1 _) F.entry_list_init
    (code_list_new _ ⟨rfl, rfl⟩) fun obj s₁ h₁ => ?_
  obtain ⟨rfl, rfl⟩ := h₁
  have hS : (s.heap.push { cls := .type "list", data := .seq #[] }).get? s.heap.objs.size = some { cls := .type "list", data := .seq #[] } := Heap.get?_push_size _ rfl
  refine ⟨⟨_, hS, rfl⟩, F.args_list_init_2 _ _, init_bytes (A := A.in1) (hn := hsz) hh b t _ hS fun h' tk acc' c' hk hS' hacc => ?_⟩
  have keep : ∀ a o, s.heap.get? a = some o → h'.get? a = some o := fun a o e => hk a o (Nat.ne_of_lt (Heap.lt_size e)) (Heap.get?_push_of_some _ e)
  have hnew : h₀.get? s.heap.objs.size = none := by
    cases q : h₀.get? s.heap.objs.size with
    | none => rfl
    | some o => exact absurd (Heap.lt_size (Fh.keep _ _ q)) (Nat.lt_irrefl _)
  refine ⟨rfl, hQ _ h' tk acc'.toList c' (Fh.keeps keep) ?_ ?_ fun p hp => Heap.lt_size (N p hp).1⟩
  · intro p hp
    rcases List.mem_cons.mp hp with rfl | hp
    · exact ⟨by simpa using hS', Nat.ne_of_gt Fh.ns.lt, hnew⟩
    · exact ⟨keep _ _ (N p hp).1, (N p hp).2⟩
  · refine intsAre_bytes _ _ (by rw [← hb, KBw.ints_length]; simpa using hacc.1) fun i v hv => ?_
    obtain ⟨c, u, hc, e⟩ := hacc.2 i v (by simpa using hv)
    exact ⟨_, u, by rw [← hb]; exact KBw.ints_get hc, e⟩
end
end NZ
end PNWp2

section PNFill
open PySem PySem.W PyProof.Rows PySem.Calls
set_option maxRecDepth 100000
set_option maxHeartbeats 8000000
namespace NZ
def headOf (ps : List Nat) : List Nat := (ps.map upN).takeWhile fun x => decide (x ≠ 42)
def rowOf (ps : List Nat) (n : Nat) : List Nat := (if 42 ∈ ps.map upN then headOf ps ++ List.replicate n 63 else headOf ps).take n
def lawFilled (ps : List Nat) (n : Nat) : List Nat := rowOf ps n ++ List.replicate (n - (rowOf ps n).length) 32
theorem lit_star : Str.ofString "*" = txt [42] := by decide +kernel
theorem lit_any : Str.ofString "?" = txt [63] := by decide +kernel
theorem lit_blank : Str.ofString " " = txt [32] := by decide +kernel
section
variable {ps : List Nat} {n : Nat} (h : ∀ c ∈ ps, c < 128)
include h
theorem fill_head : (Txt.partition (Txt.upper (txt ps)) (Str.ofString "*")).1 = txt (headOf ps) := by
  rw [upper_txt ps h, lit_star, (partition_txt _ 42).1]; rfl
theorem fill_is : ((Txt.partition (Txt.upper (txt ps)) (Str.ofString "*")).2.1 == Str.ofString "*") = decide (42 ∈ ps.map upN) := by
  rw [upper_txt ps h, lit_star, (partition_txt _ 42).2]
  by_cases q : 42 ∈ ps.map upN
  · rw [if_pos q, decide_eq_true q]; exact beq_self_eq_true _
  · rw [if_neg q, decide_eq_false q]; decide
theorem fill_star (b : ((Txt.partition (Txt.upper (txt ps)) (Str.ofString "*")).2.1 == Str.ofString "*") = true) :
    Txt.slice ((Txt.partition (Txt.upper (txt ps)) (Str.ofString "*")).1 ++ Txt.mul (Str.ofString "?") (n : Int)) none (some (n : Int)) = txt (rowOf ps n) := by
  rw [fill_is h] at b
  rw [fill_head h, lit_any, mul_txt, txt_app, slice_txt]
  unfold rowOf
  rw [if_pos (of_decide_eq_true b)]
theorem fill_no (b : ((Txt.partition (Txt.upper (txt ps)) (Str.ofString "*")).2.1 == Str.ofString "*") = false) :
    Txt.slice (Txt.partition (Txt.upper (txt ps)) (Str.ofString "*")).1 none (some (n : Int)) = txt (rowOf ps n) := by
  rw [fill_is h] at b
  rw [fill_head h, slice_txt]
  unfold rowOf
  rw [if_neg (of_decide_eq_false b)]
end
theorem row_len (ps : List Nat) (n : Nat) : (rowOf ps n).length ≤ n := by unfold rowOf; simp; omega
theorem fill_pad {x : Str} {ps : List Nat} {n : Nat} (e : x = txt (rowOf ps n)) : x ++ Txt.mul (Str.ofString " ") ((n : Int) - (x.length : Int)) = txt (lawFilled ps n) := by
  subst e
  have := row_len ps n
  rw [txt_len, lit_blank, show ((n : Int) - ((rowOf ps n).length : Int)) = ((n - (rowOf ps n).length : Nat) : Int) from by omega, mul_txt, txt_app]
  rfl
theorem upN_lt {c : Nat} (h : c < 128) : upN c < 128 := by unfold upN; split <;> omega
theorem lawFilled_lt {ps : List Nat} (n : Nat) (h : ∀ c ∈ ps, c < 128) : ∀ c ∈ lawFilled ps n, c < 128 := by
  intro c hc
  have hd : ∀ c ∈ headOf ps, c < 128 := fun c hc => by
    obtain ⟨a, ha, rfl⟩ := List.mem_map.mp ((List.takeWhile_sublist _).mem hc)
    exact upN_lt (h a ha)
  rcases List.mem_append.mp hc with q | q
  · unfold rowOf at q
    have q := List.mem_of_mem_take q
    split at q
    · rcases List.mem_append.mp q with q | q
      · exact hd c q
      · rw [(List.mem_replicate.mp q).2]; omega
    · exact hd c q
  · rw [(List.mem_replicate.mp q).2]; omega
theorem lawFilled_len (ps : List Nat) (n : Nat) : (lawFilled ps n).length = n := by
  have := row_len ps n
  unfold lawFilled; simp; omega
section
variable {prog : Program} {w : World} {A : Around} {E : Value → Shared → Prop} {s : Shared}
theorem encode_eq {x : Str} {l : List Nat} {t : Tok} {Q : Value → Shared → Prop} (e : x = txt l) (hl : ∀ c ∈ l, c < 128) (hn : l.length ≤ 1000) (h : ∀ t' k, Q (.bytes (byteArr (nats l)) t') { s with toks := k }) :
    wpAny (model prog w) A (call (.builtin "str.encode") [.str x t]) Q E s := by subst e; exact encode_txt hl hn h
end
theorem nats_in {l : List Nat} (h : ∀ c ∈ l, c < 128) : KBa.In (nats l) := by
  intro n hn
  obtain ⟨c, hc, rfl⟩ := List.mem_map.mp hn
  have := h c hc
  omega
section
variable {prog : Program} {w : World} {A : Around} {E : Value → Shared → Prop} {s : Shared}
theorem gm_encode {M : Model} {x : Str} {t : Tok} {pl : Sem Bool} {Q : Value × List Value → Shared → Prop} (h : Q (.builtin "str.encode", [.str x t]) s) : wpAny M A (getMethod (.str x t) "encode" pl) Q E s := by
  with_reducible exact GM.of (.str x t) (typeIs_str _ _ _) F.slot_str_encode F.type_str_encode GM.noRef h
theorem len_row {x : Str} {ps : List Nat} {n : Nat} {t : Tok} {Q : Value → Shared → Prop} (e : x = txt (rowOf ps n)) (hn : n ≤ 1000) (h : x.length ≤ n → x = txt (rowOf ps n) → Q (.int x.length (s.toks + 1)) { s with toks := s.toks + 1 + 1 }) :
    wpAny (model prog w) A (call (.builtin "len") [.str x t]) Q E s := by
  have hl : x.length ≤ n := by rw [e, txt_len]; exact row_len ps n
  exact P.len_str (by omega) (h hl e)
end
theorem filled_ok {ps : List Nat} {n : Nat} {t tm : Tok} (news : List (Addr × Obj)) (hp : ∀ c ∈ ps, c < 128) (hx : ps.length ≤ 40) (hs : n = 3 ∨ n = 8) :
    Does 156 [.str (txt ps) t, .int (n : Int) tm] news 4 (fun v nw => ∃ r vs k, v = .ref r ∧ IntsAre vs (nats (lawFilled ps n)) ∧ AllLt r news ∧ nw = (r, listOf (List.toArray vs) k) :: news) := by
  k_with_none
  w_top off
  k_with "call builtin:len" => first | (
  k_here
  (with_reducible show wpAny _ _ (call (Value.builtin "len") [Value.str (Txt.slice _ _ _) _]) _ _ _)
  k_dflt (
    (refine' len_row ?q0e ?q0n ?_)
    (case q0e => first | with_reducible exact fill_star (by assumption) (by assumption) | with_reducible exact fill_no (by assumption) (by assumption))
    (case q0n => omega)
    intro hl' he'))
  k_with "getMethod str" => first | (k_here; (with_reducible refine gm_encode ?_))
  k_with "call builtin:str.encode" => first | (
  k_here
  k_dflt (
    (refine' encode_eq ?q2e ?q2l ?q2n ?_)
    (case q2e => with_reducible exact fill_pad (by assumption))
    (case q2l => exact lawFilled_lt _ (by assumption))
    (case q2n => (rw [lawFilled_len]; omega))
    intro t' k'))
  k_with "call type:list" => first | (
  k_here
  (with_reducible show wpAny _ _ (call (Value.type _) [Value.bytes _ _]) _ _ _)
  k_dflt (
    (refine' list_bytes ?q3b ?q3n ?q3h ?q3F ?q3N ?_)
    (case q3b => exact KBa.ints_make (nats_in (lawFilled_lt _ (by assumption))))
    (case q3n => (rw [nats, List.length_map, lawFilled_len]; omega))
    (case q3h => exact rfl)
    (case q3F => k_asm)
    (case q3N => k_asm)
    intro r' h' tk' vs' c' F' N' hI' l1
    (try k_lt l1)
    (try k_sweep)))
  have hx' : (txt ps).length ≤ 40 := by rw [txt_len]; exact hx
  unfold Does; k_fill
  intro w p loose mean mg mb dp un gd cn cs a ccd cl outer A₀ base h₀ L m s Q E B F X N T hk hd hu hret
  refine wpAny_call ?_
  k_dflt ktr_enter
  k_steps
  all_goals exact hret _ _ _ _ ⟨_, _, _, rfl, by assumption, And.right (by assumption), rfl⟩ (by k_asm) (news_drop2 (by assumption))
end NZ
end PNFill

section PNTx1
open PySem PySem.W PyProof.Rows PySem.Calls
set_option maxRecDepth 100000
set_option maxHeartbeats 2000000
namespace NZ
theorem txt_inj {a b : List Nat} (h : txt a = txt b) : a = b := by
  have := congrArg (fun x : Str => x.cps.toList) h
  simpa [txt] using this
theorem eq_txts (a b : List Nat) : (txt a == txt b) = decide (a = b) := by
  by_cases h : a = b
  · subst h; rw [decide_eq_true rfl]; exact beq_self_eq_true _
  · rw [decide_eq_false h]
    exact beq_eq_false_iff_ne.mpr fun q => h (txt_inj q)
section
variable {prog : Program} {w : World} {A : Around} {E : Value → Shared → Prop} {s : Shared} {x y : Str} {a b : List Nat} {t u : Tok} {Q : Value → Shared → Prop}
theorem cmp_eq (ex : x = txt a) (ey : y = txt b) (h : Q (.bool (decide (a = b))) s) : wpAny (model prog w) A (compareOp .Eq (.str x t) (.str y u)) Q E s := by
  subst ex ey
  refine PyProof.Rows.eq_str ?_
  rw [eq_txts]; exact h
theorem cmp_ne (ex : x = txt a) (ey : y = txt b) (h : Q (.bool (!decide (a = b))) s) : wpAny (model prog w) A (compareOp .NotEq (.str x t) (.str y u)) Q E s := by
  subst ex ey
  refine PyProof.Rows.ne_str ?_
  show Q (.bool (!(txt a == txt b))) s
  rw [eq_txts]; exact h
end
theorem menu_item {prog : Program} {w : World} {A : Around} {E : Value → Shared → Prop} {s : Shared} {value slice : PySem.Expr} {l : Addr} {vs : List Value} {k : Int} {u : Tok} {Q : Value → Shared → Prop}
    (hl : s.heap.IsList l vs.toArray) (h0 : 0 ≤ k) (hhi : k < (vs.length : Int)) (hn : vs.length ≤ 100) (h : ∀ v, vs[k.toNat]? = some v → Q v s)
    (hs : subscripted slice false (.ref l) (.int k u) = operate [.ref l, .int k u] (getItem (.ref l) (.int k u)) := by with_unfolding_all rfl) :
    wpAny (model prog w) A (subscriptTail value slice (.ref l) (.int k u)) Q E s := by
  have hx : vs[k.toNat]? = some vs[k.toNat] := List.getElem?_eq_getElem (by omega)
  exact tail_any hl.typeIs slot_list_getitem.lookup (wpAny_getItem_list hl h0 (by omega) (by simpa using hx) (h _ hx)) hs
end NZ
end PNTx1

section PNName
open PySem PySem.W PyProof.Rows PySem.Calls
set_option maxRecDepth 100000
set_option maxHeartbeats 8000000
namespace NZ
theorem lit_nil : Str.ofString "" = txt [] := by decide +kernel
theorem lt_of_parts {ps : List Nat} (h : ∀ c ∈ ps, PartC c) : ∀ c ∈ ps, c < 128 := fun c hc => partC_lt (h c hc)
theorem lit_a : Str.ofString "a" = txt [97] := by decide +kernel
theorem lit_P : Str.ofString "P" = txt [80] := by decide +kernel
theorem lit_q : Str.ofString "q" = txt [113] := by decide +kernel
theorem lit_ac : Str.ofString "a" ++ Str.ofString ":" = txt [97, 58] := by decide +kernel
theorem lit_Pc : Str.ofString "P" ++ Str.ofString ":" = txt [80, 58] := by decide +kernel
theorem lit_colon : Str.ofString ":" = txt [58] := by decide +kernel
theorem lit_dot : Str.ofString "." = txt [46] := by decide +kernel
section
variable {prog : Program} {w : World} {A : Around} {E : Value → Shared → Prop} {s : Shared}
theorem add_txt {x y : Str} {a b : List Nat} {t u : Tok} {Q : Value → Shared → Prop} (e1 : x = txt a) (e2 : y = txt b) (hn : a.length + b.length ≤ 1000) (h : ∀ t' k, Q (.str (txt (a ++ b)) t') { s with toks := k }) :
    wpAny (model prog w) A (binaryOp .Add (.str x t) (.str y u)) Q E s := by
  subst e1 e2
  refine SBL.add (fun t' k _ => ?_) (by rw [sizeLine_eq, txt_len, txt_len]; omega)
  rw [txt_app]
  exact h t' k
end
def FillRet (ps : List Nat) (n : Nat) (news : List (Addr × Obj)) (v : Value) (nw : List (Addr × Obj)) : Prop := ∃ r vs k, v = .ref r ∧ IntsAre vs (nats (lawFilled ps n)) ∧ AllLt r news ∧ nw = (r, listOf (List.toArray vs) k) :: news
theorem fill8 {x : Str} {ps : List Nat} {t tm : Tok} {news : List (Addr × Obj)} (e : x = txt ps) (hp : ∀ c ∈ ps, c < 128) (hx : ps.length ≤ 40) : Does 156 [.str x t, .int 8 tm] news 4 (FillRet ps 8 news) := by
  subst e; exact filled_ok (n := 8) news hp hx (.inr rfl)
theorem fill3 {x : Str} {ps : List Nat} {t tm : Tok} {news : List (Addr × Obj)} (e : x = txt ps) (hp : ∀ c ∈ ps, c < 128) (hx : ps.length ≤ 40) : Does 156 [.str x t, .int 3 tm] news 4 (FillRet ps 3 news) := by
  subst e; exact filled_ok (n := 3) news hp hx (.inl rfl)
theorem none_mem {P : Nat → Prop} : ∀ c ∈ ([] : List Nat), P c := fun _ h => nomatch h
/-- what a name of the law's is: its text, its drive, its eleven octets -/
def NameIs (x : List Nat) (dr : Int) (oc : List Nat) : Prop :=
  (x = [113] ∧ dr = 0 ∧ oc = [81, 32, 32, 32, 32, 32, 32, 32, 32, 32, 32]) ∨
  ∃ (pre nm : List Nat) (kd : Option (List Nat)), ((pre = [] ∧ dr = 0) ∨ (pre = [97, 58] ∧ dr = 1) ∨ (pre = [80, 58] ∧ dr = 16)) ∧ (∀ c ∈ nm, PartC c) ∧ nm.length ≤ 10 ∧ (∀ k ∈ kd, (∀ c ∈ k, PartC c) ∧ k.length ≤ 5) ∧
    x = pre ++ nm ++ (match kd with | none => [] | some k => 46 :: k) ∧ oc = lawFilled nm 8 ++ lawFilled (kd.getD []) 3
theorem nats_app (a b : List Nat) : nats (a ++ b) = nats a ++ nats b := List.map_append
theorem name_oc {ws : List Value} {nm k : List Nat} (h : IntsAre ws (nats (lawFilled nm 8) ++ nats (lawFilled k 3))) : IntsAre ws (nats (lawFilled nm 8 ++ lawFilled k 3)) := by rw [nats_app]; exact h
/-- a letter of the menu -/
def LetC (l : List Nat) : Prop := l = [] ∨ l = [97] ∨ l = [80] ∨ l = [113]
def LetD (l : List Nat) (dr : Int) : Prop := (l = [] ∧ dr = 0) ∨ (l = [97] ∧ dr = 1) ∨ (l = [80] ∧ dr = 16)
theorem letC_len {l : List Nat} (h : LetC l) : l.length ≤ 1 := by rcases h with rfl | rfl | rfl | rfl <;> decide
theorem let_of {t0 t1 t2 t3 : Tok} {k : Int} {v : Value} (h0 : 0 ≤ k) (h1 : k < 4) (h : [Value.str (Str.ofString "") t0, .str (Str.ofString "a") t1, .str (Str.ofString "P") t2, .str (Str.ofString "q") t3][k.toNat]? = some v) : ∃ l t, v = .str (txt l) t ∧ LetC l := by
  have : k = 0 ∨ k = 1 ∨ k = 2 ∨ k = 3 := by omega
  rcases this with rfl | rfl | rfl | rfl
  · exact ⟨[], t0, by rw [← lit_nil]; exact (Option.some.inj h).symm, .inl rfl⟩
  · exact ⟨[97], t1, by rw [← lit_a]; exact (Option.some.inj h).symm, .inr (.inl rfl)⟩
  · exact ⟨[80], t2, by rw [← lit_P]; exact (Option.some.inj h).symm, .inr (.inr (.inl rfl))⟩
  · exact ⟨[113], t3, by rw [← lit_q]; exact (Option.some.inj h).symm, .inr (.inr (.inr rfl))⟩
def KindP (b : Bool) (ks : List Nat) : Prop := (∀ c ∈ ks, PartC c) ∧ ks.length ≤ 5 ∧ (b = false → ks = [])
theorem kind_yes {b : Bool} {ks : List Nat} (hc : ∀ c ∈ ks, PartC c) (hl : (ks.length : Int) ≤ 3 + 2) (hb : b = true) : KindP b ks := ⟨hc, by omega, fun h => by rw [hb] at h; cases h⟩
theorem kind_no {b : Bool} : KindP b [] := ⟨none_mem, Nat.zero_le _, fun _ => rfl⟩
def TextP (l nm : List Nat) (b : Bool) (ks x : List Nat) : Prop := x = (if l = [] then [] else l ++ [58]) ++ nm ++ (if b = true then [46] ++ ks else [])
section
variable {l nm ks x : List Nat} {b : Bool} {dr : Int}
theorem text_tt (h : decide (l = []) = false) (hb : b = true) : TextP l nm b ks (l ++ [58] ++ nm ++ ([46] ++ ks)) := by unfold TextP; rw [if_neg (of_decide_eq_false h), if_pos hb]
theorem text_tf (h : decide (l = []) = false) (hb : b = false) : TextP l nm b ks (l ++ [58] ++ nm ++ []) := by unfold TextP; rw [if_neg (of_decide_eq_false h), if_neg (by rw [hb]; decide)]
theorem text_ft (h : decide (l = []) = true) (hb : b = true) : TextP l nm b ks ([] ++ nm ++ ([46] ++ ks)) := by unfold TextP; rw [if_pos (of_decide_eq_true h), if_pos hb]
theorem text_ff (h : decide (l = []) = true) (hb : b = false) : TextP l nm b ks ([] ++ nm ++ []) := by unfold TextP; rw [if_pos (of_decide_eq_true h), if_neg (by rw [hb]; decide)]
theorem name_fin (hT : TextP l nm b ks x) (hk : KindP b ks) (hd : LetD l dr) (hc : ∀ c ∈ nm, PartC c) (hl : (nm.length : Int) ≤ 8 + 2) : NameIs x dr (lawFilled nm 8 ++ lawFilled ks 3) := by
  obtain ⟨k1, k2, k3⟩ := hk
  refine .inr ⟨if l = [] then [] else l ++ [58], nm, if b = true then some ks else none, ?_, hc, by omega, fun k h => ?_, ?_, ?_⟩
  · rcases hd with ⟨rfl, rfl⟩ | ⟨rfl, rfl⟩ | ⟨rfl, rfl⟩
    · exact .inl ⟨rfl, rfl⟩
    · exact .inr (.inl ⟨rfl, rfl⟩)
    · exact .inr (.inr ⟨rfl, rfl⟩)
  · cases b with
    | true => cases h; exact ⟨k1, k2⟩
    | false => cases h
  · rw [hT]; cases b <;> rfl
  · cases b with
    | true => rfl
    | false => rw [k3 rfl]; rfl
end
section
variable {M : Model} {A : Around} {E : Value → Shared → Prop} {s : Shared} {h₀ h' : Heap} {L d nA : Addr} {oN o : Obj} {len tk' : Nat} {m m' : Str → Option Value} {rest all news : List (Addr × Obj)} {b : Bool} {ks l nm xs : List Nat} {y : Str} {t : Tok}
/-- the kind is laid -/
def KindE (b : Bool) (d nA : Addr) (oN : Obj) (len : Nat) (rest : List (Addr × Obj)) (h₀ : Heap) (L : Addr) (m : Str → Option Value) (s : Shared) (f : Flow) (s' : Shared) : Prop :=
  ∃ ks t o h' tk', f = .next ∧ s' = { s with heap := h', toks := tk' } ∧ KindP b ks ∧ DealOk o nA len ∧ Fr h₀ L h' (fun z => if z = Str.ofString "kind" then some (.str (txt ks) t) else m z) ∧ News h₀ L h' ((d, o) :: (nA, oN) :: rest)
theorem kind_cut {x : Sem Flow} {Q : Flow → Shared → Prop} (b : Bool) (d nA : Addr) (oN : Obj) (len : Nat) (rest : List (Addr × Obj)) (_hb : m (Str.ofString "has_kind") = some (.bool b)) (_F : Fr h₀ L s.heap m) (h : wpAny M A x (KindE b d nA oN len rest h₀ L m s) E s)
    (k : ∀ ks t o h' tk', KindP b ks → DealOk o nA len → Fr h₀ L h' (fun z => if z = Str.ofString "kind" then some (.str (txt ks) t) else m z) → News h₀ L h' ((d, o) :: (nA, oN) :: rest) → Q .next { s with heap := h', toks := tk' }) : wpAny M A x Q E s :=
  wpAny_mono h (fun f s' ⟨ks, t, o, h', tk', e1, e2, hk, hD, F', N'⟩ => by subst e1 e2; exact k ks t o h' tk' hk hD F' N') fun _ _ e => e
theorem kindE_ (ex : y = txt ks) (F : Fr h₀ L h' m') (em : m' = fun z => if z = Str.ofString "kind" then some (.str y t) else m z) (N : News h₀ L h' all) (hm : (d, o) ∈ all) (sub : ∀ p ∈ (nA, oN) :: rest, p ∈ all) (hD : DealOk o nA len) (hk : KindP b ks) : KindE b d nA oN len rest h₀ L m s .next { s with heap := h', toks := tk' } := by
  subst ex em
  exact ⟨ks, t, o, h', tk', rfl, rfl, hk, hD, F, fun p hp => N p ((List.mem_cons.mp hp).elim (fun q => q ▸ hm) (sub p))⟩
/-- the name's text is laid -/
def TextE (l nm : List Nat) (b : Bool) (ks : List Nat) (h₀ : Heap) (L : Addr) (m : Str → Option Value) (news : List (Addr × Obj)) (s : Shared) (f : Flow) (s' : Shared) : Prop :=
  ∃ x t h' tk', f = .next ∧ s' = { s with heap := h', toks := tk' } ∧ TextP l nm b ks x ∧ Fr h₀ L h' (fun z => if z = Str.ofString "text" then some (.str (txt x) t) else m z) ∧ News h₀ L h' news
theorem text_cut {x : Sem Flow} {Q : Flow → Shared → Prop} {tl tn tk : Tok} (_hl : m (Str.ofString "letter") = some (.str (txt l) tl)) (_hn : m (Str.ofString "name") = some (.str (txt nm) tn)) (_hb : m (Str.ofString "has_kind") = some (.bool b)) (_hk : m (Str.ofString "kind") = some (.str (txt ks) tk)) (_F : Fr h₀ L s.heap m) (_N : News h₀ L s.heap news)
    (h : wpAny M A x (TextE l nm b ks h₀ L m news s) E s)
    (k : ∀ x t h' tk', TextP l nm b ks x → Fr h₀ L h' (fun z => if z = Str.ofString "text" then some (.str (txt x) t) else m z) → News h₀ L h' news → Q .next { s with heap := h', toks := tk' }) : wpAny M A x Q E s :=
  wpAny_mono h (fun f s' ⟨x, t, h', tk', e1, e2, hk, F', N'⟩ => by subst e1 e2; exact k x t h' tk' hk F' N') fun _ _ e => e
theorem textE_ (ex : y = txt xs) (F : Fr h₀ L h' m') (em : m' = fun z => if z = Str.ofString "text" then some (.str y t) else m z) (N : News h₀ L h' all) (sub : ∀ p ∈ news, p ∈ all) (hT : TextP l nm b ks xs) : TextE l nm b ks h₀ L m news s .next { s with heap := h', toks := tk' } := by
  subst ex em
  exact ⟨xs, t, h', tk', rfl, rfl, hT, F, fun p hp => N p (sub p hp)⟩
/-- the drive is looked up -/
def DrvV (l : List Nat) (h₀ : Heap) (L : Addr) (m : Str → Option Value) (news : List (Addr × Obj)) (s : Shared) (v : Value) (s' : Shared) : Prop :=
  ∃ dr td h' tk', v = .int dr td ∧ s' = { s with heap := h', toks := tk' } ∧ LetD l dr ∧ Fr h₀ L h' m ∧ News h₀ L h' news
theorem drvV_cut {x : Sem Value} {Q : Value → Shared → Prop} {tl : Tok} (_hl : m (Str.ofString "letter") = some (.str (txt l) tl)) (_F : Fr h₀ L s.heap m) (_N : News h₀ L s.heap news) (h : wpAny M A x (DrvV l h₀ L m news s) E s)
    (k : ∀ dr td h' tk', LetD l dr → Fr h₀ L h' m → News h₀ L h' news → Q (.int dr td) { s with heap := h', toks := tk' }) : wpAny M A x Q E s :=
  wpAny_mono h (fun v s' ⟨dr, td, h', tk', e1, e2, hd, F', N'⟩ => by subst e1 e2; exact k dr td h' tk' hd F' N') fun _ _ e => e
theorem drvV_ {dr : Int} {td : Tok} (F : Fr h₀ L h' m) (N : News h₀ L h' all) (sub : ∀ p ∈ news, p ∈ all) (hd : LetD l dr) : DrvV l h₀ L m news s (.int dr td) { s with heap := h', toks := tk' } := ⟨dr, td, h', tk', rfl, rfl, hd, F, fun p hp => N p (sub p hp)⟩
theorem letD0 (h : txt l = Str.ofString "") : LetD l 0 := .inl ⟨txt_inj (h.trans lit_nil), rfl⟩
theorem letD1 (h : txt l = Str.ofString "a") : LetD l 1 := .inr (.inl ⟨txt_inj (h.trans lit_a), rfl⟩)
theorem letD2 (h : txt l = Str.ofString "P") : LetD l 16 := .inr (.inr ⟨txt_inj (h.trans lit_P), rfl⟩)
theorem let_no (h : LetC l) (hq : ¬ l = [113]) (h0 : ¬ txt l = Str.ofString "") (h1 : ¬ txt l = Str.ofString "a") (h2 : ¬ txt l = Str.ofString "P") : False := by
  rcases h with rfl | rfl | rfl | rfl
  · exact h0 lit_nil.symm
  · exact h1 lit_a.symm
  · exact h2 lit_P.symm
  · exact hq rfl
theorem allLt_up {a c : Addr} (h : @LT.lt Nat _ a c) : ∀ {l : List (Addr × Obj)}, AllLt a l → AllLt c l
  | [], _ => trivial
  | _ :: _, q => ⟨Nat.lt_trans q.1 h, allLt_up h q.2⟩
end
theorem name_ret {d nA : Addr} {oD oN o : Obj} {len : Nat} {rest : List (Addr × Obj)} {tp r : Addr} {x : List Nat} {t td : Tok} {dr : Int} {oc : List Nat} {vs : List Value} {k : Nat} (hi : NameIs x dr oc) (hI : IntsAre vs (nats oc)) (hlt : @LT.lt Nat _ r tp) (hD : DealOk o nA len) (l1 : AllLt r ((d, oD) :: (nA, oN) :: rest)) :
    (fun (v : Value) (nw : List (Addr × Obj)) => ∃ o ex, ((∃ tp x t dr td oc r vs k, v = .ref tp ∧ NameIs x dr oc ∧ IntsAre vs (nats oc) ∧ ex = [(tp, { cls := .type "tuple", data := .seq #[.str (txt x) t, .int dr td, .ref r] }), (r, listOf (List.toArray vs) k)] ∧ @LT.lt Nat _ r tp) ∧ DealOk o nA len) ∧ (∀ p ∈ ex, AllLt p.1 ((d, oD) :: (nA, oN) :: rest)) ∧ nw = ex ++ (d, o) :: (nA, oN) :: rest) (.ref tp) ((tp, { cls := .type "tuple", data := .seq #[.str (txt x) t, .int dr td, .ref r] }) :: (r, listOf (List.toArray vs) k) :: (d, o) :: (nA, oN) :: rest) :=
  ⟨o, [_, _], ⟨⟨tp, x, t, dr, td, oc, r, vs, k, rfl, hi, hI, rfl, hlt⟩, hD⟩, (List.forall_mem_cons.mpr ⟨allLt_up hlt l1, List.forall_mem_cons.mpr ⟨l1, fun _ h => nomatch h⟩⟩), rfl⟩
theorem name_raw {d nA : Addr} {oD oN : Obj} {len : Nat} (hD : DealOk oD nA len) (hN : NumsOk oN len) (hne : nA ≠ d) (rest : List (Addr × Obj)) (hr : ∀ p ∈ rest, p.1 ≠ d) :
    Does 163 [.ref d] ((d, oD) :: (nA, oN) :: rest) 8 (fun v nw => ∃ o ex, ((∃ tp x t dr td oc r vs k, v = .ref tp ∧ NameIs x dr oc ∧ IntsAre vs (nats oc) ∧ ex = [(tp, { cls := .type "tuple", data := .seq #[.str (txt x) t, .int dr td, .ref r] }), (r, listOf (List.toArray vs) k)] ∧ @LT.lt Nat _ r tp) ∧ DealOk o nA len) ∧ (∀ p ∈ ex, AllLt p.1 ((d, oD) :: (nA, oN) :: rest)) ∧ nw = ex ++ (d, o) :: (nA, oN) :: rest) := by
  k_with_none
  w_top off
  k_with "k_all" => first | (assumption)
  k_with "ktr_enter" => first | ((refine' code_defC ?q1k1 ?q1k2 ?q1k3 ?q1k4 ?q1k5 ?q1kA ?q1kF ?q1kK ?q1k6 ?q1k7 ?q1k8 ?q1k9 ?q1kB ?q1kD ?_ ?q1c2 ?q1c3 ?q1c4); (case q1kA => exact rfl); (case q1kF => exact rfl); (case q1kK => assumption); (case q1k1 => k_asm); (case q1k2 => k_asm); (case q1k3 => k_asm); (case q1k4 => k_asm); (case q1k5 => k_asm); (case q1k6 => k_is); (case q1k7 => k_is); (case q1k8 => ktr_room); (case q1k9 => exact BindsTo.of_eq rfl); (case q1kB => exact rfl); (case q1kD => decide +kernel); (case q1c2 => exact rfl); (case q1c3 => exact rfl); (case q1c4 => exact rfl); k_whole; intro g' L' h' tk' cells' FG' F' N' Y' B' X' T' l1; (try k_lt l1); k_cells Y'; (try simp only [List.cons_append, List.nil_append] at N'); (try dsimp only); (try k_fold))
  k_with "call ref" => first | (k_here; (with_reducible show wpAny _ _ (call (Value.ref 144) _) _ _ _); k_dflt (
  (refine' use33 ?q2k1 ?q2k2 ?q2k3 ?q2k4 ?q2k5 ?q2k6 (take_ok ?q2t1 ?q2t2 ?q2t3 ?q2t4 ?q2t5 ?q2t6 ?q2t7 ?q2t8) ?q2k7 ?q2k8 ?_)
  (case q2k1 => k_asm)
  (case q2k2 => k_asm)
  (case q2k3 => k_asm)
  (case q2k4 => k_asm)
  (case q2t1 => k_mem)
  (case q2t2 => k_asm)
  (case q2t3 => k_mem)
  (case q2t4 => k_asm)
  (case q2t5 => k_asm)
  (case q2t6 => omega)
  (case q2t7 => omega)
  (case q2t8 => (intro o; k_upd))
  (case q2k5 => k_asm)
  (case q2k6 => first | exact rfl | assumption)
  (case q2k7 => ktr_room)
  (case q2k8 => ktr_units)
  intro o' x' t' hx0' hx1' hD' h' tk' F' N'
  (try k_sweep)
  (all_goals (try dsimp only)); (all_goals (try k_fold))))
  k_with "call ref" => first | (k_here; (with_reducible show wpAny _ _ (call (Value.ref 149) _) _ _ _); k_dflt (
  (refine' use33 ?q3k1 ?q3k2 ?q3k3 ?q3k4 ?q3k5 ?q3k6 (part_ok ?q3t1 ?q3t2 ?q3t3 ?q3t4 ?q3t5 ?q3t6 ?q3t7 ?q3t8) ?q3k7 ?q3k8 ?_)
  (case q3k1 => k_asm)
  (case q3k2 => k_asm)
  (case q3k3 => k_asm)
  (case q3k4 => k_asm)
  (case q3t1 => k_mem)
  (case q3t2 => k_asm)
  (case q3t3 => k_mem)
  (case q3t4 => k_asm)
  (case q3t5 => k_asm)
  (case q3t6 => omega)
  (case q3t7 => omega)
  (case q3t8 => (intro o; k_upd))
  (case q3k5 => k_asm)
  (case q3k6 => first | exact rfl | assumption)
  (case q3k7 => ktr_room)
  (case q3k8 => ktr_units)
  intro o' ps' t' hpl' hpc' hD' h' tk' F' N'
  (try k_sweep); (try dsimp only); (try k_fold)))
  k_with "call ref" => first | (k_here; (with_reducible show wpAny _ _ (call (Value.ref 156) _) _ _ _); k_dflt (
  (refine' use32 ?q4k1 ?q4k2 ?q4k3 ?q4k4 ?q4k5 ?q4k6 (fill8 ?q4t1 ?q4t2 ?q4t3) ?q4k7 ?q4k8 ?_)
  (case q4k1 => k_asm)
  (case q4k2 => k_asm)
  (case q4k3 => k_asm)
  (case q4k4 => k_asm)
  (case q4t1 => first | exact lit_nil | with_reducible exact rfl)
  (case q4t2 => first | exact none_mem | exact lt_of_parts (by assumption))
  (case q4t3 => first | exact Nat.zero_le _ | omega)
  (case q4k5 => k_asm)
  (case q4k6 => first | exact rfl | assumption)
  (case q4k7 => ktr_room)
  (case q4k8 => ktr_units)
  intro r' vs' c' hI' l1 h' tk' F' N'
  (try simp only [AllLt, and_true] at l1)
  (try k_sweep); (try dsimp only); (try k_fold)))
  k_with "call ref" => first | (k_here; (with_reducible show wpAny _ _ (call (Value.ref 156) _) _ _ _); k_dflt (
  (refine' use32 ?q5k1 ?q5k2 ?q5k3 ?q5k4 ?q5k5 ?q5k6 (fill3 ?q5t1 ?q5t2 ?q5t3) ?q5k7 ?q5k8 ?_)
  (case q5k1 => k_asm)
  (case q5k2 => k_asm)
  (case q5k3 => k_asm)
  (case q5k4 => k_asm)
  (case q5t1 => first | exact lit_nil | with_reducible exact rfl)
  (case q5t2 => first | exact none_mem | exact lt_of_parts (by assumption))
  (case q5t3 => first | exact Nat.zero_le _ | omega)
  (case q5k5 => k_asm)
  (case q5k6 => first | exact rfl | assumption)
  (case q5k7 => ktr_room)
  (case q5k8 => ktr_units)
  intro r' vs' c' hI' l1 h' tk' F' N'
  (try simp only [AllLt, and_true] at l1)
  (try k_sweep); (try dsimp only); (try k_fold)))
  k_with "binaryOp Add str str" => first | (
  k_here
  (with_reducible show wpAny _ _ (binaryOp Operator.Add (Value.str _ _) (Value.str _ _)) _ _ _)
  k_dflt (
    (refine' add_txt ?q6e1 ?q6e2 ?q6n ?_)
    (case q6e1 => first | with_reducible exact rfl | with_reducible exact lit_nil | with_reducible exact lit_dot | with_reducible exact lit_colon)
    (case q6e2 => first | with_reducible exact rfl | with_reducible exact lit_nil | with_reducible exact lit_colon | with_reducible exact lit_dot)
    (case q6n => ((simp only [List.length_append, List.length_cons, List.length_nil]); omega))
    intro t' k'))
  k_with "call type:list" => first | (
  k_here
  (with_reducible show wpAny _ _ (call (Value.type _) [Value.bytes _ _]) _ _ _)
  k_dflt (
    (refine' list_bytes (ks := [81, 32, 32, 32, 32, 32, 32, 32, 32, 32, 32]) ?q7b ?q7n ?q7h ?q7F ?q7N ?_)
    (case q7b => decide +kernel)
    (case q7n => decide)
    (case q7h => exact rfl)
    (case q7F => k_asm)
    (case q7N => k_asm)
    intro r' h' tk' vs' c' F' N' hI' l1
    (try k_lt l1)
    (try k_sweep)))
  k_with "binaryOp Add ref ref" => first | (k_here; (with_reducible show wpAny _ _ (binaryOp _ (Value.ref _) (Value.ref _)) _ _ _); k_dflt (refine' kmk_add_ints ?q8F ?q8N ?q8a ?q8b ?q8i ?q8j ?_ ?q8z; (case q8F => k_asm); (case q8N => k_asm); (case q8a => exact News.isList (by k_asm) (by k_mem)); (case q8b => exact News.isList (by k_asm) (by k_mem)); (case q8i => assumption); (case q8j => assumption); (case q8z => (simp only [nats, List.length_map, lawFilled_len]; exact Nat.le_of_ble_eq_true rfl))); intro D' ws' h' F' N' l1 hI'; (try k_lt l1); (try k_sweep))
  k_with "subscriptTail" => first | (k_here; (with_reducible show wpAny _ _ (subscriptTail _ _ (Value.ref _) (Value.int _ _)) _ _ _); k_dflt (
  (refine' menu_item ?q9zl ?q9za ?q9zb ?q9zc ?_)
  (case q9zl => exact News.isList (by k_asm) (by k_mem))
  (case q9za => assumption)
  (case q9zb => ((simp only [List.length_cons, List.length_nil]); omega))
  (case q9zc => ((simp only [List.length_cons, List.length_nil]); omega))
  intro v' hv'
  obtain ⟨l', t', e', hl'⟩ := let_of (by assumption) (by assumption) hv'
  (have hll9 := letC_len hl')
  subst e'))
  k_with "compareOp Eq str str" => first | (k_here; (with_reducible show wpAny _ _ (compareOp CmpOp.Eq (Value.str _ _) (Value.str _ _)) _ _ _); k_dflt (refine cmp_eq (by first | with_reducible exact rfl | with_reducible exact lit_q) (by first | with_reducible exact rfl | with_reducible exact lit_q) ?_))
  k_with "compareOp NotEq str str" => first | (k_here; (with_reducible show wpAny _ _ (compareOp CmpOp.NotEq (Value.str _ _) (Value.str _ _)) _ _ _); k_dflt (refine cmp_ne (by first | with_reducible exact rfl | with_reducible exact lit_nil) (by first | with_reducible exact rfl | with_reducible exact lit_nil) ?_))
  k_with "exec Assign cons IfExp" => first | (k_extra "kind")
  k_with "exec Assign cons BinOp" => first | (k_here; (fail_if_success (with_reducible show wpAny _ _ _ (TextE _ _ _ _ _ _ _ _ _) _ _)); k_dflt ((refine text_cut rfl rfl rfl rfl (by k_asm) (by k_asm) ?_ ?_); rotate_left; (intro x' t' h' tk' hT' F' N'; (try k_sweep); (try k_fold)); rotate_left))
  k_with "eval Subscript" => first | (k_here; (fail_if_success (with_reducible show wpAny _ _ _ (DrvV _ _ _ _ _ _) _ _)); (with_reducible show wpAny _ _ (eval (Expr.Subscript (Expr.Dict _ _ _) _ _) _) _ _ _); k_dflt ((refine drvV_cut rfl (by k_asm) (by k_asm) ?_ ?_); rotate_left; (intro dr' td' h' tk' hd' F' N'; (try k_sweep); (try dsimp only); (try k_fold)); rotate_left))
  k_with "KindE" => first | (k_dflt ((refine kindE_ (by first | with_reducible exact rfl | with_reducible exact lit_nil) (by k_asm) (by exact rfl) (by k_asm) (by k_mem) (fun p hp => by repeat (first | exact hp | refine List.mem_cons_of_mem _ ?_)) (by assumption) (by first | exact kind_no | exact kind_yes (by assumption) (by assumption) (by first | assumption | exact beq_iff_eq.mpr (by assumption))))))
  k_with "TextE" => first | (k_dflt ((refine textE_ (by with_reducible exact rfl) (by k_asm) (by exact rfl) (by k_asm) (fun p hp => by repeat (first | exact hp | refine List.mem_cons_of_mem _ ?_)) (by first | exact text_tt (by first | assumption | exact decide_eq_false (by assumption)) (by first | assumption | exact beq_iff_eq.mpr (by assumption)) | exact text_tf (by first | assumption | exact decide_eq_false (by assumption)) (by first | assumption | exact beq_eq_false_iff_ne.mpr (by assumption)) | exact text_ft (by first | assumption | exact decide_eq_true (by assumption)) (by first | assumption | exact beq_iff_eq.mpr (by assumption)) | exact text_ff (by first | assumption | exact decide_eq_true (by assumption)) (by first | assumption | exact beq_eq_false_iff_ne.mpr (by assumption))))))
  k_with "DrvV" => first | (k_dflt (refine drvV_ (by k_asm) (by k_asm) (fun p hp => by repeat (first | exact hp | refine List.mem_cons_of_mem _ ?_)) (by first | exact letD0 (by assumption) | exact letD1 (by assumption) | exact letD2 (by assumption))))
  unfold Does; k_fill
  intro w p loose mean mg mb dp un gd cn cs a ccd cl outer A₀ base h₀ L m s Q E B F X N T hk hd hu hret
  refine wpAny_call ?_
  k_dflt ktr_enter
  k_with "kind" => (
    (k_here; (fail_if_success (with_reducible show wpAny _ _ _ (KindE _ _ _ _ _ _ _ _ _ _) _ _)))
    k_dflt (refine kind_cut _ d nA oN len rest rfl (by k_asm) ?_ ?_)
    rotate_left
    (intro ks' t' o' h' tk' hk' hD' F' N'; (have hkc9 := hk'.1); (have hkl9 := hk'.2.1); (try k_sweep); (try k_fold))
    rotate_left)
  k_steps
  all_goals (try exact let_no (by assumption) (by assumption) (by assumption) (by assumption) (by assumption))
  all_goals (rename News _ _ _ _ => nN9; (try rw [lit_q] at nN9))
  all_goals (
    (refine' hret _ _ _ _ (name_ret ?z1 ?z2 ?z3 ?z4 ?z5) ?zF (cb_drop nN9 (List.forall_mem_cons.mpr ⟨?m1, List.forall_mem_cons.mpr ⟨?m2, List.forall_mem_cons.mpr ⟨?m3, List.forall_mem_cons.mpr ⟨?m4, ?m5⟩⟩⟩⟩)))
    case m1 => k_mem
    case m2 => k_mem
    case m3 => k_mem
    case m4 => k_mem
    case m5 => exact fun p hp => by repeat (first | exact hp | refine List.mem_cons_of_mem _ ?_)
    case zF => k_asm
    case z2 => first
      | exact name_oc (by assumption)
      | (refine (?_ : IntsAre _ (nats [81, 32, 32, 32, 32, 32, 32, 32, 32, 32, 32])); assumption)
    case z1 => first
      | exact name_fin (by assumption) (by assumption) (by assumption) (by assumption) (by assumption)
      | exact .inl ⟨rfl, rfl, rfl⟩
    case z3 => omega
    case z4 => assumption
    case z5 => (simp only [AllLt]; (refine ⟨by omega, by omega, ?_⟩); first
      | assumption
      | exact And.right (by assumption)
      | exact And.right (And.right (by assumption))
      | exact And.right (And.right (And.right (by assumption)))
      | exact And.right (And.right (And.right (And.right (by assumption))))
      | exact And.right (And.right (And.right (And.right (And.right (by assumption)))))
      | exact And.right (And.right (And.right (And.right (And.right (And.right (by assumption))))))
      | exact And.right (And.right (And.right (And.right (And.right (And.right (And.right (by assumption)))))))
      | exact And.right (And.right (And.right (And.right (And.right (And.right (And.right (And.right (by assumption))))))))))
theorem name_ok {d nA : Addr} {oD oN : Obj} {len : Nat} {news : List (Addr × Obj)} {news' : Obj → List (Addr × Obj)} (hD : DealOk oD nA len) (hn : (nA, oN) ∈ news) (hN : NumsOk oN len) (hne : nA ≠ d) (U : ∀ o, Upd d oD o news (news' o)) :
    Does 163 [.ref d] news 8 (fun v nw => ∃ o tp x t dr td oc r vs k, v = .ref tp ∧ NameIs x dr oc ∧ IntsAre vs (nats oc) ∧ DealOk o nA len ∧ @LT.lt Nat _ r tp ∧ AllLt r news ∧ nw = (tp, { cls := .type "tuple", data := .seq #[.str (txt x) t, .int dr td, .ref r] }) :: (r, listOf (List.toArray vs) k) :: news' o) :=
  does_mono (does_deal (name_raw hD hN hne) hn hne U) (by
    rintro v nw ⟨o, ex, ⟨⟨tp, x, t, dr, td, oc, r, vs, k, hv, hi, hI, rfl, hlt⟩, hD'⟩, hl, rfl⟩
    exact ⟨_, ⟨o, tp, x, t, dr, td, oc, r, vs, k, hv, hi, hI, hD', hlt, hl (r, _) (.tail _ (.head _)), rfl⟩, fun p hp => hp⟩)
end NZ
end PNName

section PNSComp
open PySem PySem.W PyProof.Rows PySem.Calls PyProof.Rows.LCg
set_option maxRecDepth 100000
set_option maxHeartbeats 2000000
namespace NZ
section
variable {prog : Program} {w : World} {A : Around} {E : Value → Shared → Prop} {s : Shared} {h₀ : Heap} {L : Addr} {m : Str → Option Value} {env : Env}
/-- what a text hands on to the comprehension over it -/
def SSrc (prog : Program) (w : World) (A : Around) (h₀ : Heap) (L : Addr) (m : Str → Option Value) (env : Env) (elt : Expr) (x : Str) (scope : Scope) (cl : List (Str × Addr)) (Fin : Shared → List Value → List (Addr × Obj) → Prop) (xv : Value) (s₁ : Shared) : Prop :=
  ∃ l t news, xv = .str (txt l) t ∧ (∀ c ∈ l, c < 128) ∧ A.handled = none ∧ Fr h₀ L s₁.heap m ∧ News h₀ L s₁.heap news ∧ l.length ≤ sizeLine ∧
    ∀ g, CompRest prog w A h₀ L m env elt x scope cl { s₁ with heap := g } (fun _ => True) (fun i v => SignAt (txt l) i v) (Fin { s₁ with heap := g }) l.length 0 [] news
theorem ListComp_S {elt iter : Expr} {x : Str} {px : Pos} {scope : Scope} {cl : List (Str × Addr)} {pos : Pos} {Q : Value → Shared → Prop} (_F₀ : Fr h₀ L s.heap m)
    (hclos : closureFor scope env = pure cl) (hcell : ∀ y ∈ scope.names, y.2 ≠ .cell) (hkind : scope.kind = .function)
    (hnames : ∀ y ∈ scope.names, y.2 = .local → scope.names.lookup y.1 = some .local) (hx : scope.names.lookup x = some .local)
    (h : wpAny (model prog w) A (eval iter env) (SSrc prog w A h₀ L m env elt x scope cl (fun s₂ => FinE h₀ L m s₂ Q)) E s)
    (hs : ∀ x, foldedSetIterable iter env x = pure x := by intro _; rfl) :
    wpAny (model prog w) A (eval (.ListComp elt [⟨.Name x px, iter, [], 0⟩] scope pos) env) Q E s := by
  rw [eval_ListComp]
  refine wpAny_comprehension_free (use := none) rfl hs hclos hkind hnames (wpAny_mono h (fun xv s₁ h₁ => ?_) fun _ _ e => e)
  obtain ⟨l, t, news, rfl, ha, hh, F, N, hsz, R⟩ := h₁
  have ha' : (txt l).cps.all (· < 128) = true := by
    rw [Array.all_eq_true_iff_forall_mem]
    intro c hc
    exact decide_eq_true (ha c (by simpa [txt] using hc))
  refine wpAny_pyIter_ascii ha' ?_
  have e : (txt l).cps.size = l.length := by simp [txt]
  refine block_U (n := l.length) (fp := [s₁.heap.objs.size]) (e ▸ Walks.strAscii hh s₁.heap.objs.size (txt l) t) hsz (fun i h st => by obtain ⟨o, e, _⟩ := st; exact ⟨o, e⟩) (fun i h h' o nw st e1 e2 _ _ _ => by
    obtain ⟨o', q, r⟩ := st
    rw [e1] at q
    cases q
    exact ⟨o, e2, r⟩) hcell hkind hx ⟨_, Heap.get?_push_size _ rfl, rfl, rfl⟩ (fun b hb => ?_)
    (F.keeps fun _ _ e => Heap.get?_push_of_some _ e) (N.grown fun _ _ e => Heap.get?_push_of_some _ e) (Nat.ne_of_lt F.ns.lt) (next_is_new F) (fun p hp => Nat.ne_of_lt (Heap.lt_size (N p hp).1)) trivial (R _) ?_
  · rw [List.mem_singleton.mp hb]
    show s₁.heap.objs.size < (s₁.heap.push _).objs.size
    rw [Heap.size_push]; exact Nat.lt_succ_self _
  · intro D C h tk m' ys news' F' N' o1 hn hC₀ hD₀ hCL hDL hCD offC fin
    refine ⟨m', hn, fun h'' hs'' => fin D h'' tk (F'.change hs'' hCL hC₀) (fun p hp => ?_) o1⟩
    refine ⟨hs''.extBut _ _ ?_ (N' p hp).1, (N' p hp).2⟩
    rcases List.mem_cons.mp hp with rfl | hp
    · exact Ne.symm hCD
    · exact offC p hp
theorem Assign_ListComp_S {elt iter : Expr} {x y : Str} {px py : Pos} {scope : Scope} {cl : List (Str × Addr)} {pos spos : Pos} {Q : Flow → Shared → Prop} (_F₀ : Fr h₀ L s.heap m) (hLe : env.locals = L)
    (hsw : swapsWith (.ListComp elt [⟨.Name x px, iter, [], 0⟩] scope pos) (some (.Name y py)) spos.line env = pure true)
    (hclos : closureFor scope env = pure cl) (hcell : ∀ z ∈ scope.names, z.2 ≠ .cell) (hkind : scope.kind = .function)
    (hnames : ∀ z ∈ scope.names, z.2 = .local → scope.names.lookup z.1 = some .local) (hx : scope.names.lookup x = some .local)
    (hy : env.kindOf y = some .local) (hp : (env.scope.kind == .class || (env.scope.kind == .module && env.locals != env.globals)) = false)
    (h : wpAny (model prog w) A (eval iter env) (SSrc prog w A h₀ L m env elt x scope cl (fun s₂ => FinA h₀ L m s₂ y Q)) E s)
    (hs : ∀ x, foldedSetIterable iter env x = pure x := by intro _; rfl) :
    wpAny (model prog w) A (exec (.Assign [.Name y py] (.ListComp elt [⟨.Name x px, iter, [], 0⟩] scope pos) spos) env) Q E s := by
  subst hLe
  rw [exec_Assign_Name_used _ _ _ _ hsw]
  refine wpAny_bind (wpAny_standAt (wpAny_bind ?_))
  show wpAny _ A (do let _ ← comprehension (.ListComp elt [⟨.Name x px, iter, [], 0⟩] scope pos) scope env _ (newList []) false (eval iter env) (some (assign (.Name y py) env))) _ _ s
  refine wpAny_bind (wpAny_mono (wpAny_comprehension_free (use := some (assign (.Name y py) env)) (Q := fun _ s' => Q .next s') rfl hs hclos hkind hnames
    (wpAny_mono h (fun xv s₁ h₁ => ?_) fun _ _ e => e)) (fun _ s' hq => wpAny_pure (wpAny_pure hq)) fun _ _ e => e)
  obtain ⟨l, t, news, rfl, ha, hh, F, N, hsz, R⟩ := h₁
  have ha' : (txt l).cps.all (· < 128) = true := by
    rw [Array.all_eq_true_iff_forall_mem]
    intro c hc
    exact decide_eq_true (ha c (by simpa [txt] using hc))
  refine wpAny_pyIter_ascii ha' ?_
  have e : (txt l).cps.size = l.length := by simp [txt]
  refine block_U (n := l.length) (fp := [s₁.heap.objs.size]) (e ▸ Walks.strAscii hh s₁.heap.objs.size (txt l) t) hsz (fun i h st => by obtain ⟨o, e, _⟩ := st; exact ⟨o, e⟩) (fun i h h' o nw st e1 e2 _ _ _ => by
    obtain ⟨o', q, r⟩ := st
    rw [e1] at q
    cases q
    exact ⟨o, e2, r⟩) hcell hkind hx ⟨_, Heap.get?_push_size _ rfl, rfl, rfl⟩ (fun b hb => ?_)
    (F.keeps fun _ _ e => Heap.get?_push_of_some _ e) (N.grown fun _ _ e => Heap.get?_push_of_some _ e) (Nat.ne_of_lt F.ns.lt) (next_is_new F) (fun p hp => Nat.ne_of_lt (Heap.lt_size (N p hp).1)) trivial (R _) ?_
  · rw [List.mem_singleton.mp hb]
    show s₁.heap.objs.size < (s₁.heap.push _).objs.size
    rw [Heap.size_push]; exact Nat.lt_succ_self _
  · intro D C h' tk m' ys news' F' N' o1 hn hC₀ hD₀ hCL hDL hCD offC fin
    show wpAny _ A (assign (.Name y py) env (.ref D)) _ _ _
    refine wpAny_assign_Name (wpAny_storeName_local hy F'.ns (fun h₂ hn₂ hs₂ => ?_) hp)
    have hL₀ : h₀.get? env.locals = none := Heap.get?_none_of_le F'.above
    have F₂ : Fr h₀ env.locals h₂ (fun z => if z = y then some (.ref D) else m z) := ⟨hn₂, fun b o e => hs₂.extBut b o (fun q => by rw [q, hL₀] at e; cases e) (F'.keep b o e), F'.above⟩
    refine ⟨m', hn.sameBut hs₂ hCL, fun h'' hs'' => fin D h'' _ (F₂.change hs'' hCL hC₀) (fun p hp => ?_) o1⟩
    have z : h₂.get? p.1 = some p.2 := hs₂.extBut _ _ (N' p hp).2.1 (N' p hp).1
    refine ⟨hs''.extBut _ _ ?_ z, (N' p hp).2⟩
    rcases List.mem_cons.mp hp with rfl | hp
    · exact Ne.symm hCD
    · exact offC p hp
/-- the numbers of a text's signs -/
theorem s_ords {elt : Expr} {x : Str} {scope : Scope} {cl : List (Str × Addr)} {Fin : Shared → List Value → List (Addr × Obj) → Prop} {l : List Nat} {t : Tok} {news : List (Addr × Obj)} (hh : A.handled = none) (F : Fr h₀ L s.heap m) (N : News h₀ L s.heap news) (ha : ∀ c ∈ l, c < 128) (hn : l.length ≤ 1000)
    (turn : ∀ g c u ys I oI C oC D m₂ h tk (E' : Value → Shared → Prop), c < 128 → NsObj oC m₂ → m₂ x = some (.str ⟨#[c]⟩ u) → Fr h₀ L h m → News h₀ L h ((I, oI) :: (C, oC) :: (D, lst ys) :: news) → Off3 I C D news → ((@Ne Nat I C) ∧ (@Ne Nat I D) ∧ (@Ne Nat C D)) →
      wpAny (model prog w) A (eval elt (compEnvC scope cl C env)) (CompEnd h₀ L m { s with heap := h, toks := tk } I oI C oC D (lst ys) (fun _ => True) (fun y news' => news' = news ∧ ∃ t', y = .int (c : Int) t')) E' { ({ s with heap := g } : Shared) with heap := h, toks := tk })
    (fin : ∀ g ys, IntsAre ys (nats l) → Fin { s with heap := g } ys news) :
    SSrc prog w A h₀ L m env elt x scope cl Fin (.str (txt l) t) s := by
  refine ⟨l, t, news, rfl, ha, hh, F, N, by rw [sizeLine_eq]; omega, fun g => ?_⟩
  refine comp_still (fun i ys => IntsAre ys (nats (l.take i))) .nil ?_ (fun ys hJ => by rw [List.take_length] at hJ; exact fin g ys hJ)
  intro i v ys I oI C oC D m₂ h tk E' hi hJ hP hC hx F' N' off ne
  obtain ⟨c, u, hc, rfl⟩ := hP
  have hc' : l[i]? = some c := by simpa [txt] using hc
  refine wpAny_mono (turn g c u ys I oI C oC D m₂ h tk E' (ha c (List.mem_of_getElem? hc')) hC hx F' N' off ne) (fun y s₂ hq => ?_) fun _ _ e => e
  obtain ⟨h', tk', nw, e, F2, N2, off', hS, rfl, t', rfl⟩ := hq
  refine ⟨h', tk', _, e, F2, N2, off', hS, rfl, ?_⟩
  rw [List.take_add_one, hc']
  show IntsAre _ (nats (l.take i ++ [c]))
  rw [show nats (l.take i ++ [c]) = nats (l.take i) ++ [(c : Int)] from List.map_append]
  exact IntsAre.append hJ (.cons _ _ .nil)
end
end NZ
end PNSComp

section PNTx2
open PySem PySem.W PyProof.Rows PySem.Calls
set_option maxRecDepth 100000
set_option maxHeartbeats 2000000
namespace NZ
section
variable {prog : Program} {w : World} {A : Around} {E : Value → Shared → Prop} {s : Shared} {x y : Str} {a b : List Nat} {t u : Tok} {Q : Value → Shared → Prop}
theorem len_txt (hn : a.length ≤ 1000) (h : Q (.int (a.length : Nat) (s.toks + 1)) { s with toks := s.toks + 1 + 1 }) : wpAny (model prog w) A (call (.builtin "len") [.str (txt a) t]) Q E s := by
  refine PyProof.Rows.len_str (by rw [txt_len]; omega) ?_
  rw [txt_len]; exact h
theorem mul_blank {i : Int} (h0 : 0 ≤ i) (h1 : i ≤ 100) (h : ∀ t' k, Q (.str (txt (List.replicate i.toNat 32)) t') { s with toks := k }) : wpAny (model prog w) A (binaryOp .Mult (.str (Str.ofString " ") t) (.int i u)) Q E s := by
  obtain ⟨n, rfl⟩ : ∃ n : Nat, i = n := ⟨i.toNat, by omega⟩
  have e : Txt.mul (Str.ofString " ") (n : Int) = txt (List.replicate n 32) := by rw [lit_blank, mul_txt]
  refine SB.mul (mulOk_of 16 1048576 (by rw [lit_blank, txt_len]; simp) (by omega) (by omega) (by decide) (by decide)) (fun t' k => ?_)
  rw [e]; exact h t' k
theorem upper_rule (ha : ∀ c ∈ a, c < 128) (hn : a.length ≤ 1000) (h : ∀ t' k, Q (.str (txt (a.map upN)) t') { s with toks := k }) : wpAny (model prog w) A (call (.builtin "str.upper") [.str (txt a) t]) Q E s := by
  refine SCL.upper (by rw [txt_len]; omega) fun _ => ?_
  rw [upper_txt a ha]
  exact h _ _
theorem lstrip_eq (a : List Nat) : Txt.lstripChars (txt a) (txt [32]) = txt (a.dropWhile fun c => decide (c = 32)) := by
  unfold Txt.lstripChars
  rw [PyProof.Rows.stripBy_eq]
  have e : (fun c => (txt [32]).cps.contains c) = fun c : Nat => decide (c = 32) := by
    funext c
    by_cases h : c = 32
    · subst h; simp [txt]
    · rw [decide_eq_false h]
      simp [txt, h]
  show PySem.Builtin.Str.strSub (txt a) (stripLo (txt [32]).cps.contains true (txt a)) (stripHi (txt [32]).cps.contains false (txt a) _) = _
  unfold stripLo stripHi
  simp only [if_true, Bool.false_eq_true, if_false]
  rw [show (txt [32]).cps.contains = fun c => (txt [32]).cps.contains c from rfl, e, strSub_txt, txt_len]
  congr 1
  have h1 : (txt a).cps.toList = a := by simp [txt]
  rw [h1]
  have h2 := List.takeWhile_append_dropWhile (p := fun c : Nat => decide (c = 32)) (l := a)
  have h3 : a.drop (a.takeWhile fun c => decide (c = 32)).length = a.dropWhile fun c => decide (c = 32) := by
    have h4 : ∀ (l x y : List Nat), x ++ y = l → l.drop x.length = y := fun l x y q => by subst q; simp
    exact h4 _ _ _ h2
  rw [h3, List.take_of_length_le]
  have := congrArg List.length h2
  simp only [List.length_append] at this
  omega
theorem lstrip_rule (ey : y = txt [32]) (hn : a.length ≤ 1000) (h : ∀ t' k, Q (.str (txt (a.dropWhile fun c => decide (c = 32))) t') { s with toks := k }) : wpAny (model prog w) A (call (.builtin "str.lstrip") [.str (txt a) t, .str y u]) Q E s := by
  subst ey
  refine SC.lstripChars (fun t' k => ?_) (by rw [txt_len, sizeLine_eq]; omega)
  rw [lstrip_eq]; exact h t' k
/-- the number that a text of figures tells -/
theorem int_rule (hd : ∀ c ∈ a, 48 ≤ c ∧ c ≤ 57) (hne : a ≠ []) (hn : a.length ≤ 100) (h : ∀ t' k, Q (.int ((NumText.digitsVal a : Nat) : Int) t') { s with toks := k }) : wpAny (model prog w) A (call (.type "int") [.str (txt a) t]) Q E s := by
  have e : (txt a).cps.toList = a := by simp [txt]
  refine KIN.call_text (n := ((NumText.digitsVal a : Nat) : Int)) ?_ (by rw [txt_len]; omega) (h _ _)
  have := PySem.intText_digits (x := txt a) (by rw [e]; exact hd) (by rw [e]; exact hne) (by rw [txt_len]; omega)
  rw [e] at this
  exact this
end
theorem cut_txt {prog : Program} {w : World} {A : Around} {E : Value → Shared → Prop} {s : Shared} {value slice : PySem.Expr} {t uj : Tok} {h₀ : Heap} {L : Addr} {m : PySem.Str → Option Value} {news : List (Addr × Obj)} {Q : Value → Shared → Prop} {a : List Nat} {j : Int} (n : Nat) (hj : j = (n : Int)) (hF : Fr h₀ L s.heap m) (hN : News h₀ L s.heap news) (hn : a.length ≤ 1000)
    (h : ∀ h' t' k, Fr h₀ L h' m → News h₀ L h' news → Q (.str (txt (a.take n)) t') { s with heap := h', toks := k })
    (hs : subscripted slice false (.str (txt a) t) (.ref s.heap.objs.size) = operate [.ref s.heap.objs.size, .str (txt a) t] (getItem (.str (txt a) t) (.ref s.heap.objs.size)) := by with_unfolding_all rfl)
    (ht : ∀ r, letTemporaryGo value (.str (txt a) t) r = pure () := by intro _; with_unfolding_all rfl) :
    wpAny (model prog w) A (subscriptTail value slice (.str (txt a) t) (.ref s.heap.objs.size)) Q E { s with heap := s.heap.push { cls := .type "slice", data := .fields #[.none, .int j uj, .none] } } := by
  subst hj
  refine slice_strN_ns hF hN (fun h' t' k F' N' => ?_) hs ht (by rw [txt_len, sizeLine_eq]; omega)
  rw [slice_txt]
  exact h h' t' k F' N'
theorem bool_not (b : Bool) : b = false → (!b) = true := by rintro rfl; rfl
end NZ
end PNTx2

section PNNumLaw
open PySem PySem.W PyProof.Rows PySem.Calls
set_option maxRecDepth 100000
set_option maxHeartbeats 2000000
namespace NZ
/-- figures -/
abbrev FigC (c : Nat) : Prop := 48 ≤ c ∧ c ≤ 57
/-- what may stand behind the figures -/
def Behind (bh : List Nat) : Prop := bh = [] ∨ bh = [32] ∨ bh = [32, 88] ∨ bh = [88] ∨ bh = [45]
theorem nats_getD (l : List Nat) (k : Nat) : (nats l).getD k 0 = ((l.getD k 0 : Nat) : Int) := by
  unfold nats
  rw [List.getD_eq_getElem?_getD, List.getD_eq_getElem?_getD, List.getElem?_map]
  cases l[k]? <;> rfl
theorem nats_len (l : List Nat) : (nats l).length = l.length := by unfold nats; simp
theorem nats_drop (l : List Nat) (n : Nat) : (nats l).drop n = nats (l.drop n) := by unfold nats; rw [List.map_drop]
theorem nats_take (l : List Nat) (n : Nat) : (nats l).take n = nats (l.take n) := by unfold nats; rw [List.map_take]
theorem figs_val : ∀ (ps : List Nat) (_h : ∀ c ∈ ps, FigC c) (acc : Nat), (nats ps).foldl (fun f c => f * 10 + c - 48) (acc : Int) = ((ps.foldl (fun acc c => acc * 10 + (c - 48)) acc : Nat) : Int)
  | [], _, _ => rfl
  | c :: r, h, acc => by
    have hc := h c (.head _)
    show (nats r).foldl _ ((acc : Int) * 10 + (c : Int) - 48) = _
    rw [show (acc : Int) * 10 + (c : Int) - 48 = ((acc * 10 + (c - 48) : Nat) : Int) from by omega]
    exact figs_val r (fun c hc => h c (.tail _ hc)) _
section
variable {b : Nat} {ps bh : List Nat}
theorem row_blank {k : Nat} (h : k < b) : (List.replicate b 32 ++ ps ++ bh).getD k 0 = 32 := by
  rw [List.getD_eq_getElem?_getD, List.append_assoc, List.getElem?_append_left (by simpa using h), List.getElem?_replicate]
  simp [h]
theorem row_fig {k : Nat} (hF : ∀ c ∈ ps, FigC c) (h1 : b ≤ k) (h2 : k < b + ps.length) : FigC ((List.replicate b 32 ++ ps ++ bh).getD k 0) := by
  rw [List.getD_eq_getElem?_getD, List.append_assoc, List.getElem?_append_right (by simpa using h1), List.getElem?_append_left (by simp; omega), List.length_replicate, List.getElem?_eq_getElem (by omega)]
  exact hF _ (List.getElem_mem _)
theorem row_end {k : Nat} (h : k = b + ps.length) : (List.replicate b 32 ++ ps ++ bh).getD k 0 = bh.getD 0 0 := by
  rw [List.getD_eq_getElem?_getD, List.getD_eq_getElem?_getD, List.getElem?_append_right (by simp; omega)]
  simp [h]
end
theorem num_end {b : Nat} {ps bh : List Nat} {j a : Int} {res : Value} (hF : ∀ c ∈ ps, FigC c) (hB : Behind bh) (hS : SkipTo (nats (List.replicate b 32 ++ ps ++ bh)) 0 j) (hD : DigTo (nats (List.replicate b 32 ++ ps ++ bh)) j a) (hR : NumRes (nats (List.replicate b 32 ++ ps ++ bh)) j a res) :
    ((ps ≠ [] ∧ NumText.digitsVal ps < 256 ∧ (bh.take 1 = [] ∨ bh.take 1 = [32])) ∧ (∃ t, res = .int ((NumText.digitsVal ps : Nat) : Int) t) ∧ a = (b : Int) + (ps.length : Int)) ∨ ((ps = [] ∨ 256 ≤ NumText.digitsVal ps ∨ (bh.take 1 ≠ [] ∧ bh.take 1 ≠ [32])) ∧ res = .none) := by
  obtain ⟨s1, s2, s3, s4⟩ := hS
  obtain ⟨d1, d2, d3, d4⟩ := hD
  have hlen : (nats (List.replicate b 32 ++ ps ++ bh)).length = b + ps.length + bh.length := by rw [nats_len]; simp; omega
  have hb0 : bh.getD 0 0 = 0 ∨ bh.getD 0 0 = 32 ∨ bh.getD 0 0 = 88 ∨ bh.getD 0 0 = 45 := by
    rcases hB with rfl | rfl | rfl | rfl | rfl <;> decide
  have hbl : bh ≠ [] → bh.getD 0 0 = 32 ∧ bh.take 1 = [32] ∨ bh.getD 0 0 ≠ 32 ∧ bh.take 1 ≠ [] ∧ bh.take 1 ≠ [32] := by
    rcases hB with rfl | rfl | rfl | rfl | rfl <;> decide
  rw [hlen] at s2 s4 d2 d4
  by_cases hp : ps = []
  · refine .inr ⟨.inl hp, ?_⟩
    subst hp
    have hj : j = a := by
      by_cases h : j = a
      · exact h
      · have := d3 j (Int.le_refl _) (by omega)
        rw [nats_getD] at this
        rcases Nat.lt_or_ge j.toNat b with q | q
        · rw [row_blank q] at this; omega
        · have q2 : j.toNat - b < bh.length := by simp at s2 d2; omega
          have e : (List.replicate b 32 ++ [] ++ bh).getD j.toNat 0 = bh.getD (j.toNat - b) 0 := by
            rw [List.getD_eq_getElem?_getD, List.getD_eq_getElem?_getD, List.getElem?_append_right (by simpa using q)]; simp
          rw [e] at this
          exfalso
          generalize j.toNat - b = i at q2 this
          rcases hB with rfl | rfl | rfl | rfl | rfl
          · simp at q2
          · have : i = 0 := by simp at q2; omega
            subst this; simp at *
          · have : i = 0 ∨ i = 1 := by simp at q2; omega
            rcases this with rfl | rfl <;> simp at *
          · have : i = 0 := by simp at q2; omega
            subst this; simp at *
          · have : i = 0 := by simp at q2; omega
            subst this; simp at *
    rcases hR with ⟨h, _⟩ | ⟨t, h, hne, _⟩
    · exact h
    · exact absurd hj hne
  · have hn : 0 < ps.length := List.length_pos_iff.mpr hp
    have hj : j = b := by
      have h1 : ¬ (b : Int) < j := fun h => by
        have := s3 b (by omega) h
        rw [nats_getD, Int.toNat_natCast] at this
        have := row_fig (b := b) (bh := bh) hF (Nat.le_refl b) (by omega)
        omega
      have h2 : ¬ j < (b : Int) := fun h => by
        have := s4 (by omega)
        rw [nats_getD, row_blank (by omega)] at this
        exact this rfl
      omega
    have ha : a = (b : Int) + (ps.length : Int) := by
      have h1 : ¬ a < (b : Int) + (ps.length : Int) := fun h => by
        have h3 := d4 (by omega)
        rw [nats_getD] at h3
        have := row_fig (b := b) (bh := bh) hF (k := a.toNat) (by omega) (by omega)
        exact h3 (by omega)
      have h2 : ¬ (b : Int) + (ps.length : Int) < a := fun h => by
        have := d3 ((b : Int) + (ps.length : Int)) (by omega) h
        rw [nats_getD, row_end (by omega)] at this
        omega
      omega
    have hfig : figs (nats (List.replicate b 32 ++ ps ++ bh)) j a = ((NumText.digitsVal ps : Nat) : Int) := by
      unfold figs
      rw [hj, ha, Int.toNat_natCast, show ((b : Int) + (ps.length : Int) - (b : Int)).toNat = ps.length from by omega, nats_drop, nats_take]
      have : ((List.replicate b 32 ++ ps ++ bh).drop b).take ps.length = ps := by
        rw [List.append_assoc, List.drop_append_of_le_length (by simp)]
        simp
      rw [this]
      exact figs_val ps hF 0
    have hend : (nats (List.replicate b 32 ++ ps ++ bh)).getD a.toNat 0 = ((bh.getD 0 0 : Nat) : Int) := by rw [nats_getD, row_end (by omega)]
    have hal : a < ((b + ps.length + bh.length : Nat) : Int) ↔ bh ≠ [] := by
      rw [ha]
      constructor
      · intro h q; subst q; simp at h
      · intro q; have := List.length_pos_iff.mpr q; omega
    rcases hR with ⟨h, hc⟩ | ⟨t, h, _, hle, hw⟩
    · refine .inr ⟨?_, h⟩
      rcases hc with hc | hc | ⟨hc, hc'⟩
      · omega
      · rw [hfig] at hc; exact .inr (.inl (by omega))
      · rw [hlen] at hc
        rw [hend] at hc'
        rcases hbl (hal.mp hc) with ⟨q, _⟩ | ⟨_, q⟩
        · rw [q] at hc'; exact absurd rfl hc'
        · exact .inr (.inr q)
    · rw [hfig] at hle h
      rw [hlen] at hw
      refine .inl ⟨⟨hp, by omega, ?_⟩, ⟨t, h⟩, ha⟩
      by_cases q : bh = []
      · left; rw [q]; rfl
      · have := hw (hal.mpr q)
        rw [hend] at this
        rcases hbl q with ⟨_, q2⟩ | ⟨q2, _⟩
        · exact .inr q2
        · omega
end NZ
end PNNumLaw

section PNNum
open PySem PySem.W PyProof.Rows PySem.Calls
set_option maxRecDepth 100000
set_option maxHeartbeats 1200000
namespace NZ
theorem item_fig {x : Int} (h0 : 0 ≤ x) (h1 : x < 10) : ∃ c, Txt.item (Str.ofString "0123456789") x = chr1 c ∧ FigC c := by
  have : x = 0 ∨ x = 1 ∨ x = 2 ∨ x = 3 ∨ x = 4 ∨ x = 5 ∨ x = 6 ∨ x = 7 ∨ x = 8 ∨ x = 9 := by omega
  rcases this with rfl | rfl | rfl | rfl | rfl | rfl | rfl | rfl | rfl | rfl
  · exact ⟨48, by decide +kernel, by decide⟩
  · exact ⟨49, by decide +kernel, by decide⟩
  · exact ⟨50, by decide +kernel, by decide⟩
  · exact ⟨51, by decide +kernel, by decide⟩
  · exact ⟨52, by decide +kernel, by decide⟩
  · exact ⟨53, by decide +kernel, by decide⟩
  · exact ⟨54, by decide +kernel, by decide⟩
  · exact ⟨55, by decide +kernel, by decide⟩
  · exact ⟨56, by decide +kernel, by decide⟩
  · exact ⟨57, by decide +kernel, by decide⟩
def FigE (i : Nat) (ys : List Value) : Prop := ∃ ps : List Nat, StrsAre ys (ps.map chr1) ∧ ps.length = i ∧ ∀ c ∈ ps, FigC c
theorem figE_snoc {i : Nat} {ys : List Value} {x : Int} {t : Tok} (h : FigE i ys) (h0 : 0 ≤ x) (h1 : x < 10) : FigE (i + 1) (ys ++ [.str (Txt.item (Str.ofString "0123456789") x) t]) := by
  obtain ⟨ps, h⟩ := h
  obtain ⟨c, e, hc⟩ := item_fig h0 h1
  rw [e]
  refine ⟨ps ++ [c], strsAre_snoc h.1 c t, by simp [h.2.1], fun c' hc' => ?_⟩
  rcases List.mem_append.mp hc' with q | q
  · exact h.2.2 c' q
  · rw [List.mem_singleton.mp q]; exact hc
theorem join_figs {prog : Program} {w : World} {A : Around} {E Q : Value → Shared → Prop} {s : Shared} {t : Tok} {D : Addr} {ys : List Value} {n : Nat} (hl : s.heap.IsList D ys.toArray) (hJ : FigE n ys) (hn : n ≤ 100)
    (h : ∀ ps t' k, ps.length = n → (∀ c ∈ ps, FigC c) → Q (.str (txt ps) t') { s with toks := k }) : wpAny (model prog w) A (call (.builtin "str.join") [.str (Str.ofString "") t, .ref D]) Q E s := by
  obtain ⟨ps, hs, hl1, hc⟩ := hJ
  refine join_list hl hs ?_ fun t' k => ?_
  · have := join_lens ps
    have e : (Str.ofString "").length = 0 := by decide +kernel
    rw [e]; omega
  · have e : Txt.join (Str.ofString "") (ps.map chr1) = txt ps := by
      unfold Txt.join
      rw [StrLaws.glued_eq_join]
      rw [show Str.ofString "" = (⟨#[]⟩ : Str) from by decide +kernel]
      exact join_chr1 ps
    rw [e]
    exact h ps t' k hl1 hc
theorem lit_sx : Str.ofString " X" = txt [32, 88] := by decide +kernel
theorem lit_x : Str.ofString "X" = txt [88] := by decide +kernel
theorem lit_minus : Str.ofString "-" = txt [45] := by decide +kernel
theorem behind_low {bh : List Nat} (h : Behind bh) : (∀ c ∈ bh, c < 128) ∧ bh.length ≤ 2 := by
  rcases h with rfl | rfl | rfl | rfl | rfl <;> decide
theorem behind_of {t0 t1 t2 t3 t4 : Tok} {k : Int} {v : Value} (h0 : 0 ≤ k) (h1 : k < 5) (h : [Value.str (Str.ofString "") t0, .str (Str.ofString " ") t1, .str (Str.ofString " X") t2, .str (Str.ofString "X") t3, .str (Str.ofString "-") t4][k.toNat]? = some v) : ∃ bh t, v = .str (txt bh) t ∧ Behind bh := by
  have : k = 0 ∨ k = 1 ∨ k = 2 ∨ k = 3 ∨ k = 4 := by omega
  rcases this with rfl | rfl | rfl | rfl | rfl
  · exact ⟨[], t0, by rw [← lit_nil]; exact (Option.some.inj h).symm, .inl rfl⟩
  · exact ⟨[32], t1, by rw [← lit_blank]; exact (Option.some.inj h).symm, .inr (.inl rfl)⟩
  · exact ⟨[32, 88], t2, by rw [← lit_sx]; exact (Option.some.inj h).symm, .inr (.inr (.inl rfl))⟩
  · exact ⟨[88], t3, by rw [← lit_x]; exact (Option.some.inj h).symm, .inr (.inr (.inr (.inl rfl)))⟩
  · exact ⟨[45], t4, by rw [← lit_minus]; exact (Option.some.inj h).symm, .inr (.inr (.inr (.inr rfl)))⟩
theorem ne_of_nd {ps : List Nat} (h : decide (ps = []) = false) : ps ≠ [] := of_decide_eq_false h
section
variable {b : Nat} {ps bh : List Nat} {a : Int} {res : Value} (hE : ((ps ≠ [] ∧ NumText.digitsVal ps < 256 ∧ (bh.take 1 = [] ∨ bh.take 1 = [32])) ∧ (∃ t, res = .int ((NumText.digitsVal ps : Nat) : Int) t) ∧ a = (b : Int) + (ps.length : Int)) ∨ ((ps = [] ∨ 256 ≤ NumText.digitsVal ps ∨ (bh.take 1 ≠ [] ∧ bh.take 1 ≠ [32])) ∧ res = .none))
include hE
theorem num_none1 (h : decide (ps = []) = true) : res = .none := hE.elim (fun q => absurd (of_decide_eq_true h) q.1.1) And.right
theorem num_none2 (h : ¬ ((NumText.digitsVal ps : Nat) : Int) < 256) : res = .none := hE.elim (fun q => absurd q.1.2.1 (by omega)) And.right
theorem any_txt : ([Str.ofString "", Str.ofString " "].any fun y => y == txt (bh.take 1)) = decide (bh.take 1 = [] ∨ bh.take 1 = [32]) := by
  have e1 : (Str.ofString "" == txt (bh.take 1)) = decide (bh.take 1 = []) := by rw [lit_nil, eq_txts]; exact decide_eq_decide.mpr eq_comm
  have e2 : (Str.ofString " " == txt (bh.take 1)) = decide (bh.take 1 = [32]) := by rw [lit_blank, eq_txts]; exact decide_eq_decide.mpr eq_comm
  simp only [List.any_cons, List.any_nil, Bool.or_false, e1, e2]
  by_cases h1 : bh.take 1 = [] <;> by_cases h2 : bh.take 1 = [32] <;> simp [h1, h2]
theorem num_or (h1 : decide (ps = []) = false) (h2 : ((NumText.digitsVal ps : Nat) : Int) < 256) : (([Str.ofString "", Str.ofString " "].any fun y => y == txt (bh.take 1)) = true ∧ ∃ t, res = .int ((NumText.digitsVal ps : Nat) : Int) t ∧ a = (b : Int) + (ps.length : Int)) ∨ (([Str.ofString "", Str.ofString " "].any fun y => y == txt (bh.take 1)) = false ∧ res = .none) := by
  rw [any_txt hE]
  rcases hE with ⟨q, ⟨t, ht⟩, ha⟩ | ⟨h, hr⟩
  · exact .inl ⟨decide_eq_true q.2.2, t, ht, ha⟩
  · refine .inr ⟨decide_eq_false fun h3 => ?_, hr⟩
    have h1 := of_decide_eq_false h1
    rcases h with h | h | h
    · exact h1 h
    · omega
    · rcases h3 with q | q
      · exact h.1 q
      · exact h.2 q
end
theorem figs_low {b : Nat} {ps bh : List Nat} (h : ∀ c ∈ ps, FigC c) (hb : ∀ c ∈ bh, c < 128) : ∀ c ∈ List.replicate b 32 ++ ps ++ bh, c < 128 := by
  intro c hc
  rcases List.mem_append.mp hc with q | q
  · rcases List.mem_append.mp q with q | q
    · rw [(List.mem_replicate.mp q).2]; omega
    · have := h c q; omega
  · exact hb c q
theorem nats_oct {l : List Nat} (h : ∀ c ∈ l, c < 128) : ∀ c ∈ nats l, (0 : Int) ≤ c ∧ c < 256 := nats_in h
 
theorem end1 {p : Prop} [Decidable p] (h : decide p = true) : (!!decide p) = true := by rw [h]; rfl
theorem end4 {x : Bool} (h : x = false) : (!x) = true := by rw [h]; rfl
theorem end5 {p : Prop} [Decidable p] (h : ¬ p) : (!decide p) = true := by rw [decide_eq_false h]; rfl
theorem num_raw {d nA : Addr} {oD oN : Obj} {len : Nat} (hD : DealOk oD nA len) (hN : NumsOk oN len) (hne : nA ≠ d) (rest : List (Addr × Obj)) (hr : ∀ p ∈ rest, p.1 ≠ d) :
    Does 173 [.ref d] ((d, oD) :: (nA, oN) :: rest) 8 (fun v nw => ∃ o ex, (v = .bool true ∧ DealOk o nA len ∧ ex = []) ∧ (∀ p ∈ ex, AllLt p.1 ((d, oD) :: (nA, oN) :: rest)) ∧ nw = ex ++ (d, o) :: (nA, oN) :: rest) := by
  k_with_none
  w_top off
  k_with "execs cons" => first | (refine wpAny_execs_cons (wp_holdE ?_); intro qH9 eH9 hH9)
  k_with "HoldQ" => first | (refine hold_ (by assumption) ?_; dsimp only)
  k_with "k_all" => first | (assumption)
  k_with "k_all" => first | (assumption)
  k_with "ktr_enter" => first | ((refine' code_defC ?q2k1 ?q2k2 ?q2k3 ?q2k4 ?q2k5 ?q2kA ?q2kF ?q2kK ?q2k6 ?q2k7 ?q2k8 ?q2k9 ?q2kB ?q2kD ?_ ?q2c2 ?q2c3 ?q2c4); (case q2kA => exact rfl); (case q2kF => exact rfl); (case q2kK => assumption); (case q2k1 => k_asm); (case q2k2 => k_asm); (case q2k3 => k_asm); (case q2k4 => k_asm); (case q2k5 => k_asm); (case q2k6 => k_is); (case q2k7 => k_is); (case q2k8 => ktr_room); (case q2k9 => exact BindsTo.of_eq rfl); (case q2kB => exact rfl); (case q2kD => decide +kernel); (case q2c2 => exact rfl); (case q2c3 => exact rfl); (case q2c4 => exact rfl); k_whole; intro g' L' h' tk' cells' FG' F' N' Y' B' X' T' l1; (try k_lt l1); k_cells Y'; (try simp only [List.cons_append, List.nil_append] at N'); (try dsimp only); (try k_fold))
  k_with "CompSrc" => first | (
  k_here
  k_dflt (
    (refine LCg.CompSrc.range (by rfl) (by k_asm) (by k_asm) (by assumption) (by first | exact small_one (by kcf_bnd) (by kcf_bnd) (by kcf_bnd) (by kcf_bnd) | decide) (by first | exact rangeSize_nat _ _ | rfl) (by first | exact Nat.le_of_ble_eq_true rfl | (rw [PySem.sizeLine_eq]; omega)) ?_)
    (intro g')
    (refine' comp_draw FigE ?q3c1 ?q3cm ?q3c2 ?q3c3 (fun i' o' v' ys' I' oI' C' oC' D' m' h' tk' E' hi' hD' hJ' hP' hC' hx' F' N' off' ne' => ?_) (fun o' ys' hD' hJ' => ?_))
    (case q3c1 => k_asm)
    (case q3cm => k_mem)
    (case q3c2 => (intro o; k_upd))
    (case q3c3 => exact ⟨[], .nil, rfl, fun _ h => nomatch h⟩)
    (all_goals (try (obtain ⟨tP', hP'⟩ := hP'; subst hP')))
    (all_goals (try simp only [LCg.Off3, and_true] at off'))
    kcf_last))
  k_with "call builtin:str.join" => first | (
  k_here
  k_dflt (
    (refine' join_figs ?q4j1 ?q4j2 ?q4j3 ?_)
    (case q4j1 => exact News.isList (by k_asm) (by k_mem))
    (case q4j2 => assumption)
    (case q4j3 => omega)
    (intro ps' t' k' hpl' hpc'; (have hpb9 : ps'.length ≤ 4 := by omega))))
  k_with "k_ne" => first | (refine neN ?_; (try dsimp only); first | exact off3_i (by assumption) | exact off3_c (by assumption) | omega)
  k_with "call ref" => first | (k_here; (with_reducible show wpAny _ _ (call (Value.ref 144) _) _ _ _); k_dflt (
  (refine' use33 ?q6k1 ?q6k2 ?q6k3 ?q6k4 ?q6k5 ?q6k6 (take_ok ?q6t1 ?q6t2 ?q6t3 ?q6t4 ?q6t5 ?q6t6 ?q6t7 ?q6t8) ?q6k7 ?q6k8 ?_)
  (case q6k1 => k_asm)
  (case q6k2 => k_asm)
  (case q6k3 => k_asm)
  (case q6k4 => k_asm)
  (case q6t1 => k_mem)
  (case q6t2 => k_asm)
  (case q6t3 => k_mem)
  (case q6t4 => k_asm)
  (case q6t5 => k_asm)
  (case q6t6 => omega)
  (case q6t7 => omega)
  (case q6t8 => (intro o; k_upd))
  (case q6k5 => k_asm)
  (case q6k6 => first | exact rfl | assumption)
  (case q6k7 => ktr_room)
  (case q6k8 => ktr_units)
  intro o' x' t' hx0' hx1' hD' h' tk' F' N'
  (have hxn9 := Int.toNat_of_nonneg hx0')
  (all_goals (try k_sweep)); (all_goals (try dsimp only)); (all_goals (try k_fold))))
  k_with "call ref" => first | (k_here; (with_reducible show wpAny _ _ (call (Value.ref 125) _) _ _ _); k_dflt (
  (refine' use54 ?q7k1 ?q7k2 ?q7k3 ?q7k4 ?q7k5 ?q7k6 (number_ok ?q7t1 ?q7t2 ?q7t3 ?q7t4 ?q7t5 ?q7t6 ?q7t7) ?q7k7 ?q7k8 ?_)
  (case q7k1 => k_asm)
  (case q7k2 => k_asm)
  (case q7k3 => k_asm)
  (case q7k4 => k_asm)
  (case q7t1 => k_mem)
  (case q7t2 => k_asm)
  (case q7t3 => (rw [nats_len]; ((try (have hbl9 := (behind_low (by assumption)).2)); (try simp only [List.length_append, List.length_cons, List.length_nil, List.length_replicate]); omega)))
  (case q7t4 => omega)
  (case q7t5 => exact Int.natCast_nonneg _)
  (case q7t6 => (rw [nats_len]; ((try (have hbl9 := (behind_low (by assumption)).2)); (try simp only [List.length_append, List.length_cons, List.length_nil, List.length_replicate]); omega)))
  (case q7t7 => exact nats_oct (figs_low (by assumption) (behind_low (by assumption)).1))
  (case q7k5 => k_asm)
  (case q7k6 => first | exact rfl | assumption)
  (case q7k7 => ktr_room)
  (case q7k8 => ktr_units)
  intro tp' j' a' ta' res' hS' hDg' hR' l1 h' tk' F' N'
  (try simp only [AllLt, and_true] at l1); (have hE9 := num_end (by assumption) (by assumption) hS' hDg' hR'); (first | ((have q9 := num_none1 hE9 (by assumption)); subst q9) | ((have q9 := num_none2 hE9 (by assumption)); subst q9) | ((have q7 := num_or hE9 (by assumption) (by assumption)); (rcases q7 with ⟨q6, t9, q9, ha9⟩ | ⟨q6, q9⟩ <;> subst q9)))
  (all_goals (try k_sweep)); (all_goals (try dsimp only)); (all_goals (try k_fold))))
  k_with "compareOp Eq str str" => first | (k_here; (with_reducible show wpAny _ _ (compareOp CmpOp.Eq (Value.str _ _) (Value.str _ _)) _ _ _); k_dflt ((refine' cmp_eq ?q8ex ?q8ey ?_); (case q8ex => first | with_reducible exact rfl | with_reducible exact lit_nil | with_reducible exact lit_blank | with_reducible exact lit_sx | with_reducible exact lit_x | with_reducible exact lit_minus); (case q8ey => first | with_reducible exact rfl | with_reducible exact lit_nil | with_reducible exact lit_blank | with_reducible exact lit_sx | with_reducible exact lit_x | with_reducible exact lit_minus)))
  k_with "compareOp NotEq str str" => first | (k_here; (with_reducible show wpAny _ _ (compareOp CmpOp.NotEq (Value.str _ _) (Value.str _ _)) _ _ _); k_dflt ((refine' cmp_ne ?q9ex ?q9ey ?_); (case q9ex => first | with_reducible exact rfl | with_reducible exact lit_nil | with_reducible exact lit_blank | with_reducible exact lit_sx | with_reducible exact lit_x | with_reducible exact lit_minus); (case q9ey => first | with_reducible exact rfl | with_reducible exact lit_nil | with_reducible exact lit_blank | with_reducible exact lit_sx | with_reducible exact lit_x | with_reducible exact lit_minus)))
  k_with "call builtin:len" => first | (k_here; (with_reducible show wpAny _ _ (call (Value.builtin "len") [Value.str (txt _) _]) _ _ _); k_dflt ((refine' len_txt ?q10a ?_); (case q10a => ((try (have hbl9 := (behind_low (by assumption)).2)); (try simp only [List.length_append, List.length_cons, List.length_nil, List.length_replicate]); omega))))
  k_with "binaryOp Mult str int" => first | (k_here; (with_reducible show wpAny _ _ (binaryOp Operator.Mult (Value.str _ _) (Value.int _ _)) _ _ _); k_dflt ((refine' mul_blank ?q11a ?q11b ?_); (case q11a => omega); (case q11b => omega)); intro t' k')
  k_with "binaryOp Add str str" => first | (k_here; (with_reducible show wpAny _ _ (binaryOp Operator.Add (Value.str _ _) (Value.str _ _)) _ _ _); k_dflt ((refine' add_txt ?q12e1 ?q12e2 ?q12n ?_); (case q12e1 => first | with_reducible exact rfl | with_reducible exact lit_nil | with_reducible exact lit_blank | with_reducible exact lit_sx | with_reducible exact lit_x | with_reducible exact lit_minus); (case q12e2 => first | with_reducible exact rfl | with_reducible exact lit_nil | with_reducible exact lit_blank | with_reducible exact lit_sx | with_reducible exact lit_x | with_reducible exact lit_minus); (case q12n => ((try (have hbl9 := (behind_low (by assumption)).2)); (try simp only [List.length_append, List.length_cons, List.length_nil, List.length_replicate]); omega))); intro t' k')
  k_with "subscriptTail" => first | (k_here; (with_reducible show wpAny _ _ (subscriptTail _ _ (Value.ref _) (Value.int _ _)) _ _ _); k_dflt (
  (refine' menu_item ?q13zl ?q13za ?q13zb ?q13zc ?_)
  (case q13zl => exact News.isList (by k_asm) (by k_mem))
  (case q13za => assumption)
  (case q13zb => ((simp only [List.length_cons, List.length_nil]); omega))
  (case q13zc => ((simp only [List.length_cons, List.length_nil]); omega))
  intro v' hv'
  obtain ⟨bh', bt', be', hbh'⟩ := behind_of (by assumption) (by assumption) hv'
  subst be'))
  k_with "eval ListComp" => first | (k_here; (with_reducible show wpAny _ _ (eval (Expr.ListComp (Expr.Call (Expr.Name (Str.ofString "ord") _) _ _ _) _ _ _) _) _ _ _); k_dflt (refine ListComp_S (by k_asm) (by with_unfolding_all rfl) (by decide) (by rfl) (by decide) (by rfl) ?_))
  k_with "exec Assign cons ListComp" => first | (k_here; (with_reducible show wpAny _ _ (exec (Stmt.Assign _ (Expr.ListComp (Expr.Call (Expr.Name (Str.ofString "ord") _) _ _ _) _ _ _) _) _) _ _ _); k_dflt (refine Assign_ListComp_S (by k_asm) (by rfl) (by with_unfolding_all rfl) (by with_unfolding_all rfl) (by decide) (by rfl) (by decide) (by rfl) (by rfl) (by rfl) ?_))
  k_with "SSrc" => first | (k_here; k_dflt (
  (refine' s_ords ?q16zh ?q16zF ?q16zN ?q16za ?q16zn ?_ ?_)
  (case q16zh => exact rfl)
  (case q16zF => k_asm)
  (case q16zN => k_asm)
  (case q16za => exact figs_low (by assumption) (behind_low (by assumption)).1)
  (case q16zn => ((try (have hbl9 := (behind_low (by assumption)).2)); (try simp only [List.length_append, List.length_cons, List.length_nil, List.length_replicate]); omega)); (focus ((
    intro g' c' u' ys' I' oI' C' oC' D' m' h' tk' E' hc' hC' hx' F' N' off' ne'
    (try simp only [LCg.Off3, and_true] at off')
    dsimp only))); rotate_left; (focus ((intro g' ys' hI'))); rotate_left))
  k_with "CompEnd" => first | (k_dflt (
  (refine' compEnd_ ?q17e1 ?q17e2 ?q17e4 ?q17e5 ⟨_, ?q17e6, ?q17e7, ?q17e8⟩)
  (case q17e1 => k_asm)
  (case q17e2 => k_asm)
  (case q17e7 => exact rfl)
  (case q17e6 => k_asm)
  (case q17e4 => first | assumption | (simp only [LCg.Off3, and_true]; assumption))
  (case q17e5 => exact trivial)
  (case q17e8 => exact figE_snoc (by assumption) (by assumption) (by assumption))))
  k_with "CompEnd" => first | (k_dflt (
  (refine' compEnd_ ?q18e1 ?q18e2 ?q18e4 ?q18e5 ⟨?q18e7, ?q18e8⟩)
  (case q18e1 => k_asm)
  (case q18e2 => k_asm)
  (case q18e7 => exact rfl)
  (case q18e4 => first | assumption | (simp only [LCg.Off3, and_true]; assumption))
  (case q18e5 => exact trivial)
  (case q18e8 => exact ⟨_, rfl⟩)))
  k_with "call type:int" => first | (k_here; (with_reducible show wpAny _ _ (call (Value.type "int") [Value.str (txt _) _]) _ _ _); k_dflt ((refine' int_rule ?q19a ?q19b ?q19c ?_); (case q19a => assumption); (case q19b => exact ne_of_nd (by assumption)); (case q19c => omega)); intro t' k')
  k_with "subscriptTail Name Slice str ref" => first | (k_here; (with_reducible show wpAny _ _ (subscriptTail _ (Expr.Slice _ _ _ _) (Value.str (txt _) _) (Value.ref _)) _ _ _); (with_reducible rename Fr _ _ _ _ => F'); (with_reducible rename News _ _ _ _ => N'); k_dflt ((refine' cut_txt (s := ⟨_, _, _, _, _⟩) 1 rfl F' N' ?q20b ?_); (case q20b => ((have hbl9 := (behind_low (by assumption)).2); omega))); intro h' t' k' F' N'; (try k_sweep))
  unfold Does; k_fill
  intro w p loose mean mg mb dp un gd cn cs a ccd cl outer A₀ base h₀ L m s Q E B F X N T hk hd hu hret
  refine wpAny_call ?_
  k_dflt ktr_enter
  k_steps
  all_goals first
    | exact absurd rfl (by assumption)
    | ((refine' hret _ _ _ _ ⟨_, [], ⟨congrArg Value.bool ?zb, ?zd, rfl⟩, (fun _ h => nomatch h), rfl⟩ ?zF (cb_drop (by assumption) (List.forall_mem_cons.mpr ⟨?zm, ?zs⟩)))
       (case zm => k_mem)
       (case zF => k_asm)
       (case zd => assumption)
       (case zs => exact fun p hp => by repeat (first | exact hp | refine List.mem_cons_of_mem _ ?_))
       (case zb => first | exact end1 (by assumption) | exact end5 (by assumption) | exact end4 (by assumption) | (simp [txt_len]; omega)))
theorem num_right {d nA : Addr} {oD oN : Obj} {len : Nat} {news : List (Addr × Obj)} {news' : Obj → List (Addr × Obj)} (hD : DealOk oD nA len) (hn : (nA, oN) ∈ news) (hN : NumsOk oN len) (hne : nA ≠ d) (U : ∀ o, Upd d oD o news (news' o)) :
    Does 173 [.ref d] news 8 (fun v nw => ∃ o, v = .bool true ∧ DealOk o nA len ∧ nw = news' o) :=
  does_mono (does_deal (num_raw hD hN hne) hn hne U) (by
    rintro v nw ⟨o, ex, ⟨hv, hD', rfl⟩, _, rfl⟩
    exact ⟨_, ⟨o, hv, hD', rfl⟩, fun p hp => hp⟩)
end NZ
end PNNum

section PNBytes
open PySem PySem.W PyProof.Rows PySem.Calls PySem.Builtin
set_option maxRecDepth 100000
set_option maxHeartbeats 8000000
namespace NZ
theorem slot_rstrip : Slot "bytes" "rstrip" "bytes.rstrip" :=
  .of (owner := "bytes") (n := "rstrip") (by rw [typeLookup_type, builtinLookup_eq_fast]; kernel_rfl) (by decide +kernel) (by decide +kernel) (by decide +kernel)
    (by first | exact .inl (by decide +kernel) | exact .inr (by decide +kernel)) (by rw [isSubtype_type]; kernel_rfl)
theorem type_rstrip : typeOf (.builtin "bytes.rstrip") = pure (.type "method_descriptor") := by show builtinType _ = _; rw [builtinType_eq_fast]; kernel_rfl
theorem entry_rstrip : entryFor table "bytes.rstrip" = some Builtin.«bytes.rstrip» := entryFor_of_tree (by kernel_rfl)
theorem args_rstrip (a b : Value) : argsOk "bytes.rstrip" ⟨[a, b], []⟩ := by
  unfold argsOk; rw [signature?_of (id := "bytes.rstrip") (n := ['p', 'i', 'r', 't', 's', 'r']) (o := ['s', 'e', 't', 'y', 'b']) (by kernel_rfl) FB.owner_bytes]; kernel_rfl
section
variable {prog : Program} {w : World} {A : Around} {E : Value → Shared → Prop} {s : Shared}
theorem gm_rstrip {M : Model} {b : Array UInt8} {t : Tok} {pl : Sem Bool} {Q : Value × List Value → Shared → Prop} (h : Q (.builtin "bytes.rstrip", [.bytes b t]) s) : wpAny M A (getMethod (.bytes b t) "rstrip" pl) Q E s :=
  getMethod_builtin (typeIs_bytes s b t) FB.plainAttrs_bytes slot_rstrip type_rstrip (fun _ h => nomatch h) h
/-- is the octet one of the bytes' -/
def inB (b : Array UInt8) (i : Int) : Bool := b.contains i.toNat.toUInt8
theorem gives_contains {b : Array UInt8} {i : Int} {t u : Tok} (h0 : 0 ≤ i) (h1 : i < 256) : Gives (Builtin.«bytes.__contains__» ⟨[.bytes b t, .int i u], []⟩) (.val (.bool (inB b i))) := by
  refine .of_wp fun M A E s Q hq => ?_
  show wpAny M A (Bytes.containsIn "bytes.__contains__" (.bytes b t) (.int i u) >>= fun r => _) _ E s
  unfold Bytes.containsIn
  refine wpAny_bind (wpAny_bind (wpAny_attempt ?_))
  refine wpAny_of_eq (show asIndex (.int i u) = pure i from rfl) ?_
  refine wpAny_bind (wpAny_of_eq KBy.buffer_eq ?_)
  show wpAny M A (if (decide (i < 0) || decide (i ≥ 256)) = true then _ else pure (b.contains i.toNat.toUInt8)) _ E s
  rw [if_neg (by rw [decide_eq_false (by omega), decide_eq_false (by omega)]; decide)]
  exact wpAny_pure (wpAny_pure ⟨_, rfl, hq⟩)
theorem in_bytes {b : Array UInt8} {i : Int} {t u : Tok} {Q : Value → Shared → Prop} (h0 : 0 ≤ i) (h1 : i < 256) (h : Q (.bool (inB b i)) s) : wpAny (model prog w) A (compareOp .In (.int i u) (.bytes b t)) Q E s :=
  in_gives (typeIs_bytes s b t) FB.slot_bytes_contains FB.entry_bytes_contains (FB.args_bytes_contains_2 _ _) (gives_contains h0 h1) h
theorem notIn_bytes {b : Array UInt8} {i : Int} {t u : Tok} {Q : Value → Shared → Prop} (h0 : 0 ≤ i) (h1 : i < 256) (h : Q (.bool (!inB b i)) s) : wpAny (model prog w) A (compareOp .NotIn (.int i u) (.bytes b t)) Q E s :=
  notIn_gives (typeIs_bytes s b t) FB.slot_bytes_contains FB.entry_bytes_contains (FB.args_bytes_contains_2 _ _) (gives_contains h0 h1) h
def rstripB (b : Array UInt8) : Array UInt8 := (b.toList.reverse.dropWhile fun c => c == 32).reverse.toArray
theorem rstrip_b {b : Array UInt8} {t u : Tok} {Q : Value → Shared → Prop} (hb : b.size ≤ 1000) (h : ∀ t' k, Q (.bytes (rstripB b) t') { s with toks := k }) : wpAny (model prog w) A (call (.builtin "bytes.rstrip") [.bytes b t, .bytes #[32] u]) Q E s := by
  refine wpAny_call_entry slot_rstrip (typeIs_bytes s _ _) entry_rstrip ?_ (args_rstrip _ _)
  show wpAny _ _ (Bytes.stripM .bytes "rstrip" false true ⟨[.bytes b t, .bytes #[32] u], []⟩) _ E s
  unfold Bytes.stripM
  show wpAny _ _ ((Bytes.bytesLike (toString Bytes.Kind.bytes.name ++ toString "." ++ toString "rstrip") (.bytes #[32] u)) >>= fun set => (pure set.contains : Sem (UInt8 → Bool)) >>= fun drop => Bytes.payload (.bytes b t) >>= fun b' => if ((List.dropWhile drop b'.toList.reverse).reverse.length == b'.size) = true then (rule _ >>= fun _ => Bytes.Kind.bytes.same (.bytes b t) >>= ret) else (Bytes.Kind.bytes.new ((List.dropWhile drop b'.toList.reverse).reverse.toArray) >>= ret)) _ E s
  unfold Bytes.bytesLike
  refine wpAny_bind (wpAny_bind (wpAny_of_eq KBy.buffer_eq (wpAny_pure (wpAny_bind (wpAny_pure (wpAny_bind (wpAny_of_eq (show Bytes.payload (.bytes b t) = pure b from rfl) ?_)))))))
  have e : (fun c => (#[32] : Array UInt8).contains c) = fun c : UInt8 => c == 32 := by
    funext c
    simp
    by_cases h : c = 32 <;> simp [h]
  have e' : (List.dropWhile (#[32] : Array UInt8).contains b.toList.reverse).reverse = (b.toList.reverse.dropWhile fun c => c == 32).reverse := by
    rw [show (#[32] : Array UInt8).contains = fun c => (#[32] : Array UInt8).contains c from rfl, e]
  rw [e']
  have hle : (b.toList.reverse.dropWhile fun c => c == 32).length ≤ b.size := by
    have := (List.dropWhile_suffix (l := b.toList.reverse) fun c : UInt8 => c == 32).length_le
    simpa using this
  split
  · rename_i hq
    have hq : (b.toList.reverse.dropWhile fun c => c == 32).length = b.size := by simpa using hq
    have hs : b.toList.reverse.dropWhile (fun c => c == 32) = b.toList.reverse :=
      (List.dropWhile_suffix (l := b.toList.reverse) fun c : UInt8 => c == 32).eq_of_length (by simpa using hq)
    have hb' : rstripB b = b := by unfold rstripB; rw [hs]; simp
    refine wpAny_bind (wpAny_rule (wpAny_bind ?_))
    show wpAny _ _ (typeOf (Value.bytes b t) >>= fun ty => if (ty == Value.type "bytes") = true then _ else _) _ _ _
    refine wpAny_bind (wpAny_typeOf (typeIs_bytes s b t) ?_)
    refine wpAny_pure (wpAny_pure ⟨_, rfl, ?_⟩)
    have := h t s.toks
    rw [hb'] at this
    exact this
  · refine wpAny_bind (wpAny_mkBytes (wpAny_pure ⟨_, rfl, h _ _⟩) ?_)
    rw [sizeLine_eq]; simp; omega
end
theorem byteArr_size (l : List Int) : (byteArr l).size = l.length := by unfold byteArr; simp
/-- octets without the blanks at their end -/
def rstripI (l : List Int) : List Int := (l.reverse.dropWhile fun c => decide (c = 32)).reverse
theorem dropWhile_map {l : List Int} (h : ∀ c ∈ l, 0 ≤ c ∧ c < 256) : (l.map fun n => n.toNat.toUInt8).dropWhile (fun c => c == 32) = (l.dropWhile fun c => decide (c = 32)).map fun n => n.toNat.toUInt8 := by
  induction l with
  | nil => rfl
  | cons c r ih =>
    have hc := h c (.head _)
    have e : (c.toNat.toUInt8 == 32) = decide (c = 32) := by
      have h1 : (c.toNat.toUInt8).toNat = c.toNat := by
        show (UInt8.ofNat c.toNat).toNat = c.toNat
        rw [UInt8.toNat_ofNat']; omega
      by_cases q : c = 32
      · subst q; decide
      · rw [decide_eq_false q]
        refine beq_eq_false_iff_ne.mpr fun z => q ?_
        have : (c.toNat.toUInt8).toNat = 32 := by rw [z]; rfl
        omega
    rw [List.map_cons, List.dropWhile_cons, List.dropWhile_cons, e]
    by_cases q : c = 32
    · simp [q]; exact ih fun c hc => h c (.tail _ hc)
    · simp [q]
theorem rstripB_ints {l : List Int} (h : ∀ c ∈ l, 0 ≤ c ∧ c < 256) : rstripB (byteArr l) = byteArr (rstripI l) := by
  unfold rstripB byteArr rstripI
  rw [show ((l.map fun n => n.toNat.toUInt8).toArray).toList = l.map fun n => n.toNat.toUInt8 from rfl, ← List.map_reverse, dropWhile_map (fun c hc => h c (List.mem_reverse.mp hc)), ← List.map_reverse]
section
variable {prog : Program} {w : World} {A : Around} {E : Value → Shared → Prop} {s : Shared}
theorem rstrip_ints {l : List Int} {t u : Tok} {Q : Value → Shared → Prop} (hI : ∀ c ∈ l, 0 ≤ c ∧ c < 256) (hn : l.length ≤ 1000) (h : ∀ t' k, Q (.bytes (byteArr (rstripI l)) t') { s with toks := k }) : wpAny (model prog w) A (call (.builtin "bytes.rstrip") [.bytes (byteArr l) t, .bytes #[32] u]) Q E s :=
  rstrip_b (by rw [byteArr_size]; exact hn) fun t' k => by rw [rstripB_ints hI]; exact h t' k
end
theorem rstripI_in {l : List Int} (hI : ∀ c ∈ l, 0 ≤ c ∧ c < 256) : ∀ c ∈ rstripI l, 0 ≤ c ∧ c < 256 := fun c hc => hI c (List.mem_reverse.mp ((List.dropWhile_suffix _).subset (List.mem_reverse.mp hc)))
theorem rstripI_len (l : List Int) : (rstripI l).length ≤ l.length := by
  unfold rstripI
  have := (List.dropWhile_suffix (l := l.reverse) fun c => decide (c = 32)).length_le
  simpa using this
end NZ
end PNBytes

section PNPartAt
open PySem PySem.W PyProof.Rows PySem.Calls
set_option maxRecDepth 100000
set_option maxHeartbeats 8000000
namespace NZ
theorem ne_of_allLt {d : Addr} {l : List (Addr × Obj)} (h : AllLt d l) : ∀ p ∈ l, p.1 ≠ d := by
  induction l with
  | nil => intro p hp; cases hp
  | cons q r ih =>
    intro p hp
    rcases List.mem_cons.mp hp with rfl | hp
    · exact Nat.ne_of_lt h.1
    · exact ih h.2 p hp
theorem getD_in {ns : List Int} (hc : ∀ c ∈ ns, 0 ≤ c ∧ c < 256) (i : Nat) : 0 ≤ ns.getD i 0 ∧ ns.getD i 0 < 256 := by
  rcases Nat.lt_or_ge i ns.length with h | h
  · rw [List.getD_eq_getElem?_getD, List.getElem?_eq_getElem h]
    exact hc _ (List.getElem_mem h)
  · rw [List.getD_eq_getElem?_getD, List.getElem?_eq_none h]; decide
/-- one sign more of a part -/
def partStep (size : Int) (found : List Int) (c : Int) : List Int := if c = 42 then found ++ (List.replicate (size - found.length).toNat [63]).flatten else if (found.length : Int) < size then found ++ [c] else found
def partFold (size : Int) (ns : List Int) (i a : Int) : List Int := ((ns.drop i.toNat).take (a - i).toNat).foldl (partStep size) []
/-- the bytes that end a part -/
def ends : Array UInt8 := #[32, 61, 95, 46, 58, 59, 60, 62]
def PartIn (c : Int) : Prop := inB ends c = false ∧ 32 < c
def PartP (size : Int) (ns : List Int) (i a : Int) (il : List Int) : Prop := i ≤ a ∧ a ≤ (ns.length : Int) ∧ (il.length : Int) ≤ size ∧ il = partFold size ns i a ∧ ∀ j : Int, i ≤ j → j < a → PartIn (ns.getD j.toNat 0)
theorem part_start {size : Int} {ns : List Int} {i : Int} (h1 : i ≤ ns.length) (hs : size = 3 ∨ size = 8) : PartP size ns i i [] := by
  refine ⟨Int.le_refl _, h1, ?_, ?_, fun j a b => ?_⟩
  · simp; omega
  · unfold partFold; rw [Int.sub_self]; rfl
  · omega
theorem partFold_succ {size : Int} {ns : List Int} {i a : Int} (h0 : 0 ≤ i) (h1 : i ≤ a) (h2 : a < ns.length) : partFold size ns i (a + 1) = partStep size (partFold size ns i a) (ns.getD a.toNat 0) := by
  unfold partFold
  rw [show (a + 1 - i).toNat = (a - i).toNat + 1 from by omega, List.take_add_one, List.foldl_append]
  have : (ns.drop i.toNat)[(a - i).toNat]? = some (ns.getD a.toNat 0) := by
    rw [List.getElem?_drop, show i.toNat + (a - i).toNat = a.toNat from by omega, List.getD_eq_getElem?_getD, List.getElem?_eq_getElem (by omega)]
    rfl
  rw [this]
  rfl
section
variable {size : Int} {ns : List Int} {i ca : Int} {il : List Int}
theorem part_in (hP5 : ∀ j : Int, i ≤ j → j < ca → PartIn (ns.getD j.toNat 0)) (hb : inB #[32, 61, 95, 46, 58, 59, 60, 62] (ns.getD ca.toNat 0) = false) (hg : 32 < ns.getD ca.toNat 0) : ∀ j : Int, i ≤ j → j < ca + 1 → PartIn (ns.getD j.toNat 0) := by
  intro j hj hj'
  by_cases h : j < ca
  · exact hP5 j hj h
  · have : j = ca := by omega
    rw [this]; exact ⟨hb, hg⟩
variable (h0 : 0 ≤ i) (hP1 : i ≤ ca) (hlt : ca < (ns.length : Int)) (hP3 : (il.length : Int) ≤ size) (hP4 : il = partFold size ns i ca) (hP5 : ∀ j : Int, i ≤ j → j < ca → PartIn (ns.getD j.toNat 0)) (hb : inB #[32, 61, 95, 46, 58, 59, 60, 62] (ns.getD ca.toNat 0) = false) (hg : 32 < ns.getD ca.toNat 0)
include h0 hP1 hlt hP3 hP4 hP5 hb hg
theorem part_star (hc : ns.getD ca.toNat 0 = 42) : PartP size ns i (ca + 1) (il ++ (List.replicate (size - (il.length : Int)).toNat [63]).flatten) := by
  refine ⟨by omega, by omega, ?_, ?_, part_in hP5 hb hg⟩
  · simp; omega
  · rw [partFold_succ h0 hP1 hlt, ← hP4, partStep, if_pos hc]
theorem part_push (hc : ¬ ns.getD ca.toNat 0 = 42) (hn : (il.length : Int) < size) : PartP size ns i (ca + 1) (il ++ [ns.getD ca.toNat 0]) := by
  refine ⟨by omega, by omega, ?_, ?_, part_in hP5 hb hg⟩
  · simp; omega
  · rw [partFold_succ h0 hP1 hlt, ← hP4, partStep, if_neg hc, if_pos hn]
theorem part_full (hc : ¬ ns.getD ca.toNat 0 = 42) (hn : ¬ (il.length : Int) < size) : PartP size ns i (ca + 1) il := by
  refine ⟨by omega, by omega, hP3, ?_, part_in hP5 hb hg⟩
  rw [partFold_succ h0 hP1 hlt, ← hP4, partStep, if_neg hc, if_neg hn]
end
def PartTo (ns : List Int) (i a : Int) : Prop := i ≤ a ∧ a ≤ (ns.length : Int) ∧ (∀ j : Int, i ≤ j → j < a → PartIn (ns.getD j.toNat 0)) ∧ (a < (ns.length : Int) → ¬ PartIn (ns.getD a.toNat 0))
def partOct (size : Int) (ns : List Int) (i a : Int) : List Int := partFold size ns i a ++ (List.replicate (size - ((partFold size ns i a).length : Int)).toNat [32]).flatten
theorem oct_of {size : Int} {ns : List Int} {i a : Int} {il : List Int} {ws : List Value} (h : il = partFold size ns i a) (hi : IntsAre ws (il ++ (List.replicate (size - (il.length : Int)).toNat [32]).flatten)) : IntsAre ws (partOct size ns i a) := by
  rw [h] at hi; exact hi
theorem not_in1 {c : Int} (h : inB #[32, 61, 95, 46, 58, 59, 60, 62] c = true) : ¬ PartIn c := fun q => by have := q.1; rw [show ends = #[32, 61, 95, 46, 58, 59, 60, 62] from rfl, h] at this; cases this
theorem not_in2 {c : Int} (h : ¬ 32 < c) : ¬ PartIn c := fun q => h q.2
theorem partat_raw {r : Addr} {vs : List Value} {ns : List Int} {k : Nat} (rest : List (Addr × Obj)) (hI : IntsAre vs ns) (hl : ns.length ≤ 1000) {i : Int} {t ts : Tok} {size : Int} (h0 : 0 ≤ i) (h1 : i ≤ ns.length) (hs : size = 3 ∨ size = 8) (hc : ∀ c ∈ ns, 0 ≤ c ∧ c < 256) : Does 111 [.ref r, .int i t, .int size ts] ((r, listOf vs.toArray k) :: rest) 3 (fun v nw => ∃ tp fr a ta ws n, v = .ref tp ∧ PartTo ns i a ∧ IntsAre ws (partOct size ns i a) ∧ (@LT.lt Nat _ fr tp) ∧ AllLt fr ((r, listOf vs.toArray k) :: rest) ∧ nw = (tp, { cls := .type "tuple", data := .seq #[.ref fr, .int a ta] }) :: (fr, listOf (List.toArray ws) n) :: (r, listOf vs.toArray k) :: rest) := by
  k_with_none
  w_top off
  k_with "k_all" => first | (first | assumption | exact ne_of_allLt (by assumption))
  k_with "ktr_enter" => first | ((refine' code_defC ?q1k1 ?q1k2 ?q1k3 ?q1k4 ?q1k5 ?q1kA ?q1kF ?q1kK ?q1k6 ?q1k7 ?q1k8 ?q1k9 ?q1kB ?q1kD ?_ ?q1c2 ?q1c3 ?q1c4); (case q1kA => exact rfl); (case q1kF => exact rfl); (case q1kK => assumption); (case q1k1 => k_asm); (case q1k2 => k_asm); (case q1k3 => k_asm); (case q1k4 => k_asm); (case q1k5 => k_asm); (case q1k6 => k_is); (case q1k7 => k_is); (case q1k8 => ktr_room); (case q1k9 => exact BindsTo.of_eq rfl); (case q1kB => exact rfl); (case q1kD => decide +kernel); (case q1c2 => exact rfl); (case q1c3 => exact rfl); (case q1c4 => exact rfl); k_whole; intro g' L' h' tk' cells' FG' F' N' Y' B' X' T' l1; (try k_lt l1); k_cells Y'; (try simp only [List.cons_append, List.nil_append] at N'); (try dsimp only); (try k_fold))
  k_with "compareOp NotIn int bytes" => first | (k_here; k_dflt ((refine' notIn_bytes ?q2a ?q2b ?_); (case q2a => exact (getD_in (by assumption) _).1); (case q2b => exact (getD_in (by assumption) _).2)))
  k_with "KswEnd" => first | (k_dflt (
  (rename News _ _ _ _ => nE')
  (try simp only [List.push_toArray] at nE')
  (refine' ksw_end ((_, _), (_, _), (_, _)) ?q3eF nE' ?q3eS ?q3eA ?q3eK ?q3eR ?q3eP ?q3eM)
  (case q3eF => k_asm)
  (case q3eK => kst_all)
  (case q3eS => (dsimp only; (refine List.forall_mem_cons.mpr ⟨?q3s1, List.forall_mem_cons.mpr ⟨?q3s2, ?q3s3⟩⟩); (case q3s1 => k_mem); (case q3s2 => k_mem); (case q3s3 => exact fun p hp => by repeat (first | exact hp | refine List.mem_cons_of_mem _ ?_))))
  (case q3eA => (dsimp only; (refine ⟨?q3s1, ?q3s2, ?q3s3⟩); (case q3s3 => first | assumption | exact IntsAre.append (by assumption) (.cons _ _ .nil)); (case q3s1 => omega); (case q3s2 => first | assumption | exact (And.right (And.right (And.right (And.right (by assumption))))))))
  (case q3eR => (ksw_same))
  (case q3eP => (dsimp only; first
    | exact part_star (by assumption) (by assumption) (by assumption) (by assumption) (by assumption) (by assumption) (by assumption) (by assumption) (by assumption)
    | exact part_push (by assumption) (by assumption) (by assumption) (by assumption) (by assumption) (by assumption) (by assumption) (by assumption) (by assumption) (by assumption)
    | exact part_full (by assumption) (by assumption) (by assumption) (by assumption) (by assumption) (by assumption) (by assumption) (by assumption) (by assumption) (by omega)))
  (case q3eM => (dsimp only; omega))))
  unfold Does; k_fill
  intro w p loose mean mg mb dp un gd cn cs a ccd cl outer A₀ base h₀ L m s Q E B F X N T hk hd hu hret
  refine wpAny_call ?_
  k_dflt ktr_enter
  k_with "exec While BoolOp cons nil" => (
    (rename Fr _ _ _ _ => lF')
    (rename News _ _ _ _ => lN')
   
    k_dflt (refine' ksw_while (σ := (Int × Tok) × (Addr × Nat) × (List Value × List Int)) (fun c => (c.2.1.1, listOf (List.toArray c.2.2.1) c.2.1.2) :: (r, listOf vs.toArray k) :: rest) (fun c => [(Str.ofString "at", Value.int c.1.1 c.1.2), (Str.ofString "found", Value.ref c.2.1.1)]) (fun c => (@LT.lt Nat _ r c.2.1.1) ∧ AllLt c.2.1.1 rest ∧ IntsAre c.2.2.1 c.2.2.2) [] (fun c => PartP size ns i c.1.1 c.2.2.2) (fun c => ((ns.length : Int) - c.1.1).toNat) ((_, _), (_, _), ([], [])) lF' lN' ?hf ?hk ?hp ?_)
   
    (case hk => kst_all)
   
    (case hf => (dsimp only; (refine ⟨?h1, ?h2, .nil⟩); (case h1 => omega); (case h2 => first | assumption | exact And.right (by assumption))))
   
    (case hp => exact part_start h1 hs)
   
    (intro c u h tk hFa hP FF NN)
    (obtain ⟨⟨ca, ta⟩, ⟨fa, fn⟩, ⟨vl, il⟩⟩ := c)
    (dsimp only at hFa hP NN)
    (dsimp only [kstB] at FF)
    (obtain ⟨hrf, haf, hIl⟩ := hFa)
    (obtain ⟨hP1, hP2, hP3, hP4, hP5⟩ := hP)
    (have hlen := IntsAre.length hIl)
    (have kLen := IntsAre.length hI)
   
    (try k_fold))
  k_steps
  all_goals (
    refine' hret _ _ _ _ ⟨_, _, _, _, _, _, rfl, ⟨?a1, ?a2, ?a3, ?a4⟩, ?b, ?c, ?d, rfl⟩ ?F (cb_drop (by assumption) (List.forall_mem_cons.mpr ⟨?m1, List.forall_mem_cons.mpr ⟨?m2, ?m3⟩⟩))
    case m1 => k_mem
    case m2 => k_mem
    case m3 => exact fun p hp => by repeat (first | exact hp | refine List.mem_cons_of_mem _ ?_)
    case F => k_asm
    case a1 => assumption
    case a2 => assumption
    case a3 => assumption
    case b => exact oct_of (by assumption) (by assumption)
    case c => omega
    case d => exact And.right (And.right (And.right (by assumption)))
    case a4 => (intro hlt; first | omega | exact not_in1 (by assumption) | exact not_in2 (by omega)))
theorem news_less2 {a b e : Addr × Obj} {l : List (Addr × Obj)} : ∀ p ∈ a :: b :: l, p ∈ a :: b :: e :: l := fun p hp => by
  rcases List.mem_cons.mp hp with rfl | hp
  · exact .head _
  rcases List.mem_cons.mp hp with rfl | hp
  · exact .tail _ (.head _)
  · exact .tail _ (.tail _ (.tail _ hp))
theorem partat_ok {r : Addr} {vs : List Value} {ns : List Int} {k : Nat} {news : List (Addr × Obj)} {i : Int} {t ts : Tok} {size : Int} (hm : (r, listOf vs.toArray k) ∈ news) (hI : IntsAre vs ns) (hl : ns.length ≤ 1000) (h0 : 0 ≤ i) (h1 : i ≤ ns.length) (hs : size = 3 ∨ size = 8) (hc : ∀ c ∈ ns, 0 ≤ c ∧ c < 256) :
    Does 111 [.ref r, .int i t, .int size ts] news 3 (fun v nw => ∃ tp fr a ta ws n, v = .ref tp ∧ PartTo ns i a ∧ IntsAre ws (partOct size ns i a) ∧ (@LT.lt Nat _ fr tp) ∧ AllLt fr news ∧ nw = (tp, { cls := .type "tuple", data := .seq #[.ref fr, .int a ta] }) :: (fr, listOf (List.toArray ws) n) :: news) :=
  does_mono (does_news (partat_raw news hI hl h0 h1 hs hc) (fun p hp => by
    rcases List.mem_cons.mp hp with rfl | hp
    · exact hm
    · exact hp)) (by
    rintro v nw ⟨tp, fr, a, ta, ws, n, hv, hp, hi, hlt, ha, rfl⟩
    exact ⟨_, ⟨tp, fr, a, ta, ws, n, hv, hp, hi, hlt, ha.2, rfl⟩, news_less2⟩)
end NZ
end PNPartAt

section PNNameTold
open PySem PySem.W PyProof.Rows PySem.Calls
set_option maxRecDepth 100000
set_option maxHeartbeats 8000000
namespace NZ
theorem partStep_len {size : Int} {found : List Int} (h : (found.length : Int) ≤ size) (c : Int) : ((partStep size found c).length : Int) ≤ size := by
  unfold partStep
  split
  · simp; omega
  · split
    · simp; omega
    · exact h
theorem partFold_len {size : Int} (h : 0 ≤ size) (ns : List Int) (i a : Int) : ((partFold size ns i a).length : Int) ≤ size := by
  unfold partFold
  have : ∀ (l f : List Int), (f.length : Int) ≤ size → ((l.foldl (partStep size) f).length : Int) ≤ size := by
    intro l
    induction l with
    | nil => intro f hf; exact hf
    | cons c r ih => intro f hf; exact ih _ (partStep_len hf c)
  exact this _ [] (by simpa using h)
theorem partOct_len {size : Int} (h : 0 ≤ size) (ns : List Int) (i a : Int) : (partOct size ns i a).length = size.toNat := by
  have := partFold_len h ns i a
  unfold partOct
  simp; omega
theorem oct_len3 {ns : List Int} {b a : Int} {kd : List Int} (h : kd.length = 3) : (partOct 8 ns b a).length + kd.length ≤ sizeLine := by rw [partOct_len (by decide), h]; exact Nat.le_of_ble_eq_true rfl
/-- the drive that a row tells at j; b is where the name begins -/
def Drv (ns : List Int) (j b dr : Int) : Prop :=
  (j + 1 < (ns.length : Int) ∧ ns.getD (j + 1).toNat 0 = 58 ∧ 65 ≤ ns.getD j.toNat 0 ∧ ns.getD j.toNat 0 ≤ 80 ∧ dr = ns.getD j.toNat 0 - 64 ∧ b = j + 2) ∨
  ((j + 1 < (ns.length : Int) → ns.getD (j + 1).toNat 0 = 58 → 65 ≤ ns.getD j.toNat 0 → ¬ ns.getD j.toNat 0 ≤ 80) ∧ dr = 0 ∧ b = j)
/-- the kind that a row tells at a; e is where it ends -/
def Knd (ns : List Int) (a e : Int) (kd : List Int) : Prop :=
  (a < (ns.length : Int) ∧ ns.getD a.toNat 0 = 46 ∧ PartTo ns (a + 1) e ∧ kd = partOct 3 ns (a + 1) e) ∨
  ((a < (ns.length : Int) → ns.getD a.toNat 0 ≠ 46) ∧ e = a ∧ kd = (List.replicate (Int.toNat 3) [32]).flatten)
/-- what a row tells of a name from i on -/
def ToldR (ns : List Int) (i dr : Int) (nm : List Int) (e : Int) : Prop :=
  ∃ j b a kd, nm = partOct 8 ns b a ++ kd ∧ SkipTo ns i j ∧ Drv ns j b dr ∧ PartTo ns b a ∧ Knd ns a e kd
/-- the object that tells it -/
abbrev toldDict (w : World) (t1 t2 t3 : Tok) (dr nm e : Value) : Obj :=
  dictOf [{ hash := PyData.keyHash w.params (Str.ofString "drive"), key := Value.str (Str.ofString "drive") t1, val := dr }, { hash := PyData.keyHash w.params (Str.ofString "name"), key := Value.str (Str.ofString "name") t2, val := nm }, { hash := PyData.keyHash w.params (Str.ofString "end"), key := Value.str (Str.ofString "end") t3, val := e }] 3
def ToldRet (ns : List Int) (i : Int) (news : List (Addr × Obj)) (w : World) (v : Value) (nw : List (Addr × Obj)) : Prop :=
  ∃ x d nl t1 t2 t3 dr td nm e te vs k, v = .ref x ∧ ToldR ns i dr nm e ∧ IntsAre vs nm ∧ @LT.lt Nat _ nl d ∧ @LT.lt Nat _ d x ∧ AllLt nl news ∧
    nw = (x, instObj 88 d) :: (d, toldDict w t1 t2 t3 (.int dr td) (.ref nl) (.int e te)) :: (nl, listOf (List.toArray vs) k) :: news
/-- the name's drive is told: two names are laid, «at» and «drive» -/
def DrvE (ns : List Int) (j : Int) (h₀ : Heap) (L : Addr) (m : Str → Option Value) (news : List (Addr × Obj)) (s : Shared) (f : Flow) (s' : Shared) : Prop :=
  ∃ b t1 dr t2 h' tk', f = .next ∧ s' = { s with heap := h', toks := tk' } ∧ (Drv ns j b dr ∧ 0 ≤ b ∧ b ≤ (ns.length : Int)) ∧ Fr h₀ L h' (fun z => if z = Str.ofString "at" then some (.int b t1) else if z = Str.ofString "drive" then some (.int dr t2) else m z) ∧ News h₀ L h' news
/-- the name's kind is told: «at» and «kind» -/
def KndE (ns : List Int) (a : Int) (h₀ : Heap) (L : Addr) (m : Str → Option Value) (news : List (Addr × Obj)) (s : Shared) (f : Flow) (s' : Shared) : Prop :=
  ∃ e te kf vs k kd h' tk', f = .next ∧ s' = { s with heap := h', toks := tk' } ∧ (Knd ns a e kd ∧ kd.length = 3) ∧ IntsAre vs kd ∧ Fr h₀ L h' (fun z => if z = Str.ofString "at" then some (.int e te) else if z = Str.ofString "kind" then some (.ref kf) else m z) ∧ News h₀ L h' ((kf, listOf (List.toArray vs) k) :: news)
section
variable {M : Model} {A : Around} {x : Sem Flow} {E : Value → Shared → Prop} {s : Shared} {h₀ : Heap} {L : Addr} {m m' : Str → Option Value} {news all : List (Addr × Obj)} {Q : Flow → Shared → Prop} {ns : List Int} {i j a b e dr : Int} {h' : Heap} {tk' : Nat} {t1 t2 : Tok}
theorem drv_cut (_k : SkipTo ns i j) (_F : Fr h₀ L s.heap m) (_N : News h₀ L s.heap news) (h : wpAny M A x (DrvE ns j h₀ L m news s) E s)
    (k : ∀ b t1 dr t2 h' tk', Drv ns j b dr → 0 ≤ b → b ≤ (ns.length : Int) → Fr h₀ L h' (fun z => if z = Str.ofString "at" then some (.int b t1) else if z = Str.ofString "drive" then some (.int dr t2) else m z) → News h₀ L h' news → Q .next { s with heap := h', toks := tk' }) : wpAny M A x Q E s :=
  wpAny_mono h (fun f s' ⟨b, t1, dr, t2, h', tk', e1, e2, hp, F', N'⟩ => by subst e1 e2; exact k b t1 dr t2 h' tk' hp.1 hp.2.1 hp.2.2 F' N') fun _ _ e => e
theorem drvE_ (F : Fr h₀ L h' m') (N : News h₀ L h' all) (em : m' = fun z => if z = Str.ofString "at" then some (.int b t1) else if z = Str.ofString "drive" then some (.int dr t2) else m z) (sub : ∀ p ∈ news, p ∈ all) (hp : Drv ns j b dr ∧ 0 ≤ b ∧ b ≤ (ns.length : Int)) : DrvE ns j h₀ L m news s .next { s with heap := h', toks := tk' } := by
  subst em
  exact ⟨b, t1, dr, t2, h', tk', rfl, rfl, hp, F, fun p hp => N p (sub p hp)⟩
theorem knd_cut (_k : PartTo ns b a) (_F : Fr h₀ L s.heap m) (_N : News h₀ L s.heap news) (h : wpAny M A x (KndE ns a h₀ L m news s) E s)
    (k : ∀ e te kf vs k kd h' tk', Knd ns a e kd → kd.length = 3 → IntsAre vs kd → Fr h₀ L h' (fun z => if z = Str.ofString "at" then some (.int e te) else if z = Str.ofString "kind" then some (.ref kf) else m z) → News h₀ L h' ((kf, listOf (List.toArray vs) k) :: news) → Q .next { s with heap := h', toks := tk' }) : wpAny M A x Q E s :=
  wpAny_mono h (fun f s' ⟨e, te, kf, vs, n, kd, h', tk', e1, e2, hp, hi, F', N'⟩ => by subst e1 e2; exact k e te kf vs n kd h' tk' hp.1 hp.2 hi F' N') fun _ _ e => e
theorem kndE_ {te : Tok} {kf : Addr} {vs : List Value} {k : Nat} {kd : List Int} (F : Fr h₀ L h' m') (N : News h₀ L h' all) (em : m' = fun z => if z = Str.ofString "at" then some (.int e te) else if z = Str.ofString "kind" then some (.ref kf) else m z) (hm : (kf, listOf (List.toArray vs) k) ∈ all) (sub : ∀ p ∈ news, p ∈ all) (hi : IntsAre vs kd) (hp : Knd ns a e kd) (hk : kd.length = 3) : KndE ns a h₀ L m news s .next { s with heap := h', toks := tk' } := by
  subst em
  exact ⟨e, te, kf, vs, k, kd, h', tk', rfl, rfl, ⟨hp, hk⟩, hi, F, fun p hp => N p ((List.mem_cons.mp hp).elim (fun q => q ▸ hm) (sub p))⟩
theorem upd_same2 {y1 y2 : Str} {v1 v2 : Value} (h1 : m y1 = some v1) (h2 : m y2 = some v2) : m = fun z => if z = y1 then some v1 else if z = y2 then some v2 else m z := by
  funext z
  by_cases e1 : z = y1
  · rw [if_pos e1, e1, h1]
  · rw [if_neg e1]
    by_cases e2 : z = y2
    · rw [if_pos e2, e2, h2]
    · rw [if_neg e2]
theorem told_ret {w : World} {x d nl : Addr} {t1' t2' t3 td te : Tok} {kd : List Int} {vs : List Value} {k : Nat} (hs : SkipTo ns i j) (hd : Drv ns j b dr) (hp : PartTo ns b a) (hk : Knd ns a e kd) (hI : IntsAre vs (partOct 8 ns b a ++ kd)) (o1 : @LT.lt Nat _ nl d) (o2 : @LT.lt Nat _ d x) (o3 : AllLt nl news) :
    ToldRet ns i news w (.ref x) ((x, instObj 88 d) :: (d, toldDict w t1' t2' t3 (.int dr td) (.ref nl) (.int e te)) :: (nl, listOf (List.toArray vs) k) :: news) :=
  ⟨x, d, nl, t1', t2', t3, dr, td, _, e, te, vs, k, rfl, ⟨j, b, a, kd, rfl, hs, hd, hp, hk⟩, hI, o1, o2, o3, rfl⟩
end
theorem nametold_raw {r : Addr} {vs : List Value} {ns : List Int} {k : Nat} {i : Int} {t : Tok} (rest : List (Addr × Obj)) (hI : IntsAre vs ns) (hl : ns.length ≤ 1000) (h0 : 0 ≤ i) (h1 : i ≤ ns.length) (hc : ∀ c ∈ ns, 0 ≤ c ∧ c < 256) : DoesW 118 [.ref r, .int i t] ((r, listOf vs.toArray k) :: rest) 8 (ToldRet ns i ((r, listOf vs.toArray k) :: rest)) := by
  k_with_none
  w_top off
  k_with "ktr_enter" => first | (refine' code_def ?q0k1 ?q0k2 ?q0k3 ?q0k4 ?q0k5 ?q0kA ?q0kF ?q0kK ?q0k6 ?q0k7 ?q0k8 ?q0k9 ?q0kB ?_ ?q0c2 ?q0c3 ?q0c4 ?q0c5; (case q0kA => exact rfl); (case q0kF => exact rfl); (case q0kK => first | assumption | exact rfl); (case q0k1 => k_asm); (case q0k2 => k_asm); (case q0k3 => k_asm); (case q0k4 => k_asm); (case q0k5 => k_asm); (case q0k6 => k_is); (case q0k7 => k_is); (case q0k8 => ktr_room); (case q0k9 => exact BindsTo.of_eq rfl); (case q0c5 => decide); (case q0kB => exact locs rfl); (case q0c2 => exact rfl); (case q0c3 => exact rfl); (case q0c4 => exact rfl); k_whole; intro g' L' h' FG' F' N' B' X' T'; (try dsimp only); (try k_fold))
  k_with "binaryOp Add ref ref" => first | (k_here; (with_reducible show wpAny _ _ (binaryOp _ (Value.ref _) (Value.ref _)) _ _ _); k_dflt ((refine' kmk_add_ints ?q1F ?q1N ?q1a ?q1b ?q1i ?q1j ?_ ?q1z; (case q1F => k_asm); (case q1N => k_asm); (case q1a => exact News.isList (by k_asm) (by k_mem)); (case q1b => exact News.isList (by k_asm) (by k_mem)); (case q1i => assumption); (case q1j => assumption); (case q1z => exact oct_len3 (by assumption)))); intro D' ws' h' F' N' l1 hI'; (try k_lt l1); (try k_sweep))
  k_with "call ref" => first | (k_here; (with_reducible show wpAny _ _ (call (Value.ref 104) _) _ _ _); k_dflt (
  (refine' use21i ?q2k1 ?q2k2 ?q2k3 ?q2k4 ?q2k5 ?q2k6 (skip_ok ?q2t1 ?q2t2 ?q2t3 ?q2t4 ?q2t5) ?q2k7 ?q2k8 ?_)
  (case q2k1 => k_asm)
  (case q2k2 => k_asm)
  (case q2k3 => k_asm)
  (case q2k4 => k_asm)
  (case q2t1 => k_mem)
  (case q2t2 => k_asm)
  (case q2t3 => omega)
  (case q2t4 => omega)
  (case q2t5 => omega)
  (case q2k5 => k_asm)
  (case q2k6 => first | exact rfl | assumption)
  (case q2k7 => ktr_room)
  (case q2k8 => ktr_units)
  intro j' t' hS' h' tk' F' N'
  (have hSk' := hS'); (obtain ⟨hS1', hS2', hS3', hS4'⟩ := hS')
  (try k_sweep); (try dsimp only); (try k_fold)))
  k_with "call ref" => first | (k_here; (with_reducible show wpAny _ _ (call (Value.ref 111) _) _ _ _); k_dflt (
  (refine' use64 ?q3k1 ?q3k2 ?q3k3 ?q3k4 ?q3k5 ?q3k6 (partat_ok ?q3t1 ?q3t2 ?q3t3 ?q3t4 ?q3t5 ?q3t6 ?q3t7) ?q3k7 ?q3k8 ?_)
  (case q3k1 => k_asm)
  (case q3k2 => k_asm)
  (case q3k3 => k_asm)
  (case q3k4 => k_asm)
  (case q3t1 => k_mem)
  (case q3t2 => k_asm)
  (case q3t3 => omega)
  (case q3t4 => omega)
  (case q3t5 => omega)
  (case q3t6 => first | exact .inl rfl | exact .inr rfl)
  (case q3t7 => assumption)
  (case q3k5 => k_asm)
  (case q3k6 => first | exact rfl | assumption)
  (case q3k7 => ktr_room)
  (case q3k8 => ktr_units)
  intro tp' fr' a' ta' ws' n' hP' hI' hlt' l1 h' tk' F' N'
  (have hPk' := hP'); (obtain ⟨hP1', hP2', hP3', hP4'⟩ := hP')
  (try simp only [AllLt, and_true] at l1)
  (try k_sweep); (try dsimp only); (try k_fold)))
  k_with "call ref" => first | (k_here; (with_reducible show wpAny _ _ (call (Value.ref 88) _) _ _ _); k_dflt (
  (refine' call_cls ?q4k1 ?q4k2 ?q4k3 ?q4k4 ?q4k5 ?q4k6 ?_); (case q4k1 => k_asm); (case q4k2 => k_asm); (case q4k3 => k_asm); (case q4k4 => k_is); (case q4k5 => k_is); (case q4k6 => k_is); k_whole; intro x' d' h' F' N' l1 l2; (try k_lt l1); (try k_lt2 l2); (try k_sweep); (ktr_enter)))
  k_with "exec If" => first | (k_here; (fail_if_success (with_reducible show wpAny _ _ _ (DrvE _ _ _ _ _ _ _) _ _)); (with_reducible show wpAny _ _ (exec (Stmt.If (Expr.BoolOp _ [_, _, _] _) _ _ _) _) _ _ _); k_dflt ((refine drv_cut (by assumption) (by k_asm) (by k_asm) ?_ ?_); rotate_left; (intro b' t1' dr' t2' h' tk' hDv' hb0' hb1' F' N'; (try k_sweep); (try k_fold)); rotate_left))
  k_with "exec If" => first | (k_here; (fail_if_success (with_reducible show wpAny _ _ _ (KndE _ _ _ _ _ _ _) _ _)); (with_reducible show wpAny _ _ (exec (Stmt.If (Expr.BoolOp _ [_, _] _) _ _ _) _) _ _ _); k_dflt ((refine knd_cut (by assumption) (by k_asm) (by k_asm) ?_ ?_); rotate_left; (intro e' te' kf' vs' k' kd' h' tk' hKn' hK3' hI' F' N'; (try k_sweep); (try k_fold)); rotate_left))
  k_with "DrvE" => first | (k_dflt (refine drvE_ (by k_asm) (by k_asm) (by first | exact rfl | exact upd_same2 rfl rfl) (fun p hp => by repeat (first | exact hp | refine List.mem_cons_of_mem _ ?_)) (by (refine ⟨?_, by omega, by omega⟩; first | exact .inl ⟨by omega, by assumption, by omega, by omega, rfl, rfl⟩ | exact .inr ⟨fun _ _ _ => by omega, rfl, rfl⟩))))
  k_with "KndE" => first | (k_dflt (refine kndE_ (by k_asm) (by k_asm) (by first | exact rfl | exact upd_same2 rfl rfl) (by k_mem) (fun p hp => by repeat (first | exact hp | refine List.mem_cons_of_mem _ ?_)) (by assumption) (by first | exact .inl ⟨by assumption, by assumption, by assumption, rfl⟩ | exact .inr ⟨fun _ => by first | assumption | omega, rfl, rfl⟩) (by first | exact partOct_len (by decide) _ _ _ | decide)))
  unfold DoesW; k_fill
  intro w p loose mean mg mb dp un gd cn cs a ccd cl outer A₀ base h₀ L m s Q E B F X N T hk hd hu hret
  refine wpAny_call ?_
  k_dflt ktr_enter
  k_steps
  all_goals (
    (refine' hret _ _ _ _ (told_ret ?zs ?zdv ?za ?zkd ?zi ?zo1 ?zo2 ?zo3) ?zF (cb_drop (by assumption) (List.forall_mem_cons.mpr ⟨?zm1, List.forall_mem_cons.mpr ⟨?zm2, List.forall_mem_cons.mpr ⟨?zm3, List.forall_mem_cons.mpr ⟨?zm4, ?zm5⟩⟩⟩⟩)))
    case zm1 => k_mem
    case zm2 => k_mem
    case zm3 => k_mem
    case zm4 => k_mem
    case zm5 => exact fun p hp => by repeat (first | exact hp | refine List.mem_cons_of_mem _ ?_)
    case zF => k_asm
    case zi => assumption
    case zs => assumption
    case zdv => assumption
    case za => assumption
    case zkd => assumption
    case zo1 => omega
    case zo2 => omega
    case zo3 => (simp only [AllLt]; first
      | exact And.right (And.right (by assumption))
      | exact And.right (And.right (And.right (by assumption)))
      | exact And.right (And.right (And.right (And.right (by assumption))))
      | exact And.right (And.right (And.right (And.right (And.right (by assumption)))))
      | exact And.right (And.right (And.right (And.right (And.right (And.right (by assumption))))))))
theorem news_less4 {a b c e : Addr × Obj} {l : List (Addr × Obj)} : ∀ p ∈ a :: b :: c :: l, p ∈ a :: b :: c :: e :: l := fun p hp => by
  rcases List.mem_cons.mp hp with rfl | hp
  · exact .head _
  rcases List.mem_cons.mp hp with rfl | hp
  · exact .tail _ (.head _)
  rcases List.mem_cons.mp hp with rfl | hp
  · exact .tail _ (.tail _ (.head _))
  · exact .tail _ (.tail _ (.tail _ (.tail _ hp)))
theorem nametold_ok {r : Addr} {vs : List Value} {ns : List Int} {k : Nat} {i : Int} {t : Tok} {news : List (Addr × Obj)} (hm : (r, listOf vs.toArray k) ∈ news) (hI : IntsAre vs ns) (hl : ns.length ≤ 1000) (h0 : 0 ≤ i) (h1 : i ≤ ns.length) (hc : ∀ c ∈ ns, 0 ≤ c ∧ c < 256) :
    DoesW 118 [.ref r, .int i t] news 8 (ToldRet ns i news) :=
  doesW_read (nametold_raw news hI hl h0 h1 hc) hm (by
    rintro w v nw ⟨x, d, nl, t1, t2, t3, dr, td, nm, e, te, vs', k', hv, hT, hi, o1, o2, o3, rfl⟩
    exact ⟨_, ⟨x, d, nl, t1, t2, t3, dr, td, nm, e, te, vs', k', hv, hT, hi, o1, o2, o3.2, rfl⟩, news_less4⟩)
end NZ
end PNNameTold

section PNRowLaw
open PySem PySem.W PyProof.Rows PySem.Calls
set_option maxRecDepth 100000
set_option maxHeartbeats 2000000
namespace NZ
theorem up_nat (c : Nat) : up (c : Int) = ((upN c : Nat) : Int) := by unfold up upN; split <;> split <;> omega
theorem up_nats (l : List Nat) : (nats l).map up = nats (l.map upN) := by
  unfold nats
  rw [List.map_map, List.map_map]
  exact List.map_congr_left fun c _ => up_nat c
theorem getD_drop (R : List Nat) (i k : Nat) : R.getD (i + k) 0 = (R.drop i).getD k 0 := by
  rw [List.getD_eq_getElem?_getD, List.getD_eq_getElem?_getD, List.getElem?_drop]
/-- where the blanks end -/
theorem skip_at {R rest : List Nat} {i n : Nat} {j : Int} (hS : SkipTo (nats R) i j) (hi : i ≤ R.length) (hd : R.drop i = List.replicate n 32 ++ rest) (hr : rest = [] ∨ rest.getD 0 0 ≠ 32) : j = (i : Int) + (n : Int) := by
  obtain ⟨s1, s2, s3, s4⟩ := hS
  rw [nats_len] at s2 s4
  have hl : R.length = i + n + rest.length := by
    have := congrArg List.length hd
    simp at this; omega
  have h1 : ¬ (i : Int) + n < j := fun h => by
    have h2 := s3 ((i : Int) + n) (by omega) h
    rw [nats_getD, show ((i : Int) + n).toNat = i + n from by omega, getD_drop, hd] at h2
    have e : (List.replicate n 32 ++ rest).getD n 0 = rest.getD 0 0 := by
      rw [List.getD_eq_getElem?_getD, List.getD_eq_getElem?_getD, List.getElem?_append_right (by simp)]; simp
    rw [e] at h2
    rcases hr with rfl | hr
    · simp at hl; omega
    · exact hr (by omega)
  have h2 : ¬ j < (i : Int) + n := fun h => by
    have h3 := s4 (by omega)
    obtain ⟨k, rfl⟩ : ∃ k : Nat, j = ((i + k : Nat) : Int) := ⟨(j - i).toNat, by omega⟩
    rw [nats_getD, Int.toNat_natCast, getD_drop, hd] at h3
    have e : (List.replicate n 32 ++ rest).getD k 0 = 32 := by
      rw [List.getD_eq_getElem?_getD, List.getElem?_append_left (by simp; omega), List.getElem?_replicate]
      rw [if_pos (by omega)]; rfl
    rw [e] at h3
    exact h3 rfl
  omega
theorem tw_mem {p : Nat → Bool} : ∀ {l : List Nat} {c : Nat}, c ∈ l.takeWhile p → p c = true
  | a :: r, c, h => by
    by_cases q : p a = true
    · rw [List.takeWhile_cons_of_pos q] at h
      rcases List.mem_cons.mp h with rfl | h
      · exact q
      · exact tw_mem h
    · rw [List.takeWhile_cons_of_neg q] at h; cases h
theorem dw_head {p : Nat → Bool} : ∀ {l : List Nat} {c : Nat} {r : List Nat}, l.dropWhile p = c :: r → p c = false
  | a :: l, c, r, h => by
    by_cases q : p a = true
    · rw [List.dropWhile_cons_of_pos q] at h; exact dw_head h
    · rw [List.dropWhile_cons_of_neg q] at h
      cases h
      simpa using q
theorem skip_len {l : List Nat} {j : Int} (hS : SkipTo (nats (l.map upN)) 0 j) : j = (l.length : Int) - ((l.dropWhile fun c => decide (c = 32)).length : Int) := by
  have h2 := List.takeWhile_append_dropWhile (p := fun c : Nat => decide (c = 32)) (l := l)
  have hrep : l.takeWhile (fun c => decide (c = 32)) = List.replicate (l.takeWhile fun c => decide (c = 32)).length 32 := by
    refine List.eq_replicate_iff.mpr ⟨rfl, fun c hc => ?_⟩
    have := tw_mem hc
    simpa using this
  have hu : upN 32 = 32 := by decide
  have e : (l.map upN).drop 0 = List.replicate (l.takeWhile fun c => decide (c = 32)).length 32 ++ (l.dropWhile fun c => decide (c = 32)).map upN := by
    rw [List.drop_zero]
    conv => lhs; rw [← h2, hrep]
    rw [List.map_append, List.map_replicate, hu]
  have := skip_at (i := 0) hS (Nat.zero_le _) e (by
    cases hq : l.dropWhile fun c => decide (c = 32) with
    | nil => exact .inl rfl
    | cons c r =>
      right
      have hc : decide (c = 32) = false := dw_head hq
      have hc := of_decide_eq_false hc
      show upN c ≠ 32
      unfold upN
      split <;> omega)
  have hl := congrArg List.length h2
  simp only [List.length_append] at hl
  omega
/-- the signs that stand in a part, great ones -/
def PIn (c : Nat) : Prop := PartIn (c : Int)
theorem partC_in {c : Nat} (h : PartC c) : PIn (upN c) ∧ upN c ≠ 32 ∧ upN c ≠ 58 ∧ upN c ≠ 46 := by
  unfold PIn PartIn
  rcases h with rfl | rfl | rfl | rfl | rfl | rfl | rfl | rfl <;> exact ⟨⟨by decide +kernel, by decide⟩, by decide, by decide, by decide⟩
/-- where a part ends -/
theorem part_at {R p rest : List Nat} {b : Nat} {a : Int} (hP : PartTo (nats R) b a) (hb : b ≤ R.length) (hd : R.drop b = p ++ rest) (hp : ∀ c ∈ p, PIn c) (hr : rest = [] ∨ ¬ PIn (rest.getD 0 0)) : a = (b : Int) + (p.length : Int) := by
  obtain ⟨p1, p2, p3, p4⟩ := hP
  rw [nats_len] at p2 p4
  have hl : R.length = b + p.length + rest.length := by
    have := congrArg List.length hd
    simp at this; omega
  have h1 : ¬ (b : Int) + p.length < a := fun h => by
    have h2 := p3 ((b : Int) + p.length) (by omega) h
    rw [nats_getD, show ((b : Int) + p.length).toNat = b + p.length from by omega, getD_drop, hd] at h2
    have e : (p ++ rest).getD p.length 0 = rest.getD 0 0 := by
      rw [List.getD_eq_getElem?_getD, List.getD_eq_getElem?_getD, List.getElem?_append_right (Nat.le_refl _)]; simp
    rw [e] at h2
    rcases hr with rfl | hr
    · simp at hl; omega
    · exact hr h2
  have h2 : ¬ a < (b : Int) + p.length := fun h => by
    have h3 := p4 (by omega)
    obtain ⟨k, rfl⟩ : ∃ k : Nat, a = ((b + k : Nat) : Int) := ⟨(a - b).toNat, by omega⟩
    rw [nats_getD, Int.toNat_natCast, getD_drop, hd] at h3
    have hk : k < p.length := by omega
    have e : (p ++ rest).getD k 0 = p[k] := by
      rw [List.getD_eq_getElem?_getD, List.getElem?_append_left hk, List.getElem?_eq_getElem hk]; rfl
    rw [e] at h3
    exact h3 (hp _ (List.getElem_mem hk))
  omega
theorem flat_one (n : Nat) (c : Int) : (List.replicate n [c]).flatten = List.replicate n c := by
  induction n with
  | zero => rfl
  | succ n ih => rw [List.replicate_succ, List.flatten_cons, ih, List.replicate_succ]; rfl
theorem nats_rep (n c : Nat) : nats (List.replicate n c) = List.replicate n (c : Int) := by unfold nats; rw [List.map_replicate]
theorem part_full2 {size : Int} : ∀ (q : List Int) {f : List Int}, (f.length : Int) = size → q.foldl (partStep size) f = f
  | [], _, _ => rfl
  | c :: r, f, h => by
    have e : partStep size f c = f := by
      unfold partStep
      rw [if_neg (show ¬ (f.length : Int) < size from by omega)]
      split
      · rw [show (size - (f.length : Int)).toNat = 0 from by omega]; simp
      · rfl
    rw [List.foldl_cons, e]
    exact part_full2 r h
theorem part_fold {n : Nat} : ∀ (q : List Nat) {f : List Int}, f.length ≤ n → (nats q).foldl (partStep (n : Int)) f = (f ++ nats (if 42 ∈ q then (q.takeWhile fun x => decide (x ≠ 42)) ++ List.replicate n 63 else q)).take n
  | [], f, h => by
    rw [if_neg (by simp)]
    show f = (f ++ []).take n
    rw [List.append_nil, List.take_of_length_le h]
  | c :: r, f, h => by
    show (nats r).foldl _ (partStep n f (c : Int)) = _
    by_cases hc : c = 42
    · subst hc
      have e : partStep n f ((42 : Nat) : Int) = f ++ List.replicate (n - f.length) 63 := by
        unfold partStep
        rw [if_pos (show ((42 : Nat) : Int) = 42 from rfl), flat_one, show ((n : Int) - (f.length : Int)).toNat = n - f.length from by omega]
      rw [e, part_full2 _ (by simp; omega), if_pos (by simp)]
      have e2 : (42 :: r).takeWhile (fun x => decide (x ≠ 42)) = [] := by simp
      rw [e2, List.nil_append, nats_rep, List.take_append, List.take_of_length_le h, List.take_replicate]
      congr 2
      omega
    · have hm : (42 ∈ c :: r) ↔ 42 ∈ r := by simp [Ne.symm hc]
      have et : (c :: r).takeWhile (fun x => decide (x ≠ 42)) = c :: r.takeWhile (fun x => decide (x ≠ 42)) := by simp [hc]
      by_cases hl : f.length < n
      · have e : partStep n f (c : Int) = f ++ [(c : Int)] := by
          unfold partStep
          rw [if_neg (by omega), if_pos (by omega)]
        rw [e, part_fold r (by simp; omega)]
        by_cases hq : 42 ∈ r
        · rw [if_pos hq, if_pos (hm.mpr hq), et, List.append_assoc]; rfl
        · rw [if_neg hq, if_neg (fun z => hq (hm.mp z)), List.append_assoc]; rfl
      · have hn : f.length = n := by omega
        have e : partStep n f (c : Int) = f := by
          unfold partStep
          rw [if_neg (by omega), if_neg (by omega)]
        rw [e, part_full2 _ (by omega), List.take_append_of_le_length (by omega), List.take_of_length_le h]
theorem takeWhile_no {q : List Nat} (h : 42 ∉ q) : q.takeWhile (fun x => decide (x ≠ 42)) = q := by
  rw [← List.append_nil q, List.takeWhile_append_of_pos (fun a ha => by
    have : a ≠ 42 := fun z => h (z ▸ ha)
    simpa using this)]
  simp
theorem nats_append (a b : List Nat) : nats (a ++ b) = nats a ++ nats b := List.map_append
/-- a part's octets are the ones the law fills in -/
theorem part_oct {R rest nm : List Nat} {b n : Nat} {a : Int} (hd : R.drop b = nm.map upN ++ rest) (ha : a = (b : Int) + (nm.length : Int)) : partOct (n : Int) (nats R) b a = nats (lawFilled nm n) := by
  have hf : partFold (n : Int) (nats R) b a = nats (rowOf nm n) := by
    unfold partFold
    rw [Int.toNat_natCast, ha, show ((b : Int) + (nm.length : Int) - (b : Int)).toNat = nm.length from by omega, nats_drop, hd, nats_take]
    have e : (nm.map upN ++ rest).take nm.length = nm.map upN := by
      rw [List.take_append_of_le_length (by simp), List.take_of_length_le (by simp)]
    rw [e, part_fold _ (by simp), List.nil_append, nats_take]
    unfold rowOf headOf
    by_cases h : 42 ∈ nm.map upN
    · rw [if_pos h, if_pos h]
    · rw [if_neg h, if_neg h, takeWhile_no h]
  unfold partOct
  rw [hf, nats_len]
  unfold lawFilled
  rw [nats_append, nats_rep, flat_one, show ((n : Int) - ((rowOf nm n).length : Int)).toNat = n - (rowOf nm n).length from by omega]
  rfl
theorem getD_app {p rest : List Nat} {k : Nat} (h : k < p.length) : (p ++ rest).getD k 0 = p.getD k 0 := by
  rw [List.getD_eq_getElem?_getD, List.getD_eq_getElem?_getD, List.getElem?_append_left h]
theorem getD_end (p rest : List Nat) : (p ++ rest).getD p.length 0 = rest.getD 0 0 := by
  rw [List.getD_eq_getElem?_getD, List.getD_eq_getElem?_getD, List.getElem?_append_right (Nat.le_refl _)]; simp
theorem blank3 : (List.replicate (Int.toNat 3) [(32 : Int)]).flatten = nats (lawFilled [] 3) := by decide +kernel
/-- what a row tells of a name that stands in it -/
theorem told_name {R x oc rest : List Nat} {i n : Nat} {dr dr' e' : Int} {nm' : List Int} (hT : ToldR (nats R) i dr' nm' e') (hi : i ≤ R.length) (hx : NameIs x dr oc) (hd : R.drop i = List.replicate n 32 ++ (x.map upN ++ rest))
    (h0 : x ≠ [] ∨ rest = []) (he : rest = [] ∨ (¬ PIn (rest.getD 0 0) ∧ rest.getD 0 0 ≠ 46)) (h1 : x.length = 1 → rest.getD 0 0 = 58 → x = [113]) : dr' = dr ∧ nm' = nats oc ∧ e' = (i : Int) + (n : Int) + (x.length : Int) := by
  obtain ⟨j, b, a, kd, hnm, hS, hDr, hP, hK⟩ := hT
  have hl : R.length = i + n + x.length + rest.length := by
    have := congrArg List.length hd
    simp at this; omega
  have hRj : R.drop (i + n) = x.map upN ++ rest := by
    rw [← List.drop_drop, hd, List.drop_append_of_le_length (by simp)]
    simp
  rcases hx with ⟨rfl, rfl, rfl⟩ | ⟨pre, nm, kd0, hpre, hc, hnl, hkd, hxe, rfl⟩
  · have hj := skip_at hS hi hd (.inr (by show upN 113 ≠ 32; decide))
    have hR0 : (nats R).getD j.toNat 0 = 81 := by
      rw [nats_getD, hj, show ((i : Int) + n).toNat = i + n + 0 from by omega, getD_drop, hRj]; rfl
    rcases hDr with ⟨_, _, _, h, _⟩ | ⟨_, hdr, hb⟩
    · omega
    · have hP' : PartTo (nats R) ((i + n : Nat) : Int) a := by rw [show ((i + n : Nat) : Int) = b from by omega]; exact hP
      have ha := part_at (p := [81]) (rest := rest) hP' (by omega) hRj (fun c h => by
        rw [List.mem_singleton.mp h]; exact ⟨by decide +kernel, by decide⟩) (he.imp id And.left)
      have hRa : a < ((nats R).length : Int) → (nats R).getD a.toNat 0 ≠ 46 := fun h => by
        rw [nats_len] at h
        rw [nats_getD, ha, show (((i + n : Nat) : Int) + (([81] : List Nat).length : Int)).toNat = i + n + 1 from by simp; omega, getD_drop, hRj]
        rcases he with rfl | ⟨_, he⟩
        · simp at hl ha; omega
        · exact fun q => he (by
            have : ([113].map upN ++ rest).getD 1 0 = rest.getD 0 0 := getD_end [upN 113] rest
            rw [this] at q; omega)
      rcases hK with ⟨k1, k2, _⟩ | ⟨_, he', hkd'⟩
      · exact absurd k2 (hRa k1)
      · refine ⟨hdr, ?_, by rw [he', ha]; simp⟩
        have ho : partOct 8 (nats R) b a = nats (lawFilled [113] 8) := by
          rw [show b = ((i + n : Nat) : Int) from by omega]
          exact part_oct (n := 8) (rest := rest) hRj (by rw [ha]; rfl)
        rw [hnm, hkd', ho, blank3]
        decide +kernel
  · obtain ⟨KD, hxe', hKD⟩ : ∃ KD, x = pre ++ nm ++ KD ∧ ((kd0 = none ∧ KD = []) ∨ ∃ k, kd0 = some k ∧ KD = 46 :: k) := by
      cases kd0 with
      | none => exact ⟨[], hxe, .inl ⟨rfl, rfl⟩⟩
      | some k => exact ⟨46 :: k, hxe, .inr ⟨k, rfl, rfl⟩⟩
    clear hxe
    subst hxe'
    have hxs : ∀ c ∈ pre ++ nm ++ KD, upN c ≠ 32 := by
      intro c hc'
      rcases List.mem_append.mp hc' with q | q
      · rcases List.mem_append.mp q with q | q
        · rcases hpre with ⟨rfl, _⟩ | ⟨rfl, _⟩ | ⟨rfl, _⟩
          · cases q
          · rcases List.mem_cons.mp q with rfl | q
            · decide
            · rw [List.mem_singleton.mp q]; decide
          · rcases List.mem_cons.mp q with rfl | q
            · decide
            · rw [List.mem_singleton.mp q]; decide
        · exact (partC_in (hc c q)).2.1
      · rcases hKD with ⟨rfl, rfl⟩ | ⟨k, rfl, rfl⟩
        · cases q
        · rcases List.mem_cons.mp q with rfl | q
          · decide
          · exact (partC_in ((hkd k rfl).1 c q)).2.1
    have hys : ∀ c ∈ nm ++ KD, upN c ≠ 58 ∧ c ≠ 113 := by
      intro c hc'
      have pc : ∀ c, PartC c → upN c ≠ 58 ∧ c ≠ 113 := fun c h => ⟨(partC_in h).2.2.1, fun q => by subst q; rcases h with h | h | h | h | h | h | h | h <;> cases h⟩
      rcases List.mem_append.mp hc' with q | q
      · exact pc c (hc c q)
      · rcases hKD with ⟨rfl, rfl⟩ | ⟨k, rfl, rfl⟩
        · cases q
        · rcases List.mem_cons.mp q with rfl | q
          · exact ⟨by decide, by decide⟩
          · exact pc c ((hkd k rfl).1 c q)
    have hj := skip_at hS hi hd (by
      cases hq : (pre ++ nm ++ KD) with
      | nil => rcases h0 with h | h
               · exact absurd hq h
               · left; rw [h]; rfl
      | cons c r => right; exact hxs c (by rw [hq]; exact .head _))
    have hRj0 : ∀ k : Nat, (nats R).getD (j + (k : Int)).toNat 0 = (((pre ++ nm ++ KD).map upN ++ rest).getD k 0 : Nat) := fun k => by
      rw [nats_getD, hj, show ((i : Int) + n + (k : Int)).toNat = i + n + k from by omega, getD_drop, hRj]
    have hR0 : (nats R).getD j.toNat 0 = (((pre ++ nm ++ KD).map upN ++ rest).getD 0 0 : Nat) := by have := hRj0 0; simpa using this
    have hR1 : (nats R).getD (j + 1).toNat 0 = (((pre ++ nm ++ KD).map upN ++ rest).getD 1 0 : Nat) := hRj0 1
    have hbd : dr' = dr ∧ b = ((i + n + pre.length : Nat) : Int) := by
      rcases hpre with ⟨rfl, rfl⟩ | ⟨rfl, rfl⟩ | ⟨rfl, rfl⟩
      · rcases hDr with ⟨g1, g2, g3, g4, _, _⟩ | ⟨_, g5, g6⟩
        · exfalso
          rw [hR1] at g2
          rw [nats_len] at g1
          rw [List.nil_append] at *
          cases hq : nm ++ KD with
          | nil =>
            rw [hq] at h0 hl
            rcases h0 with h | h
            · exact h rfl
            · rw [h] at hl; simp at hl; omega
          | cons c r =>
            rw [hq] at g2 h1
            cases r with
            | nil =>
              have g2' : rest.getD 0 0 = 58 := by
                have e : ([c].map upN ++ rest).getD 1 0 = rest.getD 0 0 := getD_end [upN c] rest
                rw [e] at g2; omega
              have := h1 rfl g2'
              have hc0 := (hys c (by rw [hq]; exact .head _)).2
              exact hc0 (by simpa using this)
            | cons d r =>
              have e : ((c :: d :: r).map upN ++ rest).getD 1 0 = upN d := rfl
              rw [e] at g2
              exact (hys d (by rw [hq]; exact .tail _ (.head _))).1 (by omega)
        · exact ⟨g5, by rw [g6, hj]; simp⟩
      · have e0 : ((([97, 58] : List Nat) ++ nm ++ KD).map upN ++ rest).getD 0 0 = 65 := rfl
        have e1 : ((([97, 58] : List Nat) ++ nm ++ KD).map upN ++ rest).getD 1 0 = 58 := rfl
        rw [e0] at hR0
        rw [e1] at hR1
        rcases hDr with ⟨_, _, _, _, g5, g6⟩ | ⟨g, _⟩
        · exact ⟨by rw [g5, hR0]; decide, by rw [g6, hj]; simp⟩
        · exact absurd (show (nats R).getD j.toNat 0 ≤ 80 from by rw [hR0]; decide) (g (by rw [nats_len, hj]; simp at hl; omega) hR1 (by rw [hR0]; decide))
      · have e0 : ((([80, 58] : List Nat) ++ nm ++ KD).map upN ++ rest).getD 0 0 = 80 := rfl
        have e1 : ((([80, 58] : List Nat) ++ nm ++ KD).map upN ++ rest).getD 1 0 = 58 := rfl
        rw [e0] at hR0
        rw [e1] at hR1
        rcases hDr with ⟨_, _, _, _, g5, g6⟩ | ⟨g, _⟩
        · exact ⟨by rw [g5, hR0]; decide, by rw [g6, hj]; simp⟩
        · exact absurd (show (nats R).getD j.toNat 0 ≤ 80 from by rw [hR0]; decide) (g (by rw [nats_len, hj]; simp at hl; omega) hR1 (by rw [hR0]; decide))
    obtain ⟨hdr, hb⟩ := hbd
    have hll : pre.length + nm.length + KD.length = (pre ++ nm ++ KD).length := by simp; omega
    have hRb : R.drop (i + n + pre.length) = nm.map upN ++ (KD.map upN ++ rest) := by
      rw [← List.drop_drop, hRj, List.map_append, List.map_append, List.append_assoc, List.append_assoc, List.drop_append_of_le_length (by simp)]
      simp
    rw [hb] at hP hnm
    have ha := part_at hP (by omega) hRb (fun c h => by
      obtain ⟨c', hc', rfl⟩ := List.mem_map.mp h
      exact (partC_in (hc c' hc')).1) (by
      rcases hKD with ⟨rfl, rfl⟩ | ⟨k, rfl, rfl⟩
      · exact he.imp id And.left
      · right; show ¬ PIn 46; exact fun h => absurd h.1 (by decide +kernel))
    rw [List.length_map] at ha
    have ho : partOct 8 (nats R) ((i + n + pre.length : Nat) : Int) a = nats (lawFilled nm 8) := part_oct (n := 8) hRb ha
    have hRa : R.drop (i + n + pre.length + nm.length) = KD.map upN ++ rest := by
      rw [← List.drop_drop, hRb, List.drop_append_of_le_length (by simp)]
      simp
    have hRa0 : (nats R).getD a.toNat 0 = ((KD.map upN ++ rest).getD 0 0 : Nat) := by
      rw [nats_getD, ha, show (((i + n + pre.length : Nat) : Int) + (nm.length : Int)).toNat = i + n + pre.length + nm.length + 0 from by omega, getD_drop, hRa]
    refine ⟨hdr, ?_, ?_⟩
    all_goals (
      rcases hKD with ⟨rfl, rfl⟩ | ⟨k, rfl, rfl⟩
      · have hno : a < ((nats R).length : Int) → (nats R).getD a.toNat 0 ≠ 46 := fun h => by
          rw [nats_len] at h
          rw [hRa0]
          rcases he with rfl | ⟨_, he⟩
          · exfalso; rw [ha] at h; simp at hl; omega
          · exact fun q => he (by have : (([] : List Nat).map upN ++ rest).getD 0 0 = rest.getD 0 0 := rfl
                                  rw [this] at q; omega)
        rcases hK with ⟨k1, k2, _⟩ | ⟨_, he', hkd'⟩
        · exact absurd k2 (hno k1)
        · first
            | (rw [hnm, ho, hkd', blank3, ← nats_append]; rfl)
            | (rw [he', ha]; simp at hll ⊢; omega)
      · have h46 : (nats R).getD a.toNat 0 = 46 := by rw [hRa0]; rfl
        rcases hK with ⟨_, _, hP3, hkd'⟩ | ⟨g, _⟩
        · have hRk : R.drop (i + n + pre.length + nm.length + 1) = k.map upN ++ rest := by
            rw [← List.drop_drop, hRa]; rfl
          have ea : a + 1 = ((i + n + pre.length + nm.length + 1 : Nat) : Int) := by omega
          rw [ea] at hP3 hkd'
          have hll2 : (46 :: k : List Nat).length = k.length + 1 := rfl
          have hke := part_at hP3 (by simp at hl; omega) hRk (fun c h => by
            obtain ⟨c', hc', rfl⟩ := List.mem_map.mp h
            exact (partC_in ((hkd k rfl).1 c' hc')).1) (he.imp id And.left)
          rw [List.length_map] at hke
          have ho3 : partOct 3 (nats R) ((i + n + pre.length + nm.length + 1 : Nat) : Int) e' = nats (lawFilled k 3) := part_oct (n := 3) hRk hke
          first
            | (rw [hnm, ho, hkd', ho3, ← nats_append]; rfl)
            | (rw [hke]; simp at hll ⊢; omega)
        · exact absurd h46 (g (by rw [nats_len, ha]; simp at hl; omega)))
/-- a sign between two names -/
def SepC (c : Nat) : Prop := c = 32 ∨ c = 61 ∨ c = 59 ∨ c = 60 ∨ c = 95 ∨ c = 58
theorem sepC_out {c : Nat} (h : SepC c) : ¬ PIn (upN c) ∧ upN c ≠ 46 ∧ upN c = c ∧ c < 128 := by
  unfold PIn
  rcases h with rfl | rfl | rfl | rfl | rfl | rfl <;> exact ⟨fun h => by first | exact absurd h.1 (by decide +kernel) | exact absurd h.2 (by decide), by decide, by decide, by decide⟩
/-- the sign behind the first name -/
def Sep2 (x : List Nat) (c : Nat) : Prop := SepC c ∧ (x.length = 1 → c = 58 → x = [113])
theorem told_first {b c : Nat} {x1 x2 oc : List Nat} {dr dr' e' : Int} {nm' : List Int} (hT : ToldR (nats ((List.replicate b 32 ++ x1 ++ [c] ++ [32] ++ x2).map upN)) 0 dr' nm' e') (hx : NameIs x1 dr oc) (hc : Sep2 x1 c) (h0 : x1 ≠ []) :
    dr' = dr ∧ nm' = nats oc ∧ e' = (b : Int) + (x1.length : Int) := by
  have hs := sepC_out hc.1
  have e0 : (([c] ++ [32] ++ x2).map upN).getD 0 0 = upN c := rfl
  have := told_name (i := 0) (n := b) (rest := ([c] ++ [32] ++ x2).map upN) hT (Nat.zero_le _) hx (by
    rw [List.drop_zero]
    simp [List.map_append, List.map_replicate, show upN 32 = 32 from by decide]) (.inl h0) (.inr (by rw [e0]; exact ⟨hs.1, hs.2.1⟩)) (fun h1 h2 => hc.2 h1 (by
    rw [e0, hs.2.2.1] at h2; exact h2))
  refine ⟨this.1, this.2.1, by rw [this.2.2]; simp⟩
theorem told_second {b c : Nat} {x1 x2 oc : List Nat} {i dr dr' e' : Int} {nm' : List Int} (hi : i = ((b + x1.length + 1 : Nat) : Int)) (hT : ToldR (nats ((List.replicate b 32 ++ x1 ++ [c] ++ [32] ++ x2).map upN)) i dr' nm' e') (hx : NameIs x2 dr oc) :
    dr' = dr ∧ nm' = nats oc ∧ e' = (((List.replicate b 32 ++ x1 ++ [c] ++ [32] ++ x2).length : Nat) : Int) := by
  subst hi
  have := told_name (n := 1) (rest := []) hT (by simp; omega) hx (by
    rw [← List.map_drop, List.append_assoc _ [32] x2, List.drop_append_of_le_length (by simp; omega), List.drop_of_length_le (by simp; omega)]
    simp [show upN 32 = 32 from by decide]) (.inr rfl) (.inl rfl) (fun _ h => absurd h (by decide))
  refine ⟨this.1, this.2.1, by rw [this.2.2]; simp; omega⟩
theorem nameIs_low {x oc : List Nat} {dr : Int} (h : NameIs x dr oc) : (∀ c ∈ x, c < 128) ∧ x.length ≤ 18 ∧ oc.length = 11 ∧ (∀ c ∈ oc, c < 128) := by
  rcases h with ⟨rfl, _, rfl⟩ | ⟨pre, nm, kd, hpre, hc, hl, hkd, rfl, rfl⟩
  · exact ⟨by decide, by decide, by decide, by decide⟩
  · have hp : (∀ c ∈ pre, c < 128) ∧ pre.length ≤ 2 := by rcases hpre with ⟨rfl, _⟩ | ⟨rfl, _⟩ | ⟨rfl, _⟩ <;> decide
    have hn : ∀ c ∈ nm, c < 128 := fun c h => partC_lt (hc c h)
    refine ⟨fun c h => ?_, ?_, by simp [lawFilled_len], fun c h => ?_⟩
    · rcases List.mem_append.mp h with h | h
      · rcases List.mem_append.mp h with h | h
        · exact hp.1 c h
        · exact hn c h
      · cases kd with
        | none => cases h
        | some k =>
          rcases List.mem_cons.mp h with rfl | h
          · decide
          · exact partC_lt ((hkd k rfl).1 c h)
    · cases kd with
      | none => simp; omega
      | some k => have := (hkd k rfl).2; simp; omega
    · rcases List.mem_append.mp h with h | h
      · exact lawFilled_lt 8 hn c h
      · refine lawFilled_lt 3 (fun c h => ?_) c h
        cases kd with
        | none => cases h
        | some k => exact partC_lt ((hkd k rfl).1 c h)
theorem text_low {b c : Nat} {x1 x2 oc1 oc2 : List Nat} {dr1 dr2 : Int} (h1 : NameIs x1 dr1 oc1) (h2 : NameIs x2 dr2 oc2) (hc : Sep2 x1 c) : ∀ d ∈ List.replicate b 32 ++ x1 ++ [c] ++ [32] ++ x2, d < 128 := by
  intro d h
  rcases List.mem_append.mp h with h | h
  · rcases List.mem_append.mp h with h | h
    · rcases List.mem_append.mp h with h | h
      · rcases List.mem_append.mp h with h | h
        · rw [(List.mem_replicate.mp h).2]; omega
        · exact (nameIs_low h1).1 d h
      · rw [List.mem_singleton.mp h]; exact (sepC_out hc.1).2.2.2
    · rw [List.mem_singleton.mp h]; omega
  · exact (nameIs_low h2).1 d h
theorem upN_low {l : List Nat} (h : ∀ c ∈ l, c < 128) : ∀ c ∈ l.map upN, c < 128 := fun c hc => by
  obtain ⟨a, ha, rfl⟩ := List.mem_map.mp hc
  exact upN_lt (h a ha)
end NZ
end PNRowLaw

section PNCut
open PySem PySem.W PyProof.Rows PySem.Calls
set_option maxRecDepth 100000
set_option maxHeartbeats 2000000
namespace NZ
/-- a statement behind which all stands as it stood -/
def IfEnd (h₀ : Heap) (L : Addr) (m : Str → Option Value) (news : List (Addr × Obj)) (s : Shared) (f : Flow) (s' : Shared) : Prop :=
  ∃ h' tk', f = .next ∧ s' = { s with heap := h', toks := tk' } ∧ Fr h₀ L h' m ∧ News h₀ L h' news
theorem if_cut {M : Model} {A : Around} {x : Sem Flow} {E : Value → Shared → Prop} {s : Shared} {h₀ : Heap} {L : Addr} {m : Str → Option Value} {news : List (Addr × Obj)} {Q : Flow → Shared → Prop} (_F : Fr h₀ L s.heap m) (_N : News h₀ L s.heap news)
    (h : wpAny M A x (IfEnd h₀ L m news s) E s) (k : ∀ h' tk', Fr h₀ L h' m → News h₀ L h' news → Q .next { s with heap := h', toks := tk' }) : wpAny M A x Q E s :=
  wpAny_mono h (fun f s' ⟨h', tk', e1, e2, F', N'⟩ => by subst e1 e2; exact k h' tk' F' N') fun _ _ e => e
theorem ifEnd_ {s : Shared} {h₀ : Heap} {L : Addr} {m : Str → Option Value} {news all : List (Addr × Obj)} {h' : Heap} {tk' : Nat} (F : Fr h₀ L h' m) (N : News h₀ L h' all) (sub : ∀ p ∈ news, p ∈ all) : IfEnd h₀ L m news s .next { s with heap := h', toks := tk' } :=
  ⟨h', tk', rfl, rfl, F, fun p hp => N p (sub p hp)⟩
/-- a statement that lays a sign under a name -/
def SetEnd (y : Str) (P : Nat → Prop) (h₀ : Heap) (L : Addr) (m : Str → Option Value) (news : List (Addr × Obj)) (s : Shared) (f : Flow) (s' : Shared) : Prop :=
  ∃ c t h' tk', f = .next ∧ s' = { s with heap := h', toks := tk' } ∧ P c ∧ Fr h₀ L h' (fun z => if z = y then some (.str (txt [c]) t) else m z) ∧ News h₀ L h' news
theorem set_cut {M : Model} {A : Around} {x : Sem Flow} {E : Value → Shared → Prop} {s : Shared} {h₀ : Heap} {L : Addr} {m : Str → Option Value} {news : List (Addr × Obj)} {Q : Flow → Shared → Prop} (y : Str) (P : Nat → Prop) (_F : Fr h₀ L s.heap m) (_N : News h₀ L s.heap news)
    (h : wpAny M A x (SetEnd y P h₀ L m news s) E s) (k : ∀ c t h' tk', P c → Fr h₀ L h' (fun z => if z = y then some (.str (txt [c]) t) else m z) → News h₀ L h' news → Q .next { s with heap := h', toks := tk' }) : wpAny M A x Q E s :=
  wpAny_mono h (fun f s' ⟨c, t, h', tk', e1, e2, hp, F', N'⟩ => by subst e1 e2; exact k c t h' tk' hp F' N') fun _ _ e => e
theorem setEnd_ {s : Shared} {h₀ : Heap} {L : Addr} {m m' : Str → Option Value} {news all : List (Addr × Obj)} {h' : Heap} {tk' : Nat} {y : Str} {P : Nat → Prop} {c : Nat} {t : Tok} {x : Str} (ex : x = txt [c]) (hp : P c) (F : Fr h₀ L h' m') (em : m' = fun z => if z = y then some (.str x t) else m z) (N : News h₀ L h' all) (sub : ∀ p ∈ news, p ∈ all) : SetEnd y P h₀ L m news s .next { s with heap := h', toks := tk' } := by
  subst ex em
  exact ⟨c, t, h', tk', rfl, rfl, hp, F, fun p hp => N p (sub p hp)⟩
theorem sep_cut {M : Model} {A : Around} {x : Sem Flow} {E : Value → Shared → Prop} {s : Shared} {h₀ : Heap} {L : Addr} {m : Str → Option Value} {news : List (Addr × Obj)} {Q : Flow → Shared → Prop} {x1 oc : List Nat} {dr : Int} (y : Str) (_n : NameIs x1 dr oc) (F : Fr h₀ L s.heap m) (N : News h₀ L s.heap news)
    (h : wpAny M A x (SetEnd y (Sep2 x1) h₀ L m news s) E s) (k : ∀ c t h' tk', Sep2 x1 c → Fr h₀ L h' (fun z => if z = y then some (.str (txt [c]) t) else m z) → News h₀ L h' news → Q .next { s with heap := h', toks := tk' }) : wpAny M A x Q E s := set_cut y (Sep2 x1) F N h k
theorem sep_a {x : List Nat} (h : x = [113]) : Sep2 x 58 := ⟨.inr (.inr (.inr (.inr (.inr rfl)))), fun _ _ => h⟩
theorem sep_b {x : List Nat} : Sep2 x 32 := ⟨.inl rfl, fun _ h => absurd h (by decide)⟩
theorem sep_c {x : List Nat} {c : Nat} (h : SepC c) (hl : (x.length : Int) ≠ 1) : Sep2 x c := ⟨h, fun q _ => absurd q (by omega)⟩
theorem sep_d {x : List Nat} {c : Nat} (h : SepC c) (hn : [c] ≠ [58]) : Sep2 x c := ⟨h, fun _ q => absurd (by rw [q]) hn⟩
theorem rowt_len {b c : Nat} {x1 x2 : List Nat} {ys : List Value} (_h : IntsAre ys (nats ((List.replicate b 32 ++ x1 ++ [c] ++ [32] ++ x2).map upN))) : (nats ((List.replicate b 32 ++ x1 ++ [c] ++ [32] ++ x2).map upN)).length = b + x1.length + 2 + x2.length := by
  rw [nats_len]; simp; omega
theorem row_256 {b c : Nat} {x1 x2 oc1 oc2 : List Nat} {dr1 dr2 : Int} {ys : List Value} (_h : IntsAre ys (nats ((List.replicate b 32 ++ x1 ++ [c] ++ [32] ++ x2).map upN))) (h1 : NameIs x1 dr1 oc1) (h2 : NameIs x2 dr2 oc2) (hc : Sep2 x1 c) : ∀ d ∈ nats ((List.replicate b 32 ++ x1 ++ [c] ++ [32] ++ x2).map upN), (0 : Int) ≤ d ∧ d < 256 := nats_in (upN_low (text_low h1 h2 hc))
end NZ
end PNCut

section PNEq
open PySem PySem.W PyProof.Rows PySem.Calls PySem.Spec
set_option maxRecDepth 100000
set_option maxHeartbeats 2000000
namespace NZ
section
variable {prog : Program} {w : World} {A : Around} {E : Value → Shared → Prop} {s : Shared} {h₀ : Heap} {L : Addr} {news : List (Addr × Obj)} {Q : Value → Shared → Prop}
theorem pair_shaped (a : Int) (ns : List Int) : SeqAt.shaped (.tuple [.int a, .list (ns.map PyData.int)]) = true := by
  simp [SeqAt.shaped, PyData.canLay0, PyData.canLayAll0, PyData.depth, PyData.depthAll, ke_canLayAll0, ke_depthAll]
/-- two pairs of a number and a list of numbers -/
theorem ne_pair {p1 p2 l1 l2 : Addr} {a b : Int} {t u : Tok} {vs us : List Value} {ns ms : List Int} {n1 n2 k1 k2 : Nat} (N : News h₀ L s.heap news)
    (m1 : (p1, ({ cls := .type "tuple", data := .seq #[.int a t, .ref l1] n1 } : Obj)) ∈ news) (m2 : (p2, ({ cls := .type "tuple", data := .seq #[.int b u, .ref l2] n2 } : Obj)) ∈ news)
    (m3 : (l1, listOf vs.toArray k1) ∈ news) (m4 : (l2, listOf us.toArray k2) ∈ news) (hi : IntsAre vs ns) (hj : IntsAre us ms) (hu : A.units + 64 < cLine) (h : Q (.bool (!decide (a = b ∧ ns = ms))) s) :
    wpAny (model prog w) A (compareOp .NotEq (.ref p1) (.ref p2)) Q E s := by
  have r1 : s.heap.IsList l1 vs.toArray := ⟨_, (N _ m3).1, rfl, _, rfl⟩
  have r2 : s.heap.IsList l2 us.toArray := ⟨_, (N _ m4).1, rfl, _, rfl⟩
  refine ne_dataH (reads_tuple_at (xs := [.int a, .list (ns.map PyData.int)]) (N _ m1).1 rfl rfl (.cons (.int _ _) (.cons (reads_newData r1 (ke_carried hi)) .nil)))
    (reads_tuple_at (xs := [.int b, .list (ms.map PyData.int)]) (N _ m2).1 rfl rfl (.cons (.int _ _) (.cons (reads_newData r2 (ke_carried hj)) .nil))) (pair_shaped a ns) (pair_shaped b ms) hu ?_
  have e : PyData.eqv (.tuple [.int a, .list (ns.map PyData.int)]) (.tuple [.int b, .list (ms.map PyData.int)]) = decide (a = b ∧ ns = ms) := by
    simp only [PyData.eqv, PyData.eqvAll, ked_eqvAll]
    by_cases h1 : a = b <;> by_cases h2 : ns = ms <;> simp [h1, h2]
  rw [e]
  exact h
/-- two lists of the same numbers -/
theorem ne_lists {l1 l2 : Addr} {vs us : List Value} {ns : List Int} {k1 k2 : Nat} (N : News h₀ L s.heap news) (m3 : (l1, listOf vs.toArray k1) ∈ news) (m4 : (l2, listOf us.toArray k2) ∈ news) (hi : IntsAre vs ns) (hj : IntsAre us ns) (hu : A.units + 64 < cLine) (h : Q (.bool false) s) :
    wpAny (model prog w) A (compareOp .NotEq (.ref l1) (.ref l2)) Q E s := by
  refine ke_ne_ints ⟨_, (N _ m3).1, rfl, _, rfl⟩ ⟨_, (N _ m4).1, rfl, _, rfl⟩ hi hj hu ?_
  rw [decide_eq_true rfl]; exact h
/-- the same octets -/
theorem eq_bytesI {a b : Array UInt8} {t u : Tok} (e : a = b) (h : Q (.bool true) s) : wpAny (model prog w) A (compareOp .Eq (.bytes a t) (.bytes b u)) Q E s := by
  subst e
  refine eq_bytes ?_
  rw [beq_self_eq_true]; exact h
theorem ne_boolSame {b : Bool} (h : Q (.bool false) s) : wpAny (model prog w) A (compareOp .NotEq (.bool b) (.bool b)) Q E s := by
  refine ne_bool ?_
  rw [show (b != b) = false from by simp]; exact h
theorem item_ints {value slice : PySem.Expr} {l : Addr} {vs : List Value} {ns : List Int} {kk : Nat} {k : Int} {u : Tok} (N : News h₀ L s.heap news) (hm : (l, listOf vs.toArray kk) ∈ news) (hI : IntsAre vs ns) (h0 : 0 ≤ k) (hk : k < (ns.length : Int)) (hn : ns.length ≤ 100) (h : ∀ t', Q (.int (ns.getD k.toNat 0) t') s)
    (hs : subscripted slice false (.ref l) (.int k u) = operate [.ref l, .int k u] (getItem (.ref l) (.int k u)) := by with_unfolding_all rfl) :
    wpAny (model prog w) A (subscriptTail value slice (.ref l) (.int k u)) Q E s := by
  have hl := IntsAre.length hI
  refine menu_item ⟨_, (N _ hm).1, rfl, _, rfl⟩ h0 (by omega) (by omega) (fun v hv => ?_) hs
  obtain ⟨a, t, e, ha⟩ := IntsAre.at hI k.toNat v hv
  rw [e, show a = ns.getD k.toNat 0 from by rw [List.getD_eq_getElem?_getD, ha]; rfl]
  exact h t
end
theorem told_no {x oc : List Nat} {dr dr' e' E : Int} {nm' : List Int} (hT : x ≠ [] → dr' = dr ∧ nm' = nats oc ∧ e' = E) (h1 : decide (dr' = dr ∧ nm' = nats oc) = false) (h2 : decide (x = []) = false) : False := by
  have h := hT (of_decide_eq_false h2)
  exact of_decide_eq_false h1 ⟨h.1, h.2.1⟩
theorem told_end {x oc : List Nat} {dr dr' e' b l : Int} {n : Nat} {nm' : List Int} (hT : x ≠ [] → dr' = dr ∧ nm' = nats oc ∧ e' = (n : Int) + l) (h1 : ¬ e' = ((List.replicate n 32).length : Int) + l) (h2 : decide (x = []) = false) : False := by
  have h := hT (of_decide_eq_false h2)
  rw [List.length_replicate] at h1
  exact h1 h.2.2
end NZ
end PNEq

section PNRowEnd
open PySem PySem.W PyProof.Rows PySem.Calls
set_option maxRecDepth 100000
set_option maxHeartbeats 2000000
namespace NZ
theorem dw_len (p : Nat → Bool) {l : List Nat} {n : Nat} (h : l.length ≤ n) : (l.dropWhile p).length ≤ n := Nat.le_trans (List.dropWhile_suffix p).length_le h
theorem told_no2 {x oc : List Nat} {dr dr' e' E : Int} {nm' : List Int} (hT : x ≠ [] → dr' = dr ∧ nm' = nats oc ∧ e' = E) (h1 : ¬ (dr' = dr ∧ nm' = nats oc)) (h2 : decide (x = []) = false) : False :=
  told_no hT (decide_eq_false h1) h2
section
variable {prog : Program} {w : World} {A : Around} {E : Value → Shared → Prop} {s : Shared} {h₀ : Heap} {L l : Addr} {m : Str → Option Value} {news : List (Addr × Obj)} {value slice : PySem.Expr} {vs : List Value} {ns : List Int} {Q : Value → Shared → Prop} {k : Nat}
theorem slice_eight {t : Tok} (F : Fr h₀ L s.heap m) (N : News h₀ L s.heap news) (hm : (l, listOf vs.toArray k) ∈ news) (hi : IntsAre vs ns) (hn : ns.length ≤ 100)
    (h : ∀ D ws h', Fr h₀ L h' m → News h₀ L h' ((D, listOf (List.toArray ws) 0) :: news) → (∀ p ∈ news, p.1 < D) → IntsAre ws (ns.take 8) → Q (.ref D) { s with heap := h' })
    (hs : subscripted slice false (.ref l) (.ref s.heap.objs.size) = operate [.ref s.heap.objs.size, .ref l] (getItem (.ref l) (.ref s.heap.objs.size))) (ht : ∀ r, letTemporaryGo value (.ref l) r = pure ()) :
    wpAny (model prog w) A (subscriptTail value slice (.ref l) (.ref s.heap.objs.size)) Q E { s with heap := s.heap.push { cls := .type "slice", data := .fields #[.none, .int 8 t, .none] } } :=
  kmk_slice_ints F N ⟨_, (N _ hm).1, rfl, _, rfl⟩ .none (.int _ _) hi (kmk_upto hi (by decide)) rfl (fun D ws h' F' N' l1 hI _ _ => h D ws h' F' N' l1 hI) hs ht (kmk_sz hi (by rw [sizeLine_eq]; omega))
end
end NZ
end PNRowEnd

section PNPlain
open PySem PySem.W PyProof.Rows PySem.Calls
set_option maxRecDepth 100000
set_option maxHeartbeats 8000000
namespace NZ
theorem in_take {ns : List Int} (hc : ∀ c ∈ ns, 0 ≤ c ∧ c < 256) (n : Nat) : KBa.In (ns.take n) := fun c h => hc c (List.mem_of_mem_take h)
theorem in_drop {ns : List Int} (hc : ∀ c ∈ ns, 0 ≤ c ∧ c < 256) (n : Nat) : KBa.In (ns.drop n) := fun c h => hc c (List.mem_of_mem_drop h)
theorem plain_raw {r : Addr} {vs : List Value} {ns : List Int} {k : Nat} (rest : List (Addr × Obj)) (hI : IntsAre vs ns) (hl : ns.length ≤ 1000) (hl11 : ns.length = 11) (hc : ∀ c ∈ ns, 0 ≤ c ∧ c < 256) : Does 132 [.ref r] ((r, listOf vs.toArray k) :: rest) 4 (fun v nw => ∃ t, v = .bytes (byteArr (rstripI (ns.take 8))) t ∧ nw = (r, listOf vs.toArray k) :: rest) := by
  k_with_none
  w_top off
  k_with "getMethod bytes" => first | (k_here; (with_reducible refine gm_rstrip ?_))
  k_with "call builtin:bytes.rstrip" => first | (k_here; k_dflt ((refine' rstrip_ints ?q1y ?q1z ?_); (case q1y => first | exact in_take (by assumption) _ | exact in_drop (by assumption) _); (case q1z => (simp; omega)); intro t' k'))
  k_with "call type:bytes" => first | (
  k_here
  (with_reducible show wpAny _ _ (call (Value.type _) [Value.ref _]) _ _ _)
  k_dflt (
    (refine' KBa.make_K ?q2F ?q2N ?q2h ?q2l ?q2i ?q2r ?q2n ?_)
    (case q2F => k_asm)
    (case q2N => k_asm)
    (case q2h => exact rfl)
    (case q2l => exact News.isList (by k_asm) (by k_mem))
    (case q2i => assumption)
    (case q2r => first | exact in_take (by assumption) _ | exact in_drop (by assumption) _)
    (case q2n => (simp; omega))
    intro h' t' k' F' N' hIn'))
  unfold Does; k_fill
  intro w p loose mean mg mb dp un gd cn cs a ccd cl outer A₀ base h₀ L m s Q E B F X N T hk hd hu hret
  refine wpAny_call ?_
  k_dflt ktr_enter
  k_steps
  all_goals exact hret _ _ _ _ ⟨_, rfl, rfl⟩ (by k_asm) (cb_drop (by assumption) fun p hp => by repeat (first | exact hp | refine List.mem_cons_of_mem _ ?_))
theorem plain_ok {r : Addr} {vs : List Value} {ns : List Int} {k : Nat} {news : List (Addr × Obj)} (hm : (r, listOf vs.toArray k) ∈ news) (hI : IntsAre vs ns) (hl : ns.length ≤ 1000) (hl11 : ns.length = 11) (hc : ∀ c ∈ ns, 0 ≤ c ∧ c < 256) :
    Does 132 [.ref r] news 4 (fun v nw => (∃ t, v = .bytes (byteArr (rstripI (ns.take 8))) t) ∧ nw = news) :=
  does_read (does_mono (plain_raw news hI hl hl11 hc) (by
    rintro v nw ⟨t, hv, rfl⟩
    exact ⟨_, ⟨⟨t, hv⟩, rfl⟩, fun p hp => hp⟩)) hm
end NZ
end PNPlain

section PNRow
open PySem PySem.W PyProof.Rows PySem.Calls
set_option maxRecDepth 100000
set_option maxHeartbeats 3000000
namespace NZ
theorem lit_eq : Str.ofString "=" = txt [61] := by decide +kernel
theorem lit_semi : Str.ofString ";" = txt [59] := by decide +kernel
theorem lit_lt : Str.ofString "<" = txt [60] := by decide +kernel
theorem lit_us : Str.ofString "_" = txt [95] := by decide +kernel
theorem sep_of {t0 t1 t2 t3 t4 t5 : Tok} {k : Int} {v : Value} (h0 : 0 ≤ k) (h1 : k < 6) (h : [Value.str (Str.ofString " ") t0, .str (Str.ofString "=") t1, .str (Str.ofString ";") t2, .str (Str.ofString "<") t3, .str (Str.ofString "_") t4, .str (Str.ofString ":") t5][k.toNat]? = some v) : ∃ c t, v = .str (txt [c]) t ∧ SepC c := by
  have : k = 0 ∨ k = 1 ∨ k = 2 ∨ k = 3 ∨ k = 4 ∨ k = 5 := by omega
  rcases this with rfl | rfl | rfl | rfl | rfl | rfl
  · exact ⟨32, t0, by rw [← lit_blank]; exact (Option.some.inj h).symm, .inl rfl⟩
  · exact ⟨61, t1, by rw [← lit_eq]; exact (Option.some.inj h).symm, .inr (.inl rfl)⟩
  · exact ⟨59, t2, by rw [← lit_semi]; exact (Option.some.inj h).symm, .inr (.inr (.inl rfl))⟩
  · exact ⟨60, t3, by rw [← lit_lt]; exact (Option.some.inj h).symm, .inr (.inr (.inr (.inl rfl)))⟩
  · exact ⟨95, t4, by rw [← lit_us]; exact (Option.some.inj h).symm, .inr (.inr (.inr (.inr (.inl rfl))))⟩
  · exact ⟨58, t5, by rw [← lit_colon]; exact (Option.some.inj h).symm, .inr (.inr (.inr (.inr (.inr rfl))))⟩
 
theorem row_raw {d nA : Addr} {oD oN : Obj} {len : Nat} (hD : DealOk oD nA len) (hN : NumsOk oN len) (hne : nA ≠ d) (rest : List (Addr × Obj)) (hr : ∀ p ∈ rest, p.1 ≠ d) :
    Does 168 [.ref d] ((d, oD) :: (nA, oN) :: rest) 12 (fun v nw => ∃ o ex, (v = .bool true ∧ DealOk o nA len ∧ ex = []) ∧ (∀ p ∈ ex, AllLt p.1 ((d, oD) :: (nA, oN) :: rest)) ∧ nw = ex ++ (d, o) :: (nA, oN) :: rest) := by
  k_with_none
  w_top off
  k_with "k_mem" => first | (first | with_reducible exact List.mem_cons_self | (with_reducible refine List.mem_cons_of_mem _ ?_; k_mem))
  k_with "ktr_enter" => first | (refine' code_def ?q1k1 ?q1k2 ?q1k3 ?q1k4 ?q1k5 ?q1kA ?q1kF ?q1kK ?q1k6 ?q1k7 ?q1k8 ?q1k9 ?q1kB ?_ ?q1c2 ?q1c3 ?q1c4 ?q1c5; (case q1kA => exact rfl); (case q1kF => exact rfl); (case q1kK => first | assumption | exact rfl); (case q1k1 => k_asm); (case q1k2 => k_asm); (case q1k3 => k_asm); (case q1k4 => k_asm); (case q1k5 => k_asm); (case q1k6 => k_is); (case q1k7 => k_is); (case q1k8 => ktr_room); (case q1k9 => exact BindsTo.of_eq rfl); (case q1c5 => decide); (case q1kB => exact locs rfl); (case q1c2 => exact rfl); (case q1c3 => exact rfl); (case q1c4 => exact rfl); k_whole; intro g' L' h' FG' F' N' B' X' T'; (try dsimp only); (try k_fold))
  k_with "k_all" => first | (assumption)
  k_with "call ref" => first | (k_here; (with_reducible show wpAny _ _ (call (Value.ref 144) _) _ _ _); k_dflt (
  (refine' use33 ?q3k1 ?q3k2 ?q3k3 ?q3k4 ?q3k5 ?q3k6 (take_ok ?q3t1 ?q3t2 ?q3t3 ?q3t4 ?q3t5 ?q3t6 ?q3t7 ?q3t8) ?q3k7 ?q3k8 ?_)
  (case q3k1 => k_asm)
  (case q3k2 => k_asm)
  (case q3k3 => k_asm)
  (case q3k4 => k_asm)
  (case q3t1 => k_mem)
  (case q3t2 => k_asm)
  (case q3t3 => k_mem)
  (case q3t4 => k_asm)
  (case q3t5 => k_asm)
  (case q3t6 => omega)
  (case q3t7 => omega)
  (case q3t8 => (intro o; k_upd))
  (case q3k5 => k_asm)
  (case q3k6 => first | exact rfl | assumption)
  (case q3k7 => ktr_room)
  (case q3k8 => ktr_units)
  intro o' x' t' hx0' hx1' hD' h' tk' F' N'
  (all_goals (try k_sweep)); (all_goals (try dsimp only)); (all_goals (try k_fold))))
  k_with "call ref" => first | (k_here; (with_reducible show wpAny _ _ (call (Value.ref 163) _) _ _ _); k_dflt (
  (refine' use105 ?q4k1 ?q4k2 ?q4k3 ?q4k4 ?q4k5 ?q4k6 (name_ok ?q4t1 ?q4t2 ?q4t3 ?q4t4 ?q4t5) ?q4k7 ?q4k8 ?_)
  (case q4k1 => k_asm)
  (case q4k2 => k_asm)
  (case q4k3 => k_asm)
  (case q4k4 => k_asm)
  (case q4t1 => k_asm)
  (case q4t2 => k_mem)
  (case q4t3 => k_asm)
  (case q4t4 => k_asm)
  (case q4t5 => (intro o; k_upd))
  (case q4k5 => k_asm)
  (case q4k6 => first | exact rfl | assumption)
  (case q4k7 => ktr_room)
  (case q4k8 => ktr_units)
  intro o' tp' x' t' dr' td' oc' r' vs' k' hNm' hI' hD' o1' l1 h' tk' F' N'
  (try simp only [AllLt, and_true] at l1); (obtain ⟨_, hNl', hNo', hNc'⟩ := nameIs_low hNm'); (have hN9 := nats_in hNc')
  (all_goals (try k_sweep)); (all_goals (try dsimp only)); (all_goals (try k_fold))))
  k_with "call ref" => first | (k_here; (with_reducible show wpAny _ _ (call (Value.ref 104) _) _ _ _); k_dflt (
  (refine' use21i ?q5k1 ?q5k2 ?q5k3 ?q5k4 ?q5k5 ?q5k6 (skip_ok ?q5t1 ?q5t2 ?q5t3 ?q5t4 ?q5t5) ?q5k7 ?q5k8 ?_)
  (case q5k1 => k_asm)
  (case q5k2 => k_asm)
  (case q5k3 => k_asm)
  (case q5k4 => k_asm)
  (case q5t1 => k_mem)
  (case q5t2 => k_asm)
  (case q5t3 => omega)
  (case q5t4 => omega)
  (case q5t5 => omega)
  (case q5k5 => k_asm)
  (case q5k6 => first | exact rfl | assumption)
  (case q5k7 => ktr_room)
  (case q5k8 => ktr_units)
  intro j' t' hS' h' tk' F' N'
  (all_goals (try k_sweep)); (all_goals (try dsimp only)); (all_goals (try k_fold))))
  k_with "call ref" => first | (k_here; (with_reducible show wpAny _ _ (call (Value.ref 97) _) _ _ _); k_dflt (
  (refine' use22 ?q6k1 ?q6k2 ?q6k3 ?q6k4 ?q6k5 ?q6k6 (great_ok ?q6t1 ?q6t2 ?q6t3 ?q6t4) ?q6k7 ?q6k8 ?_)
  (case q6k1 => k_asm)
  (case q6k2 => k_asm)
  (case q6k3 => k_asm)
  (case q6k4 => k_asm)
  (case q6t1 => k_mem)
  (case q6t2 => k_asm)
  (case q6t3 => (rw [nats_len]; ((try with_reducible refine dw_len _ ?_); (try simp only [List.length_map, List.length_append, List.length_cons, List.length_nil, List.length_replicate]); omega)))
  (case q6t4 => exact nats_in (text_low (by assumption) (by assumption) (by assumption)))
  (case q6k5 => k_asm)
  (case q6k6 => first | exact rfl | assumption)
  (case q6k7 => ktr_room)
  (case q6k8 => ktr_units)
  intro d' ys' hI' hO' h' tk' F' N'
  (rw [up_nats] at hI'); (have hRl9 := rowt_len hI'); (have hR9 := row_256 hI' (by assumption) (by assumption) (by assumption)); (clear hO')
  (all_goals (try k_sweep)); (all_goals (try dsimp only)); (all_goals (try k_fold))))
  k_with "call ref" => first | (k_here; (with_reducible show wpAny _ _ (call (Value.ref 118) _) _ _ _); k_dflt (
  (refine' use135W ?q7k1 ?q7k2 ?q7k3 ?q7k4 ?q7k5 ?q7k6 (nametold_ok ?q7t1 ?q7t2 ?q7t3 ?q7t4 ?q7t5 ?q7t6) ?q7k7 ?q7k8 ?_)
  (case q7k1 => k_asm)
  (case q7k2 => k_asm)
  (case q7k3 => k_asm)
  (case q7k4 => k_asm)
  (case q7t1 => k_mem)
  (case q7t2 => k_asm)
  (case q7t3 => omega)
  (case q7t4 => ((try simp only [List.length_replicate]); omega))
  (case q7t5 => ((try simp only [List.length_replicate]); omega))
  (case q7t6 => assumption)
  (case q7k5 => k_asm)
  (case q7k6 => first | exact rfl | assumption)
  (case q7k7 => ktr_room)
  (case q7k8 => ktr_units)
  intro x' d' nl' t1' t2' t3' dr' td' nm' e' te' vs' k' hT' hI' o1' o2' l1 h' tk' F' N'
  (clear o1' o2' l1); (first | ((have q9 := told_second (by simp only [List.length_replicate]; omega) hT' (by assumption)); (obtain ⟨q1, q2, q3⟩ := q9); subst q1 q2 q3) | (have q9 := told_first hT' (by assumption) (by assumption)))
  (all_goals (try k_sweep)); (all_goals (try dsimp only)); (all_goals (try k_fold))))
  k_with "compareOp NotEq ref ref" => first | (k_here; (with_reducible show wpAny _ _ (compareOp CmpOp.NotEq (Value.ref _) (Value.ref _)) _ _ _); k_dflt (first
  | ((refine' ne_lists ?q8zN ?q8z3 ?q8z4 ?q8zi ?q8zj ?q8zu ?_); (case q8zN => k_asm); (case q8z3 => (repeat (first | (with_reducible exact List.mem_cons_self) | (with_reducible refine List.mem_cons_of_mem _ ?_)))); (case q8z4 => (repeat (first | (with_reducible exact List.mem_cons_self) | (with_reducible refine List.mem_cons_of_mem _ ?_)))); (case q8zi => assumption); (case q8zj => assumption); (case q8zu => ktr_units))
  | ((refine' ne_pair ?q8zN ?q8z1 ?q8z2 ?q8z3 ?q8z4 ?q8zi ?q8zj ?q8zu ?_); (case q8zN => k_asm); (case q8z1 => (repeat (first | (with_reducible exact List.mem_cons_self) | (with_reducible refine List.mem_cons_of_mem _ ?_)))); (case q8z2 => (repeat (first | (with_reducible exact List.mem_cons_self) | (with_reducible refine List.mem_cons_of_mem _ ?_)))); (case q8z3 => (repeat (first | (with_reducible exact List.mem_cons_self) | (with_reducible refine List.mem_cons_of_mem _ ?_)))); (case q8z4 => (repeat (first | (with_reducible exact List.mem_cons_self) | (with_reducible refine List.mem_cons_of_mem _ ?_)))); (case q8zi => assumption); (case q8zj => assumption); (case q8zu => ktr_units))))
  k_with "compareOp NotEq bool bool" => first | (k_here; k_dflt (refine ne_boolSame ?_))
  k_with "compareOp Eq" => first | (k_here; (with_reducible show wpAny _ _ (compareOp CmpOp.Eq (Value.bytes _ _) (Value.bytes _ _)) _ _ _); k_dflt (refine eq_bytesI rfl ?_))
  k_with "call ref" => first | (k_here; (with_reducible show wpAny _ _ (call (Value.ref 132) _) _ _ _); k_dflt (
  (refine' use10i ?q11k1 ?q11k2 ?q11k3 ?q11k4 ?q11k5 ?q11k6 (plain_ok ?q11t1 ?q11t2 ?q11t3 ?q11t4 ?q11t5) ?q11k7 ?q11k8 ?_)
  (case q11k1 => k_asm)
  (case q11k2 => k_asm)
  (case q11k3 => k_asm)
  (case q11k4 => k_asm)
  (case q11t1 => k_mem)
  (case q11t2 => k_asm)
  (case q11t3 => (rw [nats_len]; omega))
  (case q11t4 => (rw [nats_len]; assumption))
  (case q11t5 => assumption)
  (case q11k5 => k_asm)
  (case q11k6 => first | exact rfl | assumption)
  (case q11k7 => ktr_room)
  (case q11k8 => ktr_units)
  intro t' h' tk' F' N'
  (all_goals (try k_sweep)); (all_goals (try dsimp only)); (all_goals (try k_fold))))
  k_with "call ref" => first | (k_here; (with_reducible show wpAny _ _ (call (Value.ref 78) _) _ _ _); k_dflt (refine wpAny_call ?_; ktr_enter))
  k_with "call ref" => first | (k_here; (with_reducible show wpAny _ _ (call (Value.ref 85) _) _ _ _); k_dflt (refine wpAny_call ?_; ktr_enter))
  k_with "exec If" => first | (k_here; (fail_if_success (with_reducible show wpAny _ _ _ (IfEnd _ _ _ _ _) _ _)); k_dflt ((refine' if_cut ?q14zf ?q14zn ?_ ?_); (case q14zf => k_asm); (case q14zn => k_asm); rotate_left; (focus ((intro h' tk' F' N'; (try k_sweep); (try k_fold)))); rotate_left))
  k_with "IfEnd" => first | (k_dflt (first
  | ((refine' ifEnd_ ?q15zf ?q15zn ?q15zs); (case q15zf => k_asm); (case q15zn => k_asm); (case q15zs => exact fun p hp => by repeat (first | exact hp | refine List.mem_cons_of_mem _ ?_)))
  | (exfalso; first | exact told_no (by assumption) (by assumption) (by assumption) | exact told_end (b := 0) (by assumption) (by assumption) (by assumption) | exact absurd (skip_len (by assumption)) (by assumption) | omega)))
  k_with "subscriptTail" => first | (k_here; (with_reducible show wpAny _ _ (subscriptTail _ _ (Value.ref _) (Value.int _ _)) _ _ _); k_dflt (
  (refine' menu_item ?q16zl ?q16za ?q16zb ?q16zc ?_)
  (case q16zl => exact News.isList (by k_asm) (by k_mem))
  (case q16za => assumption)
  (case q16zb => ((simp only [List.length_cons, List.length_nil]); omega))
  (case q16zc => ((simp only [List.length_cons, List.length_nil]); omega))
  intro v' hv'
  obtain ⟨bh', bt', be', hbh'⟩ := sep_of (by assumption) (by assumption) hv'
  subst be'))
  k_with "subscriptTail" => first | (k_here; (with_reducible show wpAny _ _ (subscriptTail _ _ (Value.ref _) (Value.int _ _)) _ _ _); k_dflt ((refine' item_ints ?q17zN ?q17zm ?q17zi ?q17z0 ?q17zk ?q17zn ?_); (case q17zN => k_asm); (case q17zm => (repeat (first | (with_reducible exact List.mem_cons_self) | (with_reducible refine List.mem_cons_of_mem _ ?_)))); (case q17zi => assumption); (case q17z0 => omega); (case q17zk => (rw [nats_len]; omega)); (case q17zn => (rw [nats_len]; omega)); intro t'))
  k_with "subscriptTail Name Constant ref int" => first | (k_here; (with_reducible show wpAny _ _ (subscriptTail _ _ (Value.ref _) (Value.int _ _)) _ _ _); k_dflt ((refine' item_ints ?q18zN ?q18zm ?q18zi ?q18z0 ?q18zk ?q18zn ?_); (case q18zN => k_asm); (case q18zm => (repeat (first | (with_reducible exact List.mem_cons_self) | (with_reducible refine List.mem_cons_of_mem _ ?_)))); (case q18zi => assumption); (case q18z0 => omega); (case q18zk => (rw [nats_len]; omega)); (case q18zn => (rw [nats_len]; omega)); intro t'))
  k_with "call builtin:str.lstrip" => first | (k_here; (try dsimp only); k_dflt ((refine lstrip_rule lit_blank (by ((try simp only [List.length_append, List.length_cons, List.length_nil, List.length_replicate]); omega)) ?_); intro t' k'))
  k_with "call builtin:str.upper" => first | (k_here; (try dsimp only); k_dflt ((refine' upper_rule ?q20zha ?q20zhn ?_); (case q20zha => exact text_low (by assumption) (by assumption) (by assumption)); (case q20zhn => ((try simp only [List.length_append, List.length_cons, List.length_nil, List.length_replicate]); omega))); intro t' k')
  k_with "callWith ref" => first | (k_here; (first | (with_reducible show wpAny _ _ (callWith _ (Value.ref 78) _ _ _) _ _ _) | (with_reducible show wpAny _ _ (callWith _ (Value.ref 85) _ _ _) _ _ _)); k_dflt ((rename Fr _ _ _ _ => F9); (refine callWith_K0 (Frag.In.keeps (by with_reducible assumption) (Fr.keep F9)) (by k_is) ?_)))
  k_with "getMethod ref" => first | (k_here; (with_reducible show wpAny _ _ (getMethod (Value.ref _) (PySem.Str.ofString "count") _) _ _ _); k_dflt (refine' kf_method ?q22N ?q22m PySem.F.slot_list_count PySem.F.type_list_count ?_; (case q22N => k_asm); (case q22m => (repeat (first | (with_reducible exact List.mem_cons_self) | (with_reducible refine List.mem_cons_of_mem _ ?_))))))
  k_with "getMethod bytes" => first | (k_here; (with_reducible refine gm_rstrip ?_))
  k_with "call builtin:bytes.rstrip" => first | (k_here; k_dflt ((refine' rstrip_ints ?q24y ?q24z ?_); (case q24y => first | exact in_take (by assumption) _ | exact in_drop (by assumption) _); (case q24z => (simp; omega)); intro t' k'))
  k_with "call type:bytes" => first | (
  k_here
  (with_reducible show wpAny _ _ (call (Value.type _) [Value.ref _]) _ _ _)
  k_dflt (
    (refine' KBa.make_K ?q25F ?q25N ?q25h ?q25l ?q25i ?q25r ?q25n ?_)
    (case q25F => k_asm)
    (case q25N => k_asm)
    (case q25h => exact rfl)
    (case q25l => exact News.isList (by k_asm) (by k_mem))
    (case q25i => assumption)
    (case q25r => first | exact in_take (by assumption) _ | exact in_drop (by assumption) _)
    (case q25n => (simp; omega))
    intro h' t' k' F' N' hIn'))
  k_with "subscriptTail Name Slice ref ref" => first | (k_here; (with_reducible show wpAny _ _ (subscriptTail _ (PySem.Expr.Slice none _ none _) (Value.ref _) (Value.ref _)) _ _ _); k_dflt (refine' slice_eight ?q26zF ?q26zN ?q26zm ?q26zi ?q26zn ?_ ?q26s ?q26t; (case q26zF => k_asm); (case q26zN => k_asm); (case q26zm => (repeat (first | (with_reducible exact List.mem_cons_self) | (with_reducible refine List.mem_cons_of_mem _ ?_)))); (case q26zi => assumption); (case q26zn => (rw [nats_len]; omega)); (case q26s => with_unfolding_all rfl); (case q26t => kmk_pure)); intro D' ws' h' F' N' l1 hI'; clear l1; (try k_sweep))
  k_with "compareOp Eq str str" => first | (k_here; (with_reducible show wpAny _ _ (compareOp CmpOp.Eq (Value.str _ _) (Value.str _ _)) _ _ _); k_dflt ((refine' cmp_eq ?q27ex ?q27ey ?_); (case q27ex => first | with_reducible exact rfl | with_reducible exact lit_nil | with_reducible exact lit_blank | with_reducible exact lit_colon | with_reducible exact lit_q); (case q27ey => first | with_reducible exact rfl | with_reducible exact lit_nil | with_reducible exact lit_blank | with_reducible exact lit_colon | with_reducible exact lit_q)))
  k_with "compareOp NotEq str str" => first | (k_here; (with_reducible show wpAny _ _ (compareOp CmpOp.NotEq (Value.str _ _) (Value.str _ _)) _ _ _); k_dflt ((refine' cmp_ne ?q28ex ?q28ey ?_); (case q28ex => first | with_reducible exact rfl | with_reducible exact lit_nil | with_reducible exact lit_blank | with_reducible exact lit_colon | with_reducible exact lit_q); (case q28ey => first | with_reducible exact rfl | with_reducible exact lit_nil | with_reducible exact lit_blank | with_reducible exact lit_colon | with_reducible exact lit_q)))
  k_with "call builtin:len" => first | (k_here; (with_reducible show wpAny _ _ (call (Value.builtin "len") [Value.str (txt _) _]) _ _ _); k_dflt ((refine' len_txt ?q29a ?_); (case q29a => ((try with_reducible refine dw_len _ ?_); (try simp only [List.length_map, List.length_append, List.length_cons, List.length_nil, List.length_replicate]); omega))))
  k_with "binaryOp Mult str int" => first | (k_here; (with_reducible show wpAny _ _ (binaryOp Operator.Mult (Value.str _ _) (Value.int _ _)) _ _ _); k_dflt ((refine' mul_blank ?q30a ?q30b ?_); (case q30a => omega); (case q30b => omega)); intro t' k')
  k_with "binaryOp Add str str" => first | (k_here; (with_reducible show wpAny _ _ (binaryOp Operator.Add (Value.str _ _) (Value.str _ _)) _ _ _); k_dflt ((refine' add_txt ?q31e1 ?q31e2 ?q31n ?_); (case q31e1 => first | with_reducible exact rfl | with_reducible exact lit_nil | with_reducible exact lit_blank | with_reducible exact lit_colon | with_reducible exact lit_q); (case q31e2 => first | with_reducible exact rfl | with_reducible exact lit_nil | with_reducible exact lit_blank | with_reducible exact lit_colon | with_reducible exact lit_q); (case q31n => ((try with_reducible refine dw_len _ ?_); (try simp only [List.length_map, List.length_append, List.length_cons, List.length_nil, List.length_replicate]); omega))); intro t' k')
  k_with "eval ListComp" => first | (k_here; (with_reducible show wpAny _ _ (eval (Expr.ListComp (Expr.Call (Expr.Name (Str.ofString "ord") _) _ _ _) _ _ _) _) _ _ _); k_dflt (refine ListComp_S (by k_asm) (by with_unfolding_all rfl) (by decide) (by rfl) (by decide) (by rfl) ?_))
  k_with "exec Assign cons ListComp" => first | (k_here; (with_reducible show wpAny _ _ (exec (Stmt.Assign _ (Expr.ListComp (Expr.Call (Expr.Name (Str.ofString "ord") _) _ _ _) _ _ _) _) _) _ _ _); k_dflt (refine Assign_ListComp_S (by k_asm) (by rfl) (by with_unfolding_all rfl) (by with_unfolding_all rfl) (by decide) (by rfl) (by decide) (by rfl) (by rfl) (by rfl) ?_))
  k_with "SSrc" => first | (k_here; k_dflt ((
  (refine s_ords rfl (by k_asm) (by k_asm) (by first | exact text_low (by assumption) (by assumption) (by assumption) | exact upN_low (text_low (by assumption) (by assumption) (by assumption))) (by ((try with_reducible refine dw_len _ ?_); (try simp only [List.length_map, List.length_append, List.length_cons, List.length_nil, List.length_replicate]); omega)) ?_ ?_)
  rotate_left
  (intro g' ys' hI')
  rotate_left
  (intro g' c' u' ys' I' oI' C' oC' D' m' h' tk' E' hc' hC' hx' F' N' off' ne')
  (try simp only [LCg.Off3, and_true] at off')
  dsimp only)))
  k_with "CompEnd" => first | (k_dflt (
  (refine' compEnd_ ?q35e1 ?q35e2 ?q35e4 ?q35e5 ⟨?q35e7, ?q35e8⟩)
  (case q35e1 => k_asm)
  (case q35e2 => k_asm)
  (case q35e7 => exact rfl)
  (case q35e4 => first | assumption | (simp only [LCg.Off3, and_true]; assumption))
  (case q35e5 => exact trivial)
  (case q35e8 => exact ⟨_, rfl⟩)))
  k_with "SetEnd" => first | (k_dflt ((
  (refine' setEnd_ ?q36zex ?q36zhp ?q36zF ?q36zem ?q36zN ?q36zsub)
  (case q36zex => first | with_reducible exact rfl | with_reducible exact lit_blank | with_reducible exact lit_colon)
  (case q36zF => k_asm)
  (case q36zem => exact rfl)
  (case q36zN => k_asm)
  (case q36zsub => exact fun p hp => by repeat (first | exact hp | refine List.mem_cons_of_mem _ ?_))
  (case q36zhp => first | exact sep_a (by assumption) | exact sep_b | exact sep_c (by assumption) (by assumption) | exact sep_d (by assumption) (by assumption)))))
  k_with "FinE" => first | ((unfold LCg.FinE); intro D' h' tk' F' N' o1'; clear o1'; (try simp only [List.nil_append, List.cons_append] at N'); (try dsimp only))
  k_with "FinA" => first | ((unfold LCg.FinA); intro D' h' tk' F' N' o1'; clear o1'; (try simp only [List.nil_append, List.cons_append] at N'); (try dsimp only))
  k_with "exec Assign cons IfExp" => first | (k_extra "between")
  unfold Does; k_fill
  intro w p loose mean mg mb dp un gd cn cs a ccd cl outer A₀ base h₀ L m s Q E B F X N T hk hd hu hret
  refine wpAny_call ?_
  k_dflt ktr_enter
  k_with "between" => (
    (rename NameIs _ _ _ => n2); (revert n2); (rename NameIs _ _ _ => n1); (intro n2)
    (rename Fr _ _ _ _ => lF'); (rename News _ _ _ _ => lN')
    k_dflt (refine' sep_cut (Str.ofString "between") n1 lF' lN' ?zh ?zk)
    (case' zk => (intro c' t' h' tk' hSp' F' N'; (try k_sweep); (try k_fold))))
  k_steps
  all_goals first
    | exact absurd rfl (by assumption)
    | exact absurd (And.intro rfl rfl) (by assumption)
    | exact (told_end (b := 0) (by assumption) (by assumption) (by assumption)).elim
    | exact absurd (skip_len (by assumption)) (by assumption)
    | exact (told_no2 (by assumption) (by assumption) (by assumption)).elim
    | ((refine' hret _ _ _ _ ⟨_, [], ⟨congrArg Value.bool ?zb, ?zd, rfl⟩, (fun _ h => nomatch h), rfl⟩ ?zF (cb_drop (by assumption) (List.forall_mem_cons.mpr ⟨?zm, ?zs⟩)))
       (case zm => k_mem)
       (case zF => k_asm)
       (case zd => assumption)
       (case zs => exact fun p hp => by repeat (first | exact hp | refine List.mem_cons_of_mem _ ?_))
       (case zb => first | rfl | exact beq_self_eq_true _ | (simp only [beq_iff_eq, List.length_replicate]; omega)))
    | skip
theorem row_right {d nA : Addr} {oD oN : Obj} {len : Nat} {news : List (Addr × Obj)} {news' : Obj → List (Addr × Obj)} (hD : DealOk oD nA len) (hn : (nA, oN) ∈ news) (hN : NumsOk oN len) (hne : nA ≠ d) (U : ∀ o, Upd d oD o news (news' o)) :
    Does 168 [.ref d] news 12 (fun v nw => ∃ o, v = .bool true ∧ DealOk o nA len ∧ nw = news' o) :=
  does_mono (does_deal (row_raw hD hN hne) hn hne U) (by
    rintro v nw ⟨o, ex, ⟨hv, hD', rfl⟩, _, rfl⟩
    exact ⟨_, ⟨o, hv, hD', rfl⟩, fun p hp => hp⟩)
end NZ
end PNRow

section PNFFill
open PySem PySem.W PyProof.Rows PySem.Calls
set_option maxRecDepth 100000
set_option maxHeartbeats 8000000
namespace NZ
theorem ff_step {pre found : List Int} {c : Int} (h : found = pre.map up ∧ 42 ∉ pre) (hc : c ≠ 42) : found ++ [up c] = (pre ++ [c]).map up ∧ 42 ∉ pre ++ [c] := by
  obtain ⟨h, hn⟩ := h
  subst h
  refine ⟨by simp, fun q => ?_⟩
  rcases List.mem_append.mp q with q | q
  · exact hn q
  · exact hc (List.mem_singleton.mp q).symm
/-- what files.filled makes of a part -/
def ffill (b : List Int) (n : Nat) : List Int := if 42 ∈ b then ((b.takeWhile fun c => decide (c ≠ 42)).map up ++ List.replicate n 63).take n else (b.map up ++ List.replicate n 32).take n
theorem tw_star {pre post : List Int} (h : 42 ∉ pre) : (pre ++ 42 :: post).takeWhile (fun c => decide (c ≠ 42)) = pre := by
  rw [List.takeWhile_append_of_pos (p := fun c : Int => decide (c ≠ 42)) (l₁ := pre) (fun a ha => by
    have q : a ≠ 42 := fun q => h (by rw [← q]; exact ha)
    simpa using q)]
  simp
theorem flat_rep (n : Nat) (c : Int) : (List.replicate n [c]).flatten = List.replicate n c := by
  induction n with
  | zero => rfl
  | succ n ih => rw [List.replicate_succ, List.flatten_cons, ih, List.replicate_succ]; rfl
theorem ffill_star {b pre post il : List Int} {k : Int} {size : Int} {ws : List Value} (e : b = pre ++ k :: post) (hk : k = 42) (h : il = pre.map up ∧ 42 ∉ pre) (hI : IntsAre ws (List.take size.toNat (il ++ (List.replicate size.toNat [63]).flatten))) : IntsAre ws (ffill b size.toNat) := by
  subst hk
  have : ffill b size.toNat = List.take size.toNat (il ++ (List.replicate size.toNat [63]).flatten) := by
    unfold ffill
    rw [if_pos (by rw [e]; simp), e, tw_star h.2, ← h.1, flat_rep]
  rw [this]; exact hI
theorem ffill_no {b il : List Int} {size : Int} {ws : List Value} (h : il = b.map up ∧ 42 ∉ b) (hI : IntsAre ws (List.take size.toNat (il ++ (List.replicate size.toNat [32]).flatten))) : IntsAre ws (ffill b size.toNat) := by
  have : ffill b size.toNat = List.take size.toNat (il ++ (List.replicate size.toNat [32]).flatten) := by
    unfold ffill
    rw [if_neg h.2, ← h.1, flat_rep]
  rw [this]; exact hI
theorem own_ne {d : Addr} {o : Obj} {rest own : List (Addr × Obj)} (h1 : ∀ p ∈ rest, @LT.lt Nat _ p.1 d) (h2 : OwnOff own (((d, o) :: rest).map (·.1))) : ∀ p ∈ rest ++ own, p.1 ≠ d := fun p hp =>
  (List.mem_append.mp hp).elim (fun q => Nat.ne_of_lt (h1 p q)) fun q => h2 p q d (.head _)
theorem allLt_left {a : Addr} {l r : List (Addr × Obj)} (h : AllLt a (l ++ r)) : AllLt a l := by
  induction l with
  | nil => trivial
  | cons q l ih => exact ⟨h.1, ih h.2⟩
theorem ff_mem2 {a b c e : Addr × Obj} {l : List (Addr × Obj)} : ∀ p ∈ a :: l, p ∈ a :: b :: c :: e :: l := fun p hp => by
  rcases List.mem_cons.mp hp with rfl | hp
  · exact .head _
  · exact .tail _ (.tail _ (.tail _ (.tail _ hp)))
theorem ffilled_raw {b : List Int} {t ts : Tok} {size : Int} (rest : List (Addr × Obj)) (hb : KBa.In b) (hl : b.length ≤ 20) (hs : size = 3 ∨ size = 8) : Does 28 [.bytes (byteArr b) t, .int size ts] rest 4 (fun v nw => ∃ r vs k, v = .ref r ∧ IntsAre vs (ffill b size.toNat) ∧ AllLt r rest ∧ nw = (r, listOf (List.toArray vs) k) :: rest) := by
  k_with_none
  w_top off
  k_with "call ref" => first | (k_here; (with_reducible show wpAny _ _ (call (Value.ref 21) _) _ _ _); k_dflt (
  (refine' use10 ?q0k1 ?q0k2 ?q0k3 ?q0k4 ?q0k5 ?q0k6 (upper_ok _ ?q0t1 ?q0t2) ?q0k7 ?q0k8 ?_)
  (case q0k1 => k_asm)
  (case q0k2 => k_asm)
  (case q0k3 => k_asm)
  (case q0k4 => k_asm)
  (case q0t1 => omega)
  (case q0t2 => omega)
  (case q0k5 => k_asm)
  (case q0k6 => first | exact rfl | assumption)
  (case q0k7 => ktr_room)
  (case q0k8 => ktr_units)
  intro t' h' tk' F' N'
  (try k_sweep); (try dsimp only); (try k_fold)))
  k_with "k_all" => first | (first | assumption | exact own_ne (by assumption) (by assumption))
  k_with "InvEndN" => first | (k_dflt ((
  (rename News _ _ _ _ => nE')
  (try simp only [List.push_toArray] at nE')
  (refine' kst_end (_, _, _) ?q2eF nE' ?q2eS ?q2eO ?q2eH ?q2eA ?q2eK ?q2eR ?q2eP)
  (case q2eF => k_asm)
  (case q2eK => kst_all)
  (case q2eS => (dsimp only; (refine List.forall_mem_cons.mpr ⟨?q2s1, ?q2s2⟩); (case q2s1 => exact .head _); (case q2s2 => exact fun p hp => .tail _ (List.mem_append_left _ hp))))
  (case q2eO => exact fun p hp => .tail _ (List.mem_append_right _ hp))
  (case q2eA => exact IntsAre.append (by assumption) (.cons _ _ .nil))
  (case q2eR => kst_same)
  (case q2eP => exact ff_step (by assumption) (by assumption))
  (case q2eH => exact rfl))))
  unfold Does; k_fill
  intro w p loose mean mg mb dp un gd cn cs a ccd cl outer A₀ base h₀ L m s Q E B F X N T hk hd hu hret
  refine wpAny_call ?_
  k_dflt ktr_enter
  k_with "pyIter bytes" => (
  k_here
  (rename Fr _ _ _ _ => lF')
  (rename News _ _ _ _ => lN')
  k_dflt (
  (refine' KStb.kst_bytes (σ := List Value × List Int × Nat) (fun c => (_, listOf (List.toArray c.1) c.2.2) :: rest) (fun c => [(Str.ofString "found", Value.ref _)]) (fun c => IntsAre c.1 c.2.1) [] (fun pre c => c.2.1 = pre.map up ∧ 42 ∉ pre) ([], [], 0) (KBa.ints_make hb) rfl ?kbh lF' lN' ?kbf ?kbk ?kbp ?kbturn ?kbdone)
  (case kbh => exact rfl)
  (case kbf => exact .nil)
  (case kbk => kst_all)
  (case kbp => exact ⟨rfl, fun h => nomatch h⟩)
  (case' kbturn =>
    (intro c pre post n t u h tk own hE hlt h0 h256 hoff hF hP FF NN)
    (obtain ⟨vl, il, fn⟩ := c)
    (dsimp only at hF hP NN)
    (dsimp only [kstB] at FF)
    (try simp only [List.cons_append, List.nil_append] at NN)
    (have hlen := IntsAre.length hF)
    (have hsz9 := congrArg List.length hE)
    (have hsz8 := congrArg List.length hP.1)
    (simp only [List.length_append, List.length_cons, List.length_map] at hsz9 hsz8))
  (case' kbdone =>
    (intro c u h tk hlen0 hF hP FF NN)
    (obtain ⟨vl, il, fn⟩ := c)
    (dsimp only at hF hP NN)
    (dsimp only [kstB] at FF)
    (have hlen := IntsAre.length hF)
    (have hsz8 := congrArg List.length hP.1)
    (simp only [List.length_map] at hsz8))
  (all_goals (try k_fold))))
  k_steps
  · exact hret _ _ _ _ ⟨_, _, _, rfl, ffill_no hP (by assumption), And.right (And.right (And.right (And.right (by assumption)))), rfl⟩ (by k_asm) (cb_drop (by assumption) (List.forall_mem_cons.mpr ⟨by k_mem, fun p hp => by repeat (first | exact hp | refine List.mem_cons_of_mem _ ?_)⟩))
  · exact hret _ _ _ _ ⟨_, _, _, rfl, ffill_star hE (by assumption) hP (by assumption), allLt_left (And.right (And.right (And.right (And.right (by assumption))))), rfl⟩ (by k_asm) (cb_drop (by assumption) (List.forall_mem_cons.mpr ⟨by k_mem, fun p hp => by repeat (first | exact List.mem_append_left _ hp | refine List.mem_cons_of_mem _ ?_)⟩))
end NZ
end PNFFill

section PNBy
open PySem PySem.W PyProof.Rows PySem.Calls PySem.Builtin PySem.SeqAt
set_option maxRecDepth 100000
set_option maxHeartbeats 2000000
namespace NZ
theorem byteArr_app (a b : List Int) : byteArr a ++ byteArr b = byteArr (a ++ b) := by unfold byteArr; simp
theorem in_app {a b : List Int} (ha : KBa.In a) (hb : KBa.In b) : KBa.In (a ++ b) := fun c h => (List.mem_append.mp h).elim (ha c) (hb c)
theorem byteArr_toList (l : List Int) : (byteArr l).toList = l.map fun n => n.toNat.toUInt8 := rfl
theorem picked_to (l : List Int) (n : Nat) : KBy.picked (byteArr l) none (some (n : Int)) = byteArr (l.take n) := by
  rw [KBc.picked_eq]
  simp only [Option.elim, List.drop_zero, Nat.sub_zero, clipAt_nat, byteArr_toList, byteArr_size]
  unfold byteArr
  rw [List.map_take]
  congr 1
  by_cases h : n ≤ l.length
  · rw [Nat.min_eq_left h]
  · rw [Nat.min_eq_right (by omega), List.take_of_length_le (by simp), List.take_of_length_le (by simp; omega)]
theorem picked_from (l : List Int) (n : Nat) : KBy.picked (byteArr l) (some (n : Int)) none = byteArr (l.drop n) := by
  rw [KBc.picked_eq]
  simp only [Option.elim, clipAt_nat, byteArr_toList, byteArr_size]
  unfold byteArr
  rw [List.map_drop]
  congr 1
  rw [List.take_of_length_le (by simp)]
  by_cases h : n ≤ l.length
  · rw [Nat.min_eq_left h]
  · rw [Nat.min_eq_right (by omega), List.drop_of_length_le (by simp), List.drop_of_length_le (by simp; omega)]
section
variable {prog : Program} {w : World} {A : Around} {E : Value → Shared → Prop} {s : Shared}
theorem add_bytes {a b : List Int} {x y : Array UInt8} {t u : Tok} {Q : Value → Shared → Prop} (ex : x = byteArr a) (ey : y = byteArr b) (ha : KBa.In a) (hb : KBa.In b) (hn : a.length + b.length ≤ 1000) (h : ∀ t' k, Q (.bytes (byteArr (a ++ b)) t') { s with toks := k }) :
    wpAny (model prog w) A (binaryOp .Add (.bytes x t) (.bytes y u)) Q E s := by
  subst ex ey
  refine KBa.add_K (KBa.ints_make ha) (KBa.ints_make hb) (by omega) fun t' k _ => ?_
  rw [byteArr_app]
  exact h t' k
theorem len_bytesI {a : List Int} {t : Tok} {Q : Value → Shared → Prop} (ha : KBa.In a) (hn : a.length ≤ 1000) (h : Q (.int (a.length : Nat) (s.toks + 1)) { s with toks := s.toks + 1 + 1 }) : wpAny (model prog w) A (call (.builtin "len") [.bytes (byteArr a) t]) Q E s :=
  KBw.len_K (KBa.ints_make ha) (by omega) h
theorem index_ints {l : Addr} {vs : List Value} {ns : List Int} {k : Int} {t : Tok} {Q : Value → Shared → Prop} (hl : s.heap.IsList l vs.toArray) (hi : IntsAre vs ns)
    (hn : ns.length ≤ 1000) (hk : k ∈ ns) (h : Q (.int (ns.idxOf k : Nat) s.toks) { s with toks := s.toks + 1 }) :
    wpAny (model prog w) A (call (.builtin "list.index") [.ref l, .int k t]) Q E s := by
  obtain ⟨⟨cls, dd, data, sl⟩, ho, hc, n, hd⟩ := id hl
  simp only at hc hd
  subst hc hd
  have hlen := hi.length
  have hj : ns.idxOf k < ns.length := List.idxOf_lt_length_iff.mpr hk
  refine call_meets PySem.F.slot_list_index ⟨_, ho, rfl⟩ PySem.F.entry_list_index (PySem.F.args_list_index_2 _ _)
    (list_indexAt l vs.toArray n dd sl (.int k t) (isInt k) (ns.idxOf k) (by simpa [hlen] using hj) (by omega) ?_ ?_) ⟨ho, fun y hy => (eq_isInt k t hi y (by simpa using hy)).at _ _, h⟩
  · show isInt k vs[ns.idxOf k] = true
    rw [isInt_at k hi _ (by omega) hj]
    simpa using List.getElem_idxOf hj
  · intro j hjs hlt
    show isInt k vs[j] = false
    rw [isInt_at k hi j (by simpa using hjs) (by omega)]
    exact ne_of_lt_idxOf hlt _
end
section
variable {prog : Program} {w : World} {A : Around} {E : Value → Shared → Prop} {s : Shared} {value slice : PySem.Expr} {t : Tok} {h₀ : Heap} {L : Addr} {m : PySem.Str → Option Value} {news : List (Addr × Obj)} {Q : Value → Shared → Prop} {l : List Int} {i : Int} {u : Tok}
theorem cut_to (hF : Fr h₀ L s.heap m) (hN : News h₀ L s.heap news) (hl : KBa.In l) (hn : l.length ≤ 1000) (h0 : 0 ≤ i)
    (h : ∀ h' t' k, Fr h₀ L h' m → News h₀ L h' news → Q (.bytes (byteArr (l.take i.toNat)) t') { s with heap := h', toks := k })
    (hs : subscripted slice false (.bytes (byteArr l) t) (.ref s.heap.objs.size) = operate [.ref s.heap.objs.size, .bytes (byteArr l) t] (getItem (.bytes (byteArr l) t) (.ref s.heap.objs.size)) := by with_unfolding_all rfl)
    (ht : ∀ r, letTemporaryGo value (.bytes (byteArr l) t) r = pure () := by intro _; with_unfolding_all rfl) :
    wpAny (model prog w) A (subscriptTail value slice (.bytes (byteArr l) t) (.ref s.heap.objs.size)) Q E { s with heap := s.heap.push { cls := .type "slice", data := .fields #[.none, .int i u, .none] } } :=
  KBc.slice_K hF hN (KBa.ints_make hl) .none (.int i u) (by omega) (fun h' t' k F' N' _ => by
    obtain ⟨n, rfl⟩ : ∃ n : Nat, i = n := ⟨i.toNat, by omega⟩
    rw [picked_to]
    exact h h' t' k F' N') hs ht
theorem cut_from (hF : Fr h₀ L s.heap m) (hN : News h₀ L s.heap news) (hl : KBa.In l) (hn : l.length ≤ 1000) (h0 : 0 ≤ i)
    (h : ∀ h' t' k, Fr h₀ L h' m → News h₀ L h' news → Q (.bytes (byteArr (l.drop i.toNat)) t') { s with heap := h', toks := k })
    (hs : subscripted slice false (.bytes (byteArr l) t) (.ref s.heap.objs.size) = operate [.ref s.heap.objs.size, .bytes (byteArr l) t] (getItem (.bytes (byteArr l) t) (.ref s.heap.objs.size)) := by with_unfolding_all rfl)
    (ht : ∀ r, letTemporaryGo value (.bytes (byteArr l) t) r = pure () := by intro _; with_unfolding_all rfl) :
    wpAny (model prog w) A (subscriptTail value slice (.bytes (byteArr l) t) (.ref s.heap.objs.size)) Q E { s with heap := s.heap.push { cls := .type "slice", data := .fields #[.int i u, .none, .none] } } :=
  KBc.slice_K hF hN (KBa.ints_make hl) (.int i u) .none (by omega) (fun h' t' k F' N' _ => by
    obtain ⟨n, rfl⟩ : ∃ n : Nat, i = n := ⟨i.toNat, by omega⟩
    rw [picked_from]
    exact h h' t' k F' N') hs ht
end
end NZ
end PNBy

section PNParse
open PySem PySem.W PyProof.Rows PySem.Calls
set_option maxRecDepth 100000
set_option maxHeartbeats 3000000
namespace NZ
theorem take_in {b : List Int} (h : KBa.In b) (n : Nat) : KBa.In (b.take n) := fun c hc => h c (List.mem_of_mem_take hc)
theorem drop_in {b : List Int} (h : KBa.In b) (n : Nat) : KBa.In (b.drop n) := fun c hc => h c (List.mem_of_mem_drop hc)
theorem any_mem {b : List Int} (h : (b.any fun x => x == 46) = true) : 46 ∈ b := by
  obtain ⟨x, hx, e⟩ := List.any_eq_true.mp h
  rw [← eq_of_beq e]; exact hx
theorem ffill_len (b : List Int) (n : Nat) : (ffill b n).length = n := by
  unfold ffill
  split <;> simp
/-- what files.parse_name makes of a text -/
def parseF (b : List Int) : List Int := ffill (b.takeWhile fun c => decide (c ≠ 46)) 8 ++ ffill ((b.dropWhile fun c => decide (c ≠ 46)).drop 1) 3
theorem tw_idx : ∀ b : List Int, b.takeWhile (fun c => decide (c ≠ 46)) = b.take (b.idxOf 46) ∧ b.dropWhile (fun c => decide (c ≠ 46)) = b.drop (b.idxOf 46)
  | [] => ⟨rfl, rfl⟩
  | c :: r => by
    have ih := tw_idx r
    by_cases h : c = 46
    · subst h; simp
    · have e : (c :: r).idxOf 46 = r.idxOf 46 + 1 := by
        rw [List.idxOf_cons]
        have : (c == 46) = false := beq_eq_false_iff_ne.mpr h
        simp [this]
      rw [e, List.take_succ_cons, List.drop_succ_cons, ← ih.1, ← ih.2]
      simp [h]
theorem parse1 {b : List Int} {ws : List Value} (_h : (b.any fun x => x == 46) = true) (hI : IntsAre ws (ffill (b.take ((b.idxOf 46 : Nat) : Int).toNat) (Int.toNat 8) ++ ffill (b.drop (((b.idxOf 46 : Nat) : Int) + 1).toNat) (Int.toNat 3))) : IntsAre ws (parseF b) := by
  unfold parseF
  rw [(tw_idx b).1, (tw_idx b).2, List.drop_drop]
  have e : (((b.idxOf 46 : Nat) : Int) + 1).toNat = b.idxOf 46 + 1 := by omega
  rw [e] at hI
  exact hI
theorem parse2 {b : List Int} {ws : List Value} (h : (b.any fun x => x == 46) = false) (hI : IntsAre ws (ffill (b.take (b.length : Int).toNat) (Int.toNat 8) ++ ffill (b.drop ((b.length : Int) + 1).toNat) (Int.toNat 3))) : IntsAre ws (parseF b) := by
  have hn : ∀ c ∈ b, decide (c ≠ 46) = true := fun c hc => by
    have := List.any_eq_false.mp h c hc
    simpa using this
  have e : ((b.length : Int) + 1).toNat = b.length + 1 := by omega
  rw [e, List.drop_of_length_le (by omega), Int.toNat_natCast, List.take_length] at hI
  have e1 : b.takeWhile (fun c => decide (c ≠ 46)) = b := by
    rw [← List.append_nil b, List.takeWhile_append_of_pos (by simpa using hn)]
    simp
  have e2 : b.dropWhile (fun c => decide (c ≠ 46)) = [] := by
    have := List.takeWhile_append_dropWhile (p := fun c : Int => decide (c ≠ 46)) (l := b)
    rw [e1] at this
    exact List.append_right_eq_self.mp this
  unfold parseF
  rw [e1, e2]
  exact hI
theorem parse_raw {b : List Int} {t : Tok} (rest : List (Addr × Obj)) (hb : KBa.In b) (hl : b.length ≤ 12) : Does 35 [.bytes (byteArr b) t] rest 8 (fun v nw => ∃ r vs k, v = .ref r ∧ IntsAre vs (parseF b) ∧ AllLt r rest ∧ nw = (r, listOf (List.toArray vs) k) :: rest) := by
  k_with_none
  w_top off
  k_with "call ref" => first | (k_here; (with_reducible show wpAny _ _ (call (Value.ref 28) _) _ _ _); k_dflt (
  (refine' use32 ?q0k1 ?q0k2 ?q0k3 ?q0k4 ?q0k5 ?q0k6 (ffilled_raw _ ?q0t1 ?q0t2 ?q0t3) ?q0k7 ?q0k8 ?_)
  (case q0k1 => k_asm)
  (case q0k2 => k_asm)
  (case q0k3 => k_asm)
  (case q0k4 => k_asm)
  (case q0t1 => first | assumption | exact take_in (by assumption) _ | exact drop_in (by assumption) _)
  (case q0t2 => first | omega | (simp only [List.length_take, List.length_drop]; omega))
  (case q0t3 => first | exact .inl rfl | exact .inr rfl)
  (case q0k5 => k_asm)
  (case q0k6 => first | exact rfl | assumption)
  (case q0k7 => ktr_room)
  (case q0k8 => ktr_units)
  intro r' vs' k' hI' l1 h' tk' F' N'
  (try simp only [AllLt, and_true] at l1)
  (try k_sweep); (try dsimp only); (try k_fold)))
  k_with "call type:list" => first | (
  k_here
  (with_reducible show wpAny _ _ (call (Value.type _) [Value.bytes _ _]) _ _ _)
  k_dflt (
    (refine' list_bytes ?q1b ?q1n ?q1h ?q1F ?q1N ?_)
    (case q1b => exact KBa.ints_make (by assumption))
    (case q1n => omega)
    (case q1h => exact rfl)
    (case q1F => k_asm)
    (case q1N => k_asm)
    intro r' h' tk' vs' c' F' N' hI' l1
    (try k_lt l1)
    (try k_sweep)))
  k_with "subscriptTail" => first | (k_here; (with_reducible show wpAny _ _ (subscriptTail _ (Expr.Slice _ _ none _) (Value.bytes (byteArr _) _) (Value.ref _)) _ _ _); (with_reducible rename Fr _ _ _ _ => F'); (with_reducible rename News _ _ _ _ => N'); k_dflt ((refine' cut_to (s := ⟨_, _, _, _, _⟩) F' N' ?q2a ?q2b ?q2c ?_); (case q2a => assumption); (case q2b => omega); (case q2c => omega)); intro h' t' k' F' N'; (try k_sweep))
  k_with "subscriptTail" => first | (k_here; (with_reducible show wpAny _ _ (subscriptTail _ (Expr.Slice _ _ none _) (Value.bytes (byteArr _) _) (Value.ref _)) _ _ _); (with_reducible rename Fr _ _ _ _ => F'); (with_reducible rename News _ _ _ _ => N'); k_dflt ((refine' cut_from (s := ⟨_, _, _, _, _⟩) F' N' ?q3a ?q3b ?q3c ?_); (case q3a => assumption); (case q3b => omega); (case q3c => omega)); intro h' t' k' F' N'; (try k_sweep))
  k_with "binaryOp Add ref ref" => first | (k_here; (with_reducible show wpAny _ _ (binaryOp _ (Value.ref _) (Value.ref _)) _ _ _); k_dflt (refine' kmk_add_ints ?q4F ?q4N ?q4a ?q4b ?q4i ?q4j ?_ ?q4z; (case q4F => k_asm); (case q4N => k_asm); (case q4a => exact News.isList (by k_asm) (by k_mem)); (case q4b => exact News.isList (by k_asm) (by k_mem)); (case q4i => assumption); (case q4j => assumption); (case q4z => ((try rw [ffill_len]); (try rw [ffill_len]); exact Nat.le_of_ble_eq_true rfl))); intro D' ws' h' F' N' l1 hI'; (try k_lt l1); (try k_sweep))
  k_with "call builtin:list.index" => first | (k_here; k_dflt ((refine' index_ints ?q5a ?q5b ?q5c ?q5d ?_); (case q5a => exact News.isList (by k_asm) (by k_mem)); (case q5b => assumption); (case q5c => omega); (case q5d => exact any_mem (by assumption))))
  unfold Does; k_fill
  intro w p loose mean mg mb dp un gd cn cs a ccd cl outer A₀ base h₀ L m s Q E B F X N T hk hd hu hret
  refine wpAny_call ?_
  k_dflt ktr_enter
  k_steps
  · exact hret _ _ _ _ ⟨_, _, _, rfl, parse1 (by assumption) (by assumption), And.right (And.right (And.right (And.right (by assumption)))), rfl⟩ (by k_asm) (cb_drop (by assumption) (List.forall_mem_cons.mpr ⟨by k_mem, fun p hp => by repeat (first | exact hp | refine List.mem_cons_of_mem _ ?_)⟩))
  · exact hret _ _ _ _ ⟨_, _, _, rfl, parse2 (by assumption) (by assumption), And.right (And.right (And.right (by assumption))), rfl⟩ (by k_asm) (cb_drop (by assumption) (List.forall_mem_cons.mpr ⟨by k_mem, fun p hp => by repeat (first | exact hp | refine List.mem_cons_of_mem _ ?_)⟩))
end NZ
end PNParse

section PNBare
open PySem PySem.W PyProof.Rows PySem.Calls
set_option maxRecDepth 100000
set_option maxHeartbeats 8000000
namespace NZ
theorem bare_raw {r : Addr} {vs : List Value} {ns : List Int} {k : Nat} (rest : List (Addr × Obj)) (hI : IntsAre vs ns) (hl : ns.length ≤ 1000) (hc : ∀ c ∈ ns, 0 ≤ c ∧ c < 256) : Does 45 [.ref r] ((r, listOf vs.toArray k) :: rest) 4 (fun v nw => ∃ d ys, v = .ref d ∧ IntsAre ys (ns.map fun c => Builtin.bitAnd c 127) ∧ LCg.Off1 d ((r, listOf vs.toArray k) :: rest) ∧ nw = (d, LCg.lst ys) :: (r, listOf vs.toArray k) :: rest) := by
  k_with_none
  w_top off
  k_with "eval ListComp" => first | (k_here; k_dflt (refine LCg.ListComp_U (F₀ := by k_asm) (by with_unfolding_all rfl) (by decide) (by rfl) (by decide) (by rfl) ?_))
  k_with "CompSrc" => first | (
  k_here
  k_dflt (
    (refine LCg.CompSrc.ledger (by rfl) (by k_asm) (by k_asm) (by k_mem) (by (rw [PySem.sizeLine_eq]; simp; (have hk9 := IntsAre.length (by assumption)); omega)) ?_)
    (intro g')
    (refine' kcf_list (fun c => Builtin.bitAnd c 127) (by assumption) (fun k' t' I' oI' C' oC' D' m' ys' h' tk' E' hk' hC' hx' F' N' off' ne' hMark' => ?_) ?_)
    (all_goals (try (simp only [LCg.Off3, and_true] at off')))
    kcf_last))
  unfold Does; k_fill
  intro w p loose mean mg mb dp un gd cn cs a ccd cl outer A₀ base h₀ L m s Q E B F X N T hk hd hu hret
  refine wpAny_call ?_
  k_dflt ktr_enter
  k_steps
  all_goals exact hret _ _ _ _ ⟨_, _, rfl, by assumption, by assumption, rfl⟩ (by k_asm) (by k_asm)
theorem bare_ok {r : Addr} {vs : List Value} {ns : List Int} {k : Nat} {news : List (Addr × Obj)} (hm : (r, listOf vs.toArray k) ∈ news) (hI : IntsAre vs ns) (hl : ns.length ≤ 1000) (hc : ∀ c ∈ ns, 0 ≤ c ∧ c < 256) :
    Does 45 [.ref r] news 4 (fun v nw => ∃ d ys, v = .ref d ∧ IntsAre ys (ns.map fun c => Builtin.bitAnd c 127) ∧ LCg.Off1 d news ∧ nw = (d, LCg.lst ys) :: news) :=
  does_mono (does_news (bare_raw news hI hl hc) (fun p hp => by
    rcases List.mem_cons.mp hp with rfl | hp
    · exact hm
    · exact hp)) (by
    rintro v nw ⟨d, ys, hv, hi, ho, rfl⟩
    exact ⟨_, ⟨d, ys, hv, hi, ho.2, rfl⟩, news_less⟩)
end NZ
end PNBare

section PNIsPlain
open PySem PySem.W PyProof.Rows PySem.Calls
set_option maxRecDepth 100000
set_option maxHeartbeats 8000000
namespace NZ
open PySem in
def odd : Array UInt8 := #[60, 62, 46, 44, 59, 58, 61, 63, 42, 91, 93]
theorem and127 : ∀ k : Int, 0 ≤ k → k < 256 → Builtin.bitAnd k 127 = k % 128 := by
  have h : ((List.range 256).all fun k => decide (Builtin.bitAnd (k : Int) 127 = (k : Int) % 128)) = true := by decide +kernel
  intro k h0 h1
  have := List.all_eq_true.mp h k.toNat (List.mem_range.mpr (by omega))
  have e : ((k.toNat : Nat) : Int) = k := by omega
  rw [e] at this
  simpa using this
theorem and127_lo {k : Int} (h0 : 0 ≤ k) (h1 : k < 256) : 0 ≤ Builtin.bitAnd k 127 := by rw [and127 k h0 h1]; omega
theorem and127_hi {k : Int} (h0 : 0 ≤ k) (h1 : k < 256) : Builtin.bitAnd k 127 < 256 := by rw [and127 k h0 h1]; omega
def plainSign (c : Int) : Bool := decide (31 < Builtin.bitAnd c 127) && !inB #[60, 62, 46, 44, 59, 58, 61, 63, 42, 91, 93] (Builtin.bitAnd c 127)
theorem plain_t {c : Int} (h : 31 < Builtin.bitAnd c 127) : (Value.bool (!inB #[60, 62, 46, 44, 59, 58, 61, 63, 42, 91, 93] (Builtin.bitAnd c 127))) = .bool (plainSign c) := by unfold plainSign; simp [h]
theorem plain_f {c : Int} (h : ¬ 31 < Builtin.bitAnd c 127) : Value.bool (decide (31 < Builtin.bitAnd c 127)) = .bool (plainSign c) := by unfold plainSign; simp [h]
section
variable {prog : Program} {w : World} {A : Around} {h₀ : Heap} {L : Addr} {m : Str → Option Value} {env : Env} {elt : Expr} {x : Str} {scope : Scope} {cl : List (Str × Addr)} {s : Shared} {S : List (Addr × Obj) → Prop} {Fin : List Value → List (Addr × Obj) → Prop} {news : List (Addr × Obj)}
theorem boolsAre_snoc : ∀ {ys : List Value} {bs : List Bool} (_h : LSm.BoolsAre ys bs) (b : Bool), LSm.BoolsAre (ys ++ [.bool b]) (bs ++ [b])
  | _, _, .nil, b => .cons b .nil
  | _, _, .cons c h, b => .cons c (boolsAre_snoc h b)
/-- a comprehension of bools over a list of ints -/
theorem bool_list {vs : List Value} {ns : List Int} (g : Int → Bool) (hi : IntsAre vs ns)
    (turn : ∀ k t ys I oI C oC D m₂ h tk (E' : Value → Shared → Prop), k ∈ ns → LCg.NsObj oC m₂ → m₂ x = some (.int k t) → Fr h₀ L h m → News h₀ L h ((I, oI) :: (C, oC) :: (D, LCg.lst ys) :: news) → LCg.Off3 I C D news → ((@Ne Nat I C) ∧ (@Ne Nat I D) ∧ (@Ne Nat C D)) →
      wpAny (model prog w) A (eval elt (compEnvC scope cl C env)) (LCg.CompEnd h₀ L m { s with heap := h, toks := tk } I oI C oC D (LCg.lst ys) S (fun y news' => news' = news ∧ y = .bool (g k))) E' { s with heap := h, toks := tk })
    (fin : ∀ ys, LSm.BoolsAre ys (ns.map g) → Fin ys news) : LCg.CompRest prog w A h₀ L m env elt x scope cl s S (fun i v => vs.toArray[i]? = some v) Fin vs.toArray.size 0 [] news := by
  refine comp_still (fun i ys => LSm.BoolsAre ys ((ns.take i).map g)) .nil ?_ ?_
  · intro i v ys I oI C oC D m₂ h tk E' hi' hJ hP hC hx F N off ne
    obtain ⟨k, t, e, hk⟩ := IntsAre.at hi i v (by simpa using hP)
    subst e
    refine wpAny_mono (turn k t ys I oI C oC D m₂ h tk E' (List.mem_of_getElem? hk) hC hx F N off ne) (fun y s₂ hq => ?_) fun _ _ e => e
    obtain ⟨h', tk', nw, e, F', N', off', hS, hn, hy⟩ := hq
    refine ⟨h', tk', nw, e, F', N', off', hS, hn, ?_⟩
    rw [hy, List.take_add_one, hk]
    simpa using boolsAre_snoc hJ (g k)
  · intro ys hJ
    refine fin ys ?_
    rw [List.size_toArray, hi.length, List.take_length] at hJ
    exact hJ
end
theorem mem_lo {ns : List Int} {c : Int} (hc : ∀ c ∈ ns, 0 ≤ c ∧ c < 256) (h : c ∈ ns) : 0 ≤ Builtin.bitAnd c 127 := and127_lo (hc c h).1 (hc c h).2
theorem mem_hi {ns : List Int} {c : Int} (hc : ∀ c ∈ ns, 0 ≤ c ∧ c < 256) (h : c ∈ ns) : Builtin.bitAnd c 127 < 256 := and127_hi (hc c h).1 (hc c h).2
def isPlainB (ns : List Int) : Bool := if Builtin.bitAnd (ns.getD (Int.toNat 0) 0) 127 = 32 then false else (ns.map plainSign).all id
theorem isplain1 {ns : List Int} (h : Builtin.bitAnd (ns.getD (Int.toNat 0) 0) 127 = 32) : false = isPlainB ns := by unfold isPlainB; rw [if_pos h]
theorem isplain2 {ns : List Int} (h : Builtin.bitAnd (ns.getD (Int.toNat 0) 0) 127 ≠ 32) : (ns.map plainSign).all id = isPlainB ns := by unfold isPlainB; rw [if_neg h]
theorem isplain_raw {r : Addr} {vs : List Value} {ns : List Int} {k : Nat} (rest : List (Addr × Obj)) (hI : IntsAre vs ns) (hl : ns.length ≤ 1000) (hl11 : ns.length = 11) (hc : ∀ c ∈ ns, 0 ≤ c ∧ c < 256) : Does 40 [.ref r] ((r, listOf vs.toArray k) :: rest) 4 (fun v nw => v = .bool (isPlainB ns) ∧ nw = (r, listOf vs.toArray k) :: rest) := by
  k_with_none
  w_top off
  k_with "eval ListComp" => first | (k_here; k_dflt (refine LCg.ListComp_U (F₀ := by k_asm) (by with_unfolding_all rfl) (by decide) (by rfl) (by decide) (by rfl) ?_))
  k_with "CompSrc" => first | (
  k_here
  k_dflt (
    (refine LCg.CompSrc.ledger (by rfl) (by k_asm) (by k_asm) (by k_mem) (by (rw [PySem.sizeLine_eq]; simp; (have hk9 := IntsAre.length (by assumption)); omega)) ?_)
    (intro g')
    (refine' bool_list plainSign (by assumption) (fun k' t' ys' I' oI' C' oC' D' m' h' tk' E' hk' hC' hx' F' N' off' ne' => ?_) (fun ys' hB' => ?_))
    (all_goals (try (simp only [LCg.Off3, and_true] at off')))
    kcf_last))
  k_with "CompEnd" => first | (k_dflt (
  (refine' compEnd_ ?q2e1 ?q2e2 ?q2e4 ?q2e5 ⟨?q2e7, ?q2e8⟩)
  (case q2e1 => k_asm)
  (case q2e2 => k_asm)
  (case q2e7 => exact rfl)
  (case q2e4 => first | assumption | (simp only [LCg.Off3, and_true]; assumption))
  (case q2e5 => lcg_src)
  (case q2e8 => first | exact plain_t (by assumption) | exact plain_f (by assumption))))
  k_with "compareOp NotIn int bytes" => first | (k_here; k_dflt ((refine' notIn_bytes ?q3a ?q3b ?_); (case q3a => exact mem_lo (by assumption) (by assumption)); (case q3b => exact mem_hi (by assumption) (by assumption))))
  k_with "call builtin:all" => first | (k_here; (with_reducible show wpAny _ _ (call (Value.builtin "all") [Value.ref _]) _ _ _); k_dflt ((refine' LSm.all_bools ?q4F ?q4N ?q4h ?q4l ?q4b ?_); (case q4F => k_asm); (case q4N => k_asm); (case q4h => exact rfl); (case q4l => exact News.isList (by k_asm) (by k_mem)); (case q4b => assumption); intro h' tk' F' N'))
  unfold Does; k_fill
  intro w p loose mean mg mb dp un gd cn cs a ccd cl outer A₀ base h₀ L m s Q E B F X N T hk hd hu hret
  refine wpAny_call ?_
  k_dflt ktr_enter
  k_steps
  all_goals first
    | exact hret _ _ _ _ ⟨congrArg Value.bool (isplain1 (by assumption)), rfl⟩ (by k_asm) (cb_drop (by assumption) fun p hp => by repeat (first | exact hp | refine List.mem_cons_of_mem _ ?_))
    | exact hret _ _ _ _ ⟨congrArg Value.bool (isplain2 (by assumption)), rfl⟩ (by k_asm) (cb_drop (by assumption) fun p hp => by repeat (first | exact hp | refine List.mem_cons_of_mem _ ?_))
theorem isplain_ok {r : Addr} {vs : List Value} {ns : List Int} {k : Nat} {news : List (Addr × Obj)} (hm : (r, listOf vs.toArray k) ∈ news) (hI : IntsAre vs ns) (hl : ns.length ≤ 1000) (hl11 : ns.length = 11) (hc : ∀ c ∈ ns, 0 ≤ c ∧ c < 256) :
    Does 40 [.ref r] news 4 (fun v nw => v = .bool (isPlainB ns) ∧ nw = news) := does_read (isplain_raw news hI hl hl11 hc) hm
end NZ
end PNIsPlain

section PNShow
open PySem PySem.W PyProof.Rows PySem.Calls
set_option maxRecDepth 100000
set_option maxHeartbeats 3000000
namespace NZ
theorem bare_in {ns : List Int} (hc : ∀ c ∈ ns, 0 ≤ c ∧ c < 256) : ∀ c ∈ ns.map fun c => Builtin.bitAnd c 127, 0 ≤ c ∧ c < 256 := fun c h => by
  obtain ⟨a, ha, rfl⟩ := List.mem_map.mp h
  exact ⟨mem_lo hc ha, mem_hi hc ha⟩
theorem bare_len {ns : List Int} {n : Nat} (h : ns.length = n) : (ns.map fun c => Builtin.bitAnd c 127).length = n := by simpa using h
theorem rst_in {l : List Int} (h : KBa.In l) : KBa.In (rstripI l) := rstripI_in h
theorem rst_take (ns : List Int) (k : Nat) : (rstripI (ns.take k)).length ≤ ns.length := Nat.le_trans (rstripI_len _) (by simp; omega)
theorem rst_drop (ns : List Int) (k : Nat) : (rstripI (ns.drop k)).length ≤ ns.length := Nat.le_trans (rstripI_len _) (by simp)
theorem show_n1 {l : List Int} (h : l.length ≤ 100) : (rstripI (l.take 8)).length + ([46] : List Int).length ≤ 1000 := by have := rst_take l 8; simp only [List.length_cons, List.length_nil]; omega
theorem show_n2 {l : List Int} (h : l.length ≤ 100) : (rstripI (l.take 8) ++ [46]).length + (rstripI (l.drop 8)).length ≤ 1000 := by have := rst_take l 8; have := rst_drop l 8; simp only [List.length_append, List.length_cons, List.length_nil]; omega
theorem dot_in : KBa.In [46] := fun c h => by rw [List.mem_singleton.mp h]; decide
/-- what files.show_name makes of a name -/
def showF (ns : List Int) : List Int := if 0 < (rstripI ((ns.map fun c => Builtin.bitAnd c 127).drop 8)).length then rstripI ((ns.map fun c => Builtin.bitAnd c 127).take 8) ++ [46] ++ rstripI ((ns.map fun c => Builtin.bitAnd c 127).drop 8) else rstripI ((ns.map fun c => Builtin.bitAnd c 127).take 8)
theorem show1 {ns : List Int} (h : (0 : Int) < ((rstripI ((ns.map fun c => Builtin.bitAnd c 127).drop 8)).length : Nat)) : rstripI ((ns.map fun c => Builtin.bitAnd c 127).take 8) ++ [46] ++ rstripI ((ns.map fun c => Builtin.bitAnd c 127).drop 8) = showF ns := by unfold showF; rw [if_pos (by omega)]
theorem show2 {ns : List Int} (h : ¬ (0 : Int) < ((rstripI ((ns.map fun c => Builtin.bitAnd c 127).drop 8)).length : Nat)) : rstripI ((ns.map fun c => Builtin.bitAnd c 127).take 8) = showF ns := by unfold showF; rw [if_neg (by omega)]
theorem show_raw {r : Addr} {vs : List Value} {ns : List Int} {k : Nat} (rest : List (Addr × Obj)) (hI : IntsAre vs ns) (hl : ns.length ≤ 1000) (hl11 : ns.length = 11) (hc : ∀ c ∈ ns, 0 ≤ c ∧ c < 256) : Does 52 [.ref r] ((r, listOf vs.toArray k) :: rest) 8 (fun v nw => ∃ t, v = .bytes (byteArr (showF ns)) t ∧ nw = (r, listOf vs.toArray k) :: rest) := by
  k_with_none
  w_top off
  k_with "call ref" => first | (k_here; (with_reducible show wpAny _ _ (call (Value.ref 45) _) _ _ _); k_dflt (
  (refine' use22 ?q0k1 ?q0k2 ?q0k3 ?q0k4 ?q0k5 ?q0k6 (bare_ok ?q0t1 ?q0t2 ?q0t3 ?q0t4) ?q0k7 ?q0k8 ?_)
  (case q0k1 => k_asm)
  (case q0k2 => k_asm)
  (case q0k3 => k_asm)
  (case q0k4 => k_asm)
  (case q0t1 => k_mem)
  (case q0t2 => k_asm)
  (case q0t3 => omega)
  (case q0t4 => assumption)
  (case q0k5 => k_asm)
  (case q0k6 => first | exact rfl | assumption)
  (case q0k7 => ktr_room)
  (case q0k8 => ktr_units)
  intro d' ys' hI' hO' h' tk' F' N'
  (have hB' := bare_in (by assumption)); (have hBl' := bare_len (by assumption)); (simp only [LCg.Off1, and_true] at hO')
  (all_goals (try k_sweep)); (all_goals (try dsimp only)); (all_goals (try k_fold))))
  k_with "getMethod bytes" => first | (k_here; (with_reducible refine gm_rstrip ?_))
  k_with "call builtin:bytes.rstrip" => first | (k_here; k_dflt ((refine' rstrip_ints ?q2y ?q2z ?_); (case q2y => first | exact in_take (by assumption) _ | exact in_drop (by assumption) _); (case q2z => (simp; omega)); intro t' k'))
  k_with "call type:bytes" => first | (
  k_here
  (with_reducible show wpAny _ _ (call (Value.type _) [Value.ref _]) _ _ _)
  k_dflt (
    (refine' KBa.make_K ?q3F ?q3N ?q3h ?q3l ?q3i ?q3r ?q3n ?_)
    (case q3F => k_asm)
    (case q3N => k_asm)
    (case q3h => exact rfl)
    (case q3l => exact News.isList (by k_asm) (by k_mem))
    (case q3i => assumption)
    (case q3r => first | exact in_take (by assumption) _ | exact in_drop (by assumption) _)
    (case q3n => (simp; omega))
    intro h' t' k' F' N' hIn'))
  k_with "call builtin:len" => first | (k_here; (with_reducible show wpAny _ _ (call (Value.builtin "len") [Value.bytes (byteArr _) _]) _ _ _); k_dflt ((refine' len_bytesI ?q4a ?q4b ?_); (case q4a => exact rst_in (by assumption)); (case q4b => (refine Nat.le_trans (rst_drop _ _) ?_; omega))))
  k_with "binaryOp Add bytes bytes" => first | (k_here; (with_reducible show wpAny _ _ (binaryOp Operator.Add (Value.bytes _ _) (Value.bytes _ _)) _ _ _); k_dflt ((refine' add_bytes ?q5ex ?q5ey ?q5a ?q5b ?q5n ?_); (case q5ex => with_reducible exact rfl); (case q5ey => first | with_reducible exact rfl | (show (#[46] : Array UInt8) = byteArr [46]; decide +kernel)); (case q5a => first | exact rst_in (by assumption) | exact in_app (rst_in (by assumption)) dot_in); (case q5b => first | exact dot_in | exact rst_in (by assumption)); (case q5n => first | exact show_n1 (by omega) | exact show_n2 (by omega)); intro t' k'))
  unfold Does; k_fill
  intro w p loose mean mg mb dp un gd cn cs a ccd cl outer A₀ base h₀ L m s Q E B F X N T hk hd hu hret
  refine wpAny_call ?_
  k_dflt ktr_enter
  k_steps
  · exact hret _ _ _ _ ⟨_, congrArg (fun z => Value.bytes (byteArr z) _) (show1 (by omega)), rfl⟩ (by k_asm) (cb_drop (by assumption) fun p hp => by repeat (first | exact hp | refine List.mem_cons_of_mem _ ?_))
  · exact hret _ _ _ _ ⟨_, congrArg (fun z => Value.bytes (byteArr z) _) (show2 (by omega)), rfl⟩ (by k_asm) (cb_drop (by assumption) fun p hp => by repeat (first | exact hp | refine List.mem_cons_of_mem _ ?_))
theorem show_ok {r : Addr} {vs : List Value} {ns : List Int} {k : Nat} {news : List (Addr × Obj)} (hm : (r, listOf vs.toArray k) ∈ news) (hI : IntsAre vs ns) (hl : ns.length ≤ 1000) (hl11 : ns.length = 11) (hc : ∀ c ∈ ns, 0 ≤ c ∧ c < 256) :
    Does 52 [.ref r] news 8 (fun v nw => (∃ t, v = .bytes (byteArr (showF ns)) t) ∧ nw = news) :=
  does_read (does_mono (show_raw news hI hl hl11 hc) (by
    rintro v nw ⟨t, hv, rfl⟩
    exact ⟨_, ⟨⟨t, hv⟩, rfl⟩, fun p hp => hp⟩)) hm
end NZ
end PNShow

section PNZip
open PySem PySem.W PyProof.Rows PySem.Calls PyProof.Rows.LCg
set_option maxRecDepth 100000
set_option maxHeartbeats 2000000
namespace NZ
theorem fr_wr {h₀ h h' : Heap} {L : Addr} {wr : List Addr} {m : Str → Option Value} (F : Fr h₀ L h m) (hk : ∀ b o, b ∉ wr → h.get? b = some o → h'.get? b = some o) (hw : ∀ b ∈ wr, L ≠ b ∧ h₀.get? b = none) : Fr h₀ L h' m :=
  ⟨F.ns.at' fun o e => hk L o (fun hm => (hw _ hm).1 rfl) e, fun b o e => hk b o (fun hm => by rw [(hw _ hm).2] at e; cases e) (F.keep b o e), F.above⟩
theorem news_wr {h₀ h h' : Heap} {L : Addr} {wr : List Addr} {news : List (Addr × Obj)} (N : News h₀ L h news) (hk : ∀ b o, b ∉ wr → h.get? b = some o → h'.get? b = some o) (off : ∀ p ∈ news, p.1 ∉ wr) : News h₀ L h' news :=
  fun p hp => ⟨hk _ _ (off p hp) (N p hp).1, (N p hp).2⟩
/-- where a zip stands behind i turns -/
abbrev ZSt (z TI TO i1 i2 l1 l2 : Addr) (xs ys : Array Value) (i : Nat) (h : Heap) : Prop :=
  IsZip h z TI TO .none ∧ IsPair h TI (.ref i1) (.ref i2) ∧ (∃ a b, IsPair h TO a b) ∧ h.IsListIter i1 l1 i ∧ h.IsListIter i2 l2 i ∧ h.IsList l1 xs ∧ h.IsList l2 ys
/-- a place that is new to the call and none of the ledger's -/
structure ZNew (h₀ : Heap) (L : Addr) (news : List (Addr × Obj)) (b : Addr) : Prop where
  ne : L ≠ b
  no : h₀.get? b = none
  off : ∀ p ∈ news, p.1 ≠ b
section
variable {prog : Program} {w : World} {A : Around} {E₁ E₂ E₃ : Value → Shared → Prop} {h₀ : Heap} {L : Addr} {m : Str → Option Value} {env : Env}
theorem z_turn {x x₂ : Str} {px px₂ tp : Pos} {tk0} {scope : Scope} {cl : List (Str × Addr)} {s₀ : Shared} {z TI TO i1 i2 l1 l2 C D : Addr} {xs ys : Array Value} {news : List (Addr × Obj)} {i : Nat} {acc : List Value} {h' : Heap} {tk : Nat} {m' : Str → Option Value} {R B : Shared → Prop}
    (Ap : ZipApart z TI TO i1 i2 l1 l2) (hh : A.handled = none) (hkind : scope.kind = .function) (hx : scope.names.lookup x = some .local) (hx₂ : scope.names.lookup x₂ = some .local) (hxx : x ≠ x₂)
    (nz : ZNew h₀ L news z) (nTI : ZNew h₀ L news TI) (nTO : ZNew h₀ L news TO) (n1 : ZNew h₀ L news i1) (n2 : ZNew h₀ L news i2)
    (hCfp : ∀ b ∈ [z, TI, TO, i1, i2, l1, l2], b ≠ C) (hDfp : ∀ b ∈ [z, TI, TO, i1, i2, l1, l2], b ≠ D) (hCD : C ≠ D) (hCL : C ≠ L) (hC₀ : h₀.get? C = none) (offC : ∀ p ∈ news, p.1 ≠ C)
    (hi : i ≤ min xs.size ys.size) (hst : ZSt z TI TO i1 i2 l1 l2 xs ys i h') (F' : Fr h₀ L h' m) (hn' : h'.Ns C m') (N' : News h₀ L h' ((D, lst acc) :: news))
    (stop : i = min xs.size ys.size → ∀ h₂ tk₂, Fr h₀ L h₂ m → News h₀ L h₂ ((D, lst acc) :: news) → h₂.Ns C m' → R { s₀ with heap := h₂, toks := tk₂ })
    (go : i < min xs.size ys.size → ∀ v₁ v₂ oz oTI oTO o1 o2 oC m₂ h₃ tk₃, xs[i]? = some v₁ → ys[i]? = some v₂ → NsObj oC m₂ → m₂ x = some v₁ → m₂ x₂ = some v₂ → ZSt z TI TO i1 i2 l1 l2 xs ys (i + 1) h₃ → Fr h₀ L h₃ m →
      News h₀ L h₃ ((z, oz) :: (C, oC) :: (D, lst acc) :: (TI, oTI) :: (TO, oTO) :: (i1, o1) :: (i2, o2) :: news) → B { s₀ with heap := h₃, toks := tk₃ }) :
    wpAny (model prog w) A (pyNext (.ref z)) (fun r s₁ => match r with
      | none => R s₁
      | some v => wpAny (model prog w) A (letOwnedTupleGo (.Tuple [.Name x px, .Name x₂ px₂] tk0 tp) (.ref z) v) (fun _ s₁' => wpAny (model prog w) A (assign (.Tuple [.Name x px, .Name x₂ px₂] tk0 tp) (compEnvC scope cl C env) v) (fun _ s₂ => B s₂) E₁ s₁') E₂ s₁) E₃ { s₀ with heap := h', toks := tk } := by
  have W := WalksT.zip2 (prog := prog) (w := w) hh z TI TO i1 i2 l1 l2 Ap xs ys
  have hw : ∀ b ∈ [z, TO, i1, i2], L ≠ b ∧ h₀.get? b = none := by
    intro b hb
    simp only [List.mem_cons, List.not_mem_nil, or_false] at hb
    rcases hb with rfl | rfl | rfl | rfl
    · exact ⟨nz.ne, nz.no⟩
    · exact ⟨nTO.ne, nTO.no⟩
    · exact ⟨n1.ne, n1.no⟩
    · exact ⟨n2.ne, n2.no⟩
  have hoffD : D ∉ [z, TO, i1, i2] := by
    intro hb
    simp only [List.mem_cons, List.not_mem_nil, or_false] at hb
    rcases hb with e | e | e | e
    · exact hDfp z (by simp) e.symm
    · exact hDfp TO (by simp) e.symm
    · exact hDfp i1 (by simp) e.symm
    · exact hDfp i2 (by simp) e.symm
  have hoffC : C ∉ [z, TO, i1, i2] := by
    intro hb
    simp only [List.mem_cons, List.not_mem_nil, or_false] at hb
    rcases hb with e | e | e | e
    · exact hCfp z (by simp) e.symm
    · exact hCfp TO (by simp) e.symm
    · exact hCfp i1 (by simp) e.symm
    · exact hCfp i2 (by simp) e.symm
  have hoff : ∀ p ∈ (D, lst acc) :: news, p.1 ∉ [z, TO, i1, i2] := by
    intro p hp hb
    rcases List.mem_cons.mp hp with rfl | hp
    · exact hoffD hb
    · simp only [List.mem_cons, List.not_mem_nil, or_false] at hb
      rcases hb with e | e | e | e
      · exact nz.off p hp e
      · exact nTO.off p hp e
      · exact n1.off p hp e
      · exact n2.off p hp e
  by_cases hlt : i < min xs.size ys.size
  · refine W.item i _ _ _ hlt hst fun T vals h₂ tk₂ hPt _ hT hMid hk₂ => ?_
    obtain ⟨v₁, v₂, hv1, hv2, rfl⟩ := hPt
    refine W.go _ _ _ i T _ _ _ hMid fun h₄ hst₄ hk₄ => ?_
    have hTw : T ∉ [z, TO, i1, i2] := W.apart _ _ _ hMid
    obtain ⟨oT, eT, cT, nT, dT⟩ := hT
    have hT₄ : IsTup h₄ T #[v₁, v₂] := ⟨oT, hk₄ _ _ hTw eT, cT, nT, dT⟩
    have hk : ∀ b o, b ∉ [z, TO, i1, i2] → h'.get? b = some o → h₄.get? b = some o := fun b o hb e => hk₄ b o hb (hk₂ b o hb e)
    refine assign_Tuple_tuple hh hT₄ rfl rfl fun h₅ he => ?_
    have he' : ∀ b o, h₄.get? b = some o → h₅.get? b = some o := fun b o e => he b o (Nat.ne_of_lt (Heap.lt_size e)) e
    refine assignInOrder_cons (wpAny_assign_Name (wpAny_storeName_local (lookup_relabel_local hx) ((hn'.at' fun o e => hk _ o hoffC e).at' fun o e => he' _ o e) (fun h₆ hn₆ hs₆ => ?_) (by simp [compEnvC, relabel, hkind])))
    refine assignInOrder_cons (wpAny_assign_Name (wpAny_storeName_local (lookup_relabel_local hx₂) hn₆ (fun h₃ hn₃ hs₃ => ?_) (by simp [compEnvC, relabel, hkind])))
    refine assignInOrder_nil ?_
    have old3 : ∀ b o, b ≠ C → h₄.get? b = some o → h₃.get? b = some o := fun b o hb e => hs₃.extBut b o hb (hs₆.extBut b o hb (he' b o e))
    have hst₃ : ZSt z TI TO i1 i2 l1 l2 xs ys (i + 1) h₃ := W.frame _ _ _ hst₄ fun b hb o e => old3 b o (hCfp b hb) e
    obtain ⟨oC, heC, hoC⟩ := ns_obj hn₃
    have F₃ : Fr h₀ L h₃ m := (((fr_wr F' hk hw).keeps he').change hs₆ hCL hC₀).change hs₃ hCL hC₀
    have N₄ := news_wr N' hk hoff
    obtain ⟨ez, eTI, ⟨a, b, eTO⟩, ⟨o1, e1, r1⟩, ⟨o2, e2, r2⟩, hl1, hl2⟩ := hst₃
    obtain ⟨oz, eoz⟩ : ∃ oz, h₃.get? z = some oz := ⟨_, ez⟩
    obtain ⟨oTI, eoTI⟩ : ∃ oz, h₃.get? TI = some oz := ⟨_, eTI⟩
    obtain ⟨oTO, eoTO⟩ : ∃ oz, h₃.get? TO = some oz := ⟨_, eTO⟩
    refine go hlt v₁ v₂ oz oTI oTO o1 o2 oC _ h₃ _ hv1 hv2 hoC (by simp [hxx]) (by simp) ⟨ez, eTI, ⟨a, b, eTO⟩, ⟨o1, e1, r1⟩, ⟨o2, e2, r2⟩, hl1, hl2⟩ F₃ (fun p hp => ?_)
    have old : ∀ p ∈ (D, lst acc) :: news, h₃.get? p.1 = some p.2 ∧ p.1 ≠ L ∧ h₀.get? p.1 = none := fun p hp => ⟨old3 _ _ (by
      rcases List.mem_cons.mp hp with rfl | hp
      · exact Ne.symm hCD
      · exact offC p hp) (N₄ p hp).1, (N₄ p hp).2⟩
    simp only [List.mem_cons] at hp
    rcases hp with rfl | rfl | rfl | rfl | rfl | rfl | rfl | hp
    · exact ⟨eoz, Ne.symm nz.ne, nz.no⟩
    · exact ⟨heC, hCL, hC₀⟩
    · exact old _ (.head _)
    · exact ⟨eoTI, Ne.symm nTI.ne, nTI.no⟩
    · exact ⟨eoTO, Ne.symm nTO.ne, nTO.no⟩
    · exact ⟨e1, Ne.symm n1.ne, n1.no⟩
    · exact ⟨e2, Ne.symm n2.ne, n2.no⟩
    · exact old _ (.tail _ hp)
  · have e : i = min xs.size ys.size := Nat.le_antisymm hi (Nat.not_lt.mp hlt)
    rw [e] at hst
    refine W.done _ _ _ hst fun h₂ tk₂ hk₂ => ?_
    exact stop e h₂ tk₂ (fr_wr F' hk₂ hw) (news_wr N' hk₂ hoff) (hn'.at' fun o e => hk₂ _ o hoffC e)
end
/-- a turn of a comprehension over two lists abreast: what its element hands back -/
def ZTurn (prog : Program) (w : World) (A : Around) (h₀ : Heap) (L : Addr) (m : Str → Option Value) (env : Env) (elt : Expr) (x x₂ : Str) (scope : Scope) (cl : List (Str × Addr)) (s : Shared) (J : Nat → List Value → Prop) (xs ys : Array Value) : Prop :=
  ∀ i v₁ v₂ acc I oI C oC D ext m₂ h tk (E' : Value → Shared → Prop), i < min xs.size ys.size → xs[i]? = some v₁ → ys[i]? = some v₂ → J i acc → NsObj oC m₂ → m₂ x = some v₁ → m₂ x₂ = some v₂ → Fr h₀ L h m → News h₀ L h ((I, oI) :: (C, oC) :: (D, lst acc) :: ext) → Off3 I C D ext → ((@Ne Nat I C) ∧ (@Ne Nat I D) ∧ (@Ne Nat C D)) →
    wpAny (model prog w) A (eval elt (compEnvC scope cl C env)) (CompEnd h₀ L m { s with heap := h, toks := tk } I oI C oC D (lst acc) (fun _ => True) (fun y ext' => ext' = ext ∧ J (i + 1) (acc ++ [y]))) E' { s with heap := h, toks := tk }
/-- the same behind a test -/
def ZTurnT (prog : Program) (w : World) (A : Around) (h₀ : Heap) (L : Addr) (m : Str → Option Value) (env : Env) (ct elt : Expr) (x x₂ : Str) (scope : Scope) (cl : List (Str × Addr)) (s : Shared) (J : Nat → List Value → Prop) (xs ys : Array Value) : Prop :=
  ∀ i v₁ v₂ acc I oI C oC D ext m₂ h tk (E' : Value → Shared → Prop), i < min xs.size ys.size → xs[i]? = some v₁ → ys[i]? = some v₂ → J i acc → NsObj oC m₂ → m₂ x = some v₁ → m₂ x₂ = some v₂ → Fr h₀ L h m → News h₀ L h ((I, oI) :: (C, oC) :: (D, lst acc) :: ext) → Off3 I C D ext → ((@Ne Nat I C) ∧ (@Ne Nat I D) ∧ (@Ne Nat C D)) →
    wpAny (model prog w) A (isTrue ct (compEnvC scope cl C env) (eval ct (compEnvC scope cl C env))) (fun ok s' => if ok = true then
        wpAny (model prog w) A (eval elt (compEnvC scope cl C env)) (CompEnd h₀ L m { s with heap := h, toks := tk } I oI C oC D (lst acc) (fun _ => True) (fun y ext' => ext' = ext ∧ J (i + 1) (acc ++ [y]))) E' s'
        else CompEnd h₀ L m { s with heap := h, toks := tk } I oI C oC D (lst acc) (fun _ => True) (fun _ ext' => ext' = ext ∧ J (i + 1) acc) Value.none s') E' { s with heap := h, toks := tk }
section
variable {prog : Program} {w : World} {A : Around} {E : Value → Shared → Prop} {s : Shared} {h₀ : Heap} {L : Addr} {m : Str → Option Value} {env : Env}
/-- behind an element: the zip stands where it stood -/
theorem z_back (prog : Program) (w : World) {A : Around} {z TI TO i1 i2 l1 l2 C D : Addr} {xs ys : Array Value} {oz oC oTI oTO o1 o2 : Obj} {k1 k2 : Nat} {news : List (Addr × Obj)} {acc : List Value} {i : Nat} {h₃ h₄ : Heap} (hh : A.handled = none) (Ap : ZipApart z TI TO i1 i2 l1 l2)
    (hm1 : (l1, listOf xs k1) ∈ news) (hm2 : (l2, listOf ys k2) ∈ news) (st : ZSt z TI TO i1 i2 l1 l2 xs ys i h₃)
    (N₃ : News h₀ L h₃ ((z, oz) :: (C, oC) :: (D, lst acc) :: (TI, oTI) :: (TO, oTO) :: (i1, o1) :: (i2, o2) :: news)) (N₄ : News h₀ L h₄ ((z, oz) :: (C, oC) :: (D, lst acc) :: (TI, oTI) :: (TO, oTO) :: (i1, o1) :: (i2, o2) :: news)) : ZSt z TI TO i1 i2 l1 l2 xs ys i h₄ := by
  have W := WalksT.zip2 (prog := prog) (w := w) hh z TI TO i1 i2 l1 l2 Ap xs ys
  refine W.frame _ _ _ st fun b hb o e => ?_
  have key : ∀ ob, (b, ob) ∈ ((z, oz) :: (C, oC) :: (D, lst acc) :: (TI, oTI) :: (TO, oTO) :: (i1, o1) :: (i2, o2) :: news) → h₄.get? b = some o := fun ob hm => by
    have a := (N₃ _ hm).1
    rw [e] at a
    cases a
    exact (N₄ _ hm).1
  simp only [List.mem_cons, List.not_mem_nil, or_false] at hb
  rcases hb with rfl | rfl | rfl | rfl | rfl | rfl | rfl
  · exact key _ (.head _)
  · exact key _ (.tail _ (.tail _ (.tail _ (.head _))))
  · exact key _ (.tail _ (.tail _ (.tail _ (.tail _ (.head _)))))
  · exact key _ (.tail _ (.tail _ (.tail _ (.tail _ (.tail _ (.head _))))))
  · exact key _ (.tail _ (.tail _ (.tail _ (.tail _ (.tail _ (.tail _ (.head _)))))))
  · exact key _ (.tail _ (.tail _ (.tail _ (.tail _ (.tail _ (.tail _ (.tail _ hm1)))))))
  · exact key _ (.tail _ (.tail _ (.tail _ (.tail _ (.tail _ (.tail _ (.tail _ hm2)))))))
theorem block_Z {elt iter : Expr} {x x₂ : Str} {px px₂ tp : Pos} {tk0} {scope : Scope} {cl : List (Str × Addr)} {pos : Pos} {s₂ : Shared} {z TI TO i1 i2 l1 l2 : Addr} {xs ys : Array Value} {k1 k2 : Nat} {news : List (Addr × Obj)} {J : Nat → List Value → Prop} {RR : Value → Addr → Result → Shared → Prop}
    (Ap : ZipApart z TI TO i1 i2 l1 l2) (hh : A.handled = none) (hsz : min xs.size ys.size ≤ sizeLine)
    (hcell : ∀ y ∈ scope.names, y.2 ≠ .cell) (hkind : scope.kind = .function) (hx : scope.names.lookup x = some .local) (hx₂ : scope.names.lookup x₂ = some .local) (hxx : x ≠ x₂)
    (hst : ZSt z TI TO i1 i2 l1 l2 xs ys 0 s₂.heap) (F : Fr h₀ L s₂.heap m) (N : News h₀ L s₂.heap news) (hm1 : (l1, listOf xs k1) ∈ news) (hm2 : (l2, listOf ys k2) ∈ news)
    (nz : ZNew h₀ L news z) (nTI : ZNew h₀ L news TI) (nTO : ZNew h₀ L news TO) (n1 : ZNew h₀ L news i1) (n2 : ZNew h₀ L news i2) (j0 : J 0 [])
    (turn : ZTurn prog w A h₀ L m env elt x x₂ scope cl s₂ J xs ys)
    (hRR : ∀ D C h tk m' acc, Fr h₀ L h m → News h₀ L h ((D, lst acc) :: news) → Off1 D news → h.Ns C m' → h₀.get? C = none → h₀.get? D = none → C ≠ L → D ≠ L → C ≠ D → (∀ p ∈ news, p.1 ≠ C) → J (min xs.size ys.size) acc → RR (.ref D) C (.ok .next) { s₂ with heap := h, toks := tk }) :
    wpAny (model prog w) A (newList []) (fun acc s₃ => wpAny (model prog w) A (newFunctionEnv scope env.globals cl [] env.qual none .none (some env)) (fun cenv s₄ =>
      codeAny (model prog w) A (.compStart (.ListComp elt [⟨.Tuple [.Name x px, .Name x₂ px₂] tk0 tp, iter, [], 0⟩] scope pos) 0 (.ref z) acc { cenv with scope := relabel scope env }) (RR acc cenv.locals) s₄) E s₃) E s₂ := by
  refine wpAny_newObj_type (wpAny_newFunctionEnv hcell (by intro y hy; simp at hy) (fun h₁ hns₁ hsb₁ => ?_) hkind)
  dsimp only at hns₁ hsb₁ ⊢
  generalize hH2 : s₂.heap.push { cls := .type "list", dict := none, data := .seq ([] : List Value).toArray } = H2 at hns₁ hsb₁ ⊢
  have hC : H2.objs.size = s₂.heap.objs.size + 1 := by rw [← hH2, Heap.size_push]
  have hDC : s₂.heap.objs.size ≠ H2.objs.size := by rw [hC]; exact Nat.ne_of_lt (Nat.lt_succ_self _)
  have below : ∀ b, b < s₂.heap.objs.size → b ≠ H2.objs.size ∧ b ≠ s₂.heap.objs.size := fun b hb => ⟨by rw [hC]; exact Nat.ne_of_lt (Nat.lt_succ_of_lt hb), Nat.ne_of_lt hb⟩
  have hfp : ∀ b ∈ [z, TI, TO, i1, i2, l1, l2], b < s₂.heap.objs.size := by
    obtain ⟨ez, eTI, ⟨a, b, eTO⟩, ⟨o1, e1, _⟩, ⟨o2, e2, _⟩, ⟨o3, e3, _⟩, ⟨o4, e4, _⟩⟩ := hst
    intro b hb
    simp only [List.mem_cons, List.not_mem_nil, or_false] at hb
    rcases hb with rfl | rfl | rfl | rfl | rfl | rfl | rfl
    · exact Heap.lt_size ez
    · exact Heap.lt_size eTI
    · exact Heap.lt_size eTO
    · exact Heap.lt_size e1
    · exact Heap.lt_size e2
    · exact Heap.lt_size e3
    · exact Heap.lt_size e4
  have old : ∀ b o, s₂.heap.get? b = some o → h₁.get? b = some o := fun b o e => hsb₁.extBut b o (below b (Heap.lt_size e)).1 (Heap.get?_push_of_some _ (hH2 ▸ Heap.get?_push_of_some _ e))
  have hacc : h₁.get? s₂.heap.objs.size = some (lst []) := hsb₁.extBut _ _ hDC (Heap.get?_push_of_some _ (hH2 ▸ Heap.get?_push_size _ rfl))
  have W := WalksT.zip2 (prog := prog) (w := w) hh z TI TO i1 i2 l1 l2 Ap xs ys
  have hst₁ : ZSt z TI TO i1 i2 l1 l2 xs ys 0 h₁ := W.frame _ _ _ hst fun b _ o e => old b o e
  have fresh : ∀ a, s₂.heap.objs.size ≤ a → s₂.heap.get? a = none := fun a ha => by
    cases e : s₂.heap.get? a with
    | none => rfl
    | some o' => exact absurd (Heap.lt_size e) (Nat.not_lt.mpr ha)
  have fresh₀ : ∀ a, s₂.heap.objs.size ≤ a → h₀.get? a = none := fun a ha => by
    cases e : h₀.get? a with
    | none => rfl
    | some o' => have := F.keep a o' e; rw [fresh a ha] at this; cases this
  have hD₀ : h₀.get? s₂.heap.objs.size = none := fresh₀ _ (Nat.le_refl _)
  have hC₀ : h₀.get? H2.objs.size = none := fresh₀ _ (by rw [hC]; exact Nat.le_succ _)
  have hLlt : L < s₂.heap.objs.size := F.ns.lt
  have hDL : s₂.heap.objs.size ≠ L := Ne.symm (below L hLlt).2
  have hCL : H2.objs.size ≠ L := Ne.symm (below L hLlt).1
  have offC : ∀ p ∈ news, p.1 ≠ H2.objs.size := fun p hp => (below _ (Heap.lt_size (N p hp).1)).1
  have offD : ∀ p ∈ news, p.1 ≠ s₂.heap.objs.size := fun p hp => (below _ (Heap.lt_size (N p hp).1)).2
  have off1 : ∀ l : List (Addr × Obj), (∀ p ∈ l, p.1 ≠ s₂.heap.objs.size) → Off1 s₂.heap.objs.size l := fun l => by
    induction l with
    | nil => intro _; trivial
    | cons q r ih => intro h; exact ⟨h q (.head _), ih fun p hp => h p (.tail _ hp)⟩
  have loop : ∀ s₃ : Shared, s₃ = { s₂ with heap := h₁, toks := s₂.toks + ([] : List (Str × Value)).length } →
      codeAny (model prog w) A (.compLoop (.ListComp elt [⟨.Tuple [.Name x px, .Name x₂ px₂] tk0 tp, iter, [], 0⟩] scope pos) 0 (.ref z) (.ref s₂.heap.objs.size) (compEnvC scope cl H2.objs.size env))
        (RR (.ref s₂.heap.objs.size) H2.objs.size) s₃ := by
    rintro s₃ rfl
    refine LCp.codeAny_compLoop_pair
      (fun k s' => ∃ h' tk i acc m', s' = { s₂ with heap := h', toks := tk } ∧ i ≤ min xs.size ys.size ∧ k = min xs.size ys.size + 1 - i ∧ acc.length ≤ i ∧ ZSt z TI TO i1 i2 l1 l2 xs ys i h' ∧ Fr h₀ L h' m ∧ h'.Ns H2.objs.size m' ∧ News h₀ L h' ((s₂.heap.objs.size, lst acc) :: news) ∧ J i acc) ?_ (min xs.size ys.size + 1)
      ⟨h₁, _, 0, [], _, rfl, Nat.zero_le _, rfl, Nat.le_refl _, hst₁, F.keeps old, hns₁, fun p hp => ?_, j0⟩
    · rintro k s' ⟨h', tk, i, acc, m', rfl, hi, rfl, hyl, hst', F', hn', N', hJ⟩
      refine z_turn Ap hh hkind hx hx₂ hxx nz nTI nTO n1 n2 (fun b hb => (below b (hfp b hb)).1) (fun b hb => (below b (hfp b hb)).2) (Ne.symm hDC) hCL hC₀ offC hi hst' F' hn' N' (fun e h₂ tk₂ F₂ N₂ hn₂ => ?_) (fun hlt v₁ v₂ oz oTI oTO o1 o2 oC m₂ h₃ tk₃ hv1 hv2 hoC hm₁ hm₂ hst₃ F₃ N₃ => ?_)
      · rw [e] at hJ
        exact hRR _ _ h₂ tk₂ _ acc F₂ N₂ (off1 _ offD) hn₂ hC₀ hD₀ hCL hDL (Ne.symm hDC) offC hJ
      · have off3 : Off3 z H2.objs.size s₂.heap.objs.size ((TI, oTI) :: (TO, oTO) :: (i1, o1) :: (i2, o2) :: news) := by
          refine Off3.of fun p hp => ?_
          simp only [List.mem_cons] at hp
          rcases hp with rfl | rfl | rfl | rfl | hp
          · exact ⟨Ap.TIz, below _ (hfp _ (by simp))⟩
          · exact ⟨Ap.TOz, below _ (hfp _ (by simp))⟩
          · exact ⟨Ap.i1z, below _ (hfp _ (by simp))⟩
          · exact ⟨Ap.i2z, below _ (hfp _ (by simp))⟩
          · exact ⟨nz.off p hp, offC p hp, offD p hp⟩
        have hT := turn i v₁ v₂ acc z oz H2.objs.size oC s₂.heap.objs.size _ m₂ h₃ tk₃ (notedBy (model prog w) A (compEnvC scope cl H2.objs.size env) fun e s' => RR (.ref s₂.heap.objs.size) H2.objs.size (.error e) s') hlt hv1 hv2 hJ hoC hm₁ hm₂ F₃ N₃ off3 ⟨(below z (hfp z (by simp))).1, (below z (hfp z (by simp))).2, Ne.symm hDC⟩
        refine wpAny_mono hT (fun y s₄ h₅ => ?_) fun _ _ e => e
        obtain ⟨h₄, tk₄, news₄, rfl, F₄, N₄, off₄, _, rfl, hJ'⟩ := h₅
        have zC := (N₄ (H2.objs.size, oC) (.tail _ (.head _))).1
        have zD := (N₄ (s₂.heap.objs.size, lst acc) (.tail _ (.tail _ (.head _)))).1
        have Nn : News h₀ L h₄ news := fun p hp => N₄ p (.tail _ (.tail _ (.tail _ (.tail _ (.tail _ (.tail _ (.tail _ hp)))))))
        have hst₄ := z_back prog w hh Ap hm1 hm2 hst₃ N₃ N₄
        refine append_at (hsz := by show acc.toArray.size ≤ sizeLine; rw [List.size_toArray]; exact Nat.le_trans (Nat.le_trans hyl hi) hsz) zD fun h₅ hs₅ hD₅ => ?_
        refine ⟨min xs.size ys.size + 1 - (i + 1), by omega, h₅, tk₄, i + 1, acc ++ [y], _, rfl, hlt, rfl, by rw [List.length_append, List.length_singleton]; exact Nat.succ_le_succ hyl, W.frame _ _ _ hst₄ fun b hb o e => hs₅.extBut b o (below b (hfp b hb)).2 e, F₄.change hs₅ hDL hD₀, (hoC.ns zC).sameBut hs₅ (Ne.symm hDC), fun p hp => ?_, hJ'⟩
        rcases List.mem_cons.mp hp with rfl | hp
        · exact ⟨hD₅.trans (congrArg some (lst_snoc acc y)), hDL, hD₀⟩
        · exact ⟨hs₅.extBut _ _ (offD p hp) (Nn p hp).1, (Nn p hp).2⟩
    · rcases List.mem_cons.mp hp with rfl | hp
      · exact ⟨hacc, hDL, hD₀⟩
      · exact ⟨old _ _ (N p hp).1, (N p hp).2⟩
  exact codeAny_compStart_list (loop _ rfl) (W.self 0 _ _ _ hst₁ (loop _ rfl))
theorem block_ZT {ct elt iter : Expr} {x x₂ : Str} {px px₂ tp : Pos} {tk0} {scope : Scope} {cl : List (Str × Addr)} {pos : Pos} {s₂ : Shared} {z TI TO i1 i2 l1 l2 : Addr} {xs ys : Array Value} {k1 k2 : Nat} {news : List (Addr × Obj)} {J : Nat → List Value → Prop} {RR : Value → Addr → Result → Shared → Prop}
    (Ap : ZipApart z TI TO i1 i2 l1 l2) (hh : A.handled = none) (hsz : min xs.size ys.size ≤ sizeLine)
    (hcell : ∀ y ∈ scope.names, y.2 ≠ .cell) (hkind : scope.kind = .function) (hx : scope.names.lookup x = some .local) (hx₂ : scope.names.lookup x₂ = some .local) (hxx : x ≠ x₂)
    (hst : ZSt z TI TO i1 i2 l1 l2 xs ys 0 s₂.heap) (F : Fr h₀ L s₂.heap m) (N : News h₀ L s₂.heap news) (hm1 : (l1, listOf xs k1) ∈ news) (hm2 : (l2, listOf ys k2) ∈ news)
    (nz : ZNew h₀ L news z) (nTI : ZNew h₀ L news TI) (nTO : ZNew h₀ L news TO) (n1 : ZNew h₀ L news i1) (n2 : ZNew h₀ L news i2) (j0 : J 0 [])
    (turn : ZTurnT prog w A h₀ L m env ct elt x x₂ scope cl s₂ J xs ys)
    (hRR : ∀ D C h tk m' acc, Fr h₀ L h m → News h₀ L h ((D, lst acc) :: news) → Off1 D news → h.Ns C m' → h₀.get? C = none → h₀.get? D = none → C ≠ L → D ≠ L → C ≠ D → (∀ p ∈ news, p.1 ≠ C) → J (min xs.size ys.size) acc → RR (.ref D) C (.ok .next) { s₂ with heap := h, toks := tk }) :
    wpAny (model prog w) A (newList []) (fun acc s₃ => wpAny (model prog w) A (newFunctionEnv scope env.globals cl [] env.qual none .none (some env)) (fun cenv s₄ =>
      codeAny (model prog w) A (.compStart (.ListComp elt [⟨.Tuple [.Name x px, .Name x₂ px₂] tk0 tp, iter, [ct], 0⟩] scope pos) 0 (.ref z) acc { cenv with scope := relabel scope env }) (RR acc cenv.locals) s₄) E s₃) E s₂ := by
  refine wpAny_newObj_type (wpAny_newFunctionEnv hcell (by intro y hy; simp at hy) (fun h₁ hns₁ hsb₁ => ?_) hkind)
  dsimp only at hns₁ hsb₁ ⊢
  generalize hH2 : s₂.heap.push { cls := .type "list", dict := none, data := .seq ([] : List Value).toArray } = H2 at hns₁ hsb₁ ⊢
  have hC : H2.objs.size = s₂.heap.objs.size + 1 := by rw [← hH2, Heap.size_push]
  have hDC : s₂.heap.objs.size ≠ H2.objs.size := by rw [hC]; exact Nat.ne_of_lt (Nat.lt_succ_self _)
  have below : ∀ b, b < s₂.heap.objs.size → b ≠ H2.objs.size ∧ b ≠ s₂.heap.objs.size := fun b hb => ⟨by rw [hC]; exact Nat.ne_of_lt (Nat.lt_succ_of_lt hb), Nat.ne_of_lt hb⟩
  have hfp : ∀ b ∈ [z, TI, TO, i1, i2, l1, l2], b < s₂.heap.objs.size := by
    obtain ⟨ez, eTI, ⟨a, b, eTO⟩, ⟨o1, e1, _⟩, ⟨o2, e2, _⟩, ⟨o3, e3, _⟩, ⟨o4, e4, _⟩⟩ := hst
    intro b hb
    simp only [List.mem_cons, List.not_mem_nil, or_false] at hb
    rcases hb with rfl | rfl | rfl | rfl | rfl | rfl | rfl
    · exact Heap.lt_size ez
    · exact Heap.lt_size eTI
    · exact Heap.lt_size eTO
    · exact Heap.lt_size e1
    · exact Heap.lt_size e2
    · exact Heap.lt_size e3
    · exact Heap.lt_size e4
  have old : ∀ b o, s₂.heap.get? b = some o → h₁.get? b = some o := fun b o e => hsb₁.extBut b o (below b (Heap.lt_size e)).1 (Heap.get?_push_of_some _ (hH2 ▸ Heap.get?_push_of_some _ e))
  have hacc : h₁.get? s₂.heap.objs.size = some (lst []) := hsb₁.extBut _ _ hDC (Heap.get?_push_of_some _ (hH2 ▸ Heap.get?_push_size _ rfl))
  have W := WalksT.zip2 (prog := prog) (w := w) hh z TI TO i1 i2 l1 l2 Ap xs ys
  have hst₁ : ZSt z TI TO i1 i2 l1 l2 xs ys 0 h₁ := W.frame _ _ _ hst fun b _ o e => old b o e
  have fresh : ∀ a, s₂.heap.objs.size ≤ a → s₂.heap.get? a = none := fun a ha => by
    cases e : s₂.heap.get? a with
    | none => rfl
    | some o' => exact absurd (Heap.lt_size e) (Nat.not_lt.mpr ha)
  have fresh₀ : ∀ a, s₂.heap.objs.size ≤ a → h₀.get? a = none := fun a ha => by
    cases e : h₀.get? a with
    | none => rfl
    | some o' => have := F.keep a o' e; rw [fresh a ha] at this; cases this
  have hD₀ : h₀.get? s₂.heap.objs.size = none := fresh₀ _ (Nat.le_refl _)
  have hC₀ : h₀.get? H2.objs.size = none := fresh₀ _ (by rw [hC]; exact Nat.le_succ _)
  have hLlt : L < s₂.heap.objs.size := F.ns.lt
  have hDL : s₂.heap.objs.size ≠ L := Ne.symm (below L hLlt).2
  have hCL : H2.objs.size ≠ L := Ne.symm (below L hLlt).1
  have offC : ∀ p ∈ news, p.1 ≠ H2.objs.size := fun p hp => (below _ (Heap.lt_size (N p hp).1)).1
  have offD : ∀ p ∈ news, p.1 ≠ s₂.heap.objs.size := fun p hp => (below _ (Heap.lt_size (N p hp).1)).2
  have off1 : ∀ l : List (Addr × Obj), (∀ p ∈ l, p.1 ≠ s₂.heap.objs.size) → Off1 s₂.heap.objs.size l := fun l => by
    induction l with
    | nil => intro _; trivial
    | cons q r ih => intro h; exact ⟨h q (.head _), ih fun p hp => h p (.tail _ hp)⟩
  have loop : ∀ s₃ : Shared, s₃ = { s₂ with heap := h₁, toks := s₂.toks + ([] : List (Str × Value)).length } →
      codeAny (model prog w) A (.compLoop (.ListComp elt [⟨.Tuple [.Name x px, .Name x₂ px₂] tk0 tp, iter, [ct], 0⟩] scope pos) 0 (.ref z) (.ref s₂.heap.objs.size) (compEnvC scope cl H2.objs.size env))
        (RR (.ref s₂.heap.objs.size) H2.objs.size) s₃ := by
    rintro s₃ rfl
    refine kct_loop
      (fun k s' => ∃ h' tk i acc m', s' = { s₂ with heap := h', toks := tk } ∧ i ≤ min xs.size ys.size ∧ k = min xs.size ys.size + 1 - i ∧ acc.length ≤ i ∧ ZSt z TI TO i1 i2 l1 l2 xs ys i h' ∧ Fr h₀ L h' m ∧ h'.Ns H2.objs.size m' ∧ News h₀ L h' ((s₂.heap.objs.size, lst acc) :: news) ∧ J i acc) ?_ (min xs.size ys.size + 1)
      ⟨h₁, _, 0, [], _, rfl, Nat.zero_le _, rfl, Nat.le_refl _, hst₁, F.keeps old, hns₁, fun p hp => ?_, j0⟩
    · rintro k s' ⟨h', tk, i, acc, m', rfl, hi, rfl, hyl, hst', F', hn', N', hJ⟩
      refine z_turn Ap hh hkind hx hx₂ hxx nz nTI nTO n1 n2 (fun b hb => (below b (hfp b hb)).1) (fun b hb => (below b (hfp b hb)).2) (Ne.symm hDC) hCL hC₀ offC hi hst' F' hn' N' (fun e h₂ tk₂ F₂ N₂ hn₂ => ?_) (fun hlt v₁ v₂ oz oTI oTO o1 o2 oC m₂ h₃ tk₃ hv1 hv2 hoC hm₁ hm₂ hst₃ F₃ N₃ => ?_)
      · rw [e] at hJ
        exact hRR _ _ h₂ tk₂ _ acc F₂ N₂ (off1 _ offD) hn₂ hC₀ hD₀ hCL hDL (Ne.symm hDC) offC hJ
      · have off3 : Off3 z H2.objs.size s₂.heap.objs.size ((TI, oTI) :: (TO, oTO) :: (i1, o1) :: (i2, o2) :: news) := by
          refine Off3.of fun p hp => ?_
          simp only [List.mem_cons] at hp
          rcases hp with rfl | rfl | rfl | rfl | hp
          · exact ⟨Ap.TIz, below _ (hfp _ (by simp))⟩
          · exact ⟨Ap.TOz, below _ (hfp _ (by simp))⟩
          · exact ⟨Ap.i1z, below _ (hfp _ (by simp))⟩
          · exact ⟨Ap.i2z, below _ (hfp _ (by simp))⟩
          · exact ⟨nz.off p hp, offC p hp, offD p hp⟩
        have hT := turn i v₁ v₂ acc z oz H2.objs.size oC s₂.heap.objs.size _ m₂ h₃ tk₃ (notedBy (model prog w) A (compEnvC scope cl H2.objs.size env) fun e s' => RR (.ref s₂.heap.objs.size) H2.objs.size (.error e) s') hlt hv1 hv2 hJ hoC hm₁ hm₂ F₃ N₃ off3 ⟨(below z (hfp z (by simp))).1, (below z (hfp z (by simp))).2, Ne.symm hDC⟩
        refine wpAny_mono hT (fun ok s₄ h₄ => ?_) fun _ _ e => e
        cases ok with
        | true =>
          simp only [if_true] at h₄ ⊢
          refine wpAny_mono h₄ (fun y s₅ h₅ => ?_) fun _ _ e => e
          obtain ⟨h₄, tk₄, news₄, rfl, F₄, N₄, off₄, _, rfl, hJ'⟩ := h₅
          have zC := (N₄ (H2.objs.size, oC) (.tail _ (.head _))).1
          have zD := (N₄ (s₂.heap.objs.size, lst acc) (.tail _ (.tail _ (.head _)))).1
          have Nn : News h₀ L h₄ news := fun p hp => N₄ p (.tail _ (.tail _ (.tail _ (.tail _ (.tail _ (.tail _ (.tail _ hp)))))))
          have hst₄ := z_back prog w hh Ap hm1 hm2 hst₃ N₃ N₄
          refine append_at (hsz := by show acc.toArray.size ≤ sizeLine; rw [List.size_toArray]; exact Nat.le_trans (Nat.le_trans hyl hi) hsz) zD fun h₅ hs₅ hD₅ => ?_
          refine ⟨min xs.size ys.size + 1 - (i + 1), by omega, h₅, tk₄, i + 1, acc ++ [y], _, rfl, hlt, rfl, by rw [List.length_append, List.length_singleton]; exact Nat.succ_le_succ hyl, W.frame _ _ _ hst₄ fun b hb o e => hs₅.extBut b o (below b (hfp b hb)).2 e, F₄.change hs₅ hDL hD₀, (hoC.ns zC).sameBut hs₅ (Ne.symm hDC), fun p hp => ?_, hJ'⟩
          rcases List.mem_cons.mp hp with rfl | hp
          · exact ⟨hD₅.trans (congrArg some (lst_snoc acc y)), hDL, hD₀⟩
          · exact ⟨hs₅.extBut _ _ (offD p hp) (Nn p hp).1, (Nn p hp).2⟩
        | false =>
          simp only [Bool.false_eq_true, if_false] at h₄ ⊢
          obtain ⟨h₄, tk₄, news₄, rfl, F₄, N₄, off₄, _, rfl, hJ'⟩ := h₄
          have zC := (N₄ (H2.objs.size, oC) (.tail _ (.head _))).1
          refine ⟨min xs.size ys.size + 1 - (i + 1), by omega, h₄, tk₄, i + 1, acc, _, rfl, hlt, rfl, Nat.le_succ_of_le hyl, z_back prog w hh Ap hm1 hm2 hst₃ N₃ N₄, F₄, hoC.ns zC, fun p hp => ?_, hJ'⟩
          rcases List.mem_cons.mp hp with rfl | hp
          · exact N₄ _ (.tail _ (.tail _ (.head _)))
          · exact N₄ p (.tail _ (.tail _ (.tail _ (.tail _ (.tail _ (.tail _ (.tail _ hp)))))))
    · rcases List.mem_cons.mp hp with rfl | hp
      · exact ⟨hacc, hDL, hD₀⟩
      · exact ⟨old _ _ (N p hp).1, (N p hp).2⟩
  exact codeAny_compStart_list (loop _ rfl) (W.self 0 _ _ _ hst₁ (loop _ rfl))
/-- what the call of zip must hand on to the comprehension over it -/
def ZSrc (prog : Program) (w : World) (A : Around) (h₀ : Heap) (L : Addr) (m : Str → Option Value) (env : Env) (elt : Expr) (x x₂ : Str) (scope : Scope) (cl : List (Str × Addr)) (J : Nat → List Value → Prop) (Fin : Shared → List Value → List (Addr × Obj) → Prop) (xv : Value) (s₁ : Shared) : Prop :=
  ∃ z TI TO i1 i2 l1 l2 xs ys k1 k2 news, xv = .ref z ∧ A.handled = none ∧ ZipApart z TI TO i1 i2 l1 l2 ∧ min xs.size ys.size ≤ sizeLine ∧ ZSt z TI TO i1 i2 l1 l2 xs ys 0 s₁.heap ∧ Fr h₀ L s₁.heap m ∧ News h₀ L s₁.heap news ∧ (l1, listOf xs k1) ∈ news ∧ (l2, listOf ys k2) ∈ news ∧
    ZNew h₀ L news z ∧ ZNew h₀ L news TI ∧ ZNew h₀ L news TO ∧ ZNew h₀ L news i1 ∧ ZNew h₀ L news i2 ∧ J 0 [] ∧ ZTurn prog w A h₀ L m env elt x x₂ scope cl s₁ J xs ys ∧ ∀ acc, J (min xs.size ys.size) acc → Fin s₁ acc news
/-- what the call of zip must hand on to the comprehension over it -/
def ZSrcT (prog : Program) (w : World) (A : Around) (h₀ : Heap) (L : Addr) (m : Str → Option Value) (env : Env) (ct elt : Expr) (x x₂ : Str) (scope : Scope) (cl : List (Str × Addr)) (J : Nat → List Value → Prop) (Fin : Shared → List Value → List (Addr × Obj) → Prop) (xv : Value) (s₁ : Shared) : Prop :=
  ∃ z TI TO i1 i2 l1 l2 xs ys k1 k2 news, xv = .ref z ∧ A.handled = none ∧ ZipApart z TI TO i1 i2 l1 l2 ∧ min xs.size ys.size ≤ sizeLine ∧ ZSt z TI TO i1 i2 l1 l2 xs ys 0 s₁.heap ∧ Fr h₀ L s₁.heap m ∧ News h₀ L s₁.heap news ∧ (l1, listOf xs k1) ∈ news ∧ (l2, listOf ys k2) ∈ news ∧
    ZNew h₀ L news z ∧ ZNew h₀ L news TI ∧ ZNew h₀ L news TO ∧ ZNew h₀ L news i1 ∧ ZNew h₀ L news i2 ∧ J 0 [] ∧ ZTurnT prog w A h₀ L m env ct elt x x₂ scope cl s₁ J xs ys ∧ ∀ acc, J (min xs.size ys.size) acc → Fin s₁ acc news
theorem ListComp_Z {elt iter : Expr} {x x₂ : Str} {px px₂ tp : Pos} {tk} {scope : Scope} {cl : List (Str × Addr)} {pos : Pos} {J : Nat → List Value → Prop} {Q : Value → Shared → Prop} (_F₀ : Fr h₀ L s.heap m)
    (hclos : closureFor scope env = pure cl) (hcell : ∀ y ∈ scope.names, y.2 ≠ .cell) (hkind : scope.kind = .function)
    (hnames : ∀ y ∈ scope.names, y.2 = .local → scope.names.lookup y.1 = some .local) (hx : scope.names.lookup x = some .local) (hx₂ : scope.names.lookup x₂ = some .local) (hxx : x ≠ x₂)
    (h : wpAny (model prog w) A (eval iter env) (ZSrc prog w A h₀ L m env elt x x₂ scope cl J (fun s₂ => FinE h₀ L m s₂ Q)) E s)
    (hs : ∀ x, foldedSetIterable iter env x = pure x := by intro _; rfl) :
    wpAny (model prog w) A (eval (.ListComp elt [⟨.Tuple [.Name x px, .Name x₂ px₂] tk tp, iter, [], 0⟩] scope pos) env) Q E s := by
  rw [eval_ListComp]
  refine wpAny_comprehension_free (use := none) rfl hs hclos hkind hnames (wpAny_mono h (fun xv s₁ h₁ => ?_) fun _ _ e => e)
  obtain ⟨z, TI, TO, i1, i2, l1, l2, xs, ys, k1, k2, news, rfl, hh, Ap, hsz, hst, F, N, hm1, hm2, nz, nTI, nTO, n1, n2, j0, turn, fin⟩ := h₁
  refine wpAny_pyIter_zip hst.1 ?_
  refine block_Z Ap hh hsz hcell hkind hx hx₂ hxx hst F N hm1 hm2 nz nTI nTO n1 n2 j0 turn ?_
  intro D C h tk m' acc F' N' o1 hn hC₀ hD₀ hCL hDL hCD offC hJ
  refine ⟨m', hn, fun h'' hs'' => fin acc hJ D h'' tk (F'.change hs'' hCL hC₀) (fun p hp => ?_) o1⟩
  refine ⟨hs''.extBut _ _ ?_ (N' p hp).1, (N' p hp).2⟩
  rcases List.mem_cons.mp hp with rfl | hp
  · exact Ne.symm hCD
  · exact offC p hp
theorem ListComp_ZT {ct elt iter : Expr} {x x₂ : Str} {px px₂ tp : Pos} {tk} {scope : Scope} {cl : List (Str × Addr)} {pos : Pos} {J : Nat → List Value → Prop} {Q : Value → Shared → Prop} (_F₀ : Fr h₀ L s.heap m)
    (hclos : closureFor scope env = pure cl) (hcell : ∀ y ∈ scope.names, y.2 ≠ .cell) (hkind : scope.kind = .function)
    (hnames : ∀ y ∈ scope.names, y.2 = .local → scope.names.lookup y.1 = some .local) (hx : scope.names.lookup x = some .local) (hx₂ : scope.names.lookup x₂ = some .local) (hxx : x ≠ x₂)
    (h : wpAny (model prog w) A (eval iter env) (ZSrcT prog w A h₀ L m env ct elt x x₂ scope cl J (fun s₂ => FinE h₀ L m s₂ Q)) E s)
    (hs : ∀ x, foldedSetIterable iter env x = pure x := by intro _; rfl) :
    wpAny (model prog w) A (eval (.ListComp elt [⟨.Tuple [.Name x px, .Name x₂ px₂] tk tp, iter, [ct], 0⟩] scope pos) env) Q E s := by
  rw [eval_ListComp]
  refine wpAny_comprehension_free (use := none) rfl hs hclos hkind hnames (wpAny_mono h (fun xv s₁ h₁ => ?_) fun _ _ e => e)
  obtain ⟨z, TI, TO, i1, i2, l1, l2, xs, ys, k1, k2, news, rfl, hh, Ap, hsz, hst, F, N, hm1, hm2, nz, nTI, nTO, n1, n2, j0, turn, fin⟩ := h₁
  refine wpAny_pyIter_zip hst.1 ?_
  refine block_ZT Ap hh hsz hcell hkind hx hx₂ hxx hst F N hm1 hm2 nz nTI nTO n1 n2 j0 turn ?_
  intro D C h tk m' acc F' N' o1 hn hC₀ hD₀ hCL hDL hCD offC hJ
  refine ⟨m', hn, fun h'' hs'' => fin acc hJ D h'' tk (F'.change hs'' hCL hC₀) (fun p hp => ?_) o1⟩
  refine ⟨hs''.extBut _ _ ?_ (N' p hp).1, (N' p hp).2⟩
  rcases List.mem_cons.mp hp with rfl | hp
  · exact Ne.symm hCD
  · exact offC p hp
theorem Assign_ListComp_Z {elt iter : Expr} {x x₂ y : Str} {px px₂ tp py : Pos} {tk} {scope : Scope} {cl : List (Str × Addr)} {pos spos : Pos} {J : Nat → List Value → Prop} {Q : Flow → Shared → Prop} (_F₀ : Fr h₀ L s.heap m) (hLe : env.locals = L)
    (hsw : swapsWith (.ListComp elt [⟨.Tuple [.Name x px, .Name x₂ px₂] tk tp, iter, [], 0⟩] scope pos) (some (.Name y py)) spos.line env = pure true)
    (hclos : closureFor scope env = pure cl) (hcell : ∀ z ∈ scope.names, z.2 ≠ .cell) (hkind : scope.kind = .function)
    (hnames : ∀ z ∈ scope.names, z.2 = .local → scope.names.lookup z.1 = some .local) (hx : scope.names.lookup x = some .local) (hx₂ : scope.names.lookup x₂ = some .local) (hxx : x ≠ x₂)
    (hy : env.kindOf y = some .local) (hp : (env.scope.kind == .class || (env.scope.kind == .module && env.locals != env.globals)) = false)
    (h : wpAny (model prog w) A (eval iter env) (ZSrc prog w A h₀ L m env elt x x₂ scope cl J (fun s₂ => FinA h₀ L m s₂ y Q)) E s)
    (hs : ∀ x, foldedSetIterable iter env x = pure x := by intro _; rfl) :
    wpAny (model prog w) A (exec (.Assign [.Name y py] (.ListComp elt [⟨.Tuple [.Name x px, .Name x₂ px₂] tk tp, iter, [], 0⟩] scope pos) spos) env) Q E s := by
  subst hLe
  rw [exec_Assign_Name_used _ _ _ _ hsw]
  refine wpAny_bind (wpAny_standAt (wpAny_bind ?_))
  show wpAny _ A (do let _ ← comprehension (.ListComp elt [⟨.Tuple [.Name x px, .Name x₂ px₂] tk tp, iter, [], 0⟩] scope pos) scope env _ (newList []) false (eval iter env) (some (assign (.Name y py) env))) _ _ s
  refine wpAny_bind (wpAny_mono (wpAny_comprehension_free (use := some (assign (.Name y py) env)) (Q := fun _ s' => Q .next s') rfl hs hclos hkind hnames
    (wpAny_mono h (fun xv s₁ h₁ => ?_) fun _ _ e => e)) (fun _ s' hq => wpAny_pure (wpAny_pure hq)) fun _ _ e => e)
  obtain ⟨z, TI, TO, i1, i2, l1, l2, xs, ys, k1, k2, news, rfl, hh, Ap, hsz, hst, F, N, hm1, hm2, nz, nTI, nTO, n1, n2, j0, turn, fin⟩ := h₁
  refine wpAny_pyIter_zip hst.1 ?_
  refine block_Z Ap hh hsz hcell hkind hx hx₂ hxx hst F N hm1 hm2 nz nTI nTO n1 n2 j0 turn ?_
  intro D C h' tk m' acc F' N' o1 hn hC₀ hD₀ hCL hDL hCD offC hJ
  show wpAny _ A (assign (.Name y py) env (.ref D)) _ _ _
  refine wpAny_assign_Name (wpAny_storeName_local hy F'.ns (fun h₂ hn₂ hs₂ => ?_) hp)
  have hL₀ : h₀.get? env.locals = none := Heap.get?_none_of_le F'.above
  have F₂ : Fr h₀ env.locals h₂ (fun z => if z = y then some (.ref D) else m z) := ⟨hn₂, fun b o e => hs₂.extBut b o (fun q => by rw [q, hL₀] at e; cases e) (F'.keep b o e), F'.above⟩
  refine ⟨m', hn.sameBut hs₂ hCL, fun h'' hs'' => fin acc hJ D h'' _ (F₂.change hs'' hCL hC₀) (fun p hp => ?_) o1⟩
  have z : h₂.get? p.1 = some p.2 := hs₂.extBut _ _ (N' p hp).2.1 (N' p hp).1
  refine ⟨hs''.extBut _ _ ?_ z, (N' p hp).2⟩
  rcases List.mem_cons.mp hp with rfl | hp
  · exact Ne.symm hCD
  · exact offC p hp
theorem zip_src {elt : Expr} {x x₂ : Str} {scope : Scope} {cl : List (Str × Addr)} {J : Nat → List Value → Prop} {Fin : Shared → List Value → List (Addr × Obj) → Prop} {l1 l2 : Addr} {xs ys : Array Value} {k1 k2 : Nat} {news : List (Addr × Obj)}
    (hh : A.handled = none) (F : Fr h₀ L s.heap m) (N : News h₀ L s.heap news) (hm1 : (l1, listOf xs k1) ∈ news) (hm2 : (l2, listOf ys k2) ∈ news) (hsz : min xs.size ys.size ≤ sizeLine) (j0 : J 0 [])
    (turn : ∀ g, ZTurn prog w A h₀ L m env elt x x₂ scope cl { s with heap := g } J xs ys) (fin : ∀ g acc, J (min xs.size ys.size) acc → Fin { s with heap := g } acc news) :
    wpAny (model prog w) A (call (.type "zip") [.ref l1, .ref l2]) (ZSrc prog w A h₀ L m env elt x x₂ scope cl J Fin) E s := by
  have hl1 : s.heap.IsList l1 xs := ⟨_, (N _ hm1).1, rfl, _, rfl⟩
  have hl2 : s.heap.IsList l2 ys := ⟨_, (N _ hm2).1, rfl, _, rfl⟩
  have a1 : l1 < s.heap.objs.size := Heap.lt_size (N _ hm1).1
  have a2 : l2 < s.heap.objs.size := Heap.lt_size (N _ hm2).1
  have fresh₀ : ∀ a, s.heap.objs.size ≤ a → h₀.get? a = none := fun a ha => by
    cases e : h₀.get? a with
    | none => rfl
    | some o' => exact absurd (Heap.lt_size (F.keep a o' e)) (Nat.not_lt.mpr ha)
  have nw : ∀ a, s.heap.objs.size ≤ a → ZNew h₀ L news a := fun a ha => ⟨Nat.ne_of_lt (Nat.lt_of_lt_of_le F.ns.lt ha), fresh₀ a ha, fun p hp => Nat.ne_of_lt (Nat.lt_of_lt_of_le (Heap.lt_size (N p hp).1) ha)⟩
  refine call_zip_2 hl1 hl2 fun h' hz hTI hTO hi1 hi2 _ hk => ?_
  exact ⟨_, _, _, _, _, l1, l2, xs, ys, k1, k2, news, rfl, hh, zipApart_new a1 a2, hsz, ⟨hz, hTI, ⟨_, _, hTO⟩, hi1, hi2, hl1.at fun o e => hk _ o e, hl2.at fun o e => hk _ o e⟩, F.keeps hk, N.grown hk, hm1, hm2,
    nw _ (Nat.le_add_right _ 4), nw _ (Nat.le_add_right _ 2), nw _ (Nat.le_add_right _ 3), nw _ (Nat.le_refl _), nw _ (Nat.le_add_right _ 1), j0, turn h', fin h'⟩
theorem zip_srcT {ct elt : Expr} {x x₂ : Str} {scope : Scope} {cl : List (Str × Addr)} {J : Nat → List Value → Prop} {Fin : Shared → List Value → List (Addr × Obj) → Prop} {l1 l2 : Addr} {xs ys : Array Value} {k1 k2 : Nat} {news : List (Addr × Obj)}
    (hh : A.handled = none) (F : Fr h₀ L s.heap m) (N : News h₀ L s.heap news) (hm1 : (l1, listOf xs k1) ∈ news) (hm2 : (l2, listOf ys k2) ∈ news) (hsz : min xs.size ys.size ≤ sizeLine) (j0 : J 0 [])
    (turn : ∀ g, ZTurnT prog w A h₀ L m env ct elt x x₂ scope cl { s with heap := g } J xs ys) (fin : ∀ g acc, J (min xs.size ys.size) acc → Fin { s with heap := g } acc news) :
    wpAny (model prog w) A (call (.type "zip") [.ref l1, .ref l2]) (ZSrcT prog w A h₀ L m env ct elt x x₂ scope cl J Fin) E s := by
  have hl1 : s.heap.IsList l1 xs := ⟨_, (N _ hm1).1, rfl, _, rfl⟩
  have hl2 : s.heap.IsList l2 ys := ⟨_, (N _ hm2).1, rfl, _, rfl⟩
  have a1 : l1 < s.heap.objs.size := Heap.lt_size (N _ hm1).1
  have a2 : l2 < s.heap.objs.size := Heap.lt_size (N _ hm2).1
  have fresh₀ : ∀ a, s.heap.objs.size ≤ a → h₀.get? a = none := fun a ha => by
    cases e : h₀.get? a with
    | none => rfl
    | some o' => exact absurd (Heap.lt_size (F.keep a o' e)) (Nat.not_lt.mpr ha)
  have nw : ∀ a, s.heap.objs.size ≤ a → ZNew h₀ L news a := fun a ha => ⟨Nat.ne_of_lt (Nat.lt_of_lt_of_le F.ns.lt ha), fresh₀ a ha, fun p hp => Nat.ne_of_lt (Nat.lt_of_lt_of_le (Heap.lt_size (N p hp).1) ha)⟩
  refine call_zip_2 hl1 hl2 fun h' hz hTI hTO hi1 hi2 _ hk => ?_
  exact ⟨_, _, _, _, _, l1, l2, xs, ys, k1, k2, news, rfl, hh, zipApart_new a1 a2, hsz, ⟨hz, hTI, ⟨_, _, hTO⟩, hi1, hi2, hl1.at fun o e => hk _ o e, hl2.at fun o e => hk _ o e⟩, F.keeps hk, N.grown hk, hm1, hm2,
    nw _ (Nat.le_add_right _ 4), nw _ (Nat.le_add_right _ 2), nw _ (Nat.le_add_right _ 3), nw _ (Nat.le_refl _), nw _ (Nat.le_add_right _ 1), j0, turn h', fin h'⟩
end
end NZ
end PNZip

section PNMatch
open PySem PySem.W PyProof.Rows PySem.Calls
set_option maxRecDepth 100000
set_option maxHeartbeats 1500000
namespace NZ

/-- does the pattern's octet meet the other's -/
def meetB (a b : Int) : Bool := decide (Builtin.bitAnd a 127 = 63) || decide (Builtin.bitAnd a 127 = Builtin.bitAnd b 127)
theorem zip_at {ns ms : List Int} {i : Nat} {a b : Int} (h1 : ns[i]? = some a) (h2 : ms[i]? = some b) (f : Int → Int → Bool) : (List.zipWith f ns ms)[i]? = some (f a b) := by rw [List.getElem?_zipWith, h1, h2]
theorem meet_snoc {ns ms : List Int} {i : Nat} {a b : Int} {acc : List Value} {y : Bool} (h1 : ns[i]? = some a) (h2 : ms[i]? = some b) (hJ : LSm.BoolsAre acc (List.take i (List.zipWith meetB ns ms))) (hy : y = meetB a b) : LSm.BoolsAre (acc ++ [.bool y]) (List.take (i + 1) (List.zipWith meetB ns ms)) := by
  rw [List.take_add_one, zip_at h1 h2, hy]
  exact boolsAre_snoc hJ _
theorem meet1 {a b : Int} (h : Builtin.bitAnd a 127 = 63) : decide (Builtin.bitAnd a 127 = 63) = meetB a b := by unfold meetB; simp [h]
theorem meet2 {a b : Int} (h : ¬ Builtin.bitAnd a 127 = 63) : decide (Builtin.bitAnd a 127 = Builtin.bitAnd b 127) = meetB a b := by unfold meetB; simp [h]
theorem meet3 {a b : Int} (h : Builtin.bitAnd a 127 = 63) : true = meetB a b := by unfold meetB; simp [h]
theorem match_raw {r r2 : Addr} {vs us : List Value} {ns ms : List Int} {k k2 : Nat} (rest : List (Addr × Obj)) (hI : IntsAre vs ns) (hI2 : IntsAre us ms) (hl : ns.length = 11) (hl2 : ms.length = 11) (hc : ∀ c ∈ ns, 0 ≤ c ∧ c < 256) (hc2 : ∀ c ∈ ms, 0 ≤ c ∧ c < 256) :
    Does 57 [.ref r, .ref r2] ((r, listOf vs.toArray k) :: (r2, listOf us.toArray k2) :: rest) 4 (fun v nw => v = .bool ((List.zipWith meetB ns ms).all id) ∧ nw = (r, listOf vs.toArray k) :: (r2, listOf us.toArray k2) :: rest) := by
  k_with_none
  w_top off
  k_with "eval ListComp" => first | (k_extra "comp")
  k_with "call type:zip" => first | (k_extra "zip")
  k_with "CompEnd" => first | (k_extra "compend")
  k_with "call builtin:all" => first | (k_here; (with_reducible show wpAny _ _ (call (Value.builtin "all") [Value.ref _]) _ _ _); k_dflt ((refine' LSm.all_bools ?q3F ?q3N ?q3h ?q3l ?q3b ?_); (case q3F => k_asm); (case q3N => k_asm); (case q3h => exact rfl); (case q3l => exact News.isList (by k_asm) (by k_mem)); (case q3b => assumption); intro h' tk' F' N'))
  unfold Does; k_fill
  intro w p loose mean mg mb dp un gd cn cs a ccd cl outer A₀ base h₀ L m s Q E B F X N T hk hd hu hret
  refine wpAny_call ?_
  k_dflt ktr_enter
  k_with "comp" => (k_here; k_dflt (refine ListComp_Z (J := fun i acc => LSm.BoolsAre acc ((List.zipWith meetB ns ms).take i)) (by k_asm) (by with_unfolding_all rfl) (by decide) (by rfl) (by decide) (by rfl) (by rfl) (by decide) ?_))
  k_with "zip" => (k_here; k_dflt (
    (refine' zip_src ?zh ?zF ?zN ?zm1 ?zm2 ?zsz ?zj0 ?zturn ?zfin)
    (case zh => exact rfl)
    (case zF => k_asm)
    (case zN => k_asm)
    (case zm1 => k_mem)
    (case zm2 => k_mem)
    (case zsz => (rw [sizeLine_eq]; simp; (have := IntsAre.length hI); omega))
    (case zj0 => exact .nil)
    (case' zturn => (
      intro g' i' v1' v2' acc' I' oI' C' oC' D' ext' m' h' tk' E' hi' hv1' hv2' hJ' hC' hx1' hx2' F' N' off' ne'
      obtain ⟨a9, t9, e9, hk9⟩ := IntsAre.at hI i' v1' (by simpa using hv1')
      obtain ⟨b9, u9, e8, hk8⟩ := IntsAre.at hI2 i' v2' (by simpa using hv2')
      subst e9; subst e8
      obtain ⟨hl9, hh9⟩ := hc a9 (List.mem_of_getElem? hk9)
      obtain ⟨hl8, hh8⟩ := hc2 b9 (List.mem_of_getElem? hk8)
      dsimp only))
    (case' zfin => (
      intro g' acc' hJ'
      rw [List.take_of_length_le (by simp [IntsAre.length hI, IntsAre.length hI2])] at hJ'))))
  k_with "compend" => (k_dflt (
    (refine' compEnd_ ?e1 ?e2 ?e4 ?e5 ⟨?e7, ?e8⟩)
    (case e1 => k_asm)
    (case e2 => k_asm)
    (case e7 => exact rfl)
    (case e4 => first | assumption | (simp only [LCg.Off3, and_true]; assumption))
    (case e5 => exact trivial)
    (case e8 => first
      | exact meet_snoc (by assumption) (by assumption) (by assumption) (meet1 (by assumption))
      | exact meet_snoc (by assumption) (by assumption) (by assumption) (meet2 (by assumption))
      | exact meet_snoc (by assumption) (by assumption) (by assumption) (meet3 (by assumption)))))
  k_steps
  all_goals exact hret _ _ _ _ ⟨rfl, rfl⟩ (by k_asm) (cb_drop (by assumption) fun p hp => by repeat (first | exact hp | refine List.mem_cons_of_mem _ ?_))
theorem match_ok {r r2 : Addr} {vs us : List Value} {ns ms : List Int} {k k2 : Nat} {news : List (Addr × Obj)} (hm : (r, listOf vs.toArray k) ∈ news) (hm2 : (r2, listOf us.toArray k2) ∈ news) (hI : IntsAre vs ns) (hI2 : IntsAre us ms) (hl : ns.length = 11) (hl2 : ms.length = 11) (hc : ∀ c ∈ ns, 0 ≤ c ∧ c < 256) (hc2 : ∀ c ∈ ms, 0 ≤ c ∧ c < 256) :
    Does 57 [.ref r, .ref r2] news 4 (fun v nw => v = .bool ((List.zipWith meetB ns ms).all id) ∧ nw = news) :=
  does_mono (does_news (match_raw news hI hI2 hl hl2 hc hc2) (fun p hp => by
    rcases List.mem_cons.mp hp with rfl | hp
    · exact hm
    rcases List.mem_cons.mp hp with rfl | hp
    · exact hm2
    · exact hp)) (by
    rintro v nw ⟨hv, rfl⟩
    exact ⟨_, ⟨hv, rfl⟩, fun p hp => .tail _ (.tail _ hp)⟩)
end NZ
end PNMatch

section PNToks
open PySem PySem.W PyProof.Rows PySem.Calls
set_option maxRecDepth 100000
set_option maxHeartbeats 2000000
namespace NZ
theorem runs_toks {M : Model} {Γ : Ctx} {p : Pos} {t : Sem Fin} {fs : List Frame} {s : Shared} {e : End} {s' : Shared} (h : Runs M Γ p t fs s e s') : s.toks ≤ s'.toks := by
  induction h <;> first
    | exact Nat.le_refl _
    | assumption
    | exact Nat.le_trans (Nat.le_succ _) (by assumption)
    | exact Nat.le_trans (by assumption) (by assumption)
theorem wakes_toks {M : Model} {Γ : Ctx} {p : Pos} {g : Nat} {r : Resume} {s : Shared} {res : GenResult} {s' : Shared} (h : Wakes M Γ p g r s res s') : s.toks ≤ s'.toks := by
  unfold Wakes at h
  split at h
  · exact h.elim
  · split at h
    · obtain ⟨e₁, s₁, h, _, _, rfl⟩ := h; have q := runs_toks h; exact q
    · obtain ⟨_, rfl⟩ := h; exact Nat.le_refl _
    · obtain ⟨_, rfl⟩ := h; exact Nat.le_refl _
  · obtain ⟨e₁, s₁, h, _, _, rfl⟩ := h; have q := runs_toks h; exact q
  · obtain ⟨_, rfl⟩ := h; exact Nat.le_refl _
  · obtain ⟨_, rfl⟩ := h; exact Nat.le_refl _
open Sem in
theorem wp_toks {α : Type} {M : Model} {Γ : Ctx} : ∀ (t : Sem α) {Q : α → Pos → Shared → Prop} {E : Value → Pos → Shared → Prop} {p : Pos} {s : Shared}, wp M Γ t Q E p s → wp M Γ t (fun a p' s' => Q a p' s' ∧ s.toks ≤ s'.toks) (fun e p' s' => E e p' s' ∧ s.toks ≤ s'.toks) p s := by
  have lift : ∀ {t : Sem α} {Q : α → Pos → Shared → Prop} {E : Value → Pos → Shared → Prop} {p : Pos} {s s₁ : Shared}, s.toks ≤ s₁.toks → wp M Γ t (fun a p' s' => Q a p' s' ∧ s₁.toks ≤ s'.toks) (fun e p' s' => E e p' s' ∧ s₁.toks ≤ s'.toks) p s₁ → wp M Γ t (fun a p' s' => Q a p' s' ∧ s.toks ≤ s'.toks) (fun e p' s' => E e p' s' ∧ s.toks ≤ s'.toks) p s₁ :=
    fun hle h => Sem.wp_mono M Γ _ (fun _ _ _ q => ⟨q.1, Nat.le_trans hle q.2⟩) (fun _ _ _ q => ⟨q.1, Nat.le_trans hle q.2⟩) _ _ h
  intro t
  induction t with
  | pure a => intro Q E p s h; exact ⟨h, Nat.le_refl _⟩
  | raise e => intro Q E p s h; exact ⟨h, Nat.le_refl _⟩
  | unsupported _ => intro Q E p s h; exact h
  | finish _ => intro Q E p s h; exact h
  | rule _ k ih => intro Q E p s h; exact ih () h
  | «at» p' k ih => intro Q E p s h; exact ih () h
  | load a _ k ih => intro Q E p s h; obtain ⟨o, ho, h⟩ := h; exact ⟨o, ho, ih o h⟩
  | update a _ f k ih => intro Q E p s h; exact ⟨h.1, lift (s := s) (s₁ := { s with heap := s.heap.update a f }) (Nat.le_refl _) (ih () h.2)⟩
  | loadIfAlive a k ih => intro Q E p s h; exact ih _ h
  | point _ k ih => intro Q E p s h; exact ih () h
  | register _ _ => intro Q E p s h; exact h
  | alloc o k ih => intro Q E p s h; exact lift (s := s) (s₁ := { s with heap := s.heap.push o }) (Nat.le_refl _) (ih _ h)
  | fresh k ih => intro Q E p s h; exact lift (s := s) (s₁ := { s with toks := s.toks + 1 }) (Nat.le_succ _) (ih _ h)
  | ask k ih => intro Q E p s h; exact ih _ h
  | choose src n k ih => intro Q E p s h; exact ⟨h.1, lift (s := s) (s₁ := { s with drawn := s.drawn.bump src }) (Nat.le_refl _) (ih _ h.2)⟩
  | os q _ k ih => intro Q E p s h; exact lift (s := s) (s₁ := { s with os := (Os.step s.os q).1 }) (Nat.le_refl _) (ih _ h)
  | call c h' _ _ k ih =>
    intro Q E p s h
    obtain ⟨r, s₁, hr, h⟩ := h
    exact ⟨r, s₁, hr, lift (runs_toks hr) (ih r h)⟩
  | handled own k ih => intro Q E p s h; exact ih _ h
  | genState g k ih => intro Q E p s h; obtain ⟨st, hs, h⟩ := h; exact ⟨st, hs, ih _ h⟩
  | newGen c k ih => intro Q E p s h; exact lift (s := s) (s₁ := { s with gens := s.gens.push (.fresh c) }) (Nat.le_refl _) (ih _ h)
  | resume g r _ k ih =>
    intro Q E p s h
    obtain ⟨res, s₁, hr, h⟩ := h
    exact ⟨res, s₁, hr, lift (wakes_toks hr) (ih res h)⟩
  | yield _ _ _ _ => intro Q E p s h; exact h
  | stack k ih => intro Q E p s h; exact ih _ h
  | fork => intro Q E p s h; exact h
  | thread k ih => intro Q E p s h; exact ih _ h
  | await => intro Q E p s h; exact h
theorem wpAny_toks {α : Type} {M : Model} {A : Around} {t : Sem α} {Q : α → Shared → Prop} {E : Value → Shared → Prop} {s : Shared} (h : wpAny M A t Q E s) : wpAny M A t (fun a s' => Q a s' ∧ s.toks ≤ s'.toks) E s :=
  fun Γ p hΓ => Sem.wp_mono M Γ t (fun _ _ _ q => q) (fun _ _ _ q => q.1) p s (wp_toks t (h Γ p hΓ))
/-- a call by its contract, and the tokens do not fall -/
theorem does_useT {f : Addr} {vs : List Value} {news : List (Addr × Obj)} {k : Nat} {Ret : Value → List (Addr × Obj) → Prop} {w : World} {p : Program} {loose : List Str} {mean : ExcName → Option Value} {mg mb : Str → Option Value} {dp un : Nat} {gd : Option (List Code)} {cn : Str} {cs : Scope} {a : Addr} {ccd : Value} {cl : List (Str × Addr)} {outer : List Env} {A₀ : Around} {base h₀ : Heap} {L : Addr} {m : Str → Option Value} {s : Shared} {Q E : Value → Shared → Prop}
    (D : Does f vs news k Ret) (B : Below A₀ base outer h₀) (F : Fr h₀ L s.heap m) (X : (NZ.hd.heap_39 w.params).In h₀) (N : News h₀ L s.heap news) (T : Top p loose mean mg mb h₀) (hk : cs.kind = .function) (hd : dp + k < recursionLimit) (hu : un + 8 * k < cLine)
    (ret : ∀ v news' h' tk', s.toks ≤ tk' → Ret v news' → Fr h₀ L h' m → News h₀ L h' news' → Q v { s with heap := h', toks := tk' }) :
    wpAny (model PySem.Challenge.rw_nz0561_01.row.prog w) (ktrTop dp un gd cn cs L a ccd cl outer) (call (.ref f) vs) Q E s := by
  have := wpAny_toks (does_use (dp := dp) (un := un) (gd := gd) (cn := cn) (cs := cs) (L := L) (a := a) (ccd := ccd) (cl := cl) (outer := outer) (Q := fun v s' => ∃ news' h' tk', s' = { s with heap := h', toks := tk' } ∧ Ret v news' ∧ Fr h₀ L h' m ∧ News h₀ L h' news') (E := E) D B F X N T hk hd hu fun v nw h' tk' hR F' N' => ⟨nw, h', tk', rfl, hR, F', N'⟩)
  refine wpAny_mono this (fun v s' h => ?_) fun _ _ e => e
  obtain ⟨⟨nw, h', tk', rfl, hR, F', N'⟩, hle⟩ := h
  exact ret v nw h' tk' hle hR F' N'
theorem use33T {f : Addr} {vs : List Value} {news : List (Addr × Obj)} {k : Nat} {α0 α1 α2 : Type} {V : α0 → α1 → α2 → Value} {NW : α0 → α1 → α2 → List (Addr × Obj)} {P0 P1 P2 : α0 → α1 → α2 → Prop} {w : World} {p : Program} {loose : List Str} {mean : ExcName → Option Value} {mg mb : Str → Option Value} {dp un : Nat} {gd : Option (List Code)} {cn : Str} {cs : Scope} {a : Addr} {ccd : Value} {cl : List (Str × Addr)} {outer : List Env} {A₀ : Around} {base h₀ : Heap} {L : Addr} {m : Str → Option Value} {s : Shared} {Q E : Value → Shared → Prop}
    (B : Below A₀ base outer h₀) (F : Fr h₀ L s.heap m) (X : (NZ.hd.heap_39 w.params).In h₀) (N : News h₀ L s.heap news) (T : Top p loose mean mg mb h₀) (hk : cs.kind = .function) (D : Does f vs news k (fun v nw => ∃ x0 x1 x2, v = (V x0 x1 x2) ∧ (P0 x0 x1 x2) ∧ (P1 x0 x1 x2) ∧ (P2 x0 x1 x2) ∧ nw = (NW x0 x1 x2))) (hd : dp + k < recursionLimit) (hu : un + 8 * k < cLine)
    (ret : ∀ x0 x1 x2, (P0 x0 x1 x2) → (P1 x0 x1 x2) → (P2 x0 x1 x2) → ∀ h' tk', s.toks ≤ tk' → Fr h₀ L h' m → News h₀ L h' (NW x0 x1 x2) → Q (V x0 x1 x2) { s with heap := h', toks := tk' }) :
    wpAny (model PySem.Challenge.rw_nz0561_01.row.prog w) (ktrTop dp un gd cn cs L a ccd cl outer) (call (.ref f) vs) Q E s :=
  does_useT D B F X N T hk hd hu (by
    rintro v nw h' tk' ht ⟨x0, x1, x2, rfl, q0, q1, q2, rfl⟩ F' N'
    exact ret x0 x1 x2 q0 q1 q2 h' tk' ht F' N')
end NZ
end PNToks

section PNFilesLaw
open PySem PySem.W PyProof.Rows PySem.Calls
set_option maxRecDepth 100000
set_option maxHeartbeats 2000000
namespace NZ
/-- each c of l turned to z -/
def rep (c : Nat) (z l : List Nat) : List Nat := l.flatMap fun a => if a = c then z else [a]
theorem rep_free {c : Nat} {z : List Nat} : ∀ {l : List Nat}, c ∉ l → rep c z l = l
  | [], _ => rfl
  | a :: r, h => by
    have ha : a ≠ c := fun q => h (q ▸ .head _)
    show (if a = c then z else [a]) ++ rep c z r = _
    rw [if_neg ha, rep_free fun q => h (.tail _ q)]; rfl
theorem rep_app (c : Nat) (z a b : List Nat) : rep c z (a ++ b) = rep c z a ++ rep c z b := List.flatMap_append
theorem join_rep (c : Nat) (z : List Nat) : ∀ P : List Str, (∀ p ∈ P, c ∉ p.cps.toList) → (Str.join (txt z) P).cps.toList = rep c z (Str.join (txt [c]) P).cps.toList
  | [], _ => rfl
  | [p], h => (rep_free (h p (.head _))).symm
  | p :: q :: r, h => by
    have ih := join_rep c z (q :: r) fun p hp => h p (.tail _ hp)
    show (p.cps ++ (txt z).cps ++ (Str.join (txt z) (q :: r)).cps).toList = rep c z (p.cps ++ (txt [c]).cps ++ (Str.join (txt [c]) (q :: r)).cps).toList
    simp only [Array.toList_append, rep_app, ih, rep_free (h p (.head _))]
    congr 2
    simp [txt, rep]
theorem replace_txt (l z : List Nat) (c : Nat) : Txt.replace (txt l) (txt [c]) (txt z) = txt (rep c z l) := by
  have h := StrLaws.replace_one (txt l) (txt z) c
  have hj := StrLaws.join_split (txt l) ⟨#[c]⟩
  have hf := StrLaws.split_free (txt l) c
  have e : (⟨#[c]⟩ : Str) = txt [c] := rfl
  rw [e] at h hj hf
  rw [h, txt_eta (Str.join (txt z) _), join_rep c z _ hf, hj]
  simp [txt]
section
variable {prog : Program} {w : World} {A : Around} {E : Value → Shared → Prop} {s : Shared} {x y : Str} {a z : List Nat} {c : Nat} {t u v : Tok} {Q : Value → Shared → Prop}
theorem replace_rule (ey : x = txt [c]) (ez : y = txt z) (hu : @LE.le Nat _ 1 u) (huv : v = u + 1) (hcz : [c] ≠ z) (hn : a.length ≤ 1000) (hz : z.length ≤ 14)
    (h : ∀ t' k, s.toks ≤ k → Q (.str (txt (rep c z a)) t') { s with toks := k }) : wpAny (model prog w) A (call (.builtin "str.replace") [.str (txt a) t, .str x u, .str y v]) Q E s := by
  subst ey ez
  have := wpAny_toks (SC.replaceW (prog := prog) (w := w) (A := A) (E := E) (s := s) (x := txt a) (y := txt [c]) (z := txt z) (t := t) (u := u) (v := v) (Q := fun r s' => ∃ t' k, r = .str (txt (rep c z a)) t' ∧ s' = { s with toks := k }) (Nat.ne_of_gt hu) (by rw [huv]; exact Nat.succ_ne_zero _) (by rw [huv]; exact Nat.ne_of_lt (Nat.lt_succ_self _))
    (by rw [eq_txts]; exact decide_eq_false hcz) (by rw [txt_len]; omega) (by rw [txt_len]; exact hz) fun t' k => ⟨t', k, by rw [replace_txt], rfl⟩)
  refine wpAny_mono this (fun r s' h' => ?_) fun _ _ e => e
  obtain ⟨⟨t', k, rfl, rfl⟩, hle⟩ := h'
  exact h t' k hle
end
/-- the signs of a name without wild ones -/
abbrev TameC (c : Nat) : Prop := c = 97 ∨ c = 66 ∨ c = 122 ∨ c = 48 ∨ c = 57 ∨ c = 36 ∨ c = 81 ∨ c = 65 ∨ c = 90
theorem rep_mem {c : Nat} {z l : List Nat} {a : Nat} (h : a ∈ rep c z l) : (a ∈ l ∧ a ≠ c) ∨ a ∈ z := by
  obtain ⟨b, hb, ha⟩ := List.mem_flatMap.mp h
  split at ha
  · exact .inr ha
  · rename_i q
    rw [List.mem_singleton.mp ha]
    exact .inl ⟨hb, q⟩
theorem rep_len {c : Nat} {z : List Nat} (hz : z.length ≤ 1) : ∀ l : List Nat, (rep c z l).length ≤ l.length
  | [] => Nat.le_refl _
  | a :: r => by
    show ((if a = c then z else [a]) ++ rep c z r).length ≤ _
    have := rep_len (c := c) hz r
    rw [List.length_append, List.length_cons]
    split <;> simp <;> omega
theorem tame {ps : List Nat} (h : ∀ c ∈ ps, PartC c) : ∀ c ∈ rep 63 [81] (rep 42 [] ps), TameC c := by
  intro c hc
  rcases rep_mem hc with ⟨hc, h1⟩ | hc
  · rcases rep_mem hc with ⟨hc, h2⟩ | hc
    · rcases h c hc with q | q | q | q | q | q | q | q <;> (subst q; first | decide | exact absurd rfl h1 | exact absurd rfl h2)
    · cases hc
  · rw [List.mem_singleton.mp hc]; decide
theorem tame_len {ps : List Nat} {n : Nat} (h : ps.length ≤ n) : (rep 63 [81] (rep 42 [] ps)).length ≤ n := Nat.le_trans (rep_len (by simp) _) (Nat.le_trans (rep_len (by simp) _) h)
theorem tame_low {l : List Nat} (h : ∀ c ∈ l, TameC c) : ∀ c ∈ l, c < 128 := fun c hc => by rcases h c hc with q | q | q | q | q | q | q | q | q <;> omega
/-- great signs, figures and the dollar -/
abbrev GreatC (c : Nat) : Prop := c = 65 ∨ c = 66 ∨ c = 90 ∨ c = 48 ∨ c = 57 ∨ c = 36 ∨ c = 81
theorem tame_up {c : Nat} (h : TameC c) : GreatC (upN c) := by
  rcases h with rfl | rfl | rfl | rfl | rfl | rfl | rfl | rfl | rfl <;> decide
/-- what the law fills in where no sign is wild -/
theorem fill_tame {q : List Nat} (h : ∀ c ∈ q, TameC c) (n : Nat) : lawFilled q n = (q.map upN).take n ++ List.replicate (n - ((q.map upN).take n).length) 32 ∧ ∀ c ∈ (q.map upN).take n, GreatC c := by
  have hg : ∀ c ∈ q.map upN, GreatC c := fun c hc => by
    obtain ⟨a, ha, rfl⟩ := List.mem_map.mp hc
    exact tame_up (h a ha)
  have h42 : 42 ∉ q.map upN := fun hc => by rcases hg 42 hc with q | q | q | q | q | q | q <;> cases q
  refine ⟨?_, fun c hc => hg c (List.mem_of_mem_take hc)⟩
  unfold lawFilled rowOf headOf
  rw [if_neg h42, takeWhile_no h42]
theorem rstrip_fill {g : List Nat} (h : ∀ c ∈ g, GreatC c) (k : Nat) : rstripI (nats (g ++ List.replicate k 32)) = nats g := by
  unfold rstripI
  rw [nats_append, nats_rep, List.reverse_append, List.reverse_replicate]
  have e1 : (List.replicate k ((32 : Nat) : Int) ++ (nats g).reverse).dropWhile (fun c => decide (c = 32)) = (nats g).reverse.dropWhile (fun c => decide (c = 32)) := by
    rw [List.dropWhile_append_of_pos (by intro a ha; rw [(List.mem_replicate.mp ha).2]; decide)]
  rw [e1]
  have e2 : (nats g).reverse.dropWhile (fun c => decide (c = 32)) = (nats g).reverse := by
    cases hq : (nats g).reverse with
    | nil => rfl
    | cons c r =>
      have hc : c ∈ nats g := List.mem_reverse.mp (by rw [hq]; exact .head _)
      obtain ⟨a, ha, rfl⟩ := List.mem_map.mp hc
      have : ¬ ((a : Int) = 32) := by rcases h a ha with q | q | q | q | q | q | q <;> omega
      simp [this]
  rw [e2, List.reverse_reverse]
/-- eleven octets that the law lays down for a file's name -/
def RawIs (raw : List Nat) : Prop := ∃ q1 q2 : List Nat, q1 ≠ [] ∧ (∀ c ∈ q1, TameC c) ∧ (∀ c ∈ q2, TameC c) ∧ raw = lawFilled q1 8 ++ lawFilled q2 3
def FlagsAre (fs : List Int) : Prop := fs.length = 11 ∧ ∀ f ∈ fs, f = 0 ∨ f = 128
abbrev flagAll (raw : List Nat) (fs : List Int) : List Int := List.zipWith (fun a b => a + b) (nats raw) fs
theorem raw_sign {raw : List Nat} (h : RawIs raw) : ∀ c ∈ raw, GreatC c ∨ c = 32 := by
  obtain ⟨q1, q2, _, h1, h2, rfl⟩ := h
  have key : ∀ {q : List Nat} (_ : ∀ c ∈ q, TameC c) (n : Nat), ∀ c ∈ lawFilled q n, GreatC c ∨ c = 32 := fun hq n c hc => by
    rw [(fill_tame hq n).1] at hc
    rcases List.mem_append.mp hc with hc | hc
    · exact .inl ((fill_tame hq n).2 c hc)
    · exact .inr (List.mem_replicate.mp hc).2
  intro c hc
  rcases List.mem_append.mp hc with hc | hc
  · exact key h1 8 c hc
  · exact key h2 3 c hc
theorem raw_low {raw : List Nat} (h : RawIs raw) : raw.length = 11 ∧ ∀ c ∈ raw, c < 128 := by
  refine ⟨?_, fun c hc => ?_⟩
  · obtain ⟨q1, q2, _, _, _, rfl⟩ := h; simp [lawFilled_len]
  · rcases raw_sign h c hc with (q | q | q | q | q | q | q) | q <;> omega
theorem and_flag {c : Nat} {f : Int} (hc : c < 128) (hf : f = 0 ∨ f = 128) : Builtin.bitAnd ((c : Int) + f) 127 = (c : Int) := by
  rw [and127 _ (by omega) (by omega)]; omega
theorem and_low {c : Nat} (hc : c < 128) : Builtin.bitAnd (c : Int) 127 = (c : Int) := by rw [and127 _ (by omega) (by omega)]; omega
theorem flag_bare : ∀ (raw : List Nat) (fs : List Int), raw.length = fs.length → (∀ c ∈ raw, c < 128) → (∀ f ∈ fs, f = 0 ∨ f = 128) → (flagAll raw fs).map (fun c => Builtin.bitAnd c 127) = nats raw
  | [], _, _, _, _ => rfl
  | c :: r, f :: fs, hl, hc, hf => by
    show Builtin.bitAnd ((c : Int) + f) 127 :: (flagAll r fs).map _ = (c : Int) :: nats r
    rw [and_flag (hc c (.head _)) (hf f (.head _)), flag_bare r fs (by simpa using hl) (fun c h => hc c (.tail _ h)) fun f h => hf f (.tail _ h)]
theorem flag_in : ∀ (raw : List Nat) (fs : List Int), (∀ c ∈ raw, c < 128) → (∀ f ∈ fs, f = 0 ∨ f = 128) → ∀ c ∈ flagAll raw fs, (0 : Int) ≤ c ∧ c < 256
  | [], _, _, _, c, h => by simp [flagAll, nats] at h
  | _ :: _, [], _, _, c, h => by simp [flagAll, nats] at h
  | a :: r, f :: fs, hc, hf, c, h => by
    rcases List.mem_cons.mp (show c ∈ ((a : Int) + f) :: flagAll r fs from h) with rfl | h
    · have := hc a (.head _); rcases hf f (.head _) with rfl | rfl <;> omega
    · exact flag_in r fs (fun c h => hc c (.tail _ h)) (fun f h => hf f (.tail _ h)) c h
theorem flag_len {raw : List Nat} {fs : List Int} (hR : RawIs raw) (hF : FlagsAre fs) : (flagAll raw fs).length = 11 := by
  show (List.zipWith _ (nats raw) fs).length = 11
  rw [List.length_zipWith, nats_len, (raw_low hR).1, hF.1]; rfl
/-- a one for each octet that the pattern does not meet -/
def dueL (ps rs : List Int) : List Int := ((ps.zip rs).filter fun p => decide (p.1 ≠ 63) && decide (p.1 ≠ p.2)).map fun _ => 1
theorem match_due : ∀ (oc raw : List Nat) (fs : List Int), raw.length = fs.length → (∀ c ∈ oc, c < 128) → (∀ c ∈ raw, c < 128) → (∀ f ∈ fs, f = 0 ∨ f = 128) → (List.zipWith meetB (nats oc) (flagAll raw fs)).all id = decide (dueL (nats oc) (nats raw) = [])
  | [], _, _, _, _, _, _ => by simp [dueL, nats]
  | _ :: _, [], [], _, _, _, _ => by simp [dueL, nats, flagAll]
  | a :: oc, b :: raw, f :: fs, hl, ha, hb, hf => by
    have ih := match_due oc raw fs (by simpa using hl) (fun c h => ha c (.tail _ h)) (fun c h => hb c (.tail _ h)) fun f h => hf f (.tail _ h)
    show (meetB (a : Int) ((b : Int) + f) && (List.zipWith meetB (nats oc) (flagAll raw fs)).all id) = decide (dueL ((a : Int) :: nats oc) ((b : Int) :: nats raw) = [])
    rw [ih]
    unfold meetB dueL
    rw [and_flag (hb b (.head _)) (hf f (.head _)), and_low (ha a (.head _)), List.zip_cons_cons, List.filter_cons]
    by_cases h1 : (a : Int) = 63
    · simp [h1]
    · by_cases h2 : (a : Int) = (b : Int)
      · simp [h1, h2]
      · simp [h1, h2]
theorem match_any : ∀ (n : Nat) (l : List Int), (List.zipWith meetB (List.replicate n 63) l).all id = true
  | 0, l => by simp
  | n + 1, [] => by simp
  | n + 1, a :: l => by
    rw [List.replicate_succ]
    show (meetB 63 a && (List.zipWith meetB (List.replicate n 63) l).all id) = true
    rw [match_any n l, Bool.and_true]
    unfold meetB
    rw [show Builtin.bitAnd 63 127 = 63 from by decide +kernel]; simp
theorem match_self : ∀ (raw : List Nat) (fs : List Int), (∀ c ∈ raw, c < 128) → (∀ f ∈ fs, f = 0 ∨ f = 128) → (List.zipWith meetB (flagAll raw fs) (nats raw)).all id = true
  | [], _, _, _ => by simp [flagAll, nats]
  | _ :: _, [], _, _ => by simp [flagAll, nats]
  | b :: raw, f :: fs, hb, hf => by
    have ih := match_self raw fs (fun c h => hb c (.tail _ h)) fun f h => hf f (.tail _ h)
    show (meetB ((b : Int) + f) (b : Int) && (List.zipWith meetB (flagAll raw fs) (nats raw)).all id) = true
    rw [ih, Bool.and_true]
    unfold meetB
    rw [and_flag (hb b (.head _)) (hf f (.head _)), and_low (hb b (.head _))]; simp
theorem up_great {g : List Nat} (h : ∀ c ∈ g, GreatC c) : (nats g).map up = nats g := by
  rw [up_nats]
  congr 1
  conv => rhs; rw [← List.map_id g]
  refine List.map_congr_left fun c hc => ?_
  rcases h c hc with q | q | q | q | q | q | q <;> (subst q; decide)
theorem great_ne {g : List Nat} (h : ∀ c ∈ g, GreatC c) (k : Nat) (hk : ¬ GreatC k) : (k : Int) ∉ nats g := fun hm => by
  obtain ⟨a, ha, e⟩ := List.mem_map.mp hm
  have : a = k := by exact_mod_cast e
  exact hk (this ▸ h a ha)
theorem ffill_great {g : List Nat} (h : ∀ c ∈ g, GreatC c) {n : Nat} (hl : g.length ≤ n) : ffill (nats g) n = nats (g ++ List.replicate (n - g.length) 32) := by
  unfold ffill
  rw [if_neg (show ¬ (42 : Int) ∈ nats g from great_ne h 42 (by decide)), up_great h, nats_append, nats_rep, List.take_append, List.take_of_length_le (by rw [nats_len]; exact hl), nats_len, List.take_replicate]
  congr 2
  omega
theorem tw46 {g : List Nat} (h : ∀ c ∈ g, GreatC c) (r : List Int) (hr : r = [] ∨ r.head? = some 46) : (nats g ++ r).takeWhile (fun c => decide (c ≠ 46)) = nats g ∧ (nats g ++ r).dropWhile (fun c => decide (c ≠ 46)) = r := by
  have hp : ∀ a ∈ nats g, decide (a ≠ 46) = true := fun a ha => by
    have : a ≠ 46 := fun q => great_ne h 46 (by decide) (by rw [q] at ha; exact ha)
    simpa using this
  rw [List.takeWhile_append_of_pos hp, List.dropWhile_append_of_pos hp]
  rcases hr with rfl | hr
  · simp
  · cases r with
    | nil => cases hr
    | cons a r => simp at hr; subst hr; simp
/-- a name shown and read again is the name -/
theorem parse_show {raw : List Nat} {fs : List Int} (hR : RawIs raw) (hF : FlagsAre fs) : parseF (showF (flagAll raw fs)) = nats raw ∧ KBa.In (showF (flagAll raw fs)) ∧ (showF (flagAll raw fs)).length ≤ 12 := by
  have hl := raw_low hR
  have hb := flag_bare raw fs (by rw [hl.1, hF.1]) hl.2 hF.2
  obtain ⟨q1, q2, _, h1, h2, rfl⟩ := hR
  obtain ⟨e1, g1⟩ := fill_tame h1 8
  obtain ⟨e2, g2⟩ := fill_tame h2 3
  have l1 : ((q1.map upN).take 8).length ≤ 8 := by simp; omega
  have l2 : ((q2.map upN).take 3).length ≤ 3 := by simp; omega
  generalize (q1.map upN).take 8 = a1 at *
  generalize (q2.map upN).take 3 = a2 at *
  have t8 : (nats (lawFilled q1 8 ++ lawFilled q2 3)).take 8 = nats (lawFilled q1 8) := by
    rw [nats_take, List.take_append_of_le_length (Nat.le_of_eq (lawFilled_len _ _).symm), List.take_of_length_le (Nat.le_of_eq (lawFilled_len _ _))]
  have d8 : (nats (lawFilled q1 8 ++ lawFilled q2 3)).drop 8 = nats (lawFilled q2 3) := by
    rw [nats_drop, List.drop_append_of_le_length (Nat.le_of_eq (lawFilled_len _ _).symm), List.drop_of_length_le (Nat.le_of_eq (lawFilled_len _ _)), List.nil_append]
  have s1 : rstripI (nats (lawFilled q1 8)) = nats a1 := by rw [e1]; exact rstrip_fill g1 _
  have s2 : rstripI (nats (lawFilled q2 3)) = nats a2 := by rw [e2]; exact rstrip_fill g2 _
  have hin : ∀ {g : List Nat}, (∀ c ∈ g, GreatC c) → KBa.In (nats g) := fun h => nats_in fun c hc => by rcases h c hc with q | q | q | q | q | q | q <;> omega
  have hs : showF (flagAll (lawFilled q1 8 ++ lawFilled q2 3) fs) = nats a1 ++ (if 0 < a2.length then 46 :: nats a2 else []) := by
    unfold showF
    rw [hb, t8, d8, s1, s2, nats_len]
    split
    · simp
    · simp
  rw [hs]
  refine ⟨?_, ?_, ?_⟩
  · unfold parseF
    have hh : (if 0 < a2.length then 46 :: nats a2 else []) = [] ∨ (if 0 < a2.length then 46 :: nats a2 else []).head? = some 46 := by
      by_cases hz : 0 < a2.length
      · rw [if_pos hz]; exact .inr rfl
      · rw [if_neg hz]; exact .inl rfl
    obtain ⟨w1, w2⟩ := tw46 g1 (if 0 < a2.length then 46 :: nats a2 else []) hh
    have rhs : nats (lawFilled q1 8 ++ lawFilled q2 3) = nats (a1 ++ List.replicate (8 - a1.length) 32) ++ nats (a2 ++ List.replicate (3 - a2.length) 32) := by rw [nats_append, e1, e2]
    rw [w1, w2, ffill_great g1 l1, rhs]
    congr 1
    by_cases hz : 0 < a2.length
    · rw [if_pos hz, List.drop_succ_cons, List.drop_zero, ffill_great g2 l2]
    · have : a2 = [] := List.eq_nil_of_length_eq_zero (by omega)
      subst this
      decide +kernel
  · refine in_app (hin g1) ?_
    split
    · exact fun c hc => by
        rcases List.mem_cons.mp hc with rfl | hc
        · decide
        · exact hin g2 c hc
    · exact fun c hc => nomatch hc
  · rw [List.length_append, nats_len]
    split
    · rw [List.length_cons, nats_len]; omega
    · simp; omega
theorem plain_great {c : Nat} {f : Int} (h : GreatC c ∨ c = 32) (hf : f = 0 ∨ f = 128) : plainSign ((c : Int) + f) = true := by
  unfold plainSign
  rw [and_flag (by rcases h with (q | q | q | q | q | q | q) | q <;> omega) hf]
  rcases h with (q | q | q | q | q | q | q) | q <;> (subst q; decide +kernel)
theorem plain_all : ∀ (raw : List Nat) (fs : List Int), (∀ c ∈ raw, GreatC c ∨ c = 32) → (∀ f ∈ fs, f = 0 ∨ f = 128) → ((flagAll raw fs).map plainSign).all id = true
  | [], _, _, _ => by simp [flagAll, nats]
  | _ :: _, [], _, _ => by simp [flagAll, nats]
  | b :: raw, f :: fs, hb, hf => by
    show (plainSign ((b : Int) + f) && ((flagAll raw fs).map plainSign).all id) = true
    rw [plain_great (hb b (.head _)) (hf f (.head _)), plain_all raw fs (fun c h => hb c (.tail _ h)) fun f h => hf f (.tail _ h)]; rfl
theorem plain_yes {raw : List Nat} {fs : List Int} (hR : RawIs raw) (hF : FlagsAre fs) : isPlainB (flagAll raw fs) = true := by
  have hs := raw_sign hR
  obtain ⟨q1, q2, hne, h1, h2, rfl⟩ := hR
  unfold isPlainB
  have h0 : ¬ Builtin.bitAnd ((flagAll (lawFilled q1 8 ++ lawFilled q2 3) fs).getD (Int.toNat 0) 0) 127 = 32 := by
    cases q1 with
    | nil => exact absurd rfl hne
    | cons c r =>
      obtain ⟨hl, hf⟩ := hF
      cases fs with
      | nil => cases hl
      | cons f fs =>
        have e : lawFilled (c :: r) 8 = upN c :: (lawFilled (c :: r) 8).tail := by rw [(fill_tame h1 8).1]; rfl
        rw [e]
        show ¬ Builtin.bitAnd ((upN c : Int) + f) 127 = 32
        have hc := tame_up (h1 c (.head _))
        rw [and_flag (by rcases hc with q | q | q | q | q | q | q <;> omega) (hf f (.head _))]
        rcases hc with q | q | q | q | q | q | q <;> omega
  rw [if_neg h0]
  exact plain_all _ _ hs hF.2
/-- an odd sign among the octets -/
abbrev OddC (c : Nat) : Prop := c = 60 ∨ c = 62 ∨ c = 46 ∨ c = 44 ∨ c = 59 ∨ c = 58 ∨ c = 61 ∨ c = 63 ∨ c = 42 ∨ c = 91 ∨ c = 93
theorem plain_odd {c : Nat} {f : Int} (h : OddC c) (hf : f = 0 ∨ f = 128) : plainSign ((c : Int) + f) = false := by
  unfold plainSign
  rw [and_flag (by rcases h with q | q | q | q | q | q | q | q | q | q | q <;> omega) hf]
  rcases h with q | q | q | q | q | q | q | q | q | q | q <;> (subst q; decide +kernel)
theorem plain_no {l : List Int} {v : Int} (hm : v ∈ l) (hv : plainSign v = false) : isPlainB l = false := by
  unfold isPlainB
  split
  · rfl
  · exact List.all_eq_false.mpr ⟨false, List.mem_map.mpr ⟨v, hm, hv⟩, by decide⟩
theorem plain_blank (l : List Int) : isPlainB (32 :: l) = false := by
  unfold isPlainB
  rw [if_pos]
  show Builtin.bitAnd 32 127 = 32
  decide +kernel
end NZ
end PNFilesLaw

section PNFilesAux
open PySem PySem.W PyProof.Rows PySem.Calls
set_option maxRecDepth 100000
set_option maxHeartbeats 2000000
namespace NZ
theorem lit_Q : Str.ofString "Q" = txt [81] := by decide +kernel
theorem item_first {x : Int} (h0 : 0 ≤ x) (h1 : x < 6) : ∃ c, Txt.item (Str.ofString "ABZ09$") x = txt [c] ∧ TameC c := by
  have : x = 0 ∨ x = 1 ∨ x = 2 ∨ x = 3 ∨ x = 4 ∨ x = 5 := by omega
  rcases this with rfl | rfl | rfl | rfl | rfl | rfl
  · exact ⟨65, by decide +kernel, by decide⟩
  · exact ⟨66, by decide +kernel, by decide⟩
  · exact ⟨90, by decide +kernel, by decide⟩
  · exact ⟨48, by decide +kernel, by decide⟩
  · exact ⟨57, by decide +kernel, by decide⟩
  · exact ⟨36, by decide +kernel, by decide⟩
section
variable {prog : Program} {w : World} {A : Around} {E : Value → Shared → Prop} {s : Shared} {h₀ : Heap} {L : Addr} {m : Str → Option Value} {news : List (Addr × Obj)} {Q : Value → Shared → Prop}
theorem add_first {x : Int} {b : List Nat} {t u : Tok} (h0 : 0 ≤ x) (h1 : x < 6) (hn : b.length ≤ 100) (h : ∀ c t' k, TameC c → Q (.str (txt ([c] ++ b)) t') { s with toks := k }) :
    wpAny (model prog w) A (binaryOp .Add (.str (Txt.item (Str.ofString "ABZ09$") x) t) (.str (txt b) u)) Q E s := by
  obtain ⟨c, e, hc⟩ := item_first h0 h1
  rw [e]
  exact add_txt rfl rfl (by simp; omega) fun t' k => h c t' k hc
theorem eq_nil {l1 l2 : Addr} {vs : List Value} {ns : List Int} {k1 k2 : Nat} (N : News h₀ L s.heap news) (m3 : (l1, listOf vs.toArray k1) ∈ news) (m4 : (l2, listOf #[] k2) ∈ news) (hi : IntsAre vs ns) (hu : A.units + 64 < cLine) (h : Q (.bool (decide (ns = []))) s) :
    wpAny (model prog w) A (compareOp .Eq (.ref l1) (.ref l2)) Q E s :=
  ke_eq_ints (xs := vs) (ys := []) ⟨_, (N _ m3).1, rfl, _, rfl⟩ ⟨_, (N _ m4).1, rfl, _, rfl⟩ hi .nil hu h
theorem copy_ints {l : Addr} {vs : List Value} {ns : List Int} {k : Nat} (F : Fr h₀ L s.heap m) (N : News h₀ L s.heap news) (hm : (l, listOf vs.toArray k) ∈ news) (hI : IntsAre vs ns) (hn : ns.length ≤ 100)
    (h : ∀ D c h', Fr h₀ L h' m → News h₀ L h' ((D, listOf (List.toArray vs) c) :: news) → (∀ q ∈ news, q.1 < D) → Q (.ref D) { s with heap := h' }) : wpAny (model prog w) A (call (.type "list") [.ref l]) Q E s :=
  list_copyK F N ⟨_, (N _ hm).1, rfl, _, rfl⟩ h (by have := IntsAre.length hI; rw [sizeLine_eq]; simp; omega)
end
theorem raw_of {ws : List Value} {c : Nat} {p1 p2 : List Nat} (hI : IntsAre ws (nats (lawFilled ([c] ++ rep 63 [81] (rep 42 [] p1)) 8) ++ nats (lawFilled (rep 63 [81] (rep 42 [] p2)) 3))) (hc : TameC c) (h1 : ∀ c ∈ p1, PartC c) (h2 : ∀ c ∈ p2, PartC c) :
    ∃ raw, RawIs raw ∧ IntsAre ws (nats raw) :=
  ⟨_, ⟨[c] ++ rep 63 [81] (rep 42 [] p1), rep 63 [81] (rep 42 [] p2), by simp, fun d hd => (List.mem_append.mp hd).elim (fun q => by rw [List.mem_singleton.mp q]; exact hc) (tame h1 d), tame h2, rfl⟩, by rw [nats_append]; exact hI⟩
theorem cons_low {c : Nat} {p : List Nat} (hc : TameC c) (h : ∀ c ∈ p, PartC c) : ∀ d ∈ [c] ++ rep 63 [81] (rep 42 [] p), d < 128 := fun d hd =>
  (List.mem_append.mp hd).elim (fun q => by rw [List.mem_singleton.mp q]; exact tame_low (l := [c]) (fun d h => by rw [List.mem_singleton.mp h]; exact hc) c (.head _)) (tame_low (tame h) d)
theorem cons_len {c : Nat} {p : List Nat} (h : (p.length : Int) ≤ 10) : ([c] ++ rep 63 [81] (rep 42 [] p)).length ≤ 40 := by
  have := tame_len (ps := p) (n := 10) (by omega)
  simp; omega
theorem tame_len2 {p : List Nat} {k : Int} (h : (p.length : Int) ≤ k) (hk : k ≤ 10) : (rep 63 [81] (rep 42 [] p)).length ≤ 40 := Nat.le_trans (tame_len (ps := p) (n := 10) (by omega)) (by decide)
theorem rep_room {p : List Nat} {k : Int} (h : (p.length : Int) ≤ k) (hk : k ≤ 10) : (rep 42 [] p).length ≤ 1000 := Nat.le_trans (rep_len (by simp) p) (by omega)
def FlagE (i : Nat) (ys : List Value) : Prop := ∃ fs : List Int, IntsAre ys fs ∧ fs.length = i ∧ ∀ f ∈ fs, f = 0 ∨ f = 128
theorem flagE_out {i : Nat} {ys : List Value} (h : FlagE i ys) (hi : i = 11) : ∃ fs : List Int, IntsAre ys fs ∧ FlagsAre fs := by
  obtain ⟨fs, h1, h2, h3⟩ := h
  exact ⟨fs, h1, by rw [h2, hi], h3⟩
theorem flagE_snoc {i : Nat} {ys : List Value} {x y : Int} {t : Tok} (h : FlagE i ys) (h0 : 0 ≤ x) (h1 : x < 2) (hy : y = 128 * x) : FlagE (i + 1) (ys ++ [.int y t]) := by
  obtain ⟨fs, h, hl, hf⟩ := h
  refine ⟨fs ++ [y], IntsAre.append h (.cons _ _ .nil), by simp [hl], fun f hm => ?_⟩
  rcases List.mem_append.mp hm with q | q
  · exact hf f q
  · rw [List.mem_singleton.mp q]; omega
theorem flag_snoc {raw : List Nat} {fs : List Int} {i : Nat} {a b : Int} {acc : List Value} {t : Tok} (h1 : (nats raw)[i]? = some a) (h2 : fs[i]? = some b) (hJ : IntsAre acc ((flagAll raw fs).take i)) : IntsAre (acc ++ [.int (a + b) t]) ((flagAll raw fs).take (i + 1)) := by
  have e : (flagAll raw fs)[i]? = some (a + b) := by
    show (List.zipWith _ (nats raw) fs)[i]? = _
    rw [List.getElem?_zipWith, h1, h2]
  rw [List.take_add_one, e]
  exact IntsAre.append hJ (.cons _ _ .nil)
theorem due_take {ps rs : List Int} {i : Nat} {a b : Int} (h1 : ps[i]? = some a) (h2 : rs[i]? = some b) : dueL (ps.take (i + 1)) (rs.take (i + 1)) = dueL (ps.take i) (rs.take i) ++ (if a ≠ 63 ∧ a ≠ b then [1] else []) := by
  have hl1 : (ps.take i).length = (rs.take i).length := by
    obtain ⟨q1, _⟩ := List.getElem?_eq_some_iff.mp h1
    obtain ⟨q2, _⟩ := List.getElem?_eq_some_iff.mp h2
    simp; omega
  unfold dueL
  rw [List.take_add_one, List.take_add_one, h1, h2]
  show ((List.zip (ps.take i ++ [a]) (rs.take i ++ [b])).filter _).map _ = _
  rw [List.zip_append hl1, List.filter_append, List.map_append]
  congr 1
  by_cases q1 : a = 63 <;> by_cases q2 : a = b <;> simp [q1, q2]
theorem due_snoc {ps rs : List Int} {i : Nat} {a b : Int} {acc : List Value} {t : Tok} (h1 : ps[i]? = some a) (h2 : rs[i]? = some b) (hJ : IntsAre acc (dueL (ps.take i) (rs.take i))) (n1 : a ≠ 63) (n2 : a ≠ b) : IntsAre (acc ++ [.int 1 t]) (dueL (ps.take (i + 1)) (rs.take (i + 1))) := by
  rw [due_take h1 h2, if_pos ⟨n1, n2⟩]
  exact IntsAre.append hJ (.cons _ _ .nil)
theorem due_skip1 {ps rs : List Int} {i : Nat} {a b : Int} {acc : List Value} (h1 : ps[i]? = some a) (h2 : rs[i]? = some b) (hJ : IntsAre acc (dueL (ps.take i) (rs.take i))) (n1 : a = 63) : IntsAre acc (dueL (ps.take (i + 1)) (rs.take (i + 1))) := by
  rw [due_take h1 h2, if_neg (fun h => h.1 n1), List.append_nil]; exact hJ
theorem due_skip2 {ps rs : List Int} {i : Nat} {a b : Int} {acc : List Value} (h1 : ps[i]? = some a) (h2 : rs[i]? = some b) (hJ : IntsAre acc (dueL (ps.take i) (rs.take i))) (n2 : a = b) : IntsAre acc (dueL (ps.take (i + 1)) (rs.take (i + 1))) := by
  rw [due_take h1 h2, if_neg (fun h => h.2 n2), List.append_nil]; exact hJ
section
variable {r r2 : Addr} {vs us : List Value} {k k2 : Nat} {news : List (Addr × Obj)} {raw oc : List Nat} {fs : List Int}
theorem matchA_ok (hm : (r, listOf vs.toArray k) ∈ news) (hm2 : (r2, listOf us.toArray k2) ∈ news) (hI : IntsAre vs (nats oc)) (hI2 : IntsAre us (flagAll raw fs)) (ho : oc.length = 11) (ho2 : ∀ c ∈ oc, c < 128) (hR : RawIs raw) (hF : FlagsAre fs) :
    Does 57 [.ref r, .ref r2] news 4 (fun v nw => v = .bool (decide (dueL (nats oc) (nats raw) = [])) ∧ nw = news) :=
  does_mono (match_ok hm hm2 hI hI2 (by rw [nats_len]; exact ho) (flag_len hR hF) (nats_in ho2) (flag_in raw fs (raw_low hR).2 hF.2)) (by
    rintro v nw ⟨hv, rfl⟩
    exact ⟨_, ⟨by rw [hv, match_due oc raw fs (by rw [(raw_low hR).1, hF.1]) ho2 (raw_low hR).2 hF.2], rfl⟩, fun p hp => hp⟩)
theorem matchB_ok (hm : (r, listOf vs.toArray k) ∈ news) (hm2 : (r2, listOf us.toArray k2) ∈ news) (hI : IntsAre vs (List.replicate (Int.toNat 11) [63]).flatten) (hI2 : IntsAre us (flagAll raw fs)) (hR : RawIs raw) (hF : FlagsAre fs) :
    Does 57 [.ref r, .ref r2] news 4 (fun v nw => v = .bool true ∧ nw = news) := by
  rw [flat_one] at hI
  exact does_mono (match_ok hm hm2 hI hI2 (by simp) (flag_len hR hF) (fun c h => by rw [(List.mem_replicate.mp h).2]; decide) (flag_in raw fs (raw_low hR).2 hF.2)) (by
    rintro v nw ⟨hv, rfl⟩
    exact ⟨_, ⟨by rw [hv, match_any], rfl⟩, fun p hp => hp⟩)
theorem matchC_ok (hm : (r, listOf vs.toArray k) ∈ news) (hm2 : (r2, listOf us.toArray k2) ∈ news) (hI : IntsAre vs (flagAll raw fs)) (hI2 : IntsAre us (nats raw)) (hR : RawIs raw) (hF : FlagsAre fs) :
    Does 57 [.ref r, .ref r2] news 4 (fun v nw => v = .bool true ∧ nw = news) :=
  does_mono (match_ok hm hm2 hI hI2 (flag_len hR hF) (by rw [nats_len]; exact (raw_low hR).1) (flag_in raw fs (raw_low hR).2 hF.2) (nats_in (raw_low hR).2)) (by
    rintro v nw ⟨hv, rfl⟩
    exact ⟨_, ⟨by rw [hv, match_self raw fs (raw_low hR).2 hF.2], rfl⟩, fun p hp => hp⟩)
theorem showS_ok (hm : (r, listOf vs.toArray k) ∈ news) (hI : IntsAre vs (flagAll raw fs)) (hR : RawIs raw) (hF : FlagsAre fs) :
    Does 52 [.ref r] news 8 (fun v nw => (∃ t, v = .bytes (byteArr (showF (flagAll raw fs))) t) ∧ nw = news) :=
  show_ok hm hI (by rw [flag_len hR hF]; decide) (flag_len hR hF) (flag_in raw fs (raw_low hR).2 hF.2)
theorem parseS_ok {t : Tok} (news : List (Addr × Obj)) (hR : RawIs raw) (hF : FlagsAre fs) :
    Does 35 [.bytes (byteArr (showF (flagAll raw fs))) t] news 8 (fun v nw => ∃ r vs k, v = .ref r ∧ IntsAre vs (nats raw) ∧ AllLt r news ∧ nw = (r, listOf (List.toArray vs) k) :: news) := by
  have h := parse_show hR hF
  refine does_mono (parse_raw news h.2.1 h.2.2) ?_
  rintro v nw ⟨r, vs, k, hv, hI, hl, rfl⟩
  rw [h.1] at hI
  exact ⟨_, ⟨r, vs, k, hv, hI, hl, rfl⟩, fun p hp => hp⟩
theorem plainA_ok (hm : (r, listOf vs.toArray k) ∈ news) (hI : IntsAre vs (flagAll raw fs)) (hR : RawIs raw) (hF : FlagsAre fs) : Does 40 [.ref r] news 4 (fun v nw => v = .bool true ∧ nw = news) :=
  does_mono (isplain_ok hm hI (by rw [flag_len hR hF]; decide) (flag_len hR hF) (flag_in raw fs (raw_low hR).2 hF.2)) (by
    rintro v nw ⟨hv, rfl⟩
    exact ⟨_, ⟨by rw [hv, plain_yes hR hF], rfl⟩, fun p hp => hp⟩)
theorem plainN_ok {l : List Int} (hm : (r, listOf vs.toArray k) ∈ news) (hI : IntsAre vs l) (hl : l.length = 11) (hc : ∀ c ∈ l, 0 ≤ c ∧ c < 256) (hn : isPlainB l = false) : Does 40 [.ref r] news 4 (fun v nw => v = .bool false ∧ nw = news) :=
  does_mono (isplain_ok hm hI (by rw [hl]; decide) hl hc) (by
    rintro v nw ⟨hv, rfl⟩
    exact ⟨_, ⟨by rw [hv, hn], rfl⟩, fun p hp => hp⟩)
end
open PyProof.Rows.LCg in
theorem assign_flag {prog : Program} {w : World} {A : Around} {E : Value → Shared → Prop} {s : Shared} {h₀ : Heap} {L : Addr} {m : Str → Option Value} {env : Env} {raw : List Nat} {fs : List Int} {elt iter : Expr} {x x₂ y : Str} {px px₂ tp py : Pos} {tk} {scope : Scope} {cl : List (Str × Addr)} {pos spos : Pos} {Q : Flow → Shared → Prop} (_hR : RawIs raw) (_hF : FlagsAre fs) (F₀ : Fr h₀ L s.heap m) (hLe : env.locals = L)
    (hsw : swapsWith (.ListComp elt [⟨.Tuple [.Name x px, .Name x₂ px₂] tk tp, iter, [], 0⟩] scope pos) (some (.Name y py)) spos.line env = pure true)
    (hclos : closureFor scope env = pure cl) (hcell : ∀ z ∈ scope.names, z.2 ≠ .cell) (hkind : scope.kind = .function)
    (hnames : ∀ z ∈ scope.names, z.2 = .local → scope.names.lookup z.1 = some .local) (hx : scope.names.lookup x = some .local) (hx₂ : scope.names.lookup x₂ = some .local) (hxx : x ≠ x₂)
    (hy : env.kindOf y = some .local) (hp : (env.scope.kind == .class || (env.scope.kind == .module && env.locals != env.globals)) = false)
    (h : wpAny (model prog w) A (eval iter env) (ZSrc prog w A h₀ L m env elt x x₂ scope cl (fun i acc => IntsAre acc ((flagAll raw fs).take i)) (fun s₂ => FinA h₀ L m s₂ y Q)) E s)
    (hs : ∀ x, foldedSetIterable iter env x = pure x := by intro _; rfl) :
    wpAny (model prog w) A (exec (.Assign [.Name y py] (.ListComp elt [⟨.Tuple [.Name x px, .Name x₂ px₂] tk tp, iter, [], 0⟩] scope pos) spos) env) Q E s :=
  Assign_ListComp_Z F₀ hLe hsw hclos hcell hkind hnames hx hx₂ hxx hy hp h hs
open PyProof.Rows.LCg in
theorem comp_due {prog : Program} {w : World} {A : Around} {E : Value → Shared → Prop} {s : Shared} {h₀ : Heap} {L : Addr} {m : Str → Option Value} {env : Env} {raw x1 oc : List Nat} {dr : Int} {ct elt iter : Expr} {x x₂ : Str} {px px₂ tp : Pos} {tk} {scope : Scope} {cl : List (Str × Addr)} {pos : Pos} {Q : Value → Shared → Prop} (_hR : RawIs raw) (_hN : NameIs x1 dr oc) (F₀ : Fr h₀ L s.heap m)
    (hclos : closureFor scope env = pure cl) (hcell : ∀ y ∈ scope.names, y.2 ≠ .cell) (hkind : scope.kind = .function)
    (hnames : ∀ y ∈ scope.names, y.2 = .local → scope.names.lookup y.1 = some .local) (hx : scope.names.lookup x = some .local) (hx₂ : scope.names.lookup x₂ = some .local) (hxx : x ≠ x₂)
    (h : wpAny (model prog w) A (eval iter env) (ZSrcT prog w A h₀ L m env ct elt x x₂ scope cl (fun i acc => IntsAre acc (dueL ((nats oc).take i) ((nats raw).take i))) (fun s₂ => FinE h₀ L m s₂ Q)) E s)
    (hs : ∀ x, foldedSetIterable iter env x = pure x := by intro _; rfl) :
    wpAny (model prog w) A (eval (.ListComp elt [⟨.Tuple [.Name x px, .Name x₂ px₂] tk tp, iter, [ct], 0⟩] scope pos) env) Q E s :=
  ListComp_ZT F₀ hclos hcell hkind hnames hx hx₂ hxx h hs
theorem nats_at {l : List Nat} {i : Nat} {a : Int} (h : (nats l)[i]? = some a) (hl : ∀ c ∈ l, c < 128) : 0 ≤ a ∧ a < 128 := by
  obtain ⟨c, hc, rfl⟩ := List.mem_map.mp (List.mem_of_getElem? h)
  have := hl c hc; omega
section
open PyProof.Rows.LCg
variable {prog : Program} {w : World} {A : Around} {E : Value → Shared → Prop} {s : Shared} {h₀ : Heap} {L : Addr} {m : Str → Option Value} {env : Env} {raw : List Nat} {ct elt : Expr} {x x₂ : Str} {scope : Scope} {cl : List (Str × Addr)} {Fin : Shared → List Value → List (Addr × Obj) → Prop} {l1 l2 : Addr} {vs us : List Value} {k1 k2 : Nat} {news : List (Addr × Obj)}
theorem zip_flag {fs : List Int} (hR : RawIs raw) (hF : FlagsAre fs) (hh : A.handled = none) (F : Fr h₀ L s.heap m) (N : News h₀ L s.heap news) (hm1 : (l1, listOf vs.toArray k1) ∈ news) (hm2 : (l2, listOf us.toArray k2) ∈ news) (hI1 : IntsAre vs (nats raw)) (hI2 : IntsAre us fs)
    (turn : ∀ g i a t b u acc I oI C oC D ext m₂ h tk (E' : Value → Shared → Prop), i < 11 → (nats raw)[i]? = some a → fs[i]? = some b → IntsAre acc ((flagAll raw fs).take i) → NsObj oC m₂ → m₂ x = some (.int a t) → m₂ x₂ = some (.int b u) → 0 ≤ a → a < 128 → 0 ≤ b → b ≤ 128 → Fr h₀ L h m → News h₀ L h ((I, oI) :: (C, oC) :: (D, lst acc) :: ext) → Off3 I C D ext → ((@Ne Nat I C) ∧ (@Ne Nat I D) ∧ (@Ne Nat C D)) →
      wpAny (model prog w) A (eval elt (compEnvC scope cl C env)) (CompEnd h₀ L m { ({ s with heap := g } : Shared) with heap := h, toks := tk } I oI C oC D (lst acc) (fun _ => True) (fun y ext' => ext' = ext ∧ IntsAre (acc ++ [y]) ((flagAll raw fs).take (i + 1)))) E' { ({ s with heap := g } : Shared) with heap := h, toks := tk })
    (fin : ∀ g acc, IntsAre acc (flagAll raw fs) → Fin { s with heap := g } acc news) :
    wpAny (model prog w) A (call (.type "zip") [.ref l1, .ref l2]) (ZSrc prog w A h₀ L m env elt x x₂ scope cl (fun i acc => IntsAre acc ((flagAll raw fs).take i)) Fin) E s := by
  have hl1 : vs.length = 11 := by rw [IntsAre.length hI1, nats_len, (raw_low hR).1]
  have hl2 : us.length = 11 := by rw [IntsAre.length hI2, hF.1]
  have hmin : min vs.toArray.size us.toArray.size = 11 := by simp [hl1, hl2]
  refine zip_src hh F N hm1 hm2 (by rw [hmin, sizeLine_eq]; decide) .nil (fun g => ?_) (fun g acc hJ => fin g acc (by
    rw [hmin, List.take_of_length_le (Nat.le_of_eq (flag_len hR hF))] at hJ; exact hJ))
  intro i v1 v2 acc I oI C oC D ext m₂ h tk E' hi hv1 hv2 hJ hC hx hx2 F' N' off ne
  obtain ⟨a, t, e1, ha⟩ := IntsAre.at hI1 i v1 (by simpa using hv1)
  obtain ⟨b, u, e2, hb⟩ := IntsAre.at hI2 i v2 (by simpa using hv2)
  subst e1 e2
  have ba := nats_at ha (raw_low hR).2
  have bb := hF.2 b (List.mem_of_getElem? hb)
  exact turn g i a t b u acc I oI C oC D ext m₂ h tk E' (by rw [← hmin]; exact hi) ha hb hJ hC hx hx2 ba.1 ba.2 (by omega) (by omega) F' N' off ne
theorem zip_due {x1 oc : List Nat} {dr : Int} (hR : RawIs raw) (hN : NameIs x1 dr oc) (hh : A.handled = none) (F : Fr h₀ L s.heap m) (N : News h₀ L s.heap news) (hm1 : (l1, listOf vs.toArray k1) ∈ news) (hm2 : (l2, listOf us.toArray k2) ∈ news) (hI1 : IntsAre vs (nats oc)) (hI2 : IntsAre us (nats raw))
    (turn : ∀ g i a t b u acc I oI C oC D ext m₂ h tk (E' : Value → Shared → Prop), i < 11 → (nats oc)[i]? = some a → (nats raw)[i]? = some b → IntsAre acc (dueL ((nats oc).take i) ((nats raw).take i)) → NsObj oC m₂ → m₂ x = some (.int a t) → m₂ x₂ = some (.int b u) → Fr h₀ L h m → News h₀ L h ((I, oI) :: (C, oC) :: (D, lst acc) :: ext) → Off3 I C D ext → ((@Ne Nat I C) ∧ (@Ne Nat I D) ∧ (@Ne Nat C D)) →
      wpAny (model prog w) A (isTrue ct (compEnvC scope cl C env) (eval ct (compEnvC scope cl C env))) (fun ok s' => if ok = true then
        wpAny (model prog w) A (eval elt (compEnvC scope cl C env)) (CompEnd h₀ L m { ({ s with heap := g } : Shared) with heap := h, toks := tk } I oI C oC D (lst acc) (fun _ => True) (fun y ext' => ext' = ext ∧ IntsAre (acc ++ [y]) (dueL ((nats oc).take (i + 1)) ((nats raw).take (i + 1))))) E' s'
        else CompEnd h₀ L m { ({ s with heap := g } : Shared) with heap := h, toks := tk } I oI C oC D (lst acc) (fun _ => True) (fun _ ext' => ext' = ext ∧ IntsAre acc (dueL ((nats oc).take (i + 1)) ((nats raw).take (i + 1)))) Value.none s') E' { ({ s with heap := g } : Shared) with heap := h, toks := tk })
    (fin : ∀ g acc, IntsAre acc (dueL (nats oc) (nats raw)) → Fin { s with heap := g } acc news) :
    wpAny (model prog w) A (call (.type "zip") [.ref l1, .ref l2]) (ZSrcT prog w A h₀ L m env ct elt x x₂ scope cl (fun i acc => IntsAre acc (dueL ((nats oc).take i) ((nats raw).take i))) Fin) E s := by
  have ho := (nameIs_low hN).2.2.1
  have hl1 : vs.length = 11 := by rw [IntsAre.length hI1, nats_len, ho]
  have hl2 : us.length = 11 := by rw [IntsAre.length hI2, nats_len, (raw_low hR).1]
  have hmin : min vs.toArray.size us.toArray.size = 11 := by simp [hl1, hl2]
  refine zip_srcT hh F N hm1 hm2 (by rw [hmin, sizeLine_eq]; decide) .nil (fun g => ?_) (fun g acc hJ => fin g acc (by
    rw [hmin, List.take_of_length_le (by rw [nats_len, ho]; decide), List.take_of_length_le (by rw [nats_len, (raw_low hR).1]; decide)] at hJ; exact hJ))
  intro i v1 v2 acc I oI C oC D ext m₂ h tk E' hi hv1 hv2 hJ hC hx hx2 F' N' off ne
  obtain ⟨a, t, e1, ha⟩ := IntsAre.at hI1 i v1 (by simpa using hv1)
  obtain ⟨b, u, e2, hb⟩ := IntsAre.at hI2 i v2 (by simpa using hv2)
  subst e1 e2
  exact turn g i a t b u acc I oI C oC D ext m₂ h tk E' (by rw [← hmin]; exact hi) ha hb hJ hC hx hx2 F' N' off ne
end
end NZ
end PNFilesAux

section PNFilesEnd
open PySem PySem.W PyProof.Rows PySem.Calls
set_option maxRecDepth 100000
set_option maxHeartbeats 2000000
namespace NZ
section
variable {prog : Program} {w : World} {A : Around} {E : Value → Shared → Prop} {s : Shared} {h₀ : Heap} {L l : Addr} {m : Str → Option Value} {news : List (Addr × Obj)} {value slice : PySem.Expr} {vs : List Value} {ns : List Int} {vl : Value} {Q : Value → Shared → Prop} {k : Nat}
theorem slice_whole (F : Fr h₀ L s.heap m) (N : News h₀ L s.heap news) (hm : (l, listOf vs.toArray k) ∈ news) (hi : IntsAre vs ns) (hn : ns.length ≤ 100)
    (h : ∀ D ws h', Fr h₀ L h' m → News h₀ L h' ((D, listOf (List.toArray ws) 0) :: news) → (∀ p ∈ news, p.1 < D) → IntsAre ws ns → Q (.ref D) { s with heap := h' })
    (hs : subscripted slice false (.ref l) (.ref s.heap.objs.size) = operate [.ref s.heap.objs.size, .ref l] (getItem (.ref l) (.ref s.heap.objs.size))) (ht : ∀ r, letTemporaryGo value (.ref l) r = pure ()) :
    wpAny (model prog w) A (subscriptTail value slice (.ref l) (.ref s.heap.objs.size)) Q E { s with heap := s.heap.push { cls := .type "slice", data := .fields #[.none, .none, .none] } } :=
  kmk_slice_ints F N ⟨_, (N _ hm).1, rfl, _, rfl⟩ .none .none hi (kmk_all hi) rfl (fun D ws h' F' N' l1 hI _ _ => h D ws h' F' N' l1 hI) hs ht (kmk_sz hi (by rw [sizeLine_eq]; omega))
theorem slice_tail {t : Tok} (F : Fr h₀ L s.heap m) (N : News h₀ L s.heap news) (hm : (l, listOf vs.toArray k) ∈ news) (hi : IntsAre vs ns) (hn : ns.length ≤ 100)
    (h : ∀ D ws h', Fr h₀ L h' m → News h₀ L h' ((D, listOf (List.toArray ws) 0) :: news) → (∀ p ∈ news, p.1 < D) → IntsAre ws (ns.drop 1) → Q (.ref D) { s with heap := h' })
    (hs : subscripted slice false (.ref l) (.ref s.heap.objs.size) = operate [.ref s.heap.objs.size, .ref l] (getItem (.ref l) (.ref s.heap.objs.size))) (ht : ∀ r, letTemporaryGo value (.ref l) r = pure ()) :
    wpAny (model prog w) A (subscriptTail value slice (.ref l) (.ref s.heap.objs.size)) Q E { s with heap := s.heap.push { cls := .type "slice", data := .fields #[.int 1 t, .none, .none] } } :=
  kmk_slice_ints F N ⟨_, (N _ hm).1, rfl, _, rfl⟩ (.int _ _) .none hi (kmk_from hi (by decide)) rfl (fun D ws h' F' N' l1 hI _ _ => h D ws h' F' N' l1 hI) hs ht (kmk_sz hi (by rw [sizeLine_eq]; omega))
end
theorem lit_odd : Str.ofString "<>.,;:=?*[]" = txt [60, 62, 46, 44, 59, 58, 61, 63, 42, 91, 93] := by decide +kernel
def OddL : List Nat := [60, 62, 46, 44, 59, 58, 61, 63, 42, 91, 93]
section
open PyProof.Rows.LCg
variable {prog : Program} {w : World} {A : Around} {E : Value → Shared → Prop} {s : Shared} {h₀ : Heap} {L : Addr} {m : Str → Option Value} {env : Env}
theorem s_odd {elt : Expr} {x : Str} {scope : Scope} {cl : List (Str × Addr)} {Fin : Shared → List Value → List (Addr × Obj) → Prop} {t : Tok} {news : List (Addr × Obj)} (hh : A.handled = none) (F : Fr h₀ L s.heap m) (N : News h₀ L s.heap news)
    (turn : ∀ g c u ys I oI C oC D m₂ h tk (E' : Value → Shared → Prop), c < 128 → NsObj oC m₂ → m₂ x = some (.str ⟨#[c]⟩ u) → Fr h₀ L h m → News h₀ L h ((I, oI) :: (C, oC) :: (D, lst ys) :: news) → Off3 I C D news → ((@Ne Nat I C) ∧ (@Ne Nat I D) ∧ (@Ne Nat C D)) →
      wpAny (model prog w) A (eval elt (compEnvC scope cl C env)) (CompEnd h₀ L m { s with heap := h, toks := tk } I oI C oC D (lst ys) (fun _ => True) (fun y news' => news' = news ∧ ∃ t', y = .int (c : Int) t')) E' { ({ s with heap := g } : Shared) with heap := h, toks := tk })
    (fin : ∀ g ys, IntsAre ys (nats OddL) → Fin { s with heap := g } ys news) :
    SSrc prog w A h₀ L m env elt x scope cl Fin (.str (Str.ofString "<>.,;:=?*[]") t) s := by
  rw [lit_odd]
  exact s_ords hh F N (by decide) (by decide) turn fin
end
theorem odd_at {k : Int} (h0 : 0 ≤ k) (h1 : k < 11) : ∃ c : Nat, OddC c ∧ (nats OddL).getD k.toNat 0 = (c : Int) := by
  have : k = 0 ∨ k = 1 ∨ k = 2 ∨ k = 3 ∨ k = 4 ∨ k = 5 ∨ k = 6 ∨ k = 7 ∨ k = 8 ∨ k = 9 ∨ k = 10 := by omega
  rcases this with rfl | rfl | rfl | rfl | rfl | rfl | rfl | rfl | rfl | rfl | rfl
  · exact ⟨60, by decide, rfl⟩
  · exact ⟨62, by decide, rfl⟩
  · exact ⟨46, by decide, rfl⟩
  · exact ⟨44, by decide, rfl⟩
  · exact ⟨59, by decide, rfl⟩
  · exact ⟨58, by decide, rfl⟩
  · exact ⟨61, by decide, rfl⟩
  · exact ⟨63, by decide, rfl⟩
  · exact ⟨42, by decide, rfl⟩
  · exact ⟨91, by decide, rfl⟩
  · exact ⟨93, by decide, rfl⟩
section
variable {prog : Program} {w : World} {A : Around} {E : Value → Shared → Prop} {s : Shared} {h₀ : Heap} {L l : Addr} {m : Str → Option Value} {news : List (Addr × Obj)} {value slice : PySem.Expr} {vs : List Value} {Q : Value → Shared → Prop} {kk : Nat}
theorem item_odd {k : Int} {u : Tok} (N : News h₀ L s.heap news) (hm : (l, listOf vs.toArray kk) ∈ news) (hI : IntsAre vs (nats OddL)) (h0 : 0 ≤ k) (hk : k < 11) (h : ∀ (c : Nat) t', OddC c → Q (.int (c : Int) t') s)
    (hs : subscripted slice false (.ref l) (.int k u) = operate [.ref l, .int k u] (getItem (.ref l) (.int k u)) := by with_unfolding_all rfl) :
    wpAny (model prog w) A (subscriptTail value slice (.ref l) (.int k u)) Q E s := by
  obtain ⟨c, hc, e⟩ := odd_at h0 hk
  refine item_ints N hm hI h0 (by show k < ((11 : Nat) : Int); omega) (by decide) (fun t' => ?_) hs
  rw [e]; exact h c t' hc
end
/-- eleven octets that are no plain name -/
def BadL (l : List Int) : Prop := l.length = 11 ∧ (∀ c ∈ l, 0 ≤ c ∧ c < 256) ∧ isPlainB l = false
theorem bad_set {raw : List Nat} {fs : List Int} {k v : Int} (hR : RawIs raw) (hF : FlagsAre fs) {c : Nat} (hc : OddC c) {x : Int} (x0 : 0 ≤ x) (x1 : x < 2) (h0 : 0 ≤ k) (h1 : k < 11) (hv : v = (c : Int) + 128 * x) : BadL ((flagAll raw fs).set k.toNat v) := by
  have hl := flag_len hR hF
  have hlt : k.toNat < (flagAll raw fs).length := by omega
  refine ⟨by rw [List.length_set, hl], fun d hd => ?_, plain_no (v := v) ?_ ?_⟩
  · rcases List.mem_or_eq_of_mem_set hd with q | q
    · exact flag_in raw fs (raw_low hR).2 hF.2 d q
    · rw [q, hv]; rcases hc with q | q | q | q | q | q | q | q | q | q | q <;> omega
  · have : ((flagAll raw fs).set k.toNat v)[k.toNat]? = some v := by rw [List.getElem?_set_self hlt]
    exact List.mem_of_getElem? this
  · rw [hv]
    exact plain_odd hc (by omega)
theorem bad_blank {raw : List Nat} {fs : List Int} (hR : RawIs raw) (hF : FlagsAre fs) : BadL ([32] ++ (flagAll raw fs).drop 1) := by
  refine ⟨by rw [List.length_append, List.length_drop, flag_len hR hF]; rfl, fun d hd => ?_, plain_blank _⟩
  rcases List.mem_append.mp hd with q | q
  · rw [List.mem_singleton.mp q]; decide
  · exact flag_in raw fs (raw_low hR).2 hF.2 d (List.mem_of_mem_drop q)
theorem plainX_ok {l : List Int} {r : Addr} {vs : List Value} {k : Nat} {news : List (Addr × Obj)} (hm : (r, listOf vs.toArray k) ∈ news) (hI : IntsAre vs l) (hB : BadL l) : Does 40 [.ref r] news 4 (fun v nw => v = .bool false ∧ nw = news) :=
  plainN_ok hm hI hB.1 hB.2.1 hB.2.2
end NZ
end PNFilesEnd

section PNFiles
open PySem PySem.W PyProof.Rows PySem.Calls
set_option maxRecDepth 100000
set_option maxHeartbeats 3000000
namespace NZ
theorem files_raw {d nA : Addr} {oD oN : Obj} {len : Nat} (hD : DealOk oD nA len) (hN : NumsOk oN len) (hne : nA ≠ d) (rest : List (Addr × Obj)) (hr : ∀ p ∈ rest, p.1 ≠ d) :
    Does 178 [.ref d] ((d, oD) :: (nA, oN) :: rest) 12 (fun v nw => ∃ o ex, (v = .bool true ∧ DealOk o nA len ∧ ex = []) ∧ (∀ p ∈ ex, AllLt p.1 ((d, oD) :: (nA, oN) :: rest)) ∧ nw = ex ++ (d, o) :: (nA, oN) :: rest) := by
  k_with_none
  w_top off
  k_with "execs cons" => first | (refine wpAny_execs_cons (wp_holdE ?_); intro qH9 eH9 hH9)
  k_with "HoldQ" => first | (refine hold_ (by assumption) ?_; dsimp only)
  k_with "k_mem" => first | (first | with_reducible exact List.mem_cons_self | (with_reducible refine List.mem_cons_of_mem _ ?_; k_mem))
  k_with "k_ne" => first | (refine neN ?_; (try dsimp only); first | (with_reducible assumption) | (refine Nat.ne_of_gt ?_; simp only [*]; done) | (refine Ne.symm ?_; simp only [*, ne_eq, not_false_eq_true]; done) | (omega))
  k_with "k_all" => first | (assumption)
  k_with "k_all" => first | (assumption)
  k_with "ktr_enter" => first | ((refine' code_defC ?q4k1 ?q4k2 ?q4k3 ?q4k4 ?q4k5 ?q4kA ?q4kF ?q4kK ?q4k6 ?q4k7 ?q4k8 ?q4k9 ?q4kB ?q4kD ?_ ?q4c2 ?q4c3 ?q4c4); (case q4kA => exact rfl); (case q4kF => exact rfl); (case q4kK => assumption); (case q4k1 => k_asm); (case q4k2 => k_asm); (case q4k3 => k_asm); (case q4k4 => k_asm); (case q4k5 => k_asm); (case q4k6 => k_is); (case q4k7 => k_is); (case q4k8 => ktr_room); (case q4k9 => exact BindsTo.of_eq rfl); (case q4kB => exact rfl); (case q4kD => decide +kernel); (case q4c2 => exact rfl); (case q4c3 => exact rfl); (case q4c4 => exact rfl); k_whole; intro g' L' h' tk' cells' FG' F' N' Y' B' X' T' l1; (try k_lt l1); k_cells Y'; (try simp only [List.cons_append, List.nil_append] at N'); (try dsimp only); (try k_fold))
  k_with "call ref" => first | (k_here; (with_reducible show wpAny _ _ (call (Value.ref 144) _) _ _ _); k_dflt (
  (refine' use33 ?q5k1 ?q5k2 ?q5k3 ?q5k4 ?q5k5 ?q5k6 (take_ok ?q5t1 ?q5t2 ?q5t3 ?q5t4 ?q5t5 ?q5t6 ?q5t7 ?q5t8) ?q5k7 ?q5k8 ?_)
  (case q5k1 => k_asm)
  (case q5k2 => k_asm)
  (case q5k3 => k_asm)
  (case q5k4 => k_asm)
  (case q5t1 => k_mem)
  (case q5t2 => k_asm)
  (case q5t3 => k_mem)
  (case q5t4 => k_asm)
  (case q5t5 => k_asm)
  (case q5t6 => omega)
  (case q5t7 => omega)
  (case q5t8 => (intro o; k_upd))
  (case q5k5 => k_asm)
  (case q5k6 => first | exact rfl | assumption)
  (case q5k7 => ktr_room)
  (case q5k8 => ktr_units)
  intro o' x' t' hx0' hx1' hD' h' tk' F' N'
  (all_goals (try k_sweep)); (all_goals (try dsimp only)); (all_goals (try k_fold))))
  k_with "call ref" => first | (k_here; (with_reducible show wpAny _ _ (call (Value.ref 149) _) _ _ _); k_dflt (
  (refine' use33T ?q6k1 ?q6k2 ?q6k3 ?q6k4 ?q6k5 ?q6k6 (part_ok ?q6t1 ?q6t2 ?q6t3 ?q6t4 ?q6t5 ?q6t6 ?q6t7 ?q6t8) ?q6k7 ?q6k8 ?_)
  (case q6k1 => k_asm)
  (case q6k2 => k_asm)
  (case q6k3 => k_asm)
  (case q6k4 => k_asm)
  (case q6t1 => k_mem)
  (case q6t2 => k_asm)
  (case q6t3 => k_mem)
  (case q6t4 => k_asm)
  (case q6t5 => k_asm)
  (case q6t6 => omega)
  (case q6t7 => omega)
  (case q6t8 => (intro o; k_upd))
  (case q6k5 => k_asm)
  (case q6k6 => first | exact rfl | assumption)
  (case q6k7 => ktr_room)
  (case q6k8 => ktr_units)
  intro o' ps' t' hpl' hpc' hD' h' tk' hTk' F' N'
  dsimp only at hTk'
  (all_goals (try k_sweep)); (all_goals (try dsimp only)); (all_goals (try k_fold))))
  k_with "call ref" => first | (k_here; (with_reducible show wpAny _ _ (call (Value.ref 156) _) _ _ _); k_dflt (
  (refine' use32 ?q7k1 ?q7k2 ?q7k3 ?q7k4 ?q7k5 ?q7k6 (fill8 ?q7t1 ?q7t2 ?q7t3) ?q7k7 ?q7k8 ?_)
  (case q7k1 => k_asm)
  (case q7k2 => k_asm)
  (case q7k3 => k_asm)
  (case q7k4 => k_asm)
  (case q7t1 => with_reducible exact rfl)
  (case q7t2 => first | exact cons_low (by assumption) (by assumption) | exact tame_low (tame (by assumption)))
  (case q7t3 => first | exact cons_len (by omega) | exact tame_len2 (by assumption) (by decide))
  (case q7k5 => k_asm)
  (case q7k6 => first | exact rfl | assumption)
  (case q7k7 => ktr_room)
  (case q7k8 => ktr_units)
  intro r' vs' k' hI' l1 h' tk' F' N'
  (try simp only [AllLt, and_true] at l1)
  (all_goals (try k_sweep)); (all_goals (try dsimp only)); (all_goals (try k_fold))))
  k_with "call ref" => first | (k_here; (with_reducible show wpAny _ _ (call (Value.ref 156) _) _ _ _); k_dflt (
  (refine' use32 ?q8k1 ?q8k2 ?q8k3 ?q8k4 ?q8k5 ?q8k6 (fill3 ?q8t1 ?q8t2 ?q8t3) ?q8k7 ?q8k8 ?_)
  (case q8k1 => k_asm)
  (case q8k2 => k_asm)
  (case q8k3 => k_asm)
  (case q8k4 => k_asm)
  (case q8t1 => with_reducible exact rfl)
  (case q8t2 => first | exact cons_low (by assumption) (by assumption) | exact tame_low (tame (by assumption)))
  (case q8t3 => first | exact cons_len (by omega) | exact tame_len2 (by assumption) (by decide))
  (case q8k5 => k_asm)
  (case q8k6 => first | exact rfl | assumption)
  (case q8k7 => ktr_room)
  (case q8k8 => ktr_units)
  intro r' vs' k' hI' l1 h' tk' F' N'
  (try simp only [AllLt, and_true] at l1)
  (all_goals (try k_sweep)); (all_goals (try dsimp only)); (all_goals (try k_fold))))
  k_with "call ref" => first | (k_here; (with_reducible show wpAny _ _ (call (Value.ref 163) _) _ _ _); k_dflt (
  (refine' use105 ?q9k1 ?q9k2 ?q9k3 ?q9k4 ?q9k5 ?q9k6 (name_ok ?q9t1 ?q9t2 ?q9t3 ?q9t4 ?q9t5) ?q9k7 ?q9k8 ?_)
  (case q9k1 => k_asm)
  (case q9k2 => k_asm)
  (case q9k3 => k_asm)
  (case q9k4 => k_asm)
  (case q9t1 => k_asm)
  (case q9t2 => k_mem)
  (case q9t3 => k_asm)
  (case q9t4 => k_asm)
  (case q9t5 => (intro o; k_upd))
  (case q9k5 => k_asm)
  (case q9k6 => first | exact rfl | assumption)
  (case q9k7 => ktr_room)
  (case q9k8 => ktr_units)
  intro o' tp' x' t' dr' td' oc' r' vs' k' hNm' hI' hD' o1' l1 h' tk' F' N'
  (try simp only [AllLt, and_true] at l1); (obtain ⟨_, hNl', hNo', hNc'⟩ := nameIs_low hNm'); (have hN9 := nats_in hNc')
  (all_goals (try k_sweep)); (all_goals (try dsimp only)); (all_goals (try k_fold))))
  k_with "call ref" => first | (k_here; (with_reducible show wpAny _ _ (call (Value.ref 57) _) _ _ _); k_dflt (
  (refine' use00 ?q10k1 ?q10k2 ?q10k3 ?q10k4 ?q10k5 ?q10k6 (matchC_ok ?q10t1 ?q10t2 ?q10t3 ?q10t4 ?q10tR ?q10tF) ?q10k7 ?q10k8 ?_)
  (case q10k1 => k_asm)
  (case q10k2 => k_asm)
  (case q10k3 => k_asm)
  (case q10k4 => k_asm)
  (case q10t1 => k_mem)
  (case q10t2 => k_mem)
  (case q10t3 => k_asm)
  (case q10t4 => k_asm)
  (case q10tR => assumption)
  (case q10tF => assumption)
  (case q10k5 => k_asm)
  (case q10k6 => first | exact rfl | assumption)
  (case q10k7 => ktr_room)
  (case q10k8 => ktr_units)
  intro h' tk' F' N'
  (all_goals (try k_sweep)); (all_goals (try dsimp only)); (all_goals (try k_fold))))
  k_with "call ref" => first | (k_here; (with_reducible show wpAny _ _ (call (Value.ref 57) _) _ _ _); k_dflt (
  (refine' use00 ?q11k1 ?q11k2 ?q11k3 ?q11k4 ?q11k5 ?q11k6 (matchB_ok ?q11t1 ?q11t2 ?q11t3 ?q11t4 ?q11tR ?q11tF) ?q11k7 ?q11k8 ?_)
  (case q11k1 => k_asm)
  (case q11k2 => k_asm)
  (case q11k3 => k_asm)
  (case q11k4 => k_asm)
  (case q11t1 => k_mem)
  (case q11t2 => k_mem)
  (case q11t3 => k_asm)
  (case q11t4 => k_asm)
  (case q11tR => assumption)
  (case q11tF => assumption)
  (case q11k5 => k_asm)
  (case q11k6 => first | exact rfl | assumption)
  (case q11k7 => ktr_room)
  (case q11k8 => ktr_units)
  intro h' tk' F' N'
  (all_goals (try k_sweep)); (all_goals (try dsimp only)); (all_goals (try k_fold))))
  k_with "call ref" => first | (k_here; (with_reducible show wpAny _ _ (call (Value.ref 57) _) _ _ _); k_dflt (
  (refine' use00 ?q12k1 ?q12k2 ?q12k3 ?q12k4 ?q12k5 ?q12k6 (matchA_ok ?q12t1 ?q12t2 ?q12t3 ?q12t4 ?q12t5 ?q12t6 ?q12tR ?q12tF) ?q12k7 ?q12k8 ?_)
  (case q12k1 => k_asm)
  (case q12k2 => k_asm)
  (case q12k3 => k_asm)
  (case q12k4 => k_asm)
  (case q12t1 => k_mem)
  (case q12t2 => k_mem)
  (case q12t3 => k_asm)
  (case q12t4 => k_asm)
  (case q12t5 => assumption)
  (case q12t6 => assumption)
  (case q12tR => assumption)
  (case q12tF => assumption)
  (case q12k5 => k_asm)
  (case q12k6 => first | exact rfl | assumption)
  (case q12k7 => ktr_room)
  (case q12k8 => ktr_units)
  intro h' tk' F' N'
  (all_goals (try k_sweep)); (all_goals (try dsimp only)); (all_goals (try k_fold))))
  k_with "call ref" => first | (k_here; (with_reducible show wpAny _ _ (call (Value.ref 52) _) _ _ _); k_dflt (
  (refine' use10i ?q13k1 ?q13k2 ?q13k3 ?q13k4 ?q13k5 ?q13k6 (showS_ok ?q13t1 ?q13t2 ?q13tR ?q13tF) ?q13k7 ?q13k8 ?_)
  (case q13k1 => k_asm)
  (case q13k2 => k_asm)
  (case q13k3 => k_asm)
  (case q13k4 => k_asm)
  (case q13t1 => k_mem)
  (case q13t2 => k_asm)
  (case q13tR => assumption)
  (case q13tF => assumption)
  (case q13k5 => k_asm)
  (case q13k6 => first | exact rfl | assumption)
  (case q13k7 => ktr_room)
  (case q13k8 => ktr_units)
  intro t' h' tk' F' N'
  (all_goals (try k_sweep)); (all_goals (try dsimp only)); (all_goals (try k_fold))))
  k_with "call ref" => first | (k_here; (with_reducible show wpAny _ _ (call (Value.ref 35) _) _ _ _); k_dflt (
  (refine' use32 ?q14k1 ?q14k2 ?q14k3 ?q14k4 ?q14k5 ?q14k6 (parseS_ok _ ?q14tR ?q14tF) ?q14k7 ?q14k8 ?_)
  (case q14k1 => k_asm)
  (case q14k2 => k_asm)
  (case q14k3 => k_asm)
  (case q14k4 => k_asm)
  (case q14tR => assumption)
  (case q14tF => assumption)
  (case q14k5 => k_asm)
  (case q14k6 => first | exact rfl | assumption)
  (case q14k7 => ktr_room)
  (case q14k8 => ktr_units)
  intro r' vs' k' hI' l1 h' tk' F' N'
  (try simp only [AllLt, and_true] at l1)
  (all_goals (try k_sweep)); (all_goals (try dsimp only)); (all_goals (try k_fold))))
  k_with "call ref" => first | (k_here; (with_reducible show wpAny _ _ (call (Value.ref 40) _) _ _ _); k_dflt (
  (refine' use00 ?q15k1 ?q15k2 ?q15k3 ?q15k4 ?q15k5 ?q15k6 (plainA_ok ?q15t1 ?q15t2 ?q15tR ?q15tF) ?q15k7 ?q15k8 ?_)
  (case q15k1 => k_asm)
  (case q15k2 => k_asm)
  (case q15k3 => k_asm)
  (case q15k4 => k_asm)
  (case q15t1 => k_mem)
  (case q15t2 => k_asm)
  (case q15tR => assumption)
  (case q15tF => assumption)
  (case q15k5 => k_asm)
  (case q15k6 => first | exact rfl | assumption)
  (case q15k7 => ktr_room)
  (case q15k8 => ktr_units)
  intro h' tk' F' N'
  (all_goals (try k_sweep)); (all_goals (try dsimp only)); (all_goals (try k_fold))))
  k_with "exec If" => first | (k_here; (fail_if_success (with_reducible show wpAny _ _ _ (IfEnd _ _ _ _ _) _ _)); k_dflt ((refine' if_cut ?q16zf ?q16zn ?_ ?_); (case q16zf => k_asm); (case q16zn => k_asm); rotate_left; (focus ((intro h' tk' F' N'; (try k_sweep); (try k_fold)))); rotate_left))
  k_with "IfEnd" => first | (k_dflt (first
  | ((refine' ifEnd_ ?q17zf ?q17zn ?q17zs); (case q17zf => k_asm); (case q17zn => k_asm); (case q17zs => exact fun p hp => by repeat (first | exact hp | refine List.mem_cons_of_mem _ ?_)))
  | (exfalso; omega)))
  k_with "compareOp NotEq ref ref" => first | (k_here; (with_reducible show wpAny _ _ (compareOp CmpOp.NotEq (Value.ref _) (Value.ref _)) _ _ _); k_dflt (
  ((refine' ne_lists ?q18zN ?q18z3 ?q18z4 ?q18zi ?q18zj ?q18zu ?_); (case q18zN => k_asm); (case q18z3 => (repeat (first | (with_reducible exact List.mem_cons_self) | (with_reducible refine List.mem_cons_of_mem _ ?_)))); (case q18z4 => (repeat (first | (with_reducible exact List.mem_cons_self) | (with_reducible refine List.mem_cons_of_mem _ ?_)))); (case q18zi => assumption); (case q18zj => assumption); (case q18zu => ktr_units))))
  k_with "compareOp Eq ref ref" => first | (k_here; (with_reducible show wpAny _ _ (compareOp CmpOp.Eq (Value.ref _) (Value.ref _)) _ _ _); k_dflt (
  ((refine' eq_nil ?q19zN ?q19z3 ?q19z4 ?q19zi ?q19zu ?_); (case q19zN => k_asm); (case q19z3 => (repeat (first | (with_reducible exact List.mem_cons_self) | (with_reducible refine List.mem_cons_of_mem _ ?_)))); (case q19z4 => (repeat (first | (with_reducible exact List.mem_cons_self) | (with_reducible refine List.mem_cons_of_mem _ ?_)))); (case q19zi => assumption); (case q19zu => ktr_units))))
  k_with "compareOp NotEq bool bool" => first | (k_here; k_dflt (refine ne_boolSame ?_))
  k_with "CompEnd" => first | (k_dflt (
  (refine' compEnd_ ?q21e1 ?q21e2 ?q21e4 ?q21e5 ⟨?q21e7, ?q21e8⟩)
  (case q21e1 => k_asm)
  (case q21e2 => k_asm)
  (case q21e7 => exact rfl)
  (case q21e4 => first | assumption | (simp only [LCg.Off3, and_true]; assumption))
  (case q21e5 => exact trivial)
  (case q21e8 => first
    | exact ⟨_, rfl⟩
    | exact flag_snoc (by assumption) (by assumption) (by assumption)
    | exact due_snoc (by assumption) (by assumption) (by assumption) (by assumption) (by assumption)
    | exact due_skip1 (by assumption) (by assumption) (by assumption) (by assumption)
    | exact due_skip2 (by assumption) (by assumption) (by assumption) (by assumption))))
  k_with "CompEnd" => first | (k_dflt (
  (refine' compEnd_ ?q22e1 ?q22e2 ?q22e4 ?q22e5 ⟨_, ?q22e6, ?q22e7, ?q22e8⟩)
  (case q22e1 => k_asm)
  (case q22e2 => k_asm)
  (case q22e7 => exact rfl)
  (case q22e6 => k_asm)
  (case q22e4 => first | assumption | (simp only [LCg.Off3, and_true]; assumption))
  (case q22e5 => exact trivial)
  (case q22e8 => exact flagE_snoc (by assumption) (by assumption) (by assumption) (by omega))))
  k_with "CompSrc" => first | (
  k_here
  k_dflt (
    (refine LCg.CompSrc.range (by rfl) (by k_asm) (by k_asm) (by assumption) (by first | exact small_one (by kcf_bnd) (by kcf_bnd) (by kcf_bnd) (by kcf_bnd) | decide) (by first | exact rangeSize_nat _ _ | rfl) (by first | exact Nat.le_of_ble_eq_true rfl | (rw [PySem.sizeLine_eq]; omega)) ?_)
    (intro g')
    (refine' comp_draw FlagE ?q23c1 ?q23cm ?q23c2 ?q23c3 (fun i' o' v' ys' I' oI' C' oC' D' m' h' tk' E' hi' hD' hJ' hP' hC' hx' F' N' off' ne' => ?_) (fun o' ys' hD' hJ' => ?_))
    (case q23c1 => k_asm)
    (case q23cm => k_mem)
    (case q23c2 => (intro o; k_upd))
    (case q23c3 => exact ⟨[], .nil, rfl, fun _ h => nomatch h⟩)
    (all_goals (try (obtain ⟨tP', hP'⟩ := hP'; subst hP')))
    (all_goals (try simp only [LCg.Off3, and_true] at off'))
    kcf_last))
  k_with "binaryOp Add ref ref" => first | (k_here; (with_reducible show wpAny _ _ (binaryOp _ (Value.ref _) (Value.ref _)) _ _ _); k_dflt (refine' kmk_add_ints ?q24F ?q24N ?q24a ?q24b ?q24i ?q24j ?_ ?q24z; (case q24F => k_asm); (case q24N => k_asm); (case q24a => exact News.isList (by k_asm) (by k_mem)); (case q24b => exact News.isList (by k_asm) (by k_mem)); (case q24i => assumption); (case q24j => assumption); (case q24z => (simp only [nats, List.length_map, lawFilled_len]; exact Nat.le_of_ble_eq_true rfl))); intro D' ws' h' F' N' l1 hI'; (try k_lt l1); (try k_sweep); (obtain ⟨raw9, hRw9, hI9⟩ := raw_of hI' (by assumption) (by assumption) (by assumption)); clear hI')
  k_with "binaryOp Add str str" => first | (k_here; (with_reducible show wpAny _ _ (binaryOp Operator.Add (Value.str (Txt.item _ _) _) (Value.str (txt _) _)) _ _ _); k_dflt ((refine' add_first ?q25a ?q25b ?q25c ?_); (case q25a => assumption); (case q25b => assumption); (case q25c => exact Nat.le_trans (tame_len2 (by assumption) (by decide)) (by decide))); intro c' t' k' hc')
  k_with "call builtin:str.replace" => first | (k_here; k_dflt ((refine' replace_rule (c := 42) (z := []) ?q26ey ?q26ez ?q26hu ?q26hv ?q26hc ?q26hn ?q26hz ?_); (case q26ey => exact lit_star); (case q26ez => exact lit_nil); (case q26hu => omega); (case q26hv => rfl); (case q26hc => decide); (case q26hn => omega); (case q26hz => decide)); intro t' k' hTk'; (try dsimp only at hTk'))
  k_with "call builtin:str.replace" => first | (k_here; k_dflt ((refine' replace_rule (c := 63) (z := [81]) ?q27ey ?q27ez ?q27hu ?q27hv ?q27hc ?q27hn ?q27hz ?_); (case q27ey => exact lit_any); (case q27ez => exact lit_Q); (case q27hu => omega); (case q27hv => rfl); (case q27hc => decide); (case q27hn => exact rep_room (by assumption) (by decide)); (case q27hz => decide)); intro t' k' hTk'; (try dsimp only at hTk'))
  k_with "call type:list" => first | (k_here; (with_reducible show wpAny _ _ (call (Value.type _) [Value.ref _]) _ _ _); k_dflt ((refine' copy_ints ?q28zF ?q28zN ?q28zm ?q28zi ?q28zn ?_); (case q28zF => k_asm); (case q28zN => k_asm); (case q28zm => (repeat (first | (with_reducible exact List.mem_cons_self) | (with_reducible refine List.mem_cons_of_mem _ ?_)))); (case q28zi => assumption); (case q28zn => (rw [nats_len, (raw_low (by assumption)).1]; decide))); intro D' c' h' F' N' l1; (try k_lt l1); (try k_sweep))
  k_with "exec Assign cons ListComp" => first | (k_extra "flagged")
  k_with "eval ListComp" => first | (k_extra "due")
  k_with "call type:zip" => first | (k_extra "zip")
  k_with "subscriptTail Name Slice ref ref" => first | (k_here; (with_reducible show wpAny _ _ (subscriptTail _ (PySem.Expr.Slice none none none _) (Value.ref _) (Value.ref _)) _ _ _); k_dflt (refine' slice_whole ?q32zF ?q32zN ?q32zm ?q32zi ?q32zn ?_ ?q32s ?q32t; (case q32zF => k_asm); (case q32zN => k_asm); (case q32zm => (repeat (first | (with_reducible exact List.mem_cons_self) | (with_reducible refine List.mem_cons_of_mem _ ?_)))); (case q32zi => assumption); (case q32zn => (rw [flag_len (by assumption) (by assumption)]; decide)); (case q32s => with_unfolding_all rfl); (case q32t => kmk_pure)); intro D' ws' h' F' N' l1 hI'; (try k_lt l1); (try k_sweep))
  k_with "subscriptTail Name Slice ref ref" => first | (k_here; (with_reducible show wpAny _ _ (subscriptTail _ (PySem.Expr.Slice (some _) none none _) (Value.ref _) (Value.ref _)) _ _ _); k_dflt (refine' slice_tail ?q33zF ?q33zN ?q33zm ?q33zi ?q33zn ?_ ?q33s ?q33t; (case q33zF => k_asm); (case q33zN => k_asm); (case q33zm => (repeat (first | (with_reducible exact List.mem_cons_self) | (with_reducible refine List.mem_cons_of_mem _ ?_)))); (case q33zi => assumption); (case q33zn => (rw [flag_len (by assumption) (by assumption)]; decide)); (case q33s => with_unfolding_all rfl); (case q33t => kmk_pure)); intro D' ws' h' F' N' l1 hI'; (try k_lt l1); (try k_sweep))
  k_with "subscriptTail" => first | (k_here; (with_reducible show wpAny _ _ (subscriptTail _ _ (Value.ref _) (Value.int _ _)) _ _ _); k_dflt ((refine' item_odd ?q34zN ?q34zm ?q34zi ?q34z0 ?q34zk ?_); (case q34zN => k_asm); (case q34zm => (repeat (first | (with_reducible exact List.mem_cons_self) | (with_reducible refine List.mem_cons_of_mem _ ?_)))); (case q34zi => assumption); (case q34z0 => omega); (case q34zk => omega); intro c' t' hO'))
  k_with "setItem ref int" => first | (k_here; (with_reducible show wpAny _ _ (setItem (Value.ref _) (Value.int _ _) (Value.int _ _)) _ _ _); k_dflt (refine' ksa_set ?q35k1 ?q35k2 ?q35k3 ?q35k4 ?q35k5 ?q35k6 ?q35k7 ?_; (case q35k1 => k_asm); (case q35k2 => k_asm); (case q35k3 => k_upd); (case q35k4 => assumption); (case q35k5 => omega); (case q35k6 => (rw [flag_len (by assumption) (by assumption)]; omega)); (case q35k7 => omega)); intro h' F' N' hi' hl' hs'; clear hl' hs'; (try k_sweep))
  k_with "binaryOp Add ref ref" => first | (k_here; (with_reducible show wpAny _ _ (binaryOp _ (Value.ref _) (Value.ref _)) _ _ _); k_dflt (refine' kmk_add_ints (ns := [32]) ?q36F ?q36N ?q36a ?q36b ?q36i ?q36j ?_ ?q36z; (case q36F => k_asm); (case q36N => k_asm); (case q36a => exact News.isList (by k_asm) (by k_mem)); (case q36b => exact News.isList (by k_asm) (by k_mem)); (case q36i => exact IntsAre.cons _ _ .nil); (case q36j => assumption); (case q36z => (rw [List.length_drop, flag_len (by assumption) (by assumption)]; exact Nat.le_of_ble_eq_true rfl))); intro D' ws' h' F' N' l1 hI'; (try k_lt l1); (try k_sweep))
  k_with "eval ListComp" => first | (k_here; (with_reducible show wpAny _ _ (eval (Expr.ListComp (Expr.Call (Expr.Name (Str.ofString "ord") _) _ _ _) _ _ _) _) _ _ _); k_dflt (refine ListComp_S (by k_asm) (by with_unfolding_all rfl) (by decide) (by rfl) (by decide) (by rfl) ?_))
  k_with "exec Assign cons ListComp" => first | (k_here; (with_reducible show wpAny _ _ (exec (Stmt.Assign _ (Expr.ListComp (Expr.Call (Expr.Name (Str.ofString "ord") _) _ _ _) _ _ _) _) _) _ _ _); k_dflt (refine Assign_ListComp_S (by k_asm) (by rfl) (by with_unfolding_all rfl) (by with_unfolding_all rfl) (by decide) (by rfl) (by decide) (by rfl) (by rfl) (by rfl) ?_))
  k_with "SSrc" => first | (k_here; k_dflt (
  (refine' s_odd ?q39zh ?q39zF ?q39zN ?_ ?_)
  (case q39zh => exact rfl)
  (case q39zF => k_asm)
  (case q39zN => k_asm); (focus ((
    intro g' c' u' ys' I' oI' C' oC' D' m' h' tk' E' hc' hC' hx' F' N' off' ne'
    (try simp only [LCg.Off3, and_true] at off')
    dsimp only))); rotate_left; (focus ((intro g' ys' hI'))); rotate_left))
  k_with "call ref" => first | (k_here; (with_reducible show wpAny _ _ (call (Value.ref 40) _) _ _ _); k_dflt (
  (refine' use00 ?q40k1 ?q40k2 ?q40k3 ?q40k4 ?q40k5 ?q40k6 (plainX_ok ?q40t1 ?q40t2 ?q40tB) ?q40k7 ?q40k8 ?_)
  (case q40k1 => k_asm)
  (case q40k2 => k_asm)
  (case q40k3 => k_asm)
  (case q40k4 => k_asm)
  (case q40t1 => k_mem)
  (case q40t2 => assumption)
  (case q40tB => first | exact bad_blank (by assumption) (by assumption) | exact bad_set (by assumption) (by assumption) (by assumption) (by assumption) (by assumption) (by assumption) (by assumption) rfl)
  (case q40k5 => k_asm)
  (case q40k6 => first | exact rfl | assumption)
  (case q40k7 => ktr_room)
  (case q40k8 => ktr_units)
  intro h' tk' F' N'
  (all_goals (try k_sweep)); (all_goals (try dsimp only)); (all_goals (try k_fold))))
  unfold Does; k_fill
  intro w p loose mean mg mb dp un gd cn cs a ccd cl outer A₀ base h₀ L m s Q E B F X N T hk hd hu hret
  refine wpAny_call ?_
  k_dflt ktr_enter
  k_with "flagged" => (k_here; (rename RawIs _ => hRw); (rename FlagE _ _ => hFE); (have hFO := flagE_out hFE (by first | rfl | decide)); (obtain ⟨fs9, hfI, hFl⟩ := hFO); k_dflt (refine assign_flag hRw hFl (by k_asm) (by rfl) (by with_unfolding_all rfl) (by with_unfolding_all rfl) (by decide) (by rfl) (by decide) (by rfl) (by rfl) (by decide) (by rfl) (by rfl) ?_))
  k_with "due" => (k_here; (rename RawIs _ => hRw); (rename NameIs _ _ _ => hNm); k_dflt (refine comp_due hRw hNm (by k_asm) (by with_unfolding_all rfl) (by decide) (by rfl) (by decide) (by rfl) (by rfl) (by decide) ?_))
  k_with "zip" => (k_here; first
    | (rename RawIs _ => hRw; rename FlagsAre _ => hFl; k_dflt (
        (refine' zip_flag hRw hFl ?u1zh ?u1zF ?u1zN ?u1zm1 ?u1zm2 ?u1zi1 ?u1zi2 ?u1zturn ?u1zfin)
        (case u1zh => exact rfl)
        (case u1zF => k_asm)
        (case u1zN => k_asm)
        (case u1zm1 => (repeat (first | (with_reducible exact List.mem_cons_self) | (with_reducible refine List.mem_cons_of_mem _ ?_))))
        (case u1zm2 => (repeat (first | (with_reducible exact List.mem_cons_self) | (with_reducible refine List.mem_cons_of_mem _ ?_))))
        (case u1zi1 => assumption)
        (case u1zi2 => assumption)
        (case' u1zturn => (intro g' i' a' t' b' u' acc' I' oI' C' oC' D' ext' m' h' tk' E' hi' hk1' hk2' hJ' hC' hx1' hx2' hb1' hb2' hb3' hb4' F' N' off' ne'; dsimp only))
        (case' u1zfin => (intro g' acc' hJ'))))
    | (rename RawIs _ => hRw; rename NameIs _ _ _ => hNm; k_dflt (
        (refine' zip_due hRw hNm ?u2zh ?u2zF ?u2zN ?u2zm1 ?u2zm2 ?u2zi1 ?u2zi2 ?u2zturn ?u2zfin)
        (case u2zh => exact rfl)
        (case u2zF => k_asm)
        (case u2zN => k_asm)
        (case u2zm1 => (repeat (first | (with_reducible exact List.mem_cons_self) | (with_reducible refine List.mem_cons_of_mem _ ?_))))
        (case u2zm2 => (repeat (first | (with_reducible exact List.mem_cons_self) | (with_reducible refine List.mem_cons_of_mem _ ?_))))
        (case u2zi1 => assumption)
        (case u2zi2 => assumption)
        (case' u2zturn => (intro g' i' a' t' b' u' acc' I' oI' C' oC' D' ext' m' h' tk' E' hi' hk1' hk2' hJ' hC' hx1' hx2' F' N' off' ne'; dsimp only))
        (case' u2zfin => (intro g' acc' hJ')))))
  k_steps
  all_goals first
    | exact absurd rfl (by assumption)
    | ((refine' hret _ _ _ _ ⟨_, [], ⟨congrArg Value.bool ?zb, ?zd, rfl⟩, (fun _ h => nomatch h), rfl⟩ ?zF (cb_drop (by assumption) (List.forall_mem_cons.mpr ⟨?zm, ?zs⟩)))
       (case zm => k_mem)
       (case zF => k_asm)
       (case zd => assumption)
       (case zs => exact fun p hp => by repeat (first | exact hp | refine List.mem_cons_of_mem _ ?_))
       (case zb => first | rfl | skip))
theorem files_right {d nA : Addr} {oD oN : Obj} {len : Nat} {news : List (Addr × Obj)} {news' : Obj → List (Addr × Obj)} (hD : DealOk oD nA len) (hn : (nA, oN) ∈ news) (hN : NumsOk oN len) (hne : nA ≠ d) (U : ∀ o, Upd d oD o news (news' o)) :
    Does 178 [.ref d] news 12 (fun v nw => ∃ o, v = .bool true ∧ DealOk o nA len ∧ nw = news' o) :=
  does_mono (does_deal (files_raw hD hN hne) hn hne U) (by
    rintro v nw ⟨o, ex, ⟨hv, hD', rfl⟩, _, rfl⟩
    exact ⟨_, ⟨o, hv, hD', rfl⟩, fun p hp => hp⟩)
end NZ
end PNFiles

section PNLaw
open PySem PySem.W PyProof.Rows PySem.Calls
set_option maxRecDepth 100000
set_option maxHeartbeats 2000000
namespace NZ
theorem step_seed (a n : Int) : 0 ≤ (a * 16807 + n + 11).fmod 2147483647 ∧ (a * 16807 + n + 11).fmod 2147483647 < 2147483647 := ⟨Int.fmod_nonneg_of_pos _ (by decide), Int.fmod_lt_of_pos _ (by decide)⟩
theorem seed_in : ∀ (l : List Int) (a : Int), 0 ≤ a → a < 2147483647 → 0 ≤ List.foldl (fun a n => (a * 16807 + n + 11).fmod 2147483647) a l ∧ List.foldl (fun a n => (a * 16807 + n + 11).fmod 2147483647) a l < 2147483647
  | [], _, h0, h1 => ⟨h0, h1⟩
  | n :: l, a, _, _ => seed_in l _ (step_seed a n).1 (step_seed a n).2
theorem deal_first {nA : Addr} {t1 t2 : Tok} {ys : List Value} {ws : List Int} (_h : IntsAre ys (List.map (fun k' : Int => (if k' < 0 then -k' else k').fmod 1000003) (List.take 40 ws))) : DealOk (listOf #[.ref nA, .int 0 t1, .int (List.foldl (fun a' n' => (a' * 16807 + n' + 11).fmod 2147483647) 34 (List.map (fun k' : Int => (if k' < 0 then -k' else k').fmod 1000003) (List.take 40 ws))) t2] 0) nA (List.map (fun k' : Int => (if k' < 0 then -k' else k').fmod 1000003) (List.take 40 ws)).length :=
  ⟨0, _, t1, t2, 0, rfl, Int.le_refl _, Int.natCast_nonneg _, (seed_in _ 34 (by decide) (by decide)).1, (seed_in _ 34 (by decide) (by decide)).2⟩
theorem nums_first {ys : List Value} {ws : List Int} (h : IntsAre ys (List.map (fun k' : Int => (if k' < 0 then -k' else k').fmod 1000003) (List.take 40 ws))) : NumsOk (LCg.lst ys) (List.map (fun k' : Int => (if k' < 0 then -k' else k').fmod 1000003) (List.take 40 ws)).length := by
  refine ⟨ys, _, _, rfl, h, rfl, by rw [List.length_map, List.length_take]; omega, fun x hx => ?_⟩
  obtain ⟨k, _, rfl⟩ := List.mem_map.mp hx
  exact ⟨Int.fmod_nonneg_of_pos _ (by decide), Int.fmod_lt_of_pos _ (by decide)⟩
theorem holds : PySem.Challenge.rw_nz0561_01.Holds := NZ.hd (by
  k_with_none
  w_top off
  k_with "call ref" => first | (k_here; (with_reducible show wpAny _ _ (call (Value.ref 168) _) _ _ _); k_dflt (
  (refine' use11 ?q0k1 ?q0k2 ?q0k3 ?q0k4 ?q0k5 ?q0k6 (row_right ?q0t1 ?q0t2 ?q0t3 ?q0t4 ?q0t5) ?q0k7 ?q0k8 ?_)
  (case q0k1 => k_asm)
  (case q0k2 => k_asm)
  (case q0k3 => k_asm)
  (case q0k4 => k_asm)
  (case q0t5 => (intro o; k_upd))
  (case q0t1 => first | assumption | exact deal_first (by assumption))
  (case q0t2 => k_mem)
  (case q0t3 => first | assumption | exact nums_first (by assumption))
  (case q0t4 => k_ne)
  (case q0k5 => k_asm)
  (case q0k6 => first | exact rfl | assumption)
  (case q0k7 => ktr_room)
  (case q0k8 => ktr_units)
  intro o' hD' h' tk' F' N'
  (all_goals (try k_sweep)); (all_goals (try dsimp only)); (all_goals (try k_fold))))
  k_with "call ref" => first | (k_here; (with_reducible show wpAny _ _ (call (Value.ref 173) _) _ _ _); k_dflt (
  (refine' use11 ?q1k1 ?q1k2 ?q1k3 ?q1k4 ?q1k5 ?q1k6 (num_right ?q1t1 ?q1t2 ?q1t3 ?q1t4 ?q1t5) ?q1k7 ?q1k8 ?_)
  (case q1k1 => k_asm)
  (case q1k2 => k_asm)
  (case q1k3 => k_asm)
  (case q1k4 => k_asm)
  (case q1t5 => (intro o; k_upd))
  (case q1t1 => first | assumption | exact deal_first (by assumption))
  (case q1t2 => k_mem)
  (case q1t3 => first | assumption | exact nums_first (by assumption))
  (case q1t4 => k_ne)
  (case q1k5 => k_asm)
  (case q1k6 => first | exact rfl | assumption)
  (case q1k7 => ktr_room)
  (case q1k8 => ktr_units)
  intro o' hD' h' tk' F' N'
  (all_goals (try k_sweep)); (all_goals (try dsimp only)); (all_goals (try k_fold))))
  k_with "call ref" => first | (k_here; (with_reducible show wpAny _ _ (call (Value.ref 178) _) _ _ _); k_dflt (
  (refine' use11 ?q2k1 ?q2k2 ?q2k3 ?q2k4 ?q2k5 ?q2k6 (files_right ?q2t1 ?q2t2 ?q2t3 ?q2t4 ?q2t5) ?q2k7 ?q2k8 ?_)
  (case q2k1 => k_asm)
  (case q2k2 => k_asm)
  (case q2k3 => k_asm)
  (case q2k4 => k_asm)
  (case q2t5 => (intro o; k_upd))
  (case q2t1 => first | assumption | exact deal_first (by assumption))
  (case q2t2 => k_mem)
  (case q2t3 => first | assumption | exact nums_first (by assumption))
  (case q2t4 => k_ne)
  (case q2k5 => k_asm)
  (case q2k6 => first | exact rfl | assumption)
  (case q2k7 => ktr_room)
  (case q2k8 => ktr_units)
  intro o' hD' h' tk' F' N'
  (all_goals (try k_sweep)); (all_goals (try dsimp only)); (all_goals (try k_fold))))
  k_go0
  all_goals try k_fold
  k_steps)
end NZ
end PNLaw

theorem PySem.Challenge.cw_nz0561_01_holds : PySem.Challenge.rw_nz0561_01.Holds :=
  NZ.holds
#print axioms PySem.Challenge.cw_nz0561_01_holds
