import PyProof.Rows.All
import Wide.All
import OpenK.AllK
import Wide.FinOn
import PySem.Challenge.RW_xm0808_01
set_option Elab.async false
set_option maxRecDepth 100000
set_option linter.unusedVariables false

section
open PySem PySem.W PyProof.Rows PySem.Calls
namespace Mine

/-- what the call of «_law_stamp» gives back -/
def StampR (h₀ : Heap) (L : Addr) (m : Str → Option Value) (news : List (Addr × Obj)) (s : Shared) (v : Value) (s' : Shared) : Prop :=
  ∃ (D : Addr) (a : Int) (ta : Tok) (b : Int) (tb : Tok) (n : Nat) (h : Heap) (tk : Nat), 0 ≤ a ∧ 0 ≤ b ∧ b ≤ 65273 ∧ v = .ref D ∧ s' = { s with heap := h, toks := tk } ∧
    Fr h₀ L h m ∧ News h₀ L h ((D, listOf #[.int a ta, .int b tb] n) :: news) ∧ AllLt D news

theorem stamp_join {M : Model} {A : Around} {E : Value → Shared → Prop} {Q : Value → Shared → Prop} {s : Shared} {h₀ : Heap} {L : Addr} {m : Str → Option Value} {news : List (Addr × Obj)} {c : Sem Value}
    (uF : Fr h₀ L s.heap m) (uN : News h₀ L s.heap news)
    (hc : wpAny M A c (fun v s₂ => StampR h₀ L m news s v s₂) E s)
    (hk : ∀ (D : Addr) (a : Int) (ta : Tok) (b : Int) (tb : Tok) (n : Nat) (h : Heap) (tk : Nat), 0 ≤ a → 0 ≤ b → b ≤ 65273 → Fr h₀ L h m → News h₀ L h ((D, listOf #[.int a ta, .int b tb] n) :: news) → AllLt D news →
      Q (.ref D) { s with heap := h, toks := tk }) : wpAny M A c Q E s := by
  refine wpAny_mono hc (fun v s₂ hq => ?_) fun _ _ h => h
  obtain ⟨D, a, ta, b, tb, n, h, tk, h1, h2, h3, hv, hs, F, N, hl⟩ := hq
  subst hv
  subst hs
  exact hk D a ta b tb n h tk h1 h2 h3 F N hl

theorem stamp_end {h₀ h : Heap} {L D : Addr} {m : Str → Option Value} {news : List (Addr × Obj)} {s s' : Shared} {v : Value} {a b : Int} {ta tb : Tok} {n tk : Nat}
    (hv : v = .ref D) (hs : s' = { s with heap := h, toks := tk }) (F : Fr h₀ L h m) (N : News h₀ L h ((D, listOf #[.int a ta, .int b tb] n) :: news)) (hl : AllLt D news)
    (h1 : 0 ≤ a) (h2 : 0 ≤ b) (h3 : b ≤ 65273) : StampR h₀ L m news s v s' := ⟨D, a, ta, b, tb, n, h, tk, h1, h2, h3, hv, hs, F, N, hl⟩
end Mine
end

section
open PySem PySem.W PyProof.Rows PySem.Calls
namespace Mine
theorem fm_lo (x : Int) {m : Int} (h : 0 < m) : 0 ≤ x.fmod m := by rw [Int.fmod_eq_emod_of_nonneg _ (Int.le_of_lt h)]; exact Int.emod_nonneg _ (Int.ne_of_gt h)
theorem fm_hi (x : Int) {m : Int} (h : 0 < m) : x.fmod m < m := Int.fmod_lt_of_pos x h
theorem fm_lo' (x : Int) {m k : Int} (h : 0 < m) (hk : 0 ≤ k) : 0 ≤ x.fmod m + k := by have := fm_lo x h; omega
theorem fm_hi' (x : Int) {m k n : Int} (h : 0 < m) (hk : m + k ≤ n + 1) : x.fmod m + k ≤ n := by have := fm_hi x h; omega
theorem fd_lo {x m : Int} (h0 : 0 ≤ x) (h : 0 < m) : 0 ≤ x.fdiv m := by rw [Int.fdiv_eq_ediv_of_nonneg _ (Int.le_of_lt h)]; exact Int.ediv_nonneg h0 (Int.le_of_lt h)

/-- what a call of «_law_seal» gives back: an int below «many»; the stamp stands at place k of the ledger -/
def SealR (h₀ : Heap) (L : Addr) (m : Str → Option Value) (news : List (Addr × Obj)) (k : Nat) (Dst : Addr) (many : Int) (s : Shared) (v : Value) (s' : Shared) : Prop :=
  ∃ (r : Int) (t : Tok) (a : Int) (ta : Tok) (b : Int) (tb : Tok) (n : Nat) (h : Heap) (tk : Nat), 0 ≤ r ∧ r < many ∧ 0 ≤ a ∧ 0 ≤ b ∧ b ≤ 65273 ∧ v = .int r t ∧ s' = { s with heap := h, toks := tk } ∧
    Fr h₀ L h m ∧ News h₀ L h (news.set k (Dst, listOf #[.int a ta, .int b tb] n))

theorem seal_join {M : Model} {A : Around} {E : Value → Shared → Prop} {Q : Value → Shared → Prop} {s : Shared} {h₀ : Heap} {L : Addr} {m : Str → Option Value} {news : List (Addr × Obj)} {c : Sem Value}
    (k : Nat) (many : Int) {Dst : Addr} {a₀ : Int} {ta₀ : Tok} {b₀ : Int} {tb₀ : Tok} {n₀ : Nat}
    (uF : Fr h₀ L s.heap m) (uN : News h₀ L s.heap news) (uhk : news[k]? = some (Dst, listOf #[.int a₀ ta₀, .int b₀ tb₀] n₀))
    (ha : 0 ≤ a₀) (hb : 0 ≤ b₀) (hb1 : b₀ ≤ 65273)
    (hc : 0 ≤ a₀ → 0 ≤ b₀ → b₀ ≤ 65273 → wpAny M A c (fun v s₂ => SealR h₀ L m news k Dst many s v s₂) E s)
    (hk : ∀ (r : Int) (t : Tok) (a : Int) (ta : Tok) (b : Int) (tb : Tok) (n : Nat) (h : Heap) (tk : Nat), 0 ≤ r → r < many → 0 ≤ a → 0 ≤ b → b ≤ 65273 → Fr h₀ L h m → News h₀ L h (news.set k (Dst, listOf #[.int a ta, .int b tb] n)) →
      Q (.int r t) { s with heap := h, toks := tk }) : wpAny M A c Q E s := by
  refine wpAny_mono (hc ha hb hb1) (fun v s₂ hq => ?_) fun _ _ h => h
  obtain ⟨r, t, a, ta, b, tb, n, h, tk, r0, r1, h1, h2, h3, hv, hs, F, N⟩ := hq
  subst hv
  subst hs
  exact hk r t a ta b tb n h tk r0 r1 h1 h2 h3 F N

theorem seal_end {h₀ h : Heap} {L Dst : Addr} {m : Str → Option Value} {news : List (Addr × Obj)} {k : Nat} {many : Int} {s s' : Shared} {v : Value} {r a b : Int} {t ta tb : Tok} {n tk : Nat}
    (hv : v = .int r t) (hs : s' = { s with heap := h, toks := tk }) (F : Fr h₀ L h m) (N : News h₀ L h (news.set k (Dst, listOf #[.int a ta, .int b tb] n)))
    (r0 : 0 ≤ r) (r1 : r < many) (h1 : 0 ≤ a) (h2 : 0 ≤ b) (h3 : b ≤ 65273) : SealR h₀ L m news k Dst many s v s' := ⟨r, t, a, ta, b, tb, n, h, tk, r0, r1, h1, h2, h3, hv, hs, F, N⟩

section
variable {prog : Program} {w : World} {A : Around} {h₀ : Heap} {L : Addr} {m : Str → Option Value} {env : Env} {elt : Expr} {x : Str} {scope : Scope} {cl : List (Str × Addr)} {s : Shared} {S : List (Addr × Obj) → Prop} {P : Nat → Value → Prop} {Fin : List Value → List (Addr × Obj) → Prop}
/-- the turns of a comprehension by what holds between them -/
theorem rest_inv {σ : Type} {n : Nat} (Led : σ → List (Addr × Obj)) (Iv : Nat → σ → List Value → Prop) (c₀ : σ) (h0 : Iv 0 c₀ [])
    (turn : ∀ i c v I oI C oC D m₂ ys h tk (E' : Value → Shared → Prop), i < n → P i v → Iv i c ys → LCg.NsObj oC m₂ → m₂ x = some v → Fr h₀ L h m → News h₀ L h ((I, oI) :: (C, oC) :: (D, LCg.lst ys) :: Led c) → LCg.Off3 I C D (Led c) → ((@Ne Nat I C) ∧ (@Ne Nat I D) ∧ (@Ne Nat C D)) →
      wpAny (model prog w) A (eval elt (compEnvC scope cl C env)) (LCg.CompEnd h₀ L m { s with heap := h, toks := tk } I oI C oC D (LCg.lst ys) S (fun y news' => ∃ c', news' = Led c' ∧ Iv (i + 1) c' (ys ++ [y]))) E' { s with heap := h, toks := tk })
    (fin : ∀ c ys, Iv n c ys → Fin ys (Led c)) : LCg.CompRest prog w A h₀ L m env elt x scope cl s S P Fin n 0 [] (Led c₀) := by
  have key : ∀ (j i : Nat) (c : σ) (ys : List Value), i + j = n → Iv i c ys → LCg.CompRest prog w A h₀ L m env elt x scope cl s S P Fin j i ys (Led c) := by
    intro j
    induction j with
    | zero =>
      intro i c ys hi hI
      obtain rfl : i = n := by omega
      exact LCg.CompRest.zero (fin c ys hI)
    | succ j ih =>
      intro i c ys hi hI
      refine LCg.CompRest.succ ?_
      intro v I oI C oC D m₂ h tk E' hv hC hx F N off ne
      refine wpAny_mono (turn i c v I oI C oC D m₂ ys h tk E' (by omega) hv hI hC hx F N off ne) (fun y s₂ hq => ?_) fun _ _ e => e
      obtain ⟨h', tk', nw, e, F', N', off', hS, c', hn, hI'⟩ := hq
      subst hn
      exact ⟨h', tk', _, e, F', N', off', hS, ih (i + 1) c' _ (by omega) hI'⟩
  exact key n 0 c₀ [] (by omega) h0

/-- ints that are octets -/
def OctI (y : Value) : Prop := ∃ (r : Int) (t : Tok), y = .int r t ∧ 0 ≤ r ∧ r < 256

theorem octs_ints : ∀ {ys : List Value}, (∀ y ∈ ys, OctI y) → ∃ ns, IntsAre ys ns ∧ ns.length = ys.length ∧ ∀ n ∈ ns, 0 ≤ n ∧ n < 256
  | [], _ => ⟨[], .nil, rfl, fun _ h => nomatch h⟩
  | y :: r, h => by
    obtain ⟨ns, h1, h2, h3⟩ := octs_ints (ys := r) fun z hz => h z (List.mem_cons_of_mem _ hz)
    obtain ⟨k, t, rfl, g0, g1⟩ := h y List.mem_cons_self
    refine ⟨k :: ns, .cons k t h1, by simp [h2], fun n hn => ?_⟩
    rcases List.mem_cons.mp hn with rfl | hn
    · exact ⟨g0, g1⟩
    · exact h3 n hn
theorem octI_pick {x y : Int} {t : Tok} {c : Prop} [Decidable c] (hx0 : 0 ≤ x) (hx1 : x < 256) (hy0 : 0 ≤ y) (hy1 : y < 256) : OctI (.int ([x, y].getD (if c then (1 : Int) else 0).toNat 0) t) := by
  by_cases h : c
  · rw [if_pos h]; exact ⟨_, _, rfl, hy0, hy1⟩
  · rw [if_neg h]; exact ⟨_, _, rfl, hx0, hx1⟩

/-- a turn's end: the stamp heads the ledger again, the element is an octet -/
def OctEl (Dst : Addr) (rest : List (Addr × Obj)) (y : Value) (news' : List (Addr × Obj)) : Prop :=
  (∃ (a : Int) (ta : Tok) (b : Int) (tb : Tok) (n1 : Nat), 0 ≤ a ∧ 0 ≤ b ∧ b ≤ 65273 ∧ news' = (Dst, listOf #[.int a ta, .int b tb] n1) :: rest) ∧ OctI y
theorem octEl_end {Dst : Addr} {rest news' : List (Addr × Obj)} {y : Value} {a b : Int} {ta tb : Tok} {n1 : Nat} (hn : news' = (Dst, listOf #[.int a ta, .int b tb] n1) :: rest) (h1 : 0 ≤ a) (h2 : 0 ≤ b) (h3 : b ≤ 65273) (hy : OctI y) : OctEl Dst rest y news' :=
  ⟨⟨a, ta, b, tb, n1, h1, h2, h3, hn⟩, hy⟩
theorem octI_of {r : Int} {t : Tok} (h0 : 0 ≤ r) (h1 : r < 256) : OctI (.int r t) := ⟨r, t, rfl, h0, h1⟩

/-- the octets' comprehension: the stamp heads the ledger -/
theorem oct_rest {n : Nat} {Dst : Addr} {a₀ : Int} {ta₀ : Tok} {b₀ : Int} {tb₀ : Tok} {n₀ : Nat} {rest : List (Addr × Obj)} (ha : 0 ≤ a₀) (hb : 0 ≤ b₀) (hb1 : b₀ ≤ 65273)
    (turn : ∀ i a ta b tb n1 v I oI C oC D m₂ ys h tk (E' : Value → Shared → Prop), i < n → P i v → 0 ≤ a → 0 ≤ b → b ≤ 65273 → ys.length = i → (∀ y ∈ ys, OctI y) → LCg.NsObj oC m₂ → m₂ x = some v → Fr h₀ L h m → News h₀ L h ((I, oI) :: (C, oC) :: (D, LCg.lst ys) :: (Dst, listOf #[.int a ta, .int b tb] n1) :: rest) → LCg.Off3 I C D ((Dst, listOf #[.int a ta, .int b tb] n1) :: rest) → ((@Ne Nat I C) ∧ (@Ne Nat I D) ∧ (@Ne Nat C D)) →
      wpAny (model prog w) A (eval elt (compEnvC scope cl C env)) (LCg.CompEnd h₀ L m { s with heap := h, toks := tk } I oI C oC D (LCg.lst ys) S (fun y news' => OctEl Dst rest y news')) E' { s with heap := h, toks := tk })
    (fin : ∀ a ta b tb n1 ys ns, 0 ≤ a → 0 ≤ b → b ≤ 65273 → IntsAre ys ns → ns.length = n → (∀ n ∈ ns, 0 ≤ n ∧ n < 256) → Fin ys ((Dst, listOf #[.int a ta, .int b tb] n1) :: rest)) : LCg.CompRest prog w A h₀ L m env elt x scope cl s S P Fin n 0 [] ((Dst, listOf #[.int a₀ ta₀, .int b₀ tb₀] n₀) :: rest) := by
  refine rest_inv (σ := Int × Tok × Int × Tok × Nat) (fun c => (Dst, listOf #[.int c.1 c.2.1, .int c.2.2.1 c.2.2.2.1] c.2.2.2.2) :: rest)
    (fun i c ys => 0 ≤ c.1 ∧ 0 ≤ c.2.2.1 ∧ c.2.2.1 ≤ 65273 ∧ ys.length = i ∧ ∀ y ∈ ys, OctI y) (a₀, ta₀, b₀, tb₀, n₀) ⟨ha, hb, hb1, rfl, fun _ h => nomatch h⟩ ?_ ?_
  · rintro i ⟨a, ta, b, tb, n1⟩ v I oI C oC D m₂ ys h tk E' hi hv ⟨h1, h2, h3, h4, h5⟩ hC hx F N off ne
    refine wpAny_mono (turn i a ta b tb n1 v I oI C oC D m₂ ys h tk E' hi hv h1 h2 h3 h4 h5 hC hx F N off ne) (fun y s₂ hq => ?_) fun _ _ e => e
    obtain ⟨h', tk', nw, e, F', N', off', hS, ⟨a', ta', b', tb', n', g1, g2, g3, hn⟩, hy⟩ := hq
    refine ⟨h', tk', nw, e, F', N', off', hS, (a', ta', b', tb', n'), hn, g1, g2, g3, by rw [List.length_append, h4]; rfl, fun z hz => ?_⟩
    rcases List.mem_append.mp hz with hz | hz
    · exact h5 z hz
    · rw [List.mem_singleton.mp hz]; exact hy
  · rintro ⟨a, ta, b, tb, n1⟩ ys ⟨h1, h2, h3, h4, h5⟩
    obtain ⟨ns, g1, g2, g3⟩ := octs_ints h5
    exact fin a ta b tb n1 ys ns h1 h2 h3 g1 (g2.trans h4) g3
end
end Mine
namespace Mine
theorem seal_at {M : Model} {A : Around} {E : Value → Shared → Prop} {Q : Value → Shared → Prop} {s : Shared} {h₀ : Heap} {L : Addr} {m : Str → Option Value} {news : List (Addr × Obj)} {env : Env} {x y : Str} {p1 p2 p3 p4 : Pos} {u : Nat}
    (k : Nat) {many : Int} {Dst : Addr} {a₀ : Int} {ta₀ : Tok} {b₀ : Int} {tb₀ : Tok} {n₀ : Nat}
    (F : Fr h₀ L s.heap m) (N : News h₀ L s.heap news) (hn : news[k]? = some (Dst, listOf #[.int a₀ ta₀, .int b₀ tb₀] n₀))
    (ha : 0 ≤ a₀) (hb : 0 ≤ b₀) (hb1 : b₀ ≤ 65273)
    (hc : 0 ≤ a₀ → 0 ≤ b₀ → b₀ ≤ 65273 → wpAny M A (eval (.Call (.Name x p1) [.Name y p2, .Constant (.int many) u p3] [] p4) env) (fun v s₂ => SealR h₀ L m news k Dst many s v s₂) E s)
    (hk : ∀ (r : Int) (t : Tok) (a : Int) (ta : Tok) (b : Int) (tb : Tok) (n : Nat) (h : Heap) (tk : Nat), 0 ≤ r → r < many → 0 ≤ a → 0 ≤ b → b ≤ 65273 → Fr h₀ L h m → News h₀ L h (news.set k (Dst, listOf #[.int a ta, .int b tb] n)) →
      Q (.int r t) { s with heap := h, toks := tk }) : wpAny M A (eval (.Call (.Name x p1) [.Name y p2, .Constant (.int many) u p3] [] p4) env) Q E s := seal_join k many F N hn ha hb hb1 hc hk
end Mine
namespace Mine
theorem oct_compEnd {h₀ : Heap} {L I C D : Addr} {m : Str → Option Value} {s₁ : Shared} {oI oC oD : Obj} {y : Value} {h' : Heap} {tk : Nat} {all : List (Addr × Obj)} {Dst : Addr} {rest : List (Addr × Obj)} {a b : Int} {ta tb : Tok} {n1 : Nat}
    (F : Fr h₀ L h' m) (N : News h₀ L h' all) (sub : ∀ p ∈ (I, oI) :: (C, oC) :: (D, oD) :: (Dst, listOf #[.int a ta, .int b tb] n1) :: rest, p ∈ all) (off : LCg.Off3 I C D ((Dst, listOf #[.int a ta, .int b tb] n1) :: rest))
    (h1 : 0 ≤ a) (h2 : 0 ≤ b) (h3 : b ≤ 65273) (hy : OctI y) : LCg.CompEnd h₀ L m s₁ I oI C oC D oD (fun _ => True) (fun y news' => OctEl Dst rest y news') y { s₁ with heap := h', toks := tk } :=
  LCg.CompEnd.intro F N _ sub off trivial (octEl_end rfl h1 h2 h3 hy)
end Mine
end

section
open PySem PySem.W PyProof.Rows PySem.Calls
namespace Mine
open Builtin
/-- the two hexadecimal signs of an octet -/
def hexS (v : Int) : Str := ⟨#[Bytes.hexDigit (v.toNat / 16), Bytes.hexDigit (v.toNat % 16)]⟩

theorem hex_tree (c : UInt8) (t : Tok) : «bytes.hex» ⟨[.bytes #[c] t], []⟩ = (mkStr ⟨#[Bytes.hexDigit (c.toNat / 16), Bytes.hexDigit (c.toNat % 16)]⟩ >>= fun v => ret v) := by kernel_rfl
theorem hex_meets (c : UInt8) (t : Tok) : Meets («bytes.hex» ⟨[.bytes #[c] t], []⟩) (fun _ R s => R (.ok (.ret (.str ⟨#[Bytes.hexDigit (c.toNat / 16), Bytes.hexDigit (c.toNat % 16)]⟩ s.toks))) { s with toks := s.toks + 1 }) := by
  refine .of_wp fun prog w A R s h => ?_
  rw [hex_tree]
  exact wpAny_bind (wpAny_mkStr (wpAny_pure ⟨_, rfl, h⟩) (by rw [sizeLine_eq]; show (2 : Nat) ≤ 16777216; decide))
section
variable {prog : Program} {w : World} {A : Around} {E : Value → Shared → Prop} {s : Shared} {b : Array UInt8} {t : Tok} {Q : Value → Shared → Prop} {v : Int}
theorem bytes_one (hk : KBw.bInts b = [v]) : ∃ c : UInt8, b = #[c] ∧ v = (c.toNat : Int) := by
  unfold KBw.bInts at hk
  match hb : b.toList, hk with
  | [c], hk =>
    refine ⟨c, ?_, ?_⟩
    · rw [← Array.toArray_toList (xs := b), hb]
    · simpa using hk.symm
theorem hex_K (hk : KBw.bInts b = [v]) (h : ∀ t' k, Q (.str (hexS v) t') { s with toks := k }) : wpAny (model prog w) A (call (.builtin "bytes.hex") [.bytes b t]) Q E s := by
  obtain ⟨c, rfl, rfl⟩ := bytes_one hk
  exact call_meets FB.slot_bytes_hex (typeIs_bytes _ _ _) FB.entry_bytes_hex (FB.args_bytes_hex_1 _) (hex_meets c t) (h _ _)
theorem hex_method {M : Model} {pl : Sem Bool} {Q : Value × List Value → Shared → Prop} (h : Q (.builtin "bytes.hex", [.bytes b t]) s) : wpAny M A (getMethod (.bytes b t) "hex" pl) Q E s := by
  with_reducible exact KBd.method_of (.bytes b t) (typeIs_bytes _ _ _) FB.slot_bytes_hex FB.type_bytes_hex KBd.noRef h
end
/-- the one octet of a cut of length one -/
theorem cut_one {ns : List Int} {k : Int} (h0 : 0 ≤ k) (h1 : k < (ns.length : Int)) : (ns.drop (clipAt ns.length k)).take (clipAt ns.length (k + 1) - clipAt ns.length k) = [ns.getD k.toNat 0] := by
  obtain ⟨j, rfl⟩ := Int.eq_ofNat_of_zero_le h0
  have hj : j < ns.length := by omega
  rw [show ((j : Int) + 1) = ((j + 1 : Nat) : Int) by omega, clipAt_nat, clipAt_nat, Nat.min_eq_left (Nat.le_of_lt hj), Nat.min_eq_left hj, show j + 1 - j = 1 by omega, Int.toNat_natCast]
  rw [List.drop_eq_getElem_cons hj, List.take_succ_cons, List.take_zero, List.getD_eq_getElem?_getD, List.getElem?_eq_getElem hj]
  rfl
/-- the texts of octets -/
def HexAt (ns : List Int) (i : Nat) (y : Value) : Prop := ∃ t, y = .str (hexS (ns.getD i 0)) t
section
variable {prog : Program} {w : World} {A : Around} {h₀ : Heap} {L : Addr} {m : Str → Option Value} {env : Env} {elt : Expr} {x : Str} {scope : Scope} {cl : List (Str × Addr)} {s : Shared} {S : List (Addr × Obj) → Prop} {Fin : List Value → List (Addr × Obj) → Prop} {news : List (Addr × Obj)}
def HexEl (news : List (Addr × Obj)) (r : Int) (y : Value) (news' : List (Addr × Obj)) : Prop := news' = news ∧ ∃ t, y = .str (hexS r) t
theorem hex_compEnd {I C D : Addr} {oI oC oD : Obj} {s₁ : Shared} {r : Int} {t : Tok} {h' : Heap} {tk : Nat} {all : List (Addr × Obj)} {x : Str}
    (F : Fr h₀ L h' m) (N : News h₀ L h' all) (sub : ∀ p ∈ (I, oI) :: (C, oC) :: (D, oD) :: news, p ∈ all) (off : LCg.Off3 I C D news) (e : x = hexS r) :
    LCg.CompEnd h₀ L m s₁ I oI C oC D oD (fun _ => True) (fun y news' => HexEl news r y news') (.str x t) { s₁ with heap := h', toks := tk } :=
  LCg.CompEnd.intro F N _ sub off trivial ⟨rfl, t, by rw [e]⟩
/-- the comprehension of the octets' texts -/
theorem hex_rest {n : Nat} (ns : List Int)
    (turn : ∀ (k : Int) t I oI C oC D m₂ ys h tk (E' : Value → Shared → Prop), 0 ≤ k → k < (n : Int) → LCg.NsObj oC m₂ → m₂ x = some (.int k t) → Fr h₀ L h m → News h₀ L h ((I, oI) :: (C, oC) :: (D, LCg.lst ys) :: news) → LCg.Off3 I C D news → ((@Ne Nat I C) ∧ (@Ne Nat I D) ∧ (@Ne Nat C D)) →
      wpAny (model prog w) A (eval elt (compEnvC scope cl C env)) (LCg.CompEnd h₀ L m { s with heap := h, toks := tk } I oI C oC D (LCg.lst ys) S (fun y news' => HexEl news (ns.getD k.toNat 0) y news')) E' { s with heap := h, toks := tk })
    (fin : ∀ ys, ys.length = n → (∀ i y, ys[i]? = some y → HexAt ns i y) → Fin ys news) : LCg.CompRest prog w A h₀ L m env elt x scope cl s S (fun i v => ∃ t, v = .int (0 + (i : Int)) t) Fin n 0 [] news := by
  refine rest_inv (σ := Unit) (fun _ => news) (fun i _ ys => ys.length = i ∧ ∀ j y, ys[j]? = some y → HexAt ns j y) () ⟨rfl, fun j y h => by simp at h⟩ ?_ ?_
  · rintro i ⟨⟩ v I oI C oC D m₂ ys h tk E' hi ⟨t, rfl⟩ ⟨h4, h5⟩ hC hx F N off ne
    refine wpAny_mono (turn (0 + (i : Int)) t I oI C oC D m₂ ys h tk E' (by omega) (by omega) hC hx F N off ne) (fun y s₂ hq => ?_) fun _ _ e => e
    obtain ⟨h', tk', nw, e, F', N', off', hS, hn, t', hy⟩ := hq
    refine ⟨h', tk', nw, e, F', N', off', hS, (), hn, by rw [List.length_append, h4]; rfl, fun j z hz => ?_⟩
    rcases Nat.lt_trichotomy j ys.length with hj | hj | hj
    · rw [List.getElem?_append_left hj] at hz
      exact h5 j z hz
    · subst hj
      rw [List.getElem?_append_right (Nat.le_refl _), Nat.sub_self] at hz
      have hz' : y = z := by simpa using hz
      subst hz'
      refine ⟨t', ?_⟩
      rw [hy, h4, show (0 + (i : Int)).toNat = i by omega]
    · rw [List.getElem?_append_right (Nat.le_of_lt hj)] at hz
      have : j - ys.length ≠ 0 := by omega
      obtain ⟨q, hq⟩ := Nat.exists_eq_succ_of_ne_zero this
      rw [hq] at hz
      simp at hz
  · rintro ⟨⟩ ys ⟨h4, h5⟩
    exact fin ys h4 h5
theorem hex_of {n : Nat} {ns : List Int} (uhr : ∀ n ∈ ns, 0 ≤ n ∧ n < 256)
    (turn : ∀ (k : Int) t I oI C oC D m₂ ys h tk (E' : Value → Shared → Prop), 0 ≤ k → k < (n : Int) → LCg.NsObj oC m₂ → m₂ x = some (.int k t) → Fr h₀ L h m → News h₀ L h ((I, oI) :: (C, oC) :: (D, LCg.lst ys) :: news) → LCg.Off3 I C D news → ((@Ne Nat I C) ∧ (@Ne Nat I D) ∧ (@Ne Nat C D)) →
      wpAny (model prog w) A (eval elt (compEnvC scope cl C env)) (LCg.CompEnd h₀ L m { s with heap := h, toks := tk } I oI C oC D (LCg.lst ys) S (fun y news' => HexEl news (ns.getD k.toNat 0) y news')) E' { s with heap := h, toks := tk })
    (fin : ∀ ys, ys.length = n → (∀ i y, ys[i]? = some y → HexAt ns i y) → Fin ys news) : LCg.CompRest prog w A h₀ L m env elt x scope cl s S (fun i v => ∃ t, v = .int (0 + (i : Int)) t) Fin n 0 [] news := hex_rest ns turn fin
end
end Mine
end

section
open PySem PySem.W PyProof.Rows PySem.Calls
namespace Mine
theorem allObj_mono : ∀ {ws : List (Addr × String)} {k k' : List (Addr × Obj) → Prop}, (∀ its, k its → k' its) → AllObj ws k → AllObj ws k'
  | [], _, _, hk, h => hk _ h
  | w :: _, k, k', hk, h => fun o ho => allObj_mono (k := fun its => k ((w.1, o) :: its)) (k' := fun its => k' ((w.1, o) :: its)) (fun its => hk ((w.1, o) :: its)) (h o ho)
section
variable {prog : Program} {w : World} {A : Around} {E : Value → Shared → Prop} {s : Shared} {env : Env} {h₀ : Heap} {target : Expr} {body : List Stmt} {Q : Flow → Shared → Prop} {ws : List (Addr × String)} {keep : List (Addr × Obj)}
theorem unrPost_mono {L : Addr} {s₁ : Shared} {its : List (Addr × Obj)} {r r' : (Str → Option Value) → List (Addr × Obj) → Prop} (hr : ∀ m n, r m n → r' m n) {f : Flow} {s₂ : Shared} (h : UnrPostW h₀ L s₁ its r Q f s₂) : UnrPostW h₀ L s₁ its r' Q f s₂ := by
  have up : UnrEndW h₀ L s₁ its r s₂ → UnrEndW h₀ L s₁ its r' s₂ := by
    rintro ⟨h', tk, m', news', e, F, N, o, q⟩
    exact ⟨h', tk, m', news', e, F, N, o, hr _ _ q⟩
  cases f with
  | ret v => exact h
  | brk => exact h
  | next => exact up h
  | cont => exact up h
/-- the turns over an enumerated list by what holds between them -/
theorem items_inv {σ : Type} {vs : List Value} {m₀ : Str → Option Value} (Led : σ → List (Addr × Obj)) (Iv : Nat → σ → Prop) (mOk : (Str → Option Value) → Prop) (c₀ : σ) (h0 : Iv 0 c₀) (hm : mOk m₀) (hkeep : ∀ c, SubL keep (Led c))
    (turn : ∀ i c v m₁ T t h tk, vs[i]? = some v → Iv i c → mOk m₁ → IsTup h T #[.int (i : Int) t, v] → Fr h₀ env.locals h m₁ → AllObj ws (fun its => News h₀ env.locals h (its ++ Led c) →
      wpAny (model prog w) A (assign target env (.ref T)) (fun _ s₂ => wpAny (model prog w) A (execs body env) (UnrPostW h₀ env.locals { s with heap := h, toks := tk } its (fun m' n' => ∃ c', n' = Led c' ∧ Iv (i + 1) c' ∧ mOk m') Q) E s₂) E { s with heap := h, toks := tk }))
    (fin : ∀ c m h tk, Iv vs.length c → mOk m → Fr h₀ env.locals h m → News h₀ env.locals h (Led c) → Q .next { s with heap := h, toks := tk }) :
    ItemsRest prog w A E h₀ env target body Q s ws keep (enumItems 0 vs) m₀ (Led c₀) := by
  have key : ∀ (r : List Value) (i : Nat) (c : σ) (m : Str → Option Value), vs.drop i = r → i ≤ vs.length → Iv i c → mOk m → ItemsRest prog w A E h₀ env target body Q s ws keep (enumItems i r) m (Led c) := by
    intro r
    induction r with
    | nil =>
      intro i c m hr hi hI hM
      have hl : vs.length - i = 0 := by
        have := congrArg List.length hr
        rw [List.length_drop] at this
        exact this
      have e : i = vs.length := by omega
      subst e
      exact fun h tk F N => fin c m h tk hI hM F N
    | cons v r ih =>
      intro i c m hr hi hI hM
      have hv : vs[i]? = some v := by
        have := congrArg List.head? hr
        rw [List.head?_drop] at this
        exact this
      have hlt : i < vs.length := (List.getElem?_eq_some_iff.mp hv).1
      have hr' : vs.drop (i + 1) = r := by
        have := congrArg List.tail hr
        rw [List.tail_drop] at this
        exact this
      refine ItemsRest.pair (f := fun t => .int (i : Int) t) (x := v) fun T t h tk hT F => ?_
      refine allObj_mono (fun its hk N => ?_) (turn i c v m T t h tk hv hI hM hT F)
      refine wpAny_mono (hk N) (fun _ s₂ h₂ => wpAny_mono h₂ (fun f s₃ p => unrPost_mono (fun m' n' q => ?_) p) fun _ _ e => e) fun _ _ e => e
      obtain ⟨c', hn, hI', hM'⟩ := q
      subst hn
      exact ⟨hkeep c', ih (i + 1) c' m' hr' hlt hI' hM'⟩
  exact key vs 0 c₀ m₀ rfl (Nat.zero_le _) h0 hm
end
end Mine
namespace Mine
/-- the ledger between the turns of the law's loop -/
abbrev lawLed (Dh x d D Dst : Addr) (ys : List Value) (ox oD : Obj) (hs1 hs2 : Int) (k1 v1 k2 : Value) (nn : Nat) (rest : List (Addr × Obj)) (i : Int) (ti : Tok) (a : Int) (ta : Tok) (b : Int) (tb : Tok) (n1 : Nat) : List (Addr × Obj) :=
  (Dh, LCg.lst ys) :: (x, ox) :: (d, dictOf [⟨hs1, k1, v1⟩, ⟨hs2, k2, .int i ti⟩] nn) :: (D, oD) :: (Dst, listOf #[.int a ta, .int b tb] n1) :: rest
/-- a turn's end -/
def LawTurn (x : Addr) (led : Int → Tok → Int → Tok → Int → Tok → Nat → List (Addr × Obj)) (i : Int) (m' : Str → Option Value) (n' : List (Addr × Obj)) : Prop :=
  ∃ (ti : Tok) (a : Int) (ta : Tok) (b : Int) (tb : Tok) (n1 : Nat), n' = led i ti a ta b tb n1 ∧ 0 ≤ a ∧ 0 ≤ b ∧ b ≤ 65273 ∧ m' (Str.ofString "reader") = some (.ref x)
theorem lawTurn_end {x : Addr} {led : Int → Tok → Int → Tok → Int → Tok → Nat → List (Addr × Obj)} {i i' : Int} {m' : Str → Option Value} {ti : Tok} {a : Int} {ta : Tok} {b : Int} {tb : Tok} {n1 : Nat} {h₀ : Heap} {L : Addr} {s₁ : Shared} {its all : List (Addr × Obj)} {h' : Heap} {tk : Nat}
    (F : Fr h₀ L h' m') (N : News h₀ L h' all) (hI : SubL its all) (sub : SubL (led i' ti a ta b tb n1) all) (off : OffW its (led i' ti a ta b tb n1)) (e : i' = i) (h1 : 0 ≤ a) (h2 : 0 ≤ b) (h3 : b ≤ 65273) (hm : m' (Str.ofString "reader") = some (.ref x)) :
    UnrEndW h₀ L s₁ its (fun m' n' => LawTurn x led i m' n') { s₁ with heap := h', toks := tk } := by
  subst e
  exact UnrEndW.intro F N _ hI sub off ⟨ti, a, ta, b, tb, n1, rfl, h1, h2, h3, hm⟩
theorem put_reader {m : Str → Option Value} {k : Str} {v : Value} (h : m k = some v) : m = fun y => if y = k then some v else m y := by
  funext y
  by_cases e : y = k
  · rw [if_pos e, e, h]
  · rw [if_neg e]
section
variable {prog : Program} {w : World} {A : Around} {E : Value → Shared → Prop} {s : Shared} {env : Env} {h₀ : Heap} {target : Expr} {body : List Stmt} {Q : Flow → Shared → Prop} {ws : List (Addr × String)}
theorem law_items {Dh x d D Dst : Addr} {ys : List Value} {ox oD : Obj} {hs1 hs2 : Int} {k1 v1 k2 : Value} {nn : Nat} {rest : List (Addr × Obj)} {ti0 : Tok} {a0 : Int} {ta0 : Tok} {b0 : Int} {tb0 : Tok} {n0 : Nat} {m₀ : Str → Option Value} {ns : List Int}
    (hr : ∀ n ∈ ns, 0 ≤ n ∧ n < 256) (hln : ns.length = 12) (hlen : ys.length = 12) (hy : ∀ i y, ys[i]? = some y → HexAt ns i y) (ha : 0 ≤ a0) (hb : 0 ≤ b0) (hb1 : b0 ≤ 65273) (hm : m₀ (Str.ofString "reader") = some (.ref x))
    (turn : ∀ (i : Nat) ti a ta b tb n1 (m₂ : Str → Option Value) T t t2 h tk, i < 12 → 0 ≤ a → 0 ≤ b → b ≤ 65273 → 0 ≤ ns.getD i 0 → ns.getD i 0 < 256 → IsTup h T #[.int (i : Int) t, .str (hexS (ns.getD i 0)) t2] → Fr h₀ env.locals h (fun y => if y = Str.ofString "reader" then some (.ref x) else m₂ y) →
      AllObj ws (fun its => News h₀ env.locals h (its ++ lawLed Dh x d D Dst ys ox oD hs1 hs2 k1 v1 k2 nn rest i ti a ta b tb n1) →
        wpAny (model prog w) A (assign target env (.ref T)) (fun _ s₂ => wpAny (model prog w) A (execs body env) (UnrPostW h₀ env.locals { s with heap := h, toks := tk } its (fun m' n' => LawTurn x (lawLed Dh x d D Dst ys ox oD hs1 hs2 k1 v1 k2 nn rest) ((i : Int) + 1) m' n') Q) E s₂) E { s with heap := h, toks := tk }))
    (fin : ∀ ti a ta b tb n1 (m₂ : Str → Option Value) h tk, 0 ≤ a → 0 ≤ b → b ≤ 65273 → Fr h₀ env.locals h (fun y => if y = Str.ofString "reader" then some (.ref x) else m₂ y) → News h₀ env.locals h (lawLed Dh x d D Dst ys ox oD hs1 hs2 k1 v1 k2 nn rest 12 ti a ta b tb n1) → Q .next { s with heap := h, toks := tk }) :
    ItemsRest prog w A E h₀ env target body Q s ws [(Dh, LCg.lst ys)] (enumItems 0 ys) m₀ (lawLed Dh x d D Dst ys ox oD hs1 hs2 k1 v1 k2 nn rest 0 ti0 a0 ta0 b0 tb0 n0) := by
  refine items_inv (σ := Nat × Tok × Int × Tok × Int × Tok × Nat) (fun c => lawLed Dh x d D Dst ys ox oD hs1 hs2 k1 v1 k2 nn rest c.1 c.2.1 c.2.2.1 c.2.2.2.1 c.2.2.2.2.1 c.2.2.2.2.2.1 c.2.2.2.2.2.2)
    (fun i c => c.1 = i ∧ 0 ≤ c.2.2.1 ∧ 0 ≤ c.2.2.2.2.1 ∧ c.2.2.2.2.1 ≤ 65273) (fun m => m (Str.ofString "reader") = some (.ref x)) (0, ti0, a0, ta0, b0, tb0, n0) ⟨rfl, ha, hb, hb1⟩ hm (fun c => ⟨List.Mem.head _, trivial⟩) ?_ ?_
  · rintro i ⟨i', ti, a, ta, b, tb, n1⟩ v m₁ T t h tk hv ⟨e, h1, h2, h3⟩ hM hT F
    have e' : i' = i := e
    subst e'
    obtain ⟨t2, rfl⟩ := hy _ _ hv
    have hi : i' < 12 := hlen ▸ (List.getElem?_eq_some_iff.mp hv).1
    have hn : ns.getD i' 0 ∈ ns := by
      rw [List.getD_eq_getElem?_getD, List.getElem?_eq_getElem (hln.symm ▸ hi : i' < ns.length)]
      exact List.getElem_mem _
    rw [put_reader hM] at F
    refine allObj_mono (fun its hk N => ?_) (turn i' ti a ta b tb n1 m₁ T t t2 h tk hi h1 h2 h3 (hr _ hn).1 (hr _ hn).2 hT F)
    refine wpAny_mono (hk N) (fun _ s₂ h₂ => wpAny_mono h₂ (fun f s₃ p => unrPost_mono (fun m' n' q => ?_) p) fun _ _ e => e) fun _ _ e => e
    obtain ⟨ti', a', ta', b', tb', n', hn', g1, g2, g3, g4⟩ := q
    refine ⟨(i' + 1, ti', a', ta', b', tb', n'), ?_, ⟨rfl, g1, g2, g3⟩, g4⟩
    rw [hn']
    show _ = lawLed Dh x d D Dst ys ox oD hs1 hs2 k1 v1 k2 nn rest ((i' + 1 : Nat) : Int) ti' a' ta' b' tb' n'
    rw [Int.natCast_add]
    rfl
  · rintro ⟨i', ti, a, ta, b, tb, n1⟩ m h tk ⟨e, h1, h2, h3⟩ hM F N
    have e' : i' = 12 := Eq.trans e hlen
    subst e'
    rw [put_reader hM] at F
    exact fin ti a ta b tb n1 m h tk h1 h2 h3 F N
end
end Mine
end

section
open PySem PySem.W PyProof.Rows PySem.Calls
namespace Mine
open Builtin
abbrev hexA : Str := Str.ofString "0123456789abcdef"
theorem occ_all : ∀ d : Fin 16, Builtin.Str.occurrences hexA ⟨#[Bytes.hexDigit d.val]⟩ 0 hexA.length 1 = [d.val] := by decide +kernel
section
variable {prog : Program} {w : World} {A : Around} {E : Value → Shared → Prop} {s : Shared} {t u : Tok} {Q : Value → Shared → Prop}
theorem index_K {d : Nat} (hd : d < 16) (h : ∀ t' k, Q (.int (d : Int) t') { s with toks := k }) : wpAny (model prog w) A (call (.builtin "str.index") [.str (Str.ofString "0123456789abcdef") t, .str ⟨#[Bytes.hexDigit d]⟩ u]) Q E s := by
  have ho := occ_all ⟨d, hd⟩
  exact SC.index (x := hexA) (i := d) (rest := []) ho (h _ _)
end
section
variable {prog : Program} {w : World} {A : Around} {E : Value → Shared → Prop} {s : Shared} {h₀ : Heap} {L : Addr} {m : Str → Option Value} {env : Env}
def SrcS (prog : Program) (w : World) (A : Around) (h₀ : Heap) (L : Addr) (m : Str → Option Value) (env : Env) (elt : Expr) (x : Str) (scope : Scope) (cl : List (Str × Addr)) (Fin : Shared → List Value → List (Addr × Obj) → Prop) (xv : Value) (s₁ : Shared) : Prop :=
  ∃ (tx : Str) (t : Tok) (news : List (Addr × Obj)), xv = .str tx t ∧ tx.cps.all (· < 128) = true ∧ A.handled = none ∧ Fr h₀ L s₁.heap m ∧ News h₀ L s₁.heap news ∧ tx.cps.size ≤ sizeLine ∧
    ∀ s₂ : Shared, (∃ h, s₂ = { s₁ with heap := h }) → LCg.CompRest prog w A h₀ L m env elt x scope cl s₂ (fun _ => True) (SignAt tx) (Fin s₂) tx.cps.size 0 [] news
theorem SrcS.intro {elt : Expr} {x : Str} {scope : Scope} {cl : List (Str × Addr)} {Fin : Shared → List Value → List (Addr × Obj) → Prop} {tx : Str} {t : Tok} {news : List (Addr × Obj)} {s₁ : Shared}
    (ha : tx.cps.all (· < 128) = true) (hh : A.handled = none) (F : Fr h₀ L s₁.heap m) (N : News h₀ L s₁.heap news) (hsz : tx.cps.size ≤ sizeLine)
    (h : ∀ g, LCg.CompRest prog w A h₀ L m env elt x scope cl { s₁ with heap := g } (fun _ => True) (SignAt tx) (Fin { s₁ with heap := g }) tx.cps.size 0 [] news) :
    SrcS prog w A h₀ L m env elt x scope cl Fin (.str tx t) s₁ := ⟨tx, t, news, rfl, ha, hh, F, N, hsz, fun _ ⟨g, e⟩ => e ▸ h g⟩
/-- a list comprehension over a text's signs -/
theorem ListComp_S {elt iter : Expr} {x : Str} {px : Pos} {scope : Scope} {cl : List (Str × Addr)} {pos : Pos} {Q : Value → Shared → Prop} (uF₀ : Fr h₀ L s.heap m)
    (hclos : closureFor scope env = pure cl) (hcell : ∀ y ∈ scope.names, y.2 ≠ .cell) (hkind : scope.kind = .function)
    (hnames : ∀ y ∈ scope.names, y.2 = .local → scope.names.lookup y.1 = some .local) (hx : scope.names.lookup x = some .local)
    (h : wpAny (model prog w) A (eval iter env) (SrcS prog w A h₀ L m env elt x scope cl (fun s₂ => LCg.FinE h₀ L m s₂ Q)) E s)
    (hs : ∀ x, foldedSetIterable iter env x = pure x := by intro _; rfl) :
    wpAny (model prog w) A (eval (.ListComp elt [⟨.Name x px, iter, [], 0⟩] scope pos) env) Q E s := by
  rw [eval_ListComp]
  refine wpAny_comprehension_free (use := none) rfl hs hclos hkind hnames (wpAny_mono h (fun xv s₁ h₁ => ?_) fun _ _ e => e)
  obtain ⟨tx, t, news, rfl, ha, hh, F, N, hsz, R⟩ := h₁
  refine wpAny_pyIter_ascii ha ?_
  refine LCg.block_U (Walks.strAscii hh s₁.heap.objs.size tx t) hsz (fun i h st => by obtain ⟨o, e, _⟩ := st; exact ⟨o, e⟩) (fun i h h' o nw st e e' _ _ _ => by obtain ⟨o', q, r⟩ := st; rw [e] at q; cases q; exact ⟨o, e', r⟩)
    hcell hkind hx ⟨_, Heap.get?_push_size _ rfl, rfl, rfl⟩ (fun b hb => ?_)
    (F.keeps fun _ _ e => Heap.get?_push_of_some _ e) (N.grown fun _ _ e => Heap.get?_push_of_some _ e) (Nat.ne_of_lt F.ns.lt) (next_is_new F) (fun p hp => Nat.ne_of_lt (Heap.lt_size (N p hp).1)) trivial (R _ ⟨_, rfl⟩) ?_
  · rw [List.mem_singleton.mp hb]
    show s₁.heap.objs.size < (s₁.heap.push _).objs.size
    rw [Heap.size_push]; exact Nat.lt_succ_self _
  · intro D C h tk m' ys news' F' N' o1 hn hC₀ hD₀ hCL hDL hCD offC fin
    refine ⟨m', hn, fun h'' hs'' => fin D h'' tk (F'.change hs'' hCL hC₀) (fun p hp => ?_) o1⟩
    refine ⟨hs''.extBut _ _ ?_ (N' p hp).1, (N' p hp).2⟩
    rcases List.mem_cons.mp hp with rfl | hp
    · exact Ne.symm hCD
    · exact offC p hp
end
theorem hexDigit_lt {d : Nat} (hd : d < 16) : Bytes.hexDigit d < 128 := by unfold Bytes.hexDigit; split <;> omega
theorem hexS_ascii {v : Int} (h1 : v < 256) : (hexS v).cps.all (· < 128) = true := by
  have a := hexDigit_lt (d := v.toNat / 16) (by omega)
  have b := hexDigit_lt (d := v.toNat % 16) (by omega)
  simp [hexS, a, b]
section
variable {prog : Program} {w : World} {A : Around} {h₀ : Heap} {L : Addr} {m : Str → Option Value} {env : Env} {elt : Expr} {x : Str} {scope : Scope} {cl : List (Str × Addr)} {s : Shared} {S : List (Addr × Obj) → Prop} {Fin : List Value → List (Addr × Obj) → Prop} {news : List (Addr × Obj)}
def DigEl (news : List (Addr × Obj)) (d : Nat) (y : Value) (news' : List (Addr × Obj)) : Prop := news' = news ∧ ∃ t, y = .int (d : Int) t
theorem dig_compEnd {I C D : Addr} {oI oC oD : Obj} {s₁ : Shared} {d : Nat} {k : Int} {t : Tok} {h' : Heap} {tk : Nat} {all : List (Addr × Obj)}
    (F : Fr h₀ L h' m) (N : News h₀ L h' all) (sub : ∀ p ∈ (I, oI) :: (C, oC) :: (D, oD) :: news, p ∈ all) (off : LCg.Off3 I C D news) (e : k = (d : Int)) :
    LCg.CompEnd h₀ L m s₁ I oI C oC D oD (fun _ => True) (fun y news' => DigEl news d y news') (.int k t) { s₁ with heap := h', toks := tk } :=
  LCg.CompEnd.intro F N _ sub off trivial ⟨rfl, t, by rw [e]⟩
/-- the comprehension over the two signs of an octet's text -/
theorem dig_rest {v : Int} (h0 : 0 ≤ v) (h1 : v < 256)
    (turn : ∀ (d : Nat) u I oI C oC D m₂ ys h tk (E' : Value → Shared → Prop), d < 16 → LCg.NsObj oC m₂ → m₂ x = some (.str ⟨#[Bytes.hexDigit d]⟩ u) → Fr h₀ L h m → News h₀ L h ((I, oI) :: (C, oC) :: (D, LCg.lst ys) :: news) → LCg.Off3 I C D news → ((@Ne Nat I C) ∧ (@Ne Nat I D) ∧ (@Ne Nat C D)) →
      wpAny (model prog w) A (eval elt (compEnvC scope cl C env)) (LCg.CompEnd h₀ L m { s with heap := h, toks := tk } I oI C oC D (LCg.lst ys) S (fun y news' => DigEl news d y news')) E' { s with heap := h, toks := tk })
    (fin : ∀ t1 t2, Fin [.int (v / 16) t1, .int (v % 16) t2] news) : LCg.CompRest prog w A h₀ L m env elt x scope cl s S (SignAt (hexS v)) Fin (hexS v).cps.size 0 [] news := by
  have e1 : ((v.toNat / 16 : Nat) : Int) = v / 16 := by omega
  have e2 : ((v.toNat % 16 : Nat) : Int) = v % 16 := by omega
  show LCg.CompRest prog w A h₀ L m env elt x scope cl s S (SignAt (hexS v)) Fin 2 0 [] news
  refine LCg.CompRest.succ ?_
  intro v1 I oI C oC D m₂ h tk E' hv hC hx F N off ne
  obtain ⟨c, u, hc, rfl⟩ := hv
  have hc' : Bytes.hexDigit (v.toNat / 16) = c := by simpa [hexS] using hc
  subst hc'
  refine wpAny_mono (turn (v.toNat / 16) u I oI C oC D m₂ _ h tk E' (by omega) hC hx F N off ne) (fun y s₂ hq => ?_) fun _ _ e => e
  obtain ⟨h', tk', nw, e, F', N', off', hS, hn, t1, hy⟩ := hq
  subst hn hy
  refine ⟨h', tk', nw, e, F', N', off', hS, ?_⟩
  refine LCg.CompRest.succ ?_
  intro v1 I oI C oC D m₂ h tk E' hv hC hx F N off ne
  obtain ⟨c, u, hc, rfl⟩ := hv
  have hc' : Bytes.hexDigit (v.toNat % 16) = c := by simpa [hexS] using hc
  subst hc'
  refine wpAny_mono (turn (v.toNat % 16) u I oI C oC D m₂ _ h tk E' (by omega) hC hx F N off ne) (fun y s₂ hq => ?_) fun _ _ e => e
  obtain ⟨h2, tk2, nw2, e2', F2, N2, off2, hS2, hn2, t2, hy2⟩ := hq
  subst hn2 hy2
  refine ⟨h2, tk2, nw2, e2', F2, N2, off2, hS2, LCg.CompRest.zero ?_⟩
  rw [e1, e2]
  exact fin t1 t2
end
end Mine
end

section
open PySem PySem.W PyProof.Rows PySem.Calls
namespace Mine
theorem bb_lookup : typeLookup (.type "bytes") "__bytes__" = pure (some (.builtin "bytes.__bytes__")) := by rw [typeLookup_type, builtinLookup_eq_fast]; kernel_rfl
section
variable {prog : Program} {w : World} {A : Around} {E : Value → Shared → Prop} {s : Shared} {b : Array UInt8} {t : Tok}
theorem bb_new {Q : Value → Shared → Prop} (hQ : Q (.bytes b t) s) : codeAny (model prog w) A (.call (.builtin "bytes.__new__") ⟨[.type "bytes", .bytes b t], []⟩) (wants Q E) s := by
  refine codeAny_of_tree ?_
  show wpAny _ A.in1 (do checkBuiltinCall "bytes.__new__" ⟨[.type "bytes", .bytes b t], []⟩; again (.builtin "bytes.__new__" ⟨[.type "bytes", .bytes b t], []⟩)) _ _ s
  refine wpAny_bind (wpAny_of_eq (F.bm_newCall _) (wpAny_pure ⟨plainId_quiet F.bm_plain _, codeAny_builtin F.bm_entry ?_⟩))
  rw [Around.under_plainId F.bm_plain _]
  have hT : s.TypeIs (.bytes b t) "bytes" := PySem.W.typeIs_bytes _ _ _
  unfold Builtin.«bytes.__new__»
  refine wpAny_bind (wpAny_of_eq (a := true) rfl ?_)
  refine bm_if_false rfl ?_
  refine wpAny_bind (wpAny_of_eq F.bm_sub ?_)
  refine bm_if_false rfl ?_
  refine wpAny_bind (wpAny_of_eq (F.bm_bind _) ?_)
  refine wpAny_bind (wpAny_of_eq (a := ()) rfl ?_)
  refine wpAny_bind (wpAny_of_eq (a := ()) rfl ?_)
  refine bm_if_false rfl ?_
  refine wpAny_bind (wpAny_specialOf hT bb_lookup ?_)
  refine wpAny_bind (wpAny_rule ?_)
  refine wpAny_bind (wpAny_typeOf hT ?_)
  refine bm_if_true rfl ?_
  exact wpAny_pure hQ
theorem bytes_again {Q : Value → Shared → Prop} (h : Q (.bytes b t) s) : wpAny (model prog w) A (call (.type "bytes") [.bytes b t]) Q E s := by
  refine callType_codes (Q₁ := fun obj s₁ => s₁.TypeIs obj "bytes" ∧ Q obj s₁) F.bm_called (F.bm_typeCall _) F.entry_object_init
    (bb_new (Q := fun obj s₁ => s₁.TypeIs obj "bytes" ∧ Q obj s₁) ⟨PySem.W.typeIs_bytes _ _ _, h⟩) fun obj s₁ h₁ => ?_
  exact ⟨h₁.1, F.args_object_init_2 obj _, object_init_meets F.bm_called.init.lookup F.bm_called.made (by decide) prog w A.in1 _ s₁ ⟨h₁.1, rfl, h₁.2⟩⟩
end
end Mine
end

section
open PySem PySem.W PyProof.Rows PySem.Calls
namespace Mine
theorem cut_at {ns : List Int} {i : Nat} (h1 : i < ns.length) : (ns.drop (min i ns.length)).take (clipAt ns.length ((i : Int) + 1) - min i ns.length) = [ns.getD i 0] := by
  have h := cut_one (ns := ns) (k := (i : Int)) (by omega) (by omega)
  rw [clipAt_nat] at h
  exact h
section
variable {prog : Program} {w : World} {A : Around} {E : Value → Shared → Prop} {s : Shared} {b : Array UInt8} {t ui : Tok} {value slice : PySem.Expr} {Q : Value → Shared → Prop} {v : Int}
theorem byte0_K (hk : KBw.bInts b = [v]) (h : ∀ t' k, Q (.int v t') { s with toks := k })
    (hs : subscripted slice false (.bytes b t) (.int 0 ui) = operate [.bytes b t, .int 0 ui] (getItem (.bytes b t) (.int 0 ui)) := by with_unfolding_all rfl)
    (ht : ∀ r, letTemporaryGo value (.bytes b t) r = pure () := by intro _; with_unfolding_all rfl) : wpAny (model prog w) A (subscriptTail value slice (.bytes b t) (.int 0 ui)) Q E s :=
  KBw.item_K (i := 0) hk (by simp) (by omega) (by simp) (fun t' k _ _ => h t' k) hs ht
end
end Mine
end

section
open PySem PySem.W PyProof.Rows PySem.Calls
namespace Mine
def excOwn (K : Frag) (C : Addr) : Bool := match K.lookup C with
  | some ⟨.type "type", _, .cls cd, sl⟩ => (match cd.mro, sl.toList with
    | .ref C' :: bm, [_, _, _, _, some (.builtin n), _] => C' == C && n == "Exception.__new__" && !cd.hasDel && bm.contains (.type "BaseException") && bm.contains (.type "Exception") && !bm.contains (.type "AttributeError") && !bm.contains (.type "NameError")
    | _, _ => false)
  | _ => false
theorem excOwn_cls {K : Frag} {h : Heap} {C : Addr} (X : K.In h) (q : excOwn K C = true) : ∃ nm qn N bs bm hdct sn sub ab col dd k0 k1 k2 k3 k5,
    h.get? C = some (excClassObj nm qn C N bs bm hdct sn sub ab col dd k0 k1 k2 k3 k5 "Exception.__new__") ∧ bm.contains (.type "BaseException") = true ∧ bm.contains (.type "Exception") = true ∧ bm.contains (.type "AttributeError") = false ∧ bm.contains (.type "NameError") = false := by
  unfold excOwn at q
  split at q
  · rename_i dd cd sl ho
    split at q
    · rename_i C' bm k0 k1 k2 k3 n k5 hm hs
      simp only [Bool.and_eq_true, beq_iff_eq, Bool.not_eq_true'] at q
      obtain ⟨⟨⟨⟨⟨⟨rfl, rfl⟩, hdel⟩, hb⟩, ht⟩, ha⟩, hn⟩ := q
      obtain ⟨nm, bs, mro, ns, qn, hd, sn, sub, ab, col, del⟩ := cd
      dsimp only at hm hdel
      subst hm hdel
      have hsl : sl = #[k0, k1, k2, k3, some (.builtin "Exception.__new__"), k5] := by
        obtain ⟨l⟩ := sl
        simp only at hs
        rw [hs]
      subst hsl
      exact ⟨nm, qn, ns, bs, bm, hd, sn, sub, ab, col, dd, k0, k1, k2, k3, k5, X _ _ ho, hb, ht, ha, hn⟩
    · cases q
  · cases q

abbrev excObj (C : Addr) (dct : Option Addr) (t : Addr) : Obj := { cls := .ref C, dict := dct, data := .fields #[.ref t, .none, .none, .none, .bool false, .none] }

section
variable {prog : Program} {w : World} {A : Around} {R : Result → Shared → Prop} {E : Value → Shared → Prop} {h : Heap} {g : Array GenState} {d : Drawn} {t : Nat} {os : OsState}
variable {nm q : Str} {C N : Addr} {bs bm : List Value} {hdct : Bool} {sn : List Str} {sub : List Value} {ab : Bool} {col : Option Bool} {dd : Option Addr} {k0 k1 k2 k3 k5 : Option Value}

theorem exc_check_new {M : Model} {rest : List Value} {Q : Unit → Shared → Prop} (hC : h.get? C = some (excClassObj nm q C N bs bm hdct sn sub ab col dd k0 k1 k2 k3 k5 "Exception.__new__")) (hE : bm.contains (.type "Exception") = true)
    (hq : Q () ⟨h, g, d, t, os⟩) : wpAny M A (checkBuiltinCall "Exception.__new__" ⟨.ref C :: rest, []⟩) Q E ⟨h, g, d, t, os⟩ := by
  have F := PySem.F.excBase_Exception
  have hcont : (Value.ref C :: bm).contains (.type "Exception") = true := by rw [List.contains_cons, hE, Bool.or_true]
  have hstar := F.noStar
  simp only [checkBuiltinCall, F.newKind, F.newSplit, F.newRow]
  repeat (first | refine wpAny_loadPart_at hC ?_ | (refine wpAny_isSubtype_exc hC ?_; rw [hcont]) | refine wpAny_staticBase_exc hC ?_ | refine wpAny_madeBy_exc hC ?_ | simp only [bne_self_eq_false, Bool.false_eq_true, if_false] | wp_step)
  exact hq

theorem exc_new {rest : List Value} (hC : h.get? C = some (excClassObj nm q C N bs bm hdct sn sub ab col dd k0 k1 k2 k3 k5 "Exception.__new__")) (hE : bm.contains (.type "Exception") = true) (hA : bm.contains (.type "AttributeError") = false) (hN : bm.contains (.type "NameError") = false)
    (hq : R (.ok (.ret (.ref (h.objs.size + 1)))) ⟨(h.push { cls := .type "tuple", data := .seq rest.toArray }).push (excObj C none h.objs.size), g, d, t, os⟩) (hrest : rest.length ≤ sizeLine := by size_fits) :
    codeAny (model prog w) A (.builtin "Exception.__new__" ⟨.ref C :: rest, []⟩) R ⟨h, g, d, t, os⟩ := by
  have F := PySem.F.excBase_Exception
  have hends := F.ends
  have hcB : (Value.ref C :: bm).contains (.type "Exception") = true := by rw [List.contains_cons, hE, Bool.or_true]
  have hcA : (Value.ref C :: bm).contains (.type "AttributeError") = false := by rw [List.contains_cons, hA]; rfl
  have hcN : (Value.ref C :: bm).contains (.type "NameError") = false := by rw [List.contains_cons, hN]; rfl
  refine codeAny_builtinAt F.entry ?_
  unfold Builtin.«BaseException.__new__»
  refine PySem.wpAt_bind ?_
  show PySem.wpAt _ _ _ (stack >>= _) _ _ _
  refine PySem.wpAt_bind (PySem.wpAt_stack fun p below => PySem.wpAt_of_wpAny ?_)
  wp_walk
  refine PySem.wpAt_of_wpAny ?_
  rw [F.owner]
  repeat (first | with_reducible refine wpAny_madeHere_exc F.canon hC ?_ | with_reducible refine wpAny_loadPart_at hC ?_ | (with_reducible refine wpAny_isSubtype_exc hC ?_; first | rw [hcB] | rw [hcA] | rw [hcN]) | wp_step)
  show R _ _
  rw [Heap.size_push]
  exact hq

theorem exc_type_call {rest : List Value} {fI : Addr} {K : Frag} {Q : PySem.Fin → Shared → Prop} (X : K.In h) (hC : h.get? C = some (excClassObj nm q C N bs bm hdct sn sub ab col dd k0 k1 k2 k3 k5 "Exception.__new__")) (hE : bm.contains (.type "Exception") = true) (hA : bm.contains (.type "AttributeError") = false) (hN : bm.contains (.type "NameError") = false)
    (hi : findIn K (.ref C) "__init__" = some (some (.ref fI))) (hf : typeIn K (.ref fI) = some (.type "function"))
    (hq : codeAny (model prog w) A (.call (.ref fI) ⟨.ref (h.objs.size + 1) :: rest, []⟩) (fun r s' => match r with | .ok (.ret v) => v = .none ∧ Q (.done (.ret (.ref (h.objs.size + 1)))) s' | .ok _ => False | .error e => E e s') ⟨(h.push { cls := .type "tuple", data := .seq rest.toArray }).push (excObj C none h.objs.size), g, d, t, os⟩) (hrest : rest.length ≤ sizeLine := by size_fits) :
    wpAny (model prog w) A (Builtin.«type.__call__» ⟨.ref C :: rest, []⟩) Q E ⟨h, g, d, t, os⟩ := by
  have F := PySem.F.excBase_Exception
  repeat (first | with_reducible refine wpAny_loadPart_at hC ?_ | with_reducible refine wpAny_madeBy_exc hC ?_ | wp_step)
  refine codeAny_call_builtin_code (Code.quiet_builtin _ F.quiet) (exc_check_new hC hE ?_)
  refine exc_new hC hE hA hN ?_ hrest
  show wpAny _ _ _ _ _ _
  have up : ∀ b o, h.get? b = some o → ((h.push { cls := .type "tuple", data := .seq rest.toArray }).push (excObj C none h.objs.size)).get? b = some o := fun b o e => Heap.get?_push_of_some _ (Heap.get?_push_of_some _ e)
  have hC₁ := up _ _ hC
  have X₁ := X.keeps up
  have hget : ((h.push { cls := .type "tuple", data := .seq rest.toArray }).push (excObj C none h.objs.size)).get? (h.objs.size + 1) = some (excObj C none h.objs.size) := by heap_get
  have hcC : (Value.ref C :: bm).contains (.ref C) = true := by simp
  unfold isInstance
  repeat (first | with_reducible refine wpAny_loadPart_at hget ?_ | (with_reducible refine wpAny_isSubtype_exc hC₁ ?_; rw [hcC]) | wp_step)
  show wpAny _ _ (typeLookup (.ref C) _) _ _ _
  refine (looks_findIn X₁ hi).here ?_
  refine wpAny_holding (wpAny_bind ?_)
  refine (bind_fn X₁ _ hf).here ?_
  refine wpAny_bind (wpAny_call (codeAny_mono hq fun r s' z => ?_))
  rcases r with e | (v | _ | _ | _) <;> first | exact z | exact z.elim | skip
  obtain ⟨rfl, z⟩ := z
  wp_walk
  exact z
end
end Mine
namespace Mine
abbrev tupObj (vs : List Value) : Obj := { cls := .type "tuple", data := .seq vs.toArray }
section
variable {prog : Program} {w : World} {A : Around} {E : Value → Shared → Prop} {s : Shared} {K : Frag} {C L fI : Addr} {h₀ : Heap} {m : Str → Option Value} {news : List (Addr × Obj)} {rest : List Value} {Q : Value → Shared → Prop}
theorem call_exc (F : Fr h₀ L s.heap m) (X₀ : K.In h₀) (N : News h₀ L s.heap news) (hm : excOwn K C = true) (uhnew : findIn K (.ref C) "__new__" = some (some (.builtin "Exception.__new__"))) (hi : findIn K (.ref C) "__init__" = some (some (.ref fI))) (hf : isFn K (.ref fI) = true) (hz : rest.length ≤ 1000)
    (h : ∀ e t h', Fr h₀ L h' m → News h₀ L h' ((e, excObj C none t) :: (t, tupObj rest) :: news) → (∀ p ∈ news, p.1 < t) → t < e →
      codeAny (model prog w) (A.under (.builtin "type.__call__" ⟨.ref C :: rest, []⟩)) (.call (.ref fI) ⟨.ref e :: rest, []⟩) (InitBack e fun r s' => match r with | .ok (.ret v) => Q v s' | .ok _ => False | .error e => E e s') { s with heap := h' }) :
    wpAny (model prog w) A (call (.ref C) rest) Q E s := by
  obtain ⟨hp, g, d, t, os⟩ := s
  have X : K.In hp := X₀.keeps F.keep
  obtain ⟨nm, qn, ns, bs, bm, hdct, sn, sub, ab, col, dd, k0, k1, k2, k3, k5, hC, hb, hE, hA, hN⟩ := excOwn_cls X hm
  have f1 := tc_lookup
  have f2 := tc_bind (.ref C)
  have hT : (⟨hp, g, d, t, os⟩ : Shared).TypeIs (.ref C) "type" := ⟨_, hC, rfl⟩
  refine wpAny_call (codeAny_of_tree ?_)
  show wpAny _ _ (callAny (.ref C) _) _ _ _
  repeat (any_goals (first | assumption | with_reducible refine wpAny_loadPart_at hC ?_ | wp_step))
  refine ⟨rfl, ?_⟩
  refine codeAny_call_builtin_at (Code.quiet_builtin _ (by decide +kernel)) entry_typeCall (wpAny_check_type_call_sub hC (exc_type_call (rest := rest) (hrest := by rw [sizeLine_eq]; omega) X hC hE hA hN hi (beq_iff_eq.mp hf) (codeAny_mono (R := InitBack (hp.objs.size + 1) fun r s' => match r with | .ok (.ret v) => Q v s' | .ok _ => False | .error e => E e s') ?_ fun r s' z => ?_)))
  rotate_left
  · rcases r with e | (v | _ | _ | _) <;> exact z
  refine h _ hp.objs.size _ ((F.push _).push _) ?_ (fun p hp => Heap.lt_size (N p hp).1) (Nat.lt_succ_self _)
  have := (N.push F (tupObj rest)).push (F.push _) (excObj C none hp.objs.size)
  rwa [Heap.size_push] at this
end
end Mine
end

section
open PySem PySem.W PyProof.Rows PySem.Calls
namespace Mine
section
variable {M : Model} {A : Around} {E : Value → Shared → Prop} {s : Shared} {env : Env} {K : Frag}
/-- what a raise of an own object asks -/
def RaiseX (K : Frag) (E : Value → Shared → Prop) (v : Value) (s₁ : Shared) : Prop :=
  ∃ (e C : Addr) (oe : Obj) (vs : Array Value), v = .ref e ∧ K.In s₁.heap ∧ subIn K (.ref C) (.type "BaseException") = some true ∧ typeIn K (.ref C) = some (.type "type") ∧ s₁.heap.get? e = some oe ∧ oe.cls = .ref C ∧ oe.data = .fields vs ∧ vs[1]? = some .none ∧ E (.ref e) s₁
theorem raiseX_intro {e C t : Addr} {dct : Option Addr} {s₁ : Shared} {h₀ : Heap} {L : Addr} {m : Str → Option Value} {news : List (Addr × Obj)} (F : Fr h₀ L s₁.heap m) (X₀ : K.In h₀) (N : News h₀ L s₁.heap news) (he : (e, excObj C dct t) ∈ news)
    (hb : subIn K (.ref C) (.type "BaseException") = some true) (ht : typeIn K (.ref C) = some (.type "type")) (hE : E (.ref e) s₁) : RaiseX K E (.ref e) s₁ :=
  ⟨e, C, _, _, rfl, X₀.keeps F.keep, hb, ht, (N _ he).1, rfl, rfl, rfl, hE⟩
theorem Raise_X {e : Expr} {pos : Pos} {h₀ : Heap} {Q : Flow → Shared → Prop} (uX₀ : K.In h₀) (hh : A.handled = none)
    (h : wpAny M A (eval e env) (RaiseX K E) E s) : wpAny M A (exec (.Raise (some e) none pos) env) Q E s := by
  show wpAny M A (do standAt pos; raiseStmt env (some (do let v ← eval e env; standAt pos; pure v)) none) Q E s
  refine wpAny_bind (wpAny_standAt ?_)
  unfold raiseStmt
  dsimp only
  refine wpAny_bind (wpAny_bind (wpAny_mono h (fun v s₁ h₁ => wpAny_bind (wpAny_standAt (wpAny_pure ?_))) fun _ _ x => x))
  obtain ⟨a, C, ob, vs, rfl, X, hsub, hty, ha, hcls, hd, h1, hE⟩ := h₁
  have LT : Looks M s₁.heap (typeOf (.ref a)) (.ref C) := by
    obtain ⟨oc, odi, oda, osl⟩ := ob
    dsimp only at hcls
    subst hcls
    exact (Looks.ld (part := none) ha).andThen .now
  have hnt : ∀ {Q' : Bool → Shared → Prop}, Q' false s₁ → wpAny M A (isType (.ref a)) Q' E s₁ := by
    intro Q' hq
    simp only [isType, loadHead]
    refine wpAny_bind (wpAny_loadPart ha ?_)
    rw [hd]; exact wpAny_pure hq
  refine wpAny_bind (wpAny_pure ?_)
  dsimp only
  refine wpAny_bind (wpAny_holding ?_)
  unfold excFromValue isExcClass
  refine wpAny_bind (wpAny_bind (hnt ?_))
  simp only [Bool.false_eq_true, if_false]
  refine wpAny_pure ?_
  simp only [Bool.false_eq_true, if_false]
  have LI : Looks M s₁.heap (isInstance (.ref a) (.type "BaseException")) true := LT.andThen (looks_subIn X hsub)
  refine wpAny_bind (LI.here ?_)
  simp only [if_true]
  refine wpAny_pure ?_
  refine wpAny_bind (hnt ?_)
  simp only [Bool.false_eq_true, if_false]
  unfold raisedInstance
  refine wpAny_bind (wpAny_bind (LT.here (wpAny_bind ((looks_typeIn X hty).here ?_))))
  rw [if_pos (by decide)]
  refine wpAny_pure ?_
  unfold setFlight
  refine wpAny_bind (wpAny_bind (wpAny_field ha hd h1 ?_))
  rw [if_neg (by decide)]
  refine wpAny_pure ?_
  exact wpAny_raiseNew_none hh hE
end
section
variable {M : Model} {A : Around} {E : Value → Shared → Prop} {s' : Shared} {base g : Heap} {outer : List Env} {L a e t C : Addr} {m : Str → Option Value} {name : Str} {scope : Scope} {cd : Value} {Q : Unit → Shared → Prop} {news full : List (Addr × Obj)} {dct : Option Addr} {vs : List Value}
/-- an own exception (of the ledger) leaves the frame that raised it -/
theorem leave_X (K : Below A base outer g) (F : Fr g L s'.heap m) (N : News g L s'.heap full) (he : (e, excObj C dct t) ∈ full) (ht : (t, tupObj vs) ∈ full) (sub : ∀ q ∈ news, q ∈ full) (off : ∀ q ∈ news, q.1 ≠ e ∧ q.1 ≠ t)
    (hQ : ∀ h', RaisedS base g outer e (.ref C) t vs news h' → RaisedK base outer e (.ref C) t vs news h' → g.UpToSlots h' → Q () { s' with heap := h' }) (hk : scope.kind = .function := by rfl) :
    wpAny M (A.deeper (envOf name scope L a cd)) (leaving (envOf name scope L a cd) (.ref e)) Q E s' := by
  have K' := K.push (name := name) (a := a) (cd := cd) F hk
  have hin : ∀ env ∈ (envOf name scope L a cd :: outer), ∀ b, env.frame = some b → b ∈ e :: t :: (envOf name scope L a cd :: outer).filterMap (·.frame) := fun env he b hb => List.mem_cons_of_mem _ (List.mem_cons_of_mem _ (List.mem_filterMap.mpr ⟨env, he, hb⟩))
  have ge : g.get? e = none := (N _ he).2.2
  have gt : g.get? t = none := (N _ ht).2.2
  have nin : ∀ b o, b ∉ (envOf name scope L a cd :: outer).filterMap (·.frame) → g.get? b = some o → b ∉ e :: t :: (envOf name scope L a cd :: outer).filterMap (·.frame) := fun b o hb q hm => by
    rcases List.mem_cons.mp hm with rfl | hm
    · rw [ge] at q; cases q
    · rcases List.mem_cons.mp hm with rfl | hm
      · rw [gt] at q; cases q
      · exact hb hm
  have st : base.StaysIn (hideAll s'.heap (e :: t :: (envOf name scope L a cd :: outer).filterMap (·.frame))) := fun b o q => hideAll_get _ (K'.stays b o q) (nin b o (fun hm => by
    rw [(K'.frames.mem hm).1] at q; cases q) (K.stays b o q))
  have sg : ∀ b o, g.get? b = some o → b ∉ outer.filterMap (·.frame) → (hideAll s'.heap (e :: t :: (envOf name scope L a cd :: outer).filterMap (·.frame))).get? b = some o := fun b o q nm => hideAll_get _ (F.keep b o q) (nin b o (fun hm => by
    rcases kts_mem hm with z | z
    · rw [z, kts_self F] at q
      cases q
    · exact nm z) q)
  have hl : ∀ q ∈ news, (hideAll s'.heap (e :: t :: (envOf name scope L a cd :: outer).filterMap (·.frame))).get? q.1 = some q.2 ∧ g.get? q.1 = none ∧ base.get? q.1 = none := fun q hq => by
    refine ⟨hideAll_get _ (N q (sub q hq)).1 fun hm => ?_, (N q (sub q hq)).2.2, fresh_of_stays K.stays (N q (sub q hq)).2.2⟩
    rcases List.mem_cons.mp hm with z | hm
    · exact (off q hq).1 z
    · rcases List.mem_cons.mp hm with z | hm
      · exact (off q hq).2 z
      · obtain ⟨env, he, hf⟩ := List.mem_filterMap.mp hm
        rcases List.mem_cons.mp he with rfl | he
        · exact (N q (sub q hq)).2.1 (Option.some.inj hf).symm
        · obtain ⟨o, ho, _⟩ := (K.frames.mem (List.mem_filterMap.mpr ⟨env, he, hf⟩)).2
          rw [(N q (sub q hq)).2.2] at ho; cases ho
  have hBe : (hideAll s'.heap (e :: t :: (envOf name scope L a cd :: outer).filterMap (·.frame))).get? e = none := hideAll_none _ (.head _)
  have hBt : (hideAll s'.heap (e :: t :: (envOf name scope L a cd :: outer).filterMap (·.frame))).get? t = none := hideAll_none _ (.tail _ (.head _))
  refine wpAny_leaving_firstW (a0 := .ref t) K'.stack (funFrames_hide K'.frames hin) rfl (N _ he).1 (fun b o q => of_hideAll _ q) hBe rfl rfl rfl fun h' hL => ?_
  obtain ⟨k1, ⟨_, _, k2⟩, k3, k4⟩ := hL
  have R : RaisedS base g outer e (.ref C) t vs news h' := ⟨⟨_, st, sg, hl, ⟨k1, hBe, k2, k3⟩, hBt⟩, Heap.TupAt.of_slots ⟨_, _, (N _ ht).1, rfl, rfl⟩ k4⟩
  exact hQ h' R R.toK ((Heap.UpToSlots.of_keeps F.keep).trans k4)
end
end Mine
end

section
open PySem PySem.W PyProof.Rows PySem.Calls
namespace Mine
section
variable {prog : Program} {w : World} {A : Around} {E : Value → Shared → Prop} {h : Heap} {g : Array GenState} {d : Drawn} {t : Nat} {os : OsState}
variable {nm q : Str} {C N : Addr} {bs bm : List Value} {hdct : Bool} {sn : List Str} {sub : List Value} {ab : Bool} {col : Option Bool} {dd : Option Addr} {k0 k1 k2 k3 k5 : Option Value}
theorem exc_check_init {M : Model} {e : Addr} {oe : Obj} {rest : List Value} {Q : Unit → Shared → Prop} (hC : h.get? C = some (excClassObj nm q C N bs bm hdct sn sub ab col dd k0 k1 k2 k3 k5 "Exception.__new__")) (hE : bm.contains (.type "Exception") = true)
    (he : h.get? e = some oe) (hcls : oe.cls = .ref C) (hq : Q () ⟨h, g, d, t, os⟩) : wpAny M A (checkBuiltinCall "Exception.__init__" ⟨.ref e :: rest, []⟩) Q E ⟨h, g, d, t, os⟩ := by
  have F := PySem.F.excBase_Exception
  have hcB : (Value.ref C :: bm).contains (.type "Exception") = true := by rw [List.contains_cons, hE, Bool.or_true]
  have hshort := F.noStar
  simp only [checkBuiltinCall, F.initKind, F.initSplit, F.initRow]
  repeat (first | (with_reducible refine wpAny_loadPart_at he ?_; rw [hcls]) | with_reducible refine wpAny_loadPart_at hC ?_ | (with_reducible refine wpAny_isSubtype_exc hC ?_; rw [hcB]) | wp_step)
  refine wpAny_onRaise ?_
  rw [show ∀ (a b : String) (n : Nat), Bind.check ⟨.positional, "*", "Exception", .self, [⟨"args", .varPos, false⟩]⟩ a b n (List.map (fun x => x.fst) ({ pos := Value.ref e :: rest } : Args).kw) = pure () from
    fun a b n => check_star_args _ _ _ _ _ _]
  exact wpAny_pure hq
end
section
variable {prog : Program} {w : World} {A : Around} {E : Value → Shared → Prop} {s : Shared} {K : Frag} {C L e t₀ : Addr} {dct : Option Addr} {h₀ : Heap} {m : Str → Option Value} {news : List (Addr × Obj)} {news' : Addr → List (Addr × Obj)} {rest : List Value} {Q : Value → Shared → Prop}
theorem exc_init_K (F : Fr h₀ L s.heap m) (X₀ : K.In h₀) (N : News h₀ L s.heap news) (hm : excOwn K C = true) (U : ∀ t, Upd e (excObj C dct t₀) (excObj C dct t) news (news' t)) (hz : rest.length ≤ 1000)
    (h : ∀ t h', Fr h₀ L h' m → News h₀ L h' ((t, tupObj rest) :: news' t) → (∀ p ∈ news, p.1 < t) → Q .none { s with heap := h' }) :
    wpAny (model prog w) A (call (.builtin "Exception.__init__") (.ref e :: rest)) Q E s := by
  have FE := PySem.F.excBase_Exception
  obtain ⟨hp, g, d, tk, os⟩ := s
  have X : K.In hp := X₀.keeps F.keep
  obtain ⟨nm, qn, ns, bs, bm, hdct, sn, sub, ab, col, dd, k0, k1, k2, k3, k5, hC, hb, hE, hA, hN⟩ := excOwn_cls X hm
  obtain ⟨pre, post, hl, hl', h1, h2⟩ := (U hp.objs.size).split
  have he : hp.get? e = some (excObj C dct t₀) := (N (e, excObj C dct t₀) (by rw [hl]; simp)).1
  have hrest : rest.length ≤ sizeLine := by rw [sizeLine_eq]; omega
  refine wpAny_call (codeAny_call_builtin FE.init.plain FE.initEntry (exc_check_init hC hE he rfl ?_))
  have lt := fun p hp => Heap.lt_size (N p hp).1
  have N1 := N.push F (tupObj rest)
  have F1 := F.push (tupObj rest)
  have N2 : News h₀ L (hp.push (tupObj rest)) (((hp.objs.size, tupObj rest) :: pre) ++ (e, excObj C dct t₀) :: post) := by rw [hl] at N1; exact N1
  wp_walk
  obtain ⟨U1, U2⟩ := news_upd (f := Obj.mapFields (·.setIfInBounds 0 (Value.ref hp.objs.size))) (o' := excObj C dct hp.objs.size) F1 N2 (fun p hp' => by
    rcases List.mem_cons.mp hp' with rfl | hp'
    · exact Ne.symm (Nat.ne_of_lt (Heap.lt_size he))
    · exact h1 p hp') h2 rfl rfl
  show Q .none _
  refine h hp.objs.size _ U1 ?_ lt
  rw [hl']
  exact U2
end
end Mine
end

section
open PySem PySem.W PyProof.Rows PySem.Calls Builtin Builtin.ObjectAttr
namespace Mine
abbrev excTail : List Value := [.type "Exception", .type "BaseException", .type "object"]
def passList : List Value → Bool
  | [] => false
  | .ref _ :: r => passList r
  | v :: r => (v :: r) == excTail
theorem passList_of (self : Value) : ∀ {l : List Value}, passList l = true → refuseLoop self "__setattr__" l = pure () := by
  intro l
  induction l with
  | nil => intro e; cases e
  | cons v r ih =>
    intro e
    cases v <;> first
      | (rw [refuseLoop_ref]; exact ih e)
      | (have h := beq_iff_eq.mp (show ((_ : List Value) == excTail) = true from e); rw [h]; exact PySem.F.store_Exception.passes self)
def passIn (K : Frag) (C : Addr) : Bool := (clsIn K C).any fun cd => passList cd.mro && cd.hasDict
section
variable {prog : Program} {w : World} {A : Around} {E : Value → Shared → Prop} {s : Shared} {K : Frag} {C L e t : Addr} {h₀ : Heap} {m : Str → Option Value} {news : List (Addr × Obj)} {news' : Addr → List (Addr × Obj)} {name : Str} {v : Value} {Q : Unit → Shared → Prop}
theorem set_exc_K (F : Fr h₀ L s.heap m) (X₀ : K.In h₀) (N : News h₀ L s.heap news) (hp : passIn K C = true) (hsub : subIn K (.ref C) (.type "object") = some true) (hs : findIn K (.ref C) "__setattr__" = some (some (.builtin "object.__setattr__"))) (hn : findIn K (.ref C) name = some none)
    (U : ∀ d, Upd e (excObj C none t) (excObj C (some d) t) news (news' d)) 
    (h : ∀ d h' tk', Fr h₀ L h' m → News h₀ L h' (news' d) → Q () { s with heap := h', toks := tk' }) :
    wpAny (model prog w) A (setAttr (.ref e) name v) Q E s := by
  have SF := PySem.F.store_object
  obtain ⟨hp', g, dr, tk, os⟩ := s
  have X : K.In hp' := X₀.keeps F.keep
  obtain ⟨pre, post, hl, hl', h1, h2⟩ := (U hp'.objs.size).split
  have he : hp'.get? e = some (excObj C none t) := (N (e, excObj C none t) (by rw [hl]; simp)).1
  have I : InstAt hp' e (excObj C none t) C none := ⟨he, rfl, rfl, trivial⟩
  refine set_plain X I hs ?_
  obtain ⟨cd, hc, ho⟩ := any_some hp
  obtain ⟨hpass, hdic⟩ := Bool.and_eq_true_iff.mp ho
  have sub : Looks (model prog w) hp' (isInstance (.ref e) (.type "object")) true := I.type.andThen (looks_subIn X hsub)
  refine codeAny_call_builtin SF.slot.plain SF.entry (@check_slot (model prog w) _ _ _ "object.__setattr__" "object" "__setattr__" (.ref e) [.str name tk, v] [] _ SF.kind SF.split sub (SF.args (.ref e) (.str name tk) v) ?_)
  have hm : Looks (model prog w) hp' (mroOf (.ref C)) cd.mro := (looks_clsIn X hc).andThen .now
  rw [osa_eq, refuse_eq]
  refine wpAny_bind (wpAny_bind (I.type.here (wpAny_bind (hm.here ?_))))
  rw [passList_of _ hpass]
  refine wpAny_pure (wpAny_bind (I.type.here (wpAny_bind ((looks_findIn X hn).here (wpAny_bind (wpAny_pure ?_))))))
  dsimp only
  refine wpAny_bind (wpAny_pure (wpAny_bind (wpAny_bind (wpAny_loadPart he (wpAny_bind ((looks_clsIn X hc).here ?_))))))
  rw [hdic]
  show wpAny _ _ (alloc { cls := Value.type "dict", data := Data.dict #[] } >>= fun d => update e (fun o => { cls := o.cls, dict := some d, data := o.data, slots := o.slots }) >>= fun _ => dictMade (.ref C) e d) _ _ _
  have hes : e ≠ hp'.objs.size := Nat.ne_of_lt (Heap.lt_size he)
  have hx₁ : (hp'.push { cls := .type "dict", data := .dict #[] }).get? e = some (excObj C none t) := Heap.get?_push_of_some _ he
  refine wpAny_bind (wpAny_alloc' ?_)
  refine wpAny_bind (wpAny_update' hx₁ ?_)
  refine wpAny_pure ?_
  have hgd : ((hp'.push { cls := .type "dict", data := .dict #[] }).update e fun o => { cls := o.cls, dict := some hp'.objs.size, data := o.data, slots := o.slots }).get? hp'.objs.size
      = some { cls := .type "dict", data := .dict #[] } :=
    (Heap.get?_update_ne _ _ _ _ hes.symm).trans (Heap.get?_push_at rfl rfl)
  have hnd : ((hp'.push { cls := .type "dict", data := .dict #[] }).update e fun o => { cls := o.cls, dict := some hp'.objs.size, data := o.data, slots := o.slots }).Ns hp'.objs.size (fun _ => none) :=
    ⟨_, #[], _, hgd, rfl, fun e he => absurd he (by simp), fun _ => rfl⟩
  have F1 := F.push { cls := .type "dict", data := .dict #[] }
  have N1 : News h₀ L (hp'.push { cls := .type "dict", data := .dict #[] }) (pre ++ (e, excObj C none t) :: post) := fun p hp2 => N.push F { cls := .type "dict", data := .dict #[] } rfl p (List.mem_cons_of_mem _ (by rw [hl]; exact hp2))
  obtain ⟨U1, U2⟩ := news_upd (f := fun o => { cls := o.cls, dict := some hp'.objs.size, data := o.data, slots := o.slots }) (o' := excObj C (some hp'.objs.size) t) F1 N1 h1 h2 rfl rfl
  show wpAny _ _ (storeInDict hp'.objs.size (.str name tk) name v) _ _ _
  unfold storeInDict newKeyGuard
  refine wpAny_bind (wpAny_pure (wpAny_bind (wpAny_nsSet1 (Heap.Ns1.of_empty hnd) fun h' hn' hs => ?_)))
  obtain ⟨oD, esD, epD, hoD, hdD, hcD⟩ := hn'.count (Within.cons name v Within.nil)
  refine wpAny_bind (wpAny_lookBehind hoD (by rw [hdD]; exact pastItsLine_dict (Nat.le_trans hcD (by rw [List.length_cons, List.length_nil, sizeLine_eq]; omega))) ?_)
  refine wpAny_pure ?_
  show Q () _
  have hdL : hp'.objs.size ≠ L := Nat.ne_of_gt F.ns.lt
  refine h hp'.objs.size h' _ (U1.change hs hdL (next_is_new F)) (fun p hp2 => ?_)
  rw [hl'] at hp2
  have z := U2 p hp2
  have hlt : p.1 < hp'.objs.size := by
    have hmem : ∃ o, (p.1, o) ∈ news := by
      rw [hl]
      rcases List.mem_append.mp hp2 with q | q
      · exact ⟨p.2, List.mem_append_left _ q⟩
      · rcases List.mem_cons.mp q with q | q
        · exact ⟨_, List.mem_append_right _ (by rw [q]; exact .head _)⟩
        · exact ⟨p.2, List.mem_append_right _ (.tail _ q)⟩
    obtain ⟨o, ho2⟩ := hmem
    exact Heap.lt_size (N _ ho2).1
  exact ⟨hs.extBut _ _ (Nat.ne_of_lt hlt) z.1, z.2⟩
end
end Mine
namespace Mine
section
variable {M : Model} {A : Around} {E : Value → Shared → Prop} {s' : Shared} {base g : Heap} {outer : List Env} {L a e t C : Addr} {m : Str → Option Value} {name : Str} {scope : Scope} {cd : Value} {Q : Unit → Shared → Prop} {news : List (Addr × Obj)} {dct : Option Addr} {vs : List Value} {p1 : Addr × Obj}
/-- the exception's objects head the ledger -/
theorem leave_X3 (K : Below A base outer g) (F : Fr g L s'.heap m) (N : News g L s'.heap ((t, tupObj vs) :: (e, excObj C dct t) :: p1 :: news)) (off : ∀ q ∈ news, q.1 ≠ e ∧ q.1 ≠ t)
    (hQ : ∀ h', RaisedS base g outer e (.ref C) t vs news h' → RaisedK base outer e (.ref C) t vs news h' → g.UpToSlots h' → Q () { s' with heap := h' }) (hk : scope.kind = .function := by rfl) :
    wpAny M (A.deeper (envOf name scope L a cd)) (leaving (envOf name scope L a cd) (.ref e)) Q E s' :=
  leave_X K F N (.tail _ (.head _)) (.head _) (fun _ h => .tail _ (.tail _ (.tail _ h))) off hQ hk
end
end Mine
end

section
open PySem PySem.W PyProof.Rows PySem.Calls
namespace Mine
section
variable {prog : Program} {w : World} {M : Model} {A : Around} {E : Value → Shared → Prop} {s : Shared} {K : Frag} {h₀ : Heap} {L : Addr} {m : PySem.Str → Option Value}
theorem exc_getm {pl : Sem Bool} {Q : Value × List Value → Shared → Prop} (F : Fr h₀ L s.heap m) (X₀ : K.In h₀)
    (e : findCls K (.type "Exception") (.type "type") (PySem.Str.ofString "__init__") = some (.val (.builtin "Exception.__init__")))
    (h : Q (.builtin "Exception.__init__", []) { s with toks := s.toks + 1 }) :
    wpAny (model prog w) A (getMethod (.type "Exception") (PySem.Str.ofString "__init__") pl) Q E s := by
  have X := X₀.keeps F.keep
  have hstub : opaqueClassAbove (.type "Exception") = pure none := by unfold opaqueClassAbove; dsimp only; rw [show Manifest.isStub "Exception" = false by decide +kernel]; rfl
  have ht : typeOf (.type "Exception") = pure (.type "type") := by first | rfl | kernel_rfl
  have L0 : Looks (model prog w) s.heap (typeOf (.type "Exception")) (.type "type") := Looks.of_pure ht
  have hg : findIn K (.type "type") "__getattribute__" = some (some (.builtin "type.__getattribute__")) := type_tga
  unfold getMethod specialOf
  refine wpAny_bind (wpAny_bind (L0.here ((looks_findIn X hg).here ?_)))
  dsimp only
  rw [if_pos canon_tga]
  refine wpAny_bind (wpAny_mono (Q := fun v => Q (v, [])) (E := E) ?_ (fun _ _ z => wpAny_pure z) fun _ _ z => z)
  have LO : Looks (model prog w) s.heap (opaqueClassAbove (.type "Exception")) none := Looks.of_pure hstub
  refine cls_open X LO L0 hg (looks_hook X (r := none) (by rfl)) (by show subIn K _ _ = _; rfl) e ?_
  refine wpAny_pure ?_
  show wpAny _ _ (handedOut (.builtin "Exception.__init__")) _ _ _
  rw [show handedOut (.builtin "Exception.__init__") = pure (.builtin "Exception.__init__") from by first | rfl | kernel_rfl]
  exact wpAny_pure h
end
end Mine
end

section
open PySem PySem.W PyProof.Rows PySem.Calls
namespace Mine
section
variable {prog : Program} {w : World} {A₀ A : Around} {s : Shared} {base h₀ : Heap} {L : Addr} {m : Str → Option Value} {env : Env} {news : List (Addr × Obj)} {K : Frag} {p : Program} {loose : List Str} {mean : ExcName → Option Value} {mg mb : Str → Option Value}
    {R : Result → Shared → Prop} {name qual : Str} {params : Arguments} {body : List Stmt} {scope : Scope} {dV kV doc pm cdv ct oc : Value} {an od : Option Addr} {osl : Array (Option Value)} {f : Addr} {args : Args} {binds : List (Str × Value)}
theorem one_frame {b : Addr} (hf : env.frame = some L) (hm : b ∈ [env].filterMap (·.frame)) : b = L := by
  obtain ⟨e, he, hb⟩ := List.mem_filterMap.mp hm
  rw [List.mem_singleton.mp he, hf] at hb
  exact (Option.some.inj hb).symm
/-- a def that holds a try, called from a def whose names may be cells -/
theorem code_defT (B : Below A₀ base [] h₀) (F : Fr h₀ L s.heap m) (X₀ : K.In h₀) (N : News h₀ L s.heap news) (T : Top p loose mean mg mb h₀) (hA : A.frames = some [env]) (hf : env.frame = some L) (hke : env.scope.kind = .function)
    (ho : K.lookup f = some ⟨oc, od, .func (fnOf name qual params body scope dV kV doc pm an cdv ct), osl⟩) (hcd : codeIn K cdv qual = true) (hroom : A.depth < recursionLimit)
    (hbind : BindsTo s (fnOf name qual params body scope dV kV doc pm an cdv ct) args binds) (hloc : ∀ y ∈ binds, scope.names.lookup y.1 = some .local)
    (h : ∀ g L' h₁, Fr h₀ L g m → Fr g L' h₁ (fun y => binds.reverse.lookup y) → News g L' h₁ news → Below A base [env] g → K.In g → Top p loose mean mg mb g → KtsDicts ([env].filterMap (·.frame)) g →
      wpAny (model prog w) (A.deeper (envOf qual scope L' f cdv)) (execs body (envOf qual scope L' f cdv))
        (fun fl s' => LeaveS0 ([env].filterMap (·.frame)) h₀ L m g R (match fl with | .ret v => v | _ => .none) s')
        (fun e s' => wpAny (model prog w) (A.deeper (envOf qual scope L' f cdv)) (leaving (envOf qual scope L' f cdv) e) (fun _ s'' => R (.error e) s'') (fun e' s'' => R (.error e') s'') s')
        { s with heap := h₁, toks := s.toks + binds.length })
    (hco : scope.isCoroutine = false) (hgen : scope.isGenerator = false) (hk : scope.kind = .function)
    (hcell : ∀ x ∈ scope.names, x.2 ≠ .cell) : codeAny (model prog w) A (.call (.ref f) args) R s := by
  have X := X₀.keeps F.keep
  refine codeAny_call_def (fd := fnOf name qual params body scope dV kV doc pm an cdv ct) (body := body) (binds := binds) hroom (X _ _ ho) rfl (T.nolimit.keeps F.keep) (codeRec_of X hcd) rfl hbind hcell hloc (fun h₁ hns hk₁ => ?_) hco hgen hk
  obtain ⟨FG, BG, st, -⟩ := groundX (R := R) B F N hA hf hke
  obtain ⟨oL, es, ep, hL, hLd, hLk, hLf⟩ := F.ns
  have nL : L ∉ news.map (·.1) := fun q => by
    obtain ⟨p, hp, e⟩ := List.mem_map.mp q
    exact (N p hp).2.1 e
  have hLg := hideAll_get (news.map (·.1)) hL nL
  have hNs : ∀ (sl : Array (Option Value)) h', h'.get? L = some { oL with slots := sl } → Heap.Ns h' L m := fun sl h' e => ⟨_, es, ep, e, hLd, hLk, hLf⟩
  refine wpAny_mono (h _ s.heap.objs.size h₁ FG ⟨hns, fun b o e => hk₁ b o (of_hideAll _ e), Nat.le_of_eq (hideAll_size _ _)⟩
    (fun p hp => ⟨hk₁ _ _ (N p hp).1, Nat.ne_of_lt (Heap.lt_size (N p hp).1), hideAll_none _ (List.mem_map_of_mem hp)⟩) BG (X₀.keeps st) (T.keeps st) (fun b hb => by
      rw [one_frame hf hb]
      exact ⟨oL, es, ep, hLg, hLd⟩)) (fun fl s' hl => ?_) fun _ _ y => y
  obtain ⟨g', L', m', news', T', F', N', k⟩ := hl
  have nL₀ : h₀.get? L = none := kts_self F
  obtain ⟨sl, hs⟩ := T'.up hLg
  refine k ⟨hNs sl _ (F'.keep _ _ hs), fun b o e => F'.keep b o (T'.other b o (st b o e) (fun q => by
    rw [one_frame hf q, nL₀] at e
    cases e)), F.above⟩ fun p hp => ⟨(N' p hp).1, fun q => ?_, ?_⟩
  · have := (N' p hp).2.2; rw [q, hs] at this; cases this
  · cases q : h₀.get? p.1 with
    | none => rfl
    | some o =>
      obtain ⟨sl', hs'⟩ := T'.up (st _ _ q)
      have := (N' p hp).2.2
      rw [hs'] at this
      cases this
end
end Mine
end

open PySem PySem.W PyProof.Rows Mine
local macro_rules | `(tactic| walk_at "eval Call Name") => `(tactic| (k_here; (with_reducible show wpAny _ _ (eval (Expr.Call (Expr.Name "_law_stamp" _) _ _ _) _) _ _ _); (fail_if_success (with_reducible show wpAny _ _ _ (fun v s₂ => StampR _ _ _ _ _ v s₂) _ _)); (rename Fr _ _ _ _ => cF'); (rename News _ _ _ _ => cN'); (refine' stamp_join cF' cN' ?_ ?_); rotate_left; (intro Dst a0 ta b0 tb n0 h' tk' ha0 hb0 hb1 F' N' l1); (try dsimp only); (try simp only [AllLt, and_true] at l1); (try k_sweep); rotate_left))
local macro_rules | `(tactic| walk_at "StampR") => `(tactic| ((refine stamp_end (by with_unfolding_all rfl) rfl (by assumption) (by assumption) ?sl ?s1 ?s2 ?s3); (case sl => kcu_lt); (case s1 => first | omega | decide); (case s2 => exact fm_lo' _ (by decide) (by decide)); (case s3 => exact fm_hi' _ (by decide) (by decide))))
local macro_rules | `(tactic| walk_at "eval Call Name") => `(tactic| (k_here; (with_reducible show wpAny _ _ (eval (Expr.Call (Expr.Name "_law_seal" _) _ _ _) _) _ _ _); (fail_if_success (with_reducible show wpAny _ _ _ (fun v s₂ => SealR _ _ _ _ _ _ _ _ v s₂) _ _)); (rename Fr _ _ _ _ => cF'); (rename News _ _ _ _ => cN'); k_dflt (first | refine' seal_at 0 cF' cN' (by with_unfolding_all rfl) (by assumption) (by assumption) (by assumption) ?_ ?_ | refine' seal_at 1 cF' cN' (by with_unfolding_all rfl) (by assumption) (by assumption) (by assumption) ?_ ?_ | refine' seal_at 2 cF' cN' (by with_unfolding_all rfl) (by assumption) (by assumption) (by assumption) ?_ ?_ | refine' seal_at 3 cF' cN' (by with_unfolding_all rfl) (by assumption) (by assumption) (by assumption) ?_ ?_ | refine' seal_at 4 cF' cN' (by with_unfolding_all rfl) (by assumption) (by assumption) (by assumption) ?_ ?_ | refine' seal_at 5 cF' cN' (by with_unfolding_all rfl) (by assumption) (by assumption) (by assumption) ?_ ?_ | refine' seal_at 6 cF' cN' (by with_unfolding_all rfl) (by assumption) (by assumption) (by assumption) ?_ ?_); (intro sa0 sb0 sb1); (try k_fold); rotate_left; (intro r0 t0 a0 ta b0 tb n0 h' tk' hr0 hr1 ha0 hb0 hb1 F' N'); (try simp only [List.set_cons_succ, List.set_cons_zero] at N'); (try dsimp only); (try k_sweep); rotate_left))
local macro_rules | `(tactic| walk_at "SealR") => `(tactic| ((with_unfolding_all refine seal_end (by rfl) rfl (by assumption) (by assumption) ?r0 ?r1 ?s1 ?s2 ?s3); (case r0 => exact fm_lo _ (by decide)); (case r1 => exact fm_hi _ (by decide)); (case s1 => first | assumption | exact fd_lo (by assumption) (by decide)); (case s2 => first | assumption | exact fm_lo _ (by decide)); (case s3 => first | assumption | exact Int.le_of_lt (Int.lt_trans (fm_hi _ (by decide)) (by decide)))))
local macro_rules | `(tactic| walk_at "CompSrc Subscript") => `(tactic| (k_here; k_dflt (refine LCg.CompSrc.range (n := 12) (by rfl) (by k_asm) (by k_asm) (by assumption) (by decide) (by rfl) (by size_fits) ?_; intro g'; (refine oct_rest (by assumption) (by assumption) (by assumption) ?_ ?_); (intro i' a' ta' b' tb' n' v' I' oI' C' oC' D' m' ys' h' tk' E' hi' hv' ha' hb' hb1' hl' hy' hC' hx' F' N' off' ne'); (obtain ⟨t9', hv9'⟩ := hv'); (subst hv9'); (try simp only [LCg.Off3, and_true] at off'); (try k_fold); rotate_left; (intro a' ta' b' tb' n' ys' ns' ha' hb' hb1' hi' hl' hr'); (unfold LCg.FinE); (intro D' h' tk' F' N' o1'); (try simp only [LCg.Off1, and_true] at o1'); (try dsimp only); rotate_left)))
local macro_rules | `(tactic| walk_at "CompEnd int") => `(tactic| ((refine oct_compEnd (by assumption) (by assumption) (by lcg_sub) (by lcg_off) (by assumption) (by assumption) (by assumption) ?hy); exact octI_pick (by omega) (by omega) (by omega) (by omega)))
local macro_rules | `(tactic| walk_at "CompSrc Call") => `(tactic| (k_here; k_dflt (refine LCg.CompSrc.range (n := 12) (by rfl) (by k_asm) (by k_asm) (by assumption) (by decide) (by rfl) (by size_fits) ?_; intro g'; (rename (∀ n ∈ _, 0 ≤ n ∧ n < 256) => hr'); (refine hex_of hr' ?_ ?_); (intro k' t' I' oI' C' oC' D' m' ys' h' tk' E' hlo' hhi' hC' hx' F' N' off' ne'); (try simp only [LCg.Off3, and_true] at off'); (try k_fold); rotate_left; (intro ys' hl' hz'); (unfold LCg.FinE); (intro D' h' tk' F' N' o1'); (try simp only [LCg.Off1, and_true] at o1'); (try dsimp only); rotate_left)))
local macro_rules | `(tactic| walk_at "getMethod bytes") => `(tactic| (k_here; (with_reducible refine hex_method ?_)))
local macro_rules | `(tactic| walk_at "call builtin:bytes.hex") => `(tactic| (k_here; (rename KBw.bInts (KBy.picked _ _ _) = _ => kbcQ); k_dflt (refine hex_K (kbcQ.trans (cut_one (by omega) (by omega))) ?_); intro _ _))
local macro_rules | `(tactic| walk_at "CompEnd str") => `(tactic| (refine hex_compEnd (by assumption) (by assumption) (by lcg_sub) (by lcg_off) (by rfl)))
local macro_rules | `(tactic| walk_at "exec For Tuple Call cons nil") => `(tactic| (k_here; (rename Fr _ _ _ _ => lF'); (with_unfolding_all refine' For_turns lF' ?_); k_whole))
local macro_rules | `(tactic| walk_at "call type:enumerate") => `(tactic| (k_here; (with_reducible show wpAny _ _ (call (Value.type _) [Value.ref _]) (fun xv s₁ => wpAny _ _ (pyIter xv) (fun it s₂ => TurnsAt _ _ _ _ _ _ _ _ _ it s₂) _ s₁) _ _); (rename Fr _ _ _ _ => lF'); (rename News _ _ _ _ => lN'); k_dflt (refine ktu_enum (by rfl) lF' lN' (List.Mem.head _) (by rfl) (by rfl) (by rfl) ?_); clear lF'; intro i' l1; (try k_lt l1); (rename (∀ n ∈ _, 0 ≤ n ∧ n < 256) => hr'); (rename (∀ i y, _ → HexAt _ i y) => hy'); k_dflt (refine law_items hr' (by assumption) (by assumption) hy' (by assumption) (by assumption) (by assumption) (by exact rfl) ?_ ?_); (intro i' ti' a' ta' b' tb' n' m' T' t' u' h' tk' hi' ha' hb' hb1' hv0' hv1' hT' F'); ktu_objs; (try k_fold); rotate_left; (intro ti' a' ta' b' tb' n' m' h' tk' ha' hb' hb1' F' N'); (try dsimp only); rotate_left))
local macro_rules | `(tactic| walk_at "eval ListComp") => `(tactic| (k_here; (with_reducible show wpAny _ _ (eval (Expr.ListComp _ [⟨_, Expr.Name "text" _, _, _⟩] _ _) _) _ _ _); k_dflt (refine ListComp_S (by k_asm) (by with_unfolding_all rfl) (by decide) (by rfl) (by decide) (by rfl) ?_)))
local macro_rules | `(tactic| walk_at "SrcS") => `(tactic| (k_here; k_dflt (refine SrcS.intro (hexS_ascii (by assumption)) (by rfl) (by k_asm) (by k_asm) (by rw [sizeLine_eq]; exact Nat.le_of_ble_eq_true rfl) ?_; intro g'; refine dig_rest (by assumption) (by assumption) ?_ ?_; (intro d' u' I' oI' C' oC' D' m' ys' h' tk' E' hd' hC' hx' F' N' off' ne'); (try simp only [LCg.Off3, and_true] at off'); (try k_fold); rotate_left; (intro t1' t2'); (unfold LCg.FinE); (intro D' h' tk' F' N' o1'); (try simp only [LCg.Off1, and_true] at o1'); (try dsimp only); rotate_left)))
local macro_rules | `(tactic| walk_at "call builtin:str.index") => `(tactic| (k_here; k_dflt (refine index_K (by assumption) ?_); intro _ _))
local macro_rules | `(tactic| walk_at "CompEnd int") => `(tactic| (refine dig_compEnd (by assumption) (by assumption) (by lcg_sub) (by lcg_off) (by rfl)))
local macro_rules | `(tactic| walk_at "call type:bytes") => `(tactic| (k_here; (with_reducible show wpAny _ _ (call (Value.type "bytes") [Value.bytes _ _]) _ _ _); k_dflt (refine bytes_again ?_)))
local macro_rules | `(tactic| walk_at "subscriptTail") => `(tactic| (k_here; (with_reducible show wpAny _ _ (subscriptTail _ _ (Value.bytes (KBy.picked _ _ _) _) (Value.int _ _)) _ _ _); (rename KBw.bInts (KBy.picked _ _ _) = _ => kbcQ); k_dflt (refine byte0_K (kbcQ.trans (cut_at (by omega))) ?_); intro _ _))
local macro_rules | `(tactic| walk_at "exec Raise some none") => `(tactic| (k_here; (with_reducible show wpAny _ _ (exec (Stmt.Raise (some (Expr.Call (Expr.Name _ _) _ _ _)) none _) _) _ _ _); k_dflt (refine' Raise_X ?k1 ?k2 ?_; (case k1 => k_asm); (case k2 => rfl))))
local macro_rules | `(tactic| walk_at "call ref") => `(tactic| (k_here; k_dflt (refine' call_exc ?k1 ?k2 ?k3 ?k4 ?k0 ?k5 ?k6 ?k7 ?_; (case k2 => k_asm); (case k0 => k_is); (case k4 => kernel_rfl); (case k1 => k_asm); (case k3 => k_asm); (case k5 => k_is); (case k6 => k_is); (case k7 => exact Nat.le_of_ble_eq_true rfl); k_whole; intro e' t' h' F' N' l1 l2; (try k_lt l1); (try k_lt2 l2); (try k_sweep); k_enter)))
local macro_rules | `(tactic| walk_at "call builtin:Exception.__init__") => `(tactic| (k_here; k_dflt (refine' exc_init_K ?k1 ?k2 ?k3 ?k4 ?k5 ?k6 ?_; (case k1 => k_asm); (case k2 => k_asm); (case k3 => k_asm); (case k5 => (intro t; k_upd)); (case k4 => kernel_rfl); (case k6 => exact Nat.le_of_ble_eq_true rfl); k_whole; intro t' h' F' N' l1; (try k_lt l1); (try k_sweep))))
local macro_rules | `(tactic| walk_at "setAttr ref str") => `(tactic| (k_here; k_dflt (refine' set_exc_K ?k1 ?k2 ?k3 ?k4 ?k5 ?k6 ?k7 ?k8 ?_; (case k1 => k_asm); (case k2 => k_asm); (case k3 => k_asm); (case k8 => (intro d; k_upd)); (case k4 => kernel_rfl); (case k5 => k_is); (case k6 => k_is); (case k7 => k_is); k_whole; intro d' h' tk' F' N'; (try k_sweep))))
local macro_rules | `(tactic| walk_at "RaiseX") => `(tactic| (k_here; k_dflt (refine' raiseX_intro ?k1 ?k2 ?k3 ?k4 ?k5 ?k6 ?_; (case k1 => k_asm); (case k2 => k_asm); (case k3 => k_asm); (case k4 => k_mem); (case k5 => k_is); (case k6 => k_is); k_whole; (try dsimp only))))
local macro_rules | `(tactic| walk_at "leaving ref") => `(tactic| (k_here; k_dflt (refine' leave_X3 ?k1 ?k2 ?k3 ?k4 ?_ ?k5; (case k1 => k_asm); (case k2 => k_asm); (case k3 => k_asm); (case k4 => walk_at "off two"); (case k5 => rfl); k_whole; intro h' R' RK' U'; (try dsimp only at R' RK' U' ⊢))))
local macro_rules | `(tactic| walk_at "off two") => `(tactic| first | exact List.forall_mem_nil _ | (refine List.forall_mem_cons.mpr ⟨⟨by k_ne, by k_ne⟩, ?_⟩; walk_at "off two"))
local macro_rules | `(tactic| walk_at "getMethod type:Exception") => `(tactic| (k_here; k_dflt (refine' exc_getm ?k1 ?k2 ?k3 ?_; (case k1 => k_asm); (case k2 => k_asm); (case k3 => kernel_rfl); k_whole)))
local macro_rules | `(tactic| walk_at "call ref") => `(tactic| (k_here; (fail_if_success k_inElt); kts_any; k_dflt (refine wpAny_call ?_; (refine' code_defT ?k1 ?k2 ?k3 ?k4 ?k5 ?kA ?kF ?kK ?k6 ?k7 ?k8 ?k9 ?kB ?_ ?c2 ?c3 ?c4 ?c5; (case kA => exact rfl); (case kF => exact rfl); (case kK => exact rfl); (case k2 => k_asm); (case k1 => k_asm); (case k3 => k_asm); (case k4 => k_asm); (case k5 => k_asm); (case k6 => k_is); (case k7 => k_is); (case k8 => k_room); (case k9 => first | exact binds_K (by k_in) rfl (by k_is) rfl rfl rfl | exact BindsTo.of_eq rfl | fail "no rule for these arguments"); (case kB => exact locs rfl); (case c2 => exact rfl); (case c3 => exact rfl); (case c4 => exact rfl); (case c5 => decide); k_whole; intro g' L' h' FG' F' N' B' X' T' D'; (try dsimp only); (try k_lift B'); (try k_fold)))))
local macro_rules | `(tactic| walk_at "UnrEndW") => `(tactic| (k_here; k_dflt (refine' lawTurn_end (by assumption) (by assumption) ?hI ?sub ?off ?e ?h1 ?h2 ?h3 ?hm); (case hI => k_subL); (case sub => k_subL); (case off => ktu_offL); (case e => first | rfl | omega); (case h1 => assumption); (case h2 => assumption); (case h3 => assumption); (case hm => with_unfolding_all rfl)))
set_option maxRecDepth 100000 in
set_option maxHeartbeats 40000000 in
theorem PySem.Challenge.cw_xm0808_01_holds : PySem.Challenge.rw_xm0808_01.Holds := by
  open_k
