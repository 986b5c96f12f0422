import PyProof.Rows.All
import Wide.All
import OpenK.AllK
import Wide.FinOn
import KE.KIntText
import PySem.Challenge.RW_xm0791_01
/-! xm0791-01: the law of ac_symbols. Contracts of the called defs (each walked once, at any state), then the law's own walk. -/
set_option Elab.async false
section -- S1
open PySem PySem.W PyProof.Rows
namespace Mine
def symRow (r : Int) : List Int := (if r = 15 then [240] else []) ++ [16*r+1,16*r+2,16*r+3,16*r+4,16*r+5,16*r+6,16*r+7,16*r+8,16*r+9,16*r+10]
structure Sym (pre found : List Int) : Prop where
  out : found = 0 :: pre.flatMap symRow
structure SymIn (run : Int) (f0 pre found : List Int) : Prop where
  out : found = f0 ++ pre.map (fun s => 16*run + s)
theorem sym_0 : ([0] : List Int).length ≤ 1 + 11 * ([] : List Int).length ∧ Sym [] [0] := ⟨by decide, ⟨rfl⟩⟩
theorem symIn_0 (run : Int) (f : List Int) : f.length = f.length + ([] : List Int).length ∧ SymIn run f [] f := ⟨rfl, ⟨by simp⟩⟩
theorem symIn_1 {run n : Int} {f0 pre f : List Int} (h1 : f.length = f0.length + pre.length) (h : SymIn run f0 pre f) : (f ++ [16 * run + n]).length = f0.length + (pre ++ [n]).length ∧ SymIn run f0 (pre ++ [n]) (f ++ [16 * run + n]) :=
  ⟨by simp; omega, ⟨by rw [h.out]; simp⟩⟩
theorem ks : rangeKs 1 ((11:Int) - 1).toNat = [1,2,3,4,5,6,7,8,9,10] := by decide
theorem sym_1 {k : Int} {f0 pre f : List Int} (h1 : f0.length ≤ 1 + 11 * pre.length) (h2 : Sym pre f0) (hk : k ≠ 15) (h : SymIn k f0 (rangeKs 1 ((11:Int) - 1).toNat) f) :
    f.length ≤ 1 + 11 * (pre ++ [k]).length ∧ Sym (pre ++ [k]) f := by
  have e := h.out
  rw [ks] at e
  constructor
  · rw [e]; simp; omega
  · refine ⟨?_⟩
    rw [e, h2.out]; simp [symRow, hk]
theorem sym_2 {k : Int} {f0 pre f : List Int} (h1 : f0.length ≤ 1 + 11 * pre.length) (h2 : Sym pre f0) (hk : k = 15) (h : SymIn k (f0 ++ [240]) (rangeKs 1 ((11:Int) - 1).toNat) f) :
    f.length ≤ 1 + 11 * (pre ++ [k]).length ∧ Sym (pre ++ [k]) f := by
  have e := h.out
  rw [ks] at e
  constructor
  · rw [e]; simp; omega
  · refine ⟨?_⟩
    rw [e, h2.out]; simp [symRow, hk]
theorem ints_push {vs : List Value} {ns : List Int} (h : IntsAre vs ns) (n : Int) (t : Tok) : IntsAre (vs ++ [.int n t]) (ns ++ [n]) := by
  induction h with
  | nil => exact .cons _ _ .nil
  | cons _ _ _ ih => exact .cons _ _ ih
theorem news_push {h₀ h : Heap} {L a : Addr} {vs : List Value} {ns : List Int} {n : Int} {t : Tok} {k : Nat} {r : List (Addr × Obj)} (N : News h₀ L h ((a, listOf (vs.toArray.push (.int n t)) k) :: r)) (I : IntsAre vs ns) :
    ∃ us, IntsAre us (ns ++ [n]) ∧ News h₀ L h ((a, listOf us.toArray k) :: r) :=
  ⟨vs ++ [.int n t], ints_push I n t, by simpa only [List.push_toArray] using N⟩
/-- the 162 numbers -/
def due : List Int := 0 :: (rangeKs 0 16).flatMap symRow
theorem due_of {f : List Int} (h : Sym (rangeKs 0 ((16:Int) - 0).toNat) f) : f = due := h.out
end Mine
end
section -- S2
set_option maxRecDepth 100000
open PySem PySem.W PySem.Spec PySem.Calls PyProof.Rows PyProof.Rows.LCg PyProof.Rows.LCt
namespace Mine
section
variable {prog : Program} {w : World} {A : Around} {E : Value → Shared → Prop} {s : Shared} {h₀ : Heap} {L : Addr} {m : Str → Option Value} {env : Env} {news : List (Addr × Obj)}

/-- behind a test: it said b, and what is named stands -/
def TestEnd (h₀ : Heap) (L : Addr) (m : Str → Option Value) (s : Shared) (all : List (Addr × Obj)) (b : Bool) (ok : Bool) (s' : Shared) : Prop :=
  ok = b ∧ ∃ h' tk, s' = { s with heap := h', toks := tk } ∧ Fr h₀ L h' m ∧ News h₀ L h' all
theorem TestEnd.intro {h' : Heap} {tk : Nat} {all big : List (Addr × Obj)} {b ok : Bool} (F : Fr h₀ L h' m) (N : News h₀ L h' big) (sub : ∀ p ∈ all, p ∈ big) (e : ok = b) :
    TestEnd h₀ L m s all b ok { s with heap := h', toks := tk } := ⟨e, h', tk, rfl, F, fun p hp => N p (sub p hp)⟩

theorem filt {ct : Expr} {x : Str} {px : Pos} {scope : Scope} {cl : List (Str × Addr)} {S : List (Addr × Obj) → Prop} {P : Nat → Value → Prop} {Fin : List Value → List (Addr × Obj) → Prop} {n : Nat} {ks : List Int} (p : Int → Bool)
    (hks : ks.length = n) (hP : ∀ i v, i < n → P i v → ∃ k t, ks[i]? = some k ∧ v = .int k t) (hS : S news)
    (hk : ∀ C, (compEnvC scope cl C env).scope.kind = .function) (hl : ∀ C, (compEnvC scope cl C env).kindOf x = some .local) (hd : (x == ("__debug__" : Str)) = false)
    (turn : ∀ k t I oI C oC D m₂ ys h tk (E' : Value → Shared → Prop), k ∈ ks → NsObj oC m₂ → m₂ x = some (.int k t) → Fr h₀ L h m → News h₀ L h ((I, oI) :: (C, oC) :: (D, lst ys) :: news) → Off3 I C D news → ((@Ne Nat I C) ∧ (@Ne Nat I D) ∧ (@Ne Nat C D)) →
      wpAny (model prog w) A (isTrue ct (compEnvC scope cl C env) (eval ct (compEnvC scope cl C env))) (TestEnd h₀ L m { s with heap := h, toks := tk } ((I, oI) :: (C, oC) :: (D, lst ys) :: news) (p k)) E' { s with heap := h, toks := tk })
    (fin : ∀ ys, IntsAre ys (ks.filter p) → Fin ys news) : CompRestT prog w A h₀ L m env ct (.Name x px) x scope cl s S P Fin n 0 [] news := by
  have key : ∀ (j i : Nat) (ys : List Value), i + j = n → IntsAre ys ((ks.take i).filter p) → CompRestT prog w A h₀ L m env ct (.Name x px) x scope cl s S P Fin j i ys news := by
    intro j
    induction j with
    | zero =>
      intro i ys hi hy
      have e : i = ks.length := by omega
      subst e
      rw [List.take_length] at hy
      exact CompRestT.zero (fin ys hy)
    | succ j ih =>
      intro i ys hi hy
      refine CompRestT.succ ?_
      intro v I oI C oC D m₂ h tk E' hv hC hx F N off ne
      obtain ⟨k, t, hk', hv'⟩ := hP i v (by omega) hv
      rw [hv'] at hx
      refine wpAny_mono (turn k t I oI C oC D m₂ ys h tk E' (List.mem_of_getElem? hk') hC hx F N off ne) (fun ok s₂ hq => ?_) fun _ _ e => e
      obtain ⟨hb, h', tk', e, F', N'⟩ := hq
      subst e
      have ht : ks.take (i + 1) = ks.take i ++ [k] := by rw [List.take_add_one, hk']; rfl
      by_cases hp : p k = true
      · rw [hb, hp, if_pos rfl]
        refine LCgL.ld_own N' (by simp) hC hx ?_ (hk C) (hl C) hd
        refine CompEnd.intro F' N' news (fun _ hp => hp) off hS (ih (i + 1) _ (by omega) ?_)
        rw [ht, List.filter_append, List.filter_cons_of_pos hp]
        exact ints_push hy k t
      · have hp' : p k = false := by simpa using hp
        rw [hb, hp', if_neg (by decide)]
        refine CompEnd.intro F' N' news (fun _ hp => hp) off hS (ih (i + 1) _ (by omega) ?_)
        rw [ht, List.filter_append, List.filter_cons_of_neg hp]
        simpa using hy
  exact key n 0 [] (by omega) (by simpa using IntsAre.nil)

theorem filt_range {ct : Expr} {x : Str} {px : Pos} {scope : Scope} {cl : List (Str × Addr)} {Fin : List Value → List (Addr × Obj) → Prop} {n : Nat} {a : Int} (p : Int → Bool)
    (hk : ∀ C, (compEnvC scope cl C env).scope.kind = .function) (hl : ∀ C, (compEnvC scope cl C env).kindOf x = some .local) (hd : (x == ("__debug__" : Str)) = false)
    (turn : ∀ k t I oI C oC D m₂ ys h tk (E' : Value → Shared → Prop), (a ≤ k ∧ k < a + (n : Int)) → NsObj oC m₂ → m₂ x = some (.int k t) → Fr h₀ L h m → News h₀ L h ((I, oI) :: (C, oC) :: (D, lst ys) :: news) → Off3 I C D news → ((@Ne Nat I C) ∧ (@Ne Nat I D) ∧ (@Ne Nat C D)) →
      wpAny (model prog w) A (isTrue ct (compEnvC scope cl C env) (eval ct (compEnvC scope cl C env))) (TestEnd h₀ L m { s with heap := h, toks := tk } ((I, oI) :: (C, oC) :: (D, lst ys) :: news) (p k)) E' { s with heap := h, toks := tk })
    (fin : ∀ ys, IntsAre ys ((rangeKs a n).filter p) → Fin ys news) : CompRestT prog w A h₀ L m env ct (.Name x px) x scope cl s (fun _ => True) (fun i v => ∃ t, v = .int (a + (i : Int)) t) Fin n 0 [] news :=
  filt (ks := rangeKs a n) p (rangeKs_length a n) (fun i v hi hv => by
    obtain ⟨t, e⟩ := hv
    exact ⟨a + (i : Int), t, by simp [rangeKs, hi], e⟩) trivial hk hl hd
    (fun k t I oI C oC D m₂ ys h tk E' hk => turn k t I oI C oC D m₂ ys h tk E' ⟨(mem_rangeKs hk).1, (mem_rangeKs hk).2⟩) fin

theorem filt_list {ct : Expr} {x : Str} {px : Pos} {scope : Scope} {cl : List (Str × Addr)} {Fin : List Value → List (Addr × Obj) → Prop} {ax : Addr} {vs : List Value} {ns : List Int} (p : Int → Bool) (hi : IntsAre vs ns) (hS : SrcAt h₀ ax vs.toArray news)
    (hk : ∀ C, (compEnvC scope cl C env).scope.kind = .function) (hl : ∀ C, (compEnvC scope cl C env).kindOf x = some .local) (hd : (x == ("__debug__" : Str)) = false)
    (turn : ∀ k t I oI C oC D m₂ ys h tk (E' : Value → Shared → Prop), k ∈ ns → NsObj oC m₂ → m₂ x = some (.int k t) → Fr h₀ L h m → News h₀ L h ((I, oI) :: (C, oC) :: (D, lst ys) :: news) → Off3 I C D news → ((@Ne Nat I C) ∧ (@Ne Nat I D) ∧ (@Ne Nat C D)) →
      wpAny (model prog w) A (isTrue ct (compEnvC scope cl C env) (eval ct (compEnvC scope cl C env))) (TestEnd h₀ L m { s with heap := h, toks := tk } ((I, oI) :: (C, oC) :: (D, lst ys) :: news) (p k)) E' { s with heap := h, toks := tk })
    (fin : ∀ ys, IntsAre ys (ns.filter p) → Fin ys news) : CompRestT prog w A h₀ L m env ct (.Name x px) x scope cl s (SrcAt h₀ ax vs.toArray) (fun i v => vs.toArray[i]? = some v) Fin vs.toArray.size 0 [] news :=
  filt (ks := ns) p (by rw [List.size_toArray]; exact hi.length.symm) (fun i v _ hv => by
    obtain ⟨k, t, e, hk⟩ := IntsAre.at hi i v (by simpa using hv)
    exact ⟨k, t, hk, e⟩) hS hk hl hd turn fin

end
end Mine
end
section -- S3
set_option maxRecDepth 100000
open PySem PySem.W PySem.Spec PySem.Calls PyProof.Rows PyProof.Rows.LCg PyProof.Rows.LCt
namespace Mine
def dueP (k : Int) : Bool := k == 0 || k == 240 || (decide (1 ≤ k % 16) && decide (k % 16 ≤ 10))
theorem due_is : (rangeKs 0 256).filter dueP = due := by decide +kernel
theorem due_len : due.length = 162 := by decide +kernel
theorem due_range : ∀ k ∈ due, 0 ≤ k ∧ k < 256 := by decide +kernel
theorem due_151 : due[151]? = some 240 := by decide +kernel
theorem ints_due {vs : List Value} {f : List Int} (I : IntsAre vs f) (S : Sym (rangeKs 0 ((16:Int) - 0).toNat) f) : IntsAre vs due := due_of S ▸ I
end Mine
end
section -- H1
set_option maxRecDepth 100000
open PySem PySem.Calls PySem.NumText PyProof.Rows PySem.W
namespace Mine
/-- one hexadecimal figure's number as a sign -/
def fig (up : Bool) (d : Nat) : Nat := if d < 10 then 48 + d else if up then 55 + d else 87 + d
def hexL (up : Bool) (k : Nat) : List Nat := [fig up (k / 16), fig up (k % 16)]
def hexS (up : Bool) (k : Nat) : PySem.Str := PySem.Str.mk (hexL up k).toArray
structure IsPair (x : PySem.Str) (n : Int) : Prop where
  ex : ∃ (up : Bool) (k : Nat), k < 256 ∧ n = (k : Int) ∧ x = hexS up k
def hexChk (up : Bool) (k : Nat) : Bool :=
  (sign ((hexL up k).dropWhile blank)).1 == false && (based 16 (sign ((hexL up k).dropWhile blank)).2).1 == 16 && (based 16 (sign ((hexL up k).dropWhile blank)).2).2.1 == false &&
  digits? 16 (((based 16 (sign ((hexL up k).dropWhile blank)).2).2.2.reverse.dropWhile blank).reverse) == some #[k / 16, k % 16] && (hexL up k).takeWhile (· != 0) == hexL up k && (hexL up k).all (· < 128)
theorem hexChk_all : ∀ up : Bool, ∀ k < 256, hexChk up k = true := by decide +kernel
theorem hex_reads (up : Bool) (k : Nat) (hk : k < 256) : (int_private% "readNumeral") 0 16 (hexL up k) = (int_private% "Numeral.value") (k : Int) := by
  have h := hexChk_all up k hk
  unfold hexChk at h
  simp only [Bool.and_eq_true, beq_iff_eq] at h
  obtain ⟨⟨⟨⟨⟨h1, h2⟩, h3⟩, h4⟩, h5⟩, h6⟩ := h
  rw [readNumeral_eq, h1, h2, h3, h4]
  have e : (#[k / 16, k % 16] : Array Nat).foldl (fun acc d => acc * 16 + d) 0 = k := by
    show (0 * 16 + k / 16) * 16 + k % 16 = k
    omega
  unfold judge
  simp only [e]
  rfl
theorem hex_seen (up : Bool) (k : Nat) (hk : k < 256) : numTextOf (hexS up k) = hexL up k ∧ numSeenOf (hexS up k) = hexL up k := by
  have h := hexChk_all up k hk
  unfold hexChk at h
  simp only [Bool.and_eq_true, beq_iff_eq] at h
  obtain ⟨⟨⟨⟨⟨h1, h2⟩, h3⟩, h4⟩, h5⟩, h6⟩ := h
  have e : numTextOf (hexS up k) = hexL up k := by
    unfold numTextOf
    have : (hexS up k).cps.all (fun x => decide (x < 128)) = true := by
      show ((hexL up k).toArray).all (fun x => decide (x < 128)) = true
      simpa using h6
    rw [if_pos this]
    rfl
  refine ⟨e, ?_⟩
  unfold numSeenOf
  rw [e, h5]
theorem wp_text16 {M : Model} {A : Around} {E : Value → Shared → Prop} {s : Shared} {Q : Value → Shared → Prop} {v : Value} {text : List Nat} {n : Int}
    (hs : (text.takeWhile (· != 0)).length ≤ 640) (hr : (int_private% "readNumeral") 0 16 (text.takeWhile (· != 0)) = (int_private% "Numeral.value") n)
    (ha : ((text.takeWhile (· != 0)).length == text.length) = true) (h : Q (.int n s.toks) { s with toks := s.toks + 1 }) :
    wpAny M A ((int_private% "intFromText") v text 16) Q E s := by
  obtain ⟨hp, g, d, tk, os⟩ := s
  repeat (any_goals (first
    | assumption
    | (with_reducible refine wpAny_ite_true (decide_eq_true hs) ?_)
    | (with_reducible refine wpAny_ite_true (decide_eq_true ha) ?_)
    | wp_step))
  all_goals (try rw [hr])
  all_goals (try dsimp only)
  repeat (any_goals (first
    | assumption
    | (with_reducible refine wpAny_ite_true (decide_eq_true hs) ?_)
    | (with_reducible refine wpAny_ite_true (decide_eq_true ha) ?_)
    | wp_step))
end Mine
end
section -- H2
set_option maxRecDepth 100000
open PySem PySem.Calls PySem.NumText PyProof.Rows PySem.W
namespace Mine
theorem typeCall_int_2 (a b : Value) : checkTypeCall "int" ⟨[a, b], []⟩ = pure () := by kernel_rfl
theorem newCall_int_2 (a b : Value) : checkBuiltinCall "int.__new__" ⟨[.type "int", a, b], []⟩ = pure () := by kernel_rfl
theorem args_init_3 (a b c : Value) : argsOk "object.__init__" ⟨[a, b, c], []⟩ := by
  unfold argsOk; rw [signature?_of (id := "object.__init__") (n := ['_', '_', 't', 'i', 'n', 'i', '_', '_']) (o := ['t', 'c', 'e', 'j', 'b', 'o']) (by kernel_rfl) PySem.F.owner_object]; kernel_rfl
set_option maxHeartbeats 4000000 in
theorem gives_hex {up : Bool} {k : Nat} {u v : Tok} (hk : k < 256) : Gives (Builtin.«int.__new__» ⟨[.type "int", .str (hexS up k) u, .int 16 v], []⟩) (.int (k : Int)) :=
  .of_wp fun M A E s Q h => by
    obtain ⟨hp, g, d, tk, os⟩ := s
    have f1 := F.conv_sub_int
    have f2 := F.madeHere_int
    have f6 : typeOf (.str (hexS up k) u) = pure (.type "str") := rfl
    have hs : (numSeenOf (hexS up k)).length ≤ 640 := by rw [(hex_seen up k hk).2]; exact Nat.le_of_ble_eq_true rfl
    have hr : (int_private% "readNumeral") 0 16 (numSeenOf (hexS up k)) = (int_private% "Numeral.value") (k : Int) := by rw [(hex_seen up k hk).2]; exact hex_reads up k hk
    have ha : ((numSeenOf (hexS up k)).length == (numTextOf (hexS up k)).length) = true := by rw [(hex_seen up k hk).2, (hex_seen up k hk).1]; exact beq_self_eq_true _
    have hkk := KIN.Hid.mk (And.intro hs (And.intro hr ha))
    clear hs hr ha hk
    generalize hexS up k = x at *
    generalize (k : Int) = n at *
    repeat (any_goals (first
      | assumption
      | ((with_reducible show wpAny _ _ ((int_private% "intFromText") _ _ _) _ _ _); refine wp_text16 hkk.out.1 hkk.out.2.1 hkk.out.2.2 ?_)
      | wp_step))
    all_goals first | exact ⟨_, rfl, h⟩ | skip
section
variable {prog : Program} {w : World} {A : Around} {E : Value → Shared → Prop} {s : Shared} {Q : Value → Shared → Prop} {x : PySem.Str} {t u : Tok} {n : Int}
theorem call_hex (hx : IsPair x n) (h : Q (.int n s.toks) { s with toks := s.toks + 1 }) : wpAny (model prog w) A (call (.type "int") [.str x t, .int 16 u]) Q E s := by
  obtain ⟨up, k, hk, rfl, rfl⟩ := hx.ex
  exact callType_new F.called_int F.newNe_int (typeCall_int_2 _ _) (newCall_int_2 _ _) (fun obj => args_init_3 obj _ _) F.entry_int_new (gives_hex hk).meets (show (Made.int (k : Int)).post _ s from ⟨rfl, h⟩)
end
end Mine
end
section -- S5
set_option maxRecDepth 100000
open PySem PySem.W PySem.Spec PySem.Calls PyProof.Rows PyProof.Rows.LCg PyProof.Rows.LCt
namespace Mine
inductive Pairs : List PySem.Str → List Int → Prop where
  | nil : Pairs [] []
  | cons {x : PySem.Str} {k : Int} {xs : List PySem.Str} {ks : List Int} : IsPair x k → Pairs xs ks → Pairs (x :: xs) (k :: ks)
theorem Pairs.length {xs ks} (h : Pairs xs ks) : xs.length = ks.length := by
  induction h with
  | nil => rfl
  | cons _ _ ih => simp [ih]
theorem Pairs.at {xs ks} (h : Pairs xs ks) : ∀ {i : Nat} {x : PySem.Str}, xs[i]? = some x → ∃ k, ks[i]? = some k ∧ IsPair x k := by
  induction h with
  | nil => intro i x e; simp at e
  | cons hp _ ih =>
    intro i x e
    cases i with
    | zero => simp at e; subst e; exact ⟨_, rfl, hp⟩
    | succ i => simp at e; obtain ⟨k, h1, h2⟩ := ih e; exact ⟨k, by simpa using h1, h2⟩
theorem Pairs.snoc {xs ks x k} (h : Pairs xs ks) (hp : IsPair x k) : Pairs (xs ++ [x]) (ks ++ [k]) := by
  induction h with
  | nil => exact .cons hp .nil
  | cons h1 _ ih => exact .cons h1 ih
theorem Pairs.of_mem {xs ks} (h : Pairs xs ks) : ∀ x ∈ xs, ∃ k, IsPair x k := by
  induction h with
  | nil => intro x hx; cases hx
  | cons hp _ ih =>
    intro x hx
    rcases List.mem_cons.mp hx with rfl | hx
    · exact ⟨_, hp⟩
    · exact ih x hx
section
variable {prog : Program} {w : World} {A : Around} {E : Value → Shared → Prop} {s : Shared} {h₀ : Heap} {L : Addr} {m : Str → Option Value} {env : Env} {news : List (Addr × Obj)}
/-- behind an element: an int, and what is named stands -/
def EltEnd (h₀ : Heap) (L : Addr) (m : Str → Option Value) (s : Shared) (all : List (Addr × Obj)) (k : Int) (v : Value) (s' : Shared) : Prop :=
  (∃ t, v = .int k t) ∧ ∃ h' tk, s' = { s with heap := h', toks := tk } ∧ Fr h₀ L h' m ∧ News h₀ L h' all
theorem EltEnd.intro {h' : Heap} {tk : Nat} {all big : List (Addr × Obj)} {k : Int} {t : Tok} (F : Fr h₀ L h' m) (N : News h₀ L h' big) (sub : ∀ p ∈ all, p ∈ big) :
    EltEnd h₀ L m s all k (.int k t) { s with heap := h', toks := tk } := ⟨⟨t, rfl⟩, h', tk, rfl, F, fun p hp => N p (sub p hp)⟩
theorem mapT {elt : Expr} {x : Str} {scope : Scope} {cl : List (Str × Addr)} {S : List (Addr × Obj) → Prop} {P : Nat → Value → Prop} {Fin : List Value → List (Addr × Obj) → Prop} {n : Nat} {xs : List PySem.Str} {ks : List Int}
    (hr : Pairs xs ks) (hn : xs.length = n) (hP : ∀ i v, i < n → P i v → ∃ y t, xs[i]? = some y ∧ v = .str y t) (hS : S news)
    (turn : ∀ y k t I oI C oC D m₂ ys h tk (E' : Value → Shared → Prop), IsPair y k → NsObj oC m₂ → m₂ x = some (.str y t) → Fr h₀ L h m → News h₀ L h ((I, oI) :: (C, oC) :: (D, lst ys) :: news) → Off3 I C D news → ((@Ne Nat I C) ∧ (@Ne Nat I D) ∧ (@Ne Nat C D)) →
      wpAny (model prog w) A (eval elt (compEnvC scope cl C env)) (EltEnd h₀ L m { s with heap := h, toks := tk } ((I, oI) :: (C, oC) :: (D, lst ys) :: news) k) E' { s with heap := h, toks := tk })
    (fin : ∀ ys, IntsAre ys ks → Fin ys news) : CompRest prog w A h₀ L m env elt x scope cl s S P Fin n 0 [] news := by
  have key : ∀ (j i : Nat) (ys : List Value), i + j = n → IntsAre ys (ks.take i) → CompRest prog w A h₀ L m env elt x scope cl s S P Fin j i ys news := by
    intro j
    induction j with
    | zero =>
      intro i ys hi hy
      have e : i = ks.length := by rw [← hr.length, hn]; omega
      subst e
      rw [List.take_length] at hy
      exact CompRest.zero (fin ys hy)
    | succ j ih =>
      intro i ys hi hy
      refine CompRest.succ ?_
      intro v I oI C oC D m₂ h tk E' hv hC hx F N off ne
      obtain ⟨y, t, hy', hv'⟩ := hP i v (by omega) hv
      rw [hv'] at hx
      obtain ⟨k, hk, hp⟩ := hr.at hy'
      refine wpAny_mono (turn y k t I oI C oC D m₂ ys h tk E' hp hC hx F N off ne) (fun r s₂ hq => ?_) fun _ _ e => e
      obtain ⟨⟨t', e'⟩, h', tk', e, F', N'⟩ := hq
      subst e e'
      have ht : ks.take (i + 1) = ks.take i ++ [k] := by rw [List.take_add_one, hk]; rfl
      refine CompEnd.intro F' N' news (fun _ hp => hp) off hS (ih (i + 1) _ (by omega) ?_)
      rw [ht]
      exact ints_push hy k t'
  exact key n 0 [] (by omega) (by simpa using IntsAre.nil)
theorem mapT_list {elt : Expr} {x : Str} {scope : Scope} {cl : List (Str × Addr)} {Fin : List Value → List (Addr × Obj) → Prop} {ax : Addr} {l : List (Str × Tok)} {ks : List Int}
    (hr : Pairs (l.map (·.1)) ks) (hS : SrcAt h₀ ax (strValues l).toArray news)
    (turn : ∀ y k t I oI C oC D m₂ ys h tk (E' : Value → Shared → Prop), IsPair y k → NsObj oC m₂ → m₂ x = some (.str y t) → Fr h₀ L h m → News h₀ L h ((I, oI) :: (C, oC) :: (D, lst ys) :: news) → Off3 I C D news → ((@Ne Nat I C) ∧ (@Ne Nat I D) ∧ (@Ne Nat C D)) →
      wpAny (model prog w) A (eval elt (compEnvC scope cl C env)) (EltEnd h₀ L m { s with heap := h, toks := tk } ((I, oI) :: (C, oC) :: (D, lst ys) :: news) k) E' { s with heap := h, toks := tk })
    (fin : ∀ ys, IntsAre ys ks → Fin ys news) : CompRest prog w A h₀ L m env elt x scope cl s (SrcAt h₀ ax (strValues l).toArray) (fun i v => (strValues l).toArray[i]? = some v) Fin (strValues l).toArray.size 0 [] news :=
  mapT hr (by simp [strValues]) (fun i v _ hv => by
    simp only [strValues, List.getElem?_toArray, List.getElem?_map, Option.map_eq_some_iff] at hv
    obtain ⟨p, h1, h2⟩ := hv
    exact ⟨p.1, p.2, by simp [h1], h2.symm⟩) hS turn fin
end
end Mine
end
section -- S6
set_option maxRecDepth 100000
open PySem PySem.W PySem.Calls PyProof.Rows
namespace Mine
def glue : List (List Nat) → List Nat
  | [] => []
  | [a] => a
  | a :: b :: r => a ++ 32 :: glue (b :: r)
theorem cut_eq : ∀ (a b x y : List Nat), 32 ∉ a → 32 ∉ b → a ++ 32 :: x = b ++ 32 :: y → a = b ∧ x = y
  | [], [], x, y, _, _, h => ⟨rfl, (List.cons.inj h).2⟩
  | [], d :: b, x, y, _, hb, h => absurd (List.mem_cons.mpr (.inl (List.cons.inj h).1)) hb
  | c :: a, [], x, y, ha, _, h => absurd (List.mem_cons.mpr (.inl (List.cons.inj h).1.symm)) ha
  | c :: a, d :: b, x, y, ha, hb, h => by
    have h1 := (List.cons.inj h).1
    obtain ⟨e1, e2⟩ := cut_eq a b x y (fun m => ha (List.mem_cons_of_mem _ m)) (fun m => hb (List.mem_cons_of_mem _ m)) (List.cons.inj h).2
    exact ⟨by rw [h1, e1], e2⟩
theorem cut_ne {a b y : List Nat} (ha : 32 ∉ a) (h : a = b ++ 32 :: y) : False := ha (by rw [h]; simp)
theorem glue_inj : ∀ (l₁ l₂ : List (List Nat)), l₁ ≠ [] → l₂ ≠ [] → (∀ a ∈ l₁, 32 ∉ a) → (∀ a ∈ l₂, 32 ∉ a) → glue l₁ = glue l₂ → l₁ = l₂
  | [], _, h, _, _, _, _ => absurd rfl h
  | _, [], _, h, _, _, _ => absurd rfl h
  | [a], [b], _, _, _, _, h => by rw [show a = b from h]
  | [a], b :: c :: r, _, _, h1, _, h => (cut_ne (h1 a (.head _)) (show a = b ++ 32 :: glue (c :: r) from h)).elim
  | a :: c :: r, [b], _, _, _, h2, h => (cut_ne (h2 b (.head _)) (show b = a ++ 32 :: glue (c :: r) from h.symm)).elim
  | a :: c :: r, b :: d :: t, _, _, h1, h2, h => by
    obtain ⟨e1, e2⟩ := cut_eq a b _ _ (h1 a (.head _)) (h2 b (.head _)) (show a ++ 32 :: glue (c :: r) = b ++ 32 :: glue (d :: t) from h)
    rw [e1, glue_inj (c :: r) (d :: t) (by simp) (by simp) (fun x hx => h1 x (.tail _ hx)) (fun x hx => h2 x (.tail _ hx)) e2]
theorem join_glue : ∀ ps : List PySem.Str, (PySem.Str.join ⟨#[32]⟩ ps).cps.toList = glue (ps.map (·.cps.toList))
  | [] => rfl
  | [x] => rfl
  | x :: y :: r => by
    show (x ++ (⟨#[32]⟩ : PySem.Str) ++ PySem.Str.join ⟨#[32]⟩ (y :: r)).cps.toList = x.cps.toList ++ 32 :: glue ((y :: r).map (·.cps.toList))
    rw [← join_glue (y :: r), PySem.Str.cps_append, PySem.Str.cps_append]
    simp
theorem sp_is : PySem.Str.ofString " " = (⟨#[32]⟩ : PySem.Str) := by decide +kernel
theorem split_join {ps : List PySem.Str} (hne : ps ≠ []) (hf : ∀ p ∈ ps, 32 ∉ p.cps.toList) (hl : ∀ p ∈ ps, p.cps.toList ≠ []) :
    Txt.split (Txt.join (PySem.Str.ofString " ") ps) (PySem.Str.ofString " ") = ps := by
  have ej : Txt.join (PySem.Str.ofString " ") ps = PySem.Str.join ⟨#[32]⟩ ps := by
    rw [sp_is]; exact StrLaws.glued_eq_join _ _
  rw [ej, sp_is]
  generalize hx : PySem.Str.join ⟨#[32]⟩ ps = x
  have h1 := StrLaws.join_split x ⟨#[32]⟩
  have h2 := StrLaws.split_free x 32
  generalize Txt.split x ⟨#[32]⟩ = qs at h1 h2
  have h3 : glue (qs.map (·.cps.toList)) = glue (ps.map (·.cps.toList)) := by
    rw [← join_glue, ← join_glue, h1, hx]
  have hp : ps.map (·.cps.toList) ≠ [] := by simpa using hne
  have hq : qs.map (·.cps.toList) ≠ [] := by
    intro e
    rw [e] at h3
    cases ps with
    | nil => exact hne rfl
    | cons p r =>
      cases r with
      | nil => exact hl p (.head _) h3.symm
      | cons q r => have : p.cps.toList ++ 32 :: glue ((q :: r).map (·.cps.toList)) = [] := h3.symm; simp at this
  have h4 := glue_inj _ _ hq hp (by intro a ha; obtain ⟨q, hq, rfl⟩ := List.mem_map.mp ha; exact h2 q hq) (by intro a ha; obtain ⟨q, hq, rfl⟩ := List.mem_map.mp ha; exact hf q hq) h3
  have h5 : ∀ (l₁ l₂ : List PySem.Str), l₁.map (·.cps.toList) = l₂.map (·.cps.toList) → l₁ = l₂ := by
    intro l₁
    induction l₁ with
    | nil => intro l₂ e; cases l₂ with
      | nil => rfl
      | cons _ _ => cases e
    | cons a r ih => intro l₂ e; cases l₂ with
      | nil => cases e
      | cons b t =>
        have e1 := (List.cons.inj e).1
        have e2 := (List.cons.inj e).2
        have : a = b := PySem.Str.ext' (by simpa using e1)
        rw [this, ih t e2]
  exact h5 _ _ h4
theorem hex_free : ∀ up : Bool, ∀ k < 256, 32 ∉ hexL up k := by decide +kernel
theorem IsPair.free {x : PySem.Str} {n : Int} (h : IsPair x n) : 32 ∉ x.cps.toList ∧ x.length = 2 := by
  obtain ⟨up, k, hk, _, rfl⟩ := h.ex
  exact ⟨by simpa [hexS] using hex_free up k hk, rfl⟩
theorem Pairs.split {xs : List PySem.Str} {ks : List Int} (h : Pairs xs ks) (hne : ks ≠ []) : Txt.split (Txt.join (PySem.Str.ofString " ") xs) (PySem.Str.ofString " ") = xs := by
  refine split_join ?_ (fun p hp => ?_) fun p hp => ?_
  · intro e; apply hne; have := h.length; rw [e] at this; exact List.eq_nil_of_length_eq_zero this.symm
  · obtain ⟨k, hk⟩ := h.of_mem p hp; exact hk.free.1
  · obtain ⟨k, hk⟩ := h.of_mem p hp
    have h2 := hk.free.2
    intro e
    have : p.cps.size = 2 := h2
    rw [← Array.length_toList, e] at this
    cases this
theorem Pairs.sum {xs : List PySem.Str} {ks : List Int} (h : Pairs xs ks) : (xs.map (·.length)).sum = 2 * xs.length := by
  induction h with
  | nil => rfl
  | cons hp _ ih => simp only [List.map_cons, List.sum_cons, List.length_cons, hp.free.2, ih]; omega
theorem Pairs.fits {xs : List PySem.Str} {ks : List Int} (h : Pairs xs ks) (hl : ks.length ≤ 1000) : (xs.map (·.length)).sum + xs.length * 64 ≤ 16777216 := by
  rw [h.sum, h.length]; omega
theorem Pairs.joined {xs : List PySem.Str} {ks : List Int} (h : Pairs xs ks) (hl : ks.length ≤ 1000) : (Txt.join (PySem.Str.ofString " ") xs).length + 2 ≤ sizeLine := by
  have e : Txt.join (PySem.Str.ofString " ") xs = PySem.Str.join ⟨#[32]⟩ xs := by
    rw [sp_is]; exact StrLaws.glued_eq_join _ _
  have h1 := StrLaws.join_length_le ⟨#[32]⟩ xs
  rw [e, sizeLine_eq]
  rw [h.sum, h.length] at h1
  have : (⟨#[32]⟩ : PySem.Str).length = 1 := rfl
  rw [this] at h1
  omega
def figS (up : Bool) : PySem.Str := if up then PySem.Str.ofString "0123456789ABCDEF" else PySem.Str.ofString "0123456789abcdef"
theorem fig_item : ∀ up : Bool, ∀ i < 16, Txt.item (figS up) ((i : Nat) : Int) = (⟨#[fig up i]⟩ : PySem.Str) := by decide +kernel
theorem figS_len : ∀ up : Bool, (figS up).length = 16 := by decide +kernel
theorem pair_ok (up : Bool) {n : Int} (h0 : 0 ≤ n) (h1 : n < 256) : IsPair (Txt.item (figS up) (n.fdiv 16) ++ Txt.item (figS up) (n.fmod 16)) n := by
  obtain ⟨k, rfl⟩ := Int.eq_ofNat_of_zero_le h0
  have hk : k < 256 := by omega
  have e1 : ((k : Int)).fdiv 16 = ((k / 16 : Nat) : Int) := by
    rw [Int.fdiv_eq_ediv_of_nonneg _ (by decide)]; rfl
  have e2 : ((k : Int)).fmod 16 = ((k % 16 : Nat) : Int) := by
    rw [Int.fmod_eq_emod_of_nonneg _ (by decide)]; rfl
  refine ⟨up, k, hk, rfl, ?_⟩
  rw [e1, e2, fig_item up _ (by omega), fig_item up _ (by omega)]
  rfl
end Mine
end
section -- HD
open PySem PySem.W PyProof.Rows
set_option maxRecDepth 100000
set_option maxHeartbeats 8000000
namespace Mine
open_top hd for PySem.Challenge.rw_xm0791_01

end Mine
end
section -- C1
open PySem PySem.W PySem.Calls PyProof.Rows
set_option maxRecDepth 100000
set_option maxHeartbeats 0
namespace Mine
def AllTells : Prop := ∀ (w : World) (loose : List Str) (mean : ExcName → Option Value) (mg mb : Str → Option Value) (dp un : Nat) (gd : Option (List Code)) (cn : Str) (cs : Scope) (a : Addr) (ccd : Value) (cl : List (Str × Addr)) (outer : List Env) (A₀ : Around) (base h₀ : Heap) (L : Addr) (m : Str → Option Value) (news : List (Addr × Obj)) (s : Shared) (Q E : Value → Shared → Prop),
    (hd.heap_39 w.params).In h₀ → Top hd.view_39 loose mean mg mb h₀ → Below A₀ base outer h₀ → Fr h₀ L s.heap m → News h₀ L s.heap news → cs.kind = .function → dp + 1 < recursionLimit →
    (∀ D vs c h' tk, IntsAre vs due → Fr h₀ L h' m → News h₀ L h' ((D, W.listOf vs.toArray c) :: news) → (∀ p ∈ news, p.1 < D) → Q (.ref D) { s with heap := h', toks := tk }) →
    wpAny (model PySem.Challenge.rw_xm0791_01.row.prog w) (ktrTop dp un gd cn cs L a ccd cl outer) (call (.ref 26) []) Q E s
theorem all_tells : AllTells := by
  (k_with "state" => exact Mine.sym_2 (by assumption) (by assumption) (by assumption) (by assumption))
  (k_with "state" => exact Mine.sym_1 (by assumption) (by assumption) (by assumption) (by assumption))
  (k_with "state" => exact Mine.symIn_1 (by assumption) (by assumption))
  (k_with "state" => exact Mine.symIn_0 _ _)
  (k_with "state" => exact Mine.sym_0)
  (k_with "pyIter ref" => k_of "run" => k_state (fun pre found => found.length ≤ 1 + 11 * pre.length ∧ Mine.Sym pre found) "found")
  (k_with "pyIter ref" => k_of "size" => (try ((rename News _ _ _ _ => lN9); (with_reducible obtain ⟨_, iE2, nE2⟩ := Mine.news_push lN9 (by assumption)))); k_state_given ["run", "found!"] (fun run f0 pre found => found.length = f0.length + pre.length ∧ Mine.SymIn run f0 pre found) "found")
  unfold AllTells
  w_top off
  k_fill
  intro w loose mean mg mb dp un gd cn cs a ccd cl outer A₀ base h₀ L m news s Q E X T B F N hk hd hret
  refine wpAny_call ?_
  k_dflt cell_enter
  clear hd hk
  have hI0 : IntsAre [] [] := IntsAre.nil
  k_steps
  all_goals (refine hret _ _ _ _ _ (Mine.ints_due (by assumption) (by assumption)) (by k_asm) (by k_asm) (by assumption))
end Mine
end
section -- C2
open PySem PySem.W PySem.Calls PyProof.Rows
set_option maxRecDepth 100000
set_option maxHeartbeats 0
namespace Mine
structure SrcOk (ns : List Int) : Prop where
  ex : ∃ a b, ns = [a, b] ∧ 0 ≤ a ∧ 0 ≤ b ∧ b < 2147483647
theorem updF_open {S : Addr} {o : Obj} {news : List (Addr × Obj)} {g : Obj → List (Addr × Obj)} (u : UpdF S o news g) :
    ∃ rest : List (Addr × Obj), (∀ h₀ L h, News h₀ L h news → News h₀ L h ((S, o) :: rest)) ∧ OwnOff rest [S] ∧ ∀ h₀ L h o', News h₀ L h ((S, o') :: rest) → News h₀ L h (g o') := by
  obtain ⟨pre, post, e1, e2, h1, h2⟩ := u.split
  refine ⟨pre ++ post, fun h₀ L h N p hp => N p ?_, ?_, fun h₀ L h o' N p hp => N p ?_⟩
  · rw [e1]
    simp only [List.mem_cons, List.mem_append] at hp ⊢
    rcases hp with hp | hp | hp
    · exact .inr (.inl hp)
    · exact .inl hp
    · exact .inr (.inr hp)
  · intro p hp a ha
    rw [List.mem_singleton.mp ha]
    rcases List.mem_append.mp hp with hp | hp
    · exact h1 p hp
    · exact h2 p hp
  · rw [e2] at hp
    simp only [List.mem_cons, List.mem_append] at hp ⊢
    rcases hp with hp | hp | hp
    · exact .inr (.inl hp)
    · exact .inl hp
    · exact .inr (.inr hp)
def TakeTells : Prop := ∀ (w : World) (loose : List Str) (mean : ExcName → Option Value) (mg mb : Str → Option Value) (dp un : Nat) (gd : Option (List Code)) (cn : Str) (cs : Scope) (a : Addr) (ccd : Value) (cl : List (Str × Addr)) (outer : List Env) (A₀ : Around) (base h₀ : Heap) (L : Addr) (m : Str → Option Value) (news : List (Addr × Obj)) (s : Shared) (Q E : Value → Shared → Prop)
    (S : Addr) (x y : Int) (t u : Tok) (c : Nat) (top : Int) (tt : Tok),
    (hd.heap_39 w.params).In h₀ → Top hd.view_39 loose mean mg mb h₀ → Below A₀ base outer h₀ → Fr h₀ L s.heap m → News h₀ L s.heap ((S, W.listOf [Value.int x t, Value.int y u].toArray c) :: news) → OwnOff news [S] → cs.kind = .function → dp + 1 < recursionLimit →
    0 ≤ x → 0 ≤ y → y < 2147483647 → 0 < top → top < 1000000 →
    (∀ f tf x' y' t' u' c' h' tk, 0 ≤ f → f < top → 0 ≤ x' → 0 ≤ y' → y' < 2147483647 → Fr h₀ L h' m → News h₀ L h' ((S, W.listOf [Value.int x' t', Value.int y' u'].toArray c') :: news) → Q (.int f tf) { s with heap := h', toks := tk }) →
    wpAny (model PySem.Challenge.rw_xm0791_01.row.prog w) (ktrTop dp un gd cn cs L a ccd cl outer) (call (.ref 45) [.ref S, .int top tt]) Q E s
theorem item0 (x y : Int) : [x, y].getD (Int.toNat 0) 0 = x := rfl
theorem item1 (x y : Int) : [x, y].getD (Int.toNat 1) 0 = y := rfl
theorem fm_pos (a : Int) {b : Int} (h : 0 < b) : a.fmod b = a % b := Int.fmod_eq_emod_of_nonneg a (Int.le_of_lt h)
theorem fm_nonneg (a : Int) {b : Int} (h : 0 < b) : 0 ≤ a.fmod b := by rw [fm_pos a h]; exact Int.emod_nonneg a (Int.ne_of_gt h)
theorem fm_lt (a : Int) {b : Int} (h : 0 < b) : a.fmod b < b := by rw [fm_pos a h]; exact Int.emod_lt_of_pos a h
theorem fd_nonneg {a b : Int} (ha : 0 ≤ a) (h : 0 < b) : 0 ≤ a.fdiv b := Int.fdiv_nonneg ha (Int.le_of_lt h)
theorem sq_ok {a : Int} : PySem.IntMulOk (a.fmod 2147483647) (a.fmod 2147483647) := by
  have h1 := fm_nonneg a (b := 2147483647) (by decide)
  have h2 := fm_lt a (b := 2147483647) (by decide)
  exact PySem.IntMulOk.of_left (PySem.intBits_le_64 (by omega) (by omega))
end Mine
local macro_rules | `(tactic| walk_at "binaryOp Mult int int") => `(tactic| (refine mul_int ?_ (by (simp only [Mine.item1]; exact Mine.sq_ok))))
namespace Mine
theorem take_tells : TakeTells := by
  unfold TakeTells
  k_with_none
  w_top off
  k_fill
  intro w loose mean mg mb dp un gd cn cs a ccd cl outer A₀ base h₀ L m news s Q E S x y t u c top tt X T B F N hoff hk hd hx hy hy2 ht ht2 hret
  refine wpAny_call ?_
  k_dflt cell_enter
  clear hd hk
  have hI0 : IntsAre [] [] := IntsAre.nil
  have kM : KstMark := kstMark
  k_steps
  all_goals (refine hret _ _ _ _ _ _ _ _ _ ?_ ?_ ?_ ?_ ?_ (by k_asm) (by k_asm))
  all_goals (try simp only [item0, item1])
  all_goals first | assumption | exact fm_nonneg _ (by first | assumption | decide) | exact fm_lt _ (by first | assumption | decide) | exact fd_nonneg (by assumption) (by assumption)
end Mine
end
section -- C3
open PySem PySem.W PySem.Calls PyProof.Rows
set_option maxRecDepth 100000
set_option maxHeartbeats 0
namespace Mine
def PoolTells : Prop := ∀ (w : World) (loose : List Str) (mean : ExcName → Option Value) (mg mb : Str → Option Value) (dp un : Nat) (gd : Option (List Code)) (cn : Str) (cs : Scope) (a : Addr) (ccd : Value) (cl : List (Str × Addr)) (outer : List Env) (A₀ : Around) (base h₀ : Heap) (L : Addr) (m : Str → Option Value) (news : List (Addr × Obj)) (s : Shared) (Q E : Value → Shared → Prop)
    (l : Addr) (vs : List Value) (ns : List Int),
    (hd.heap_39 w.params).In h₀ → Top hd.view_39 loose mean mg mb h₀ → Below A₀ base outer h₀ → Fr h₀ L s.heap m → News h₀ L s.heap news → cs.kind = .function → dp + 1 < recursionLimit →
    base.IsList l vs.toArray → IntsAre vs ns → ns.length < 2 ^ 62 →
    (∀ D x y t u c h' tk, 0 ≤ x → 0 ≤ y → y < 2147483647 → Fr h₀ L h' m → News h₀ L h' ((D, W.listOf [Value.int x t, Value.int y u].toArray c) :: news) → (∀ p ∈ news, p.1 < D) → Q (.ref D) { s with heap := h', toks := tk }) →
    wpAny (model PySem.Challenge.rw_xm0791_01.row.prog w) (ktrTop dp un gd cn cs L a ccd cl outer) (call (.ref 38) [.ref l]) Q E s
theorem great_ok (c : Int) (b : Bool) : 0 ≤ (if -1 - c > c then -1 - c else c) * (if b = true then 1 else 0) := by
  cases b
  · simp
  · simp only [if_true, Int.mul_one]
    split <;> omega
theorem pool_tells : PoolTells := by
  unfold PoolTells
  k_with_none
  w_top off
  k_fill
  intro w loose mean mg mb dp un gd cn cs a ccd cl outer A₀ base h₀ L m news s Q E l vs ns X T B F N hk hd hl hI hfit hret
  refine wpAny_call ?_
  k_dflt cell_enter
  clear hd hk
  k_steps
  all_goals (refine hret _ _ _ _ _ _ _ _ ?_ ?_ ?_ (by k_asm) (by k_asm) (by assumption))
  all_goals first | assumption | exact great_ok _ _ | exact fm_nonneg _ (by first | assumption | decide) | exact fm_lt _ (by first | assumption | decide)
end Mine
end
section -- C4
open PySem PySem.W PySem.Calls PyProof.Rows
set_option maxRecDepth 100000
set_option maxHeartbeats 0
namespace Mine
section
variable {prog : Program} {w : World} {A : Around} {E : Value → Shared → Prop} {s : Shared} {h₀ : Heap} {L l : Addr} {news : List (Addr × Obj)} {us : List Value} {c : Nat}
theorem item_any {value slice : PySem.Expr} {k : Int} {u : Tok} {Q : Value → Shared → Prop} (N : News h₀ L s.heap news) (hm : (l, W.listOf us.toArray c) ∈ news) (h0 : 0 ≤ k) (h1 : k < us.length) (hfit : us.length < 1000000)
    (h : ∀ v ∈ us, Q v s) (hs : subscripted slice false (.ref l) (.int k u) = operate [.ref l, .int k u] (getItem (.ref l) (.int k u))) :
    wpAny (model prog w) A (subscriptTail value slice (.ref l) (.int k u)) Q E s := by
  have hl : s.heap.IsList l us.toArray := ⟨_, (N _ hm).1, rfl, c, rfl⟩
  have hk : k.toNat < us.length := by omega
  exact tail_any hl.typeIs slot_list_getitem.lookup (wpAny_getItem_list hl h0 (by omega) (x := us[k.toNat]) (by simp [hk]) (h _ (List.getElem_mem hk))) hs
end
def OneTells : Prop := ∀ (w : World) (loose : List Str) (mean : ExcName → Option Value) (mg mb : Str → Option Value) (dp un : Nat) (gd : Option (List Code)) (cn : Str) (cs : Scope) (a : Addr) (ccd : Value) (cl : List (Str × Addr)) (outer : List Env) (A₀ : Around) (base h₀ : Heap) (L : Addr) (m : Str → Option Value) (news : List (Addr × Obj)) (s : Shared) (Q E : Value → Shared → Prop)
    (S : Addr) (x y : Int) (t u : Tok) (c : Nat) (D : Addr) (us : List Value) (d : Nat),
    (hd.heap_39 w.params).In h₀ → Top hd.view_39 loose mean mg mb h₀ → Below A₀ base outer h₀ → Fr h₀ L s.heap m → News h₀ L s.heap ((S, W.listOf [Value.int x t, Value.int y u].toArray c) :: (D, W.listOf us.toArray d) :: news) → OwnOff ((D, W.listOf us.toArray d) :: news) [S] → cs.kind = .function → dp + 3 < recursionLimit →
    0 ≤ x → 0 ≤ y → y < 2147483647 → 0 < us.length → us.length < 1000000 →
    (∀ v x' y' t' u' c' h' tk, v ∈ us → 0 ≤ x' → 0 ≤ y' → y' < 2147483647 → Fr h₀ L h' m → News h₀ L h' ((S, W.listOf [Value.int x' t', Value.int y' u'].toArray c') :: (D, W.listOf us.toArray d) :: news) → Q v { s with heap := h', toks := tk }) →
    wpAny (model PySem.Challenge.rw_xm0791_01.row.prog w) (ktrTop dp un gd cn cs L a ccd cl outer) (call (.ref 52) [.ref S, .ref D]) Q E s
end Mine
local macro_rules | `(tactic| walk_at "subscriptTail Name Call ref int") => `(tactic| (k_here; (refine' Mine.item_any ?k1 ?k2 ?k3 ?k4 ?k5 ?_ ?k6; (case k1 => k_asm); (case k2 => k_mem); (case k3 => assumption); (case k4 => assumption); (case k5 => assumption); (case k6 => with_unfolding_all rfl); k_whole); intro v' hv'))
local macro_rules | `(tactic| walk_at "call builtin:len") => `(tactic| (k_here; k_dflt (refine' kst_len ?k1 ?k2 (by exact rfl) ?k4 ?_; (case k1 => k_asm); (case k2 => k_mem); (case k4 => omega); k_whole)))
local macro_rules | `(tactic| walk_at "call ref") => `(tactic| (k_here; (with_reducible show wpAny _ _ (call (Value.ref 45) _) _ _ _); k_dflt (refine' Mine.take_tells _ _ _ _ _ _ _ _ _ _ _ _ _ _ _ _ _ _ _ _ _ _ _ _ _ _ _ _ _ _ _ ?k1 ?k2 ?k3 ?k4 ?k5 ?k6 ?k7 ?k8 ?k9 ?k10 ?k11 ?k12 ?k13 ?_; (case k1 => k_asm); (case k2 => k_asm); (case k3 => k_asm); (case k4 => k_asm); (case k5 => k_asm); (case k6 => assumption); (case k7 => exact rfl); (case k8 => ktr_room); (case k9 => assumption); (case k10 => assumption); (case k11 => assumption); (case k12 => omega); (case k13 => omega)); intro f' tf' x' y' t' u' c' h' tk' hf' hf2' hx' hy' hz' F' N'; (try dsimp only); (try k_fold)))
namespace Mine
theorem one_tells : OneTells := by
  unfold OneTells
  k_with_none
  w_top off
  k_fill
  intro w loose mean mg mb dp un gd cn cs a ccd cl outer A₀ base h₀ L m news s Q E S x y t u c D us d X T B F N hoff hk hd hx hy hy2 hu hu2 hret
  have kM : KstMark := kstMark
  refine wpAny_call ?_
  k_dflt cell_enter
  k_steps
  all_goals (refine hret _ _ _ _ _ _ _ _ ?_ ?_ ?_ ?_ (by k_asm) (by k_asm))
  all_goals first | assumption
end Mine
end
section -- C5
open PySem PySem.W PySem.Calls PyProof.Rows
set_option maxRecDepth 100000
set_option maxHeartbeats 0
namespace Mine
theorem news_drop {h₀ h : Heap} {L : Addr} {a b : Addr × Obj} {r : List (Addr × Obj)} (N : News h₀ L h (a :: b :: r)) : News h₀ L h (a :: r) := fun p hp => N p (by
  rcases List.mem_cons.mp hp with rfl | hp
  · exact .head _
  · exact .tail _ (.tail _ hp))
theorem sv_size {l : List (Str × Tok)} {xs : List PySem.Str} {ks : List Int} (e : l.map (·.1) = xs) (h : Pairs xs ks) (hk : ks.length ≤ 1000) : (strValues l).toArray.size ≤ sizeLine := by
  have h1 := h.length
  rw [← e] at h1
  rw [sizeLine_eq]
  simp only [strValues, List.size_toArray, List.length_map] at h1 ⊢
  omega
def HeadTells : Prop := ∀ (w : World) (loose : List Str) (mean : ExcName → Option Value) (mg mb : Str → Option Value) (dp un : Nat) (gd : Option (List Code)) (cn : Str) (cs : Scope) (a : Addr) (ccd : Value) (cl : List (Str × Addr)) (outer : List Env) (A₀ : Around) (base h₀ : Heap) (L : Addr) (m : Str → Option Value) (news : List (Addr × Obj)) (s : Shared) (Q E : Value → Shared → Prop)
    (x : PySem.Str) (tt : Tok) (ks : List Int),
    (hd.heap_39 w.params).In h₀ → Top hd.view_39 loose mean mg mb h₀ → Below A₀ base outer h₀ → Fr h₀ L s.heap m → News h₀ L s.heap news → cs.kind = .function → dp + 1 < recursionLimit →
    Pairs (Txt.split x (Str.ofString " ")) ks → x.length + 2 ≤ sizeLine → ks.length ≤ 1000 →
    (∀ D vs c h' tk, IntsAre vs ks → Fr h₀ L h' m → News h₀ L h' ((D, W.listOf vs.toArray c) :: news) → LCg.Off1 D news → Q (.ref D) { s with heap := h', toks := tk }) →
    wpAny (model PySem.Challenge.rw_xm0791_01.row.prog w) (ktrTop dp un gd cn cs L a ccd cl outer) (call (.ref 19) [.str x tt]) Q E s
end Mine
local macro_rules | `(tactic| walk_at "call builtin:str.split") => `(tactic| (k_here; (with_reducible show wpAny _ _ (call (Value.builtin "str.split") _) _ _ _); (refine KSpl.split1 (by k_asm) (by k_asm) (by decide) ?_ (by assumption)); intro D' l' h' k' e' a' F' N' l1; (try k_lt l1)))
local macro_rules | `(tactic| walk_at "CompSrc") => `(tactic| (k_here; k_dflt (refine LCg.CompSrc.ledger (by rfl) (by k_asm) (by k_asm) (by k_mem) (Mine.sv_size (by assumption) (by assumption) (by assumption)) ?_; intro g')))
local macro_rules | `(tactic| walk_at "CompRest") => `(tactic| (with_unfolding_all (refine' Mine.mapT_list ?kr ?kS ?turn ?fin); (case kr => (rename _ = Txt.split _ _ => e9; rw [e9]; assumption)); (case kS => exact Or.inr ⟨_, by k_mem, rfl, _, rfl⟩); (case' turn => (intro y' k' t' I' oI' C' oC' D' m' ys' h' tk' E' hk' hC' hx' F' N' off' ne'; (try simp only [LCg.Off3, and_true] at off'))); (case' fin => (intro ys' I'))))
local macro_rules | `(tactic| walk_at "call type:int") => `(tactic| (k_here; (refine' Mine.call_hex ?k1 ?_; (case k1 => assumption))))
local macro_rules | `(tactic| walk_at "EltEnd") => `(tactic| exact Mine.EltEnd.intro (by k_asm) (by k_asm) (fun _ h => h))
namespace Mine
theorem head_tells : HeadTells := by
  unfold HeadTells
  k_with_none
  w_top off
  k_fill
  intro w loose mean mg mb dp un gd cn cs a ccd cl outer A₀ base h₀ L m news s Q E x tt ks X T B F N hk hd hp hx hks hret
  have kM : KstMark := kstMark
  refine wpAny_call ?_
  k_dflt cell_enter
  k_steps
  all_goals (refine hret _ _ _ _ _ (by assumption) (by k_asm) (news_drop (by k_asm)) (by exact And.right (by assumption)))
end Mine
end
section -- C6
open PySem PySem.W PySem.Calls PyProof.Rows
set_option maxRecDepth 100000
set_option maxHeartbeats 0
namespace Mine
theorem due_size {vs : List Value} (h : IntsAre vs due) : vs.toArray.size ≤ sizeLine := by
  rw [List.size_toArray, h.length, due_len, sizeLine_eq]; decide
theorem mem_news {h₀ h : Heap} {L : Addr} {news : List (Addr × Obj)} (N : News h₀ L h news) {l : Addr} {vs : List Value} {c : Nat} (hm : (l, W.listOf vs.toArray c) ∈ news) : h.IsList l vs.toArray := ⟨_, (N _ hm).1, rfl, c, rfl⟩
open PyProof.Rows.LCg PyProof.Rows.LCt in
theorem filt_notin {prog : Program} {w : World} {A : Around} {s : Shared} {h₀ : Heap} {L : Addr} {m : Str → Option Value} {env : Env} {news : List (Addr × Obj)} {ct : Expr} {x : Str} {px : Pos} {scope : Scope} {cl : List (Str × Addr)} {Fin : List Value → List (Addr × Obj) → Prop} {ax H c : Addr} {o : Obj} {cc : Nat} {vs us : List Value} {ns ks : List Int}
    (hcell : o.data = .cell (some (.ref H))) (hcm : (c, o) ∈ news) (hlm : (H, W.listOf us.toArray cc) ∈ news) (hui : IntsAre us ks) (hi : IntsAre vs ns) (hS : SrcAt h₀ ax vs.toArray news)
    (hk : ∀ C, (compEnvC scope cl C env).scope.kind = .function) (hl : ∀ C, (compEnvC scope cl C env).kindOf x = some .local) (hd : (x == ("__debug__" : Str)) = false)
    (turn : ∀ k t I oI C oC D m₂ ys h tk (E' : Value → Shared → Prop), k ∈ ns → NsObj oC m₂ → m₂ x = some (.int k t) → Fr h₀ L h m → News h₀ L h ((I, oI) :: (C, oC) :: (D, lst ys) :: news) → Off3 I C D news → ((@Ne Nat I C) ∧ (@Ne Nat I D) ∧ (@Ne Nat C D)) →
      wpAny (model prog w) A (isTrue ct (compEnvC scope cl C env) (eval ct (compEnvC scope cl C env))) (TestEnd h₀ L m { s with heap := h, toks := tk } ((I, oI) :: (C, oC) :: (D, lst ys) :: news) (!(ks.any (· == k)))) E' { s with heap := h, toks := tk })
    (fin : ∀ ys, IntsAre ys (ns.filter fun k => !(ks.any (· == k))) → Fin ys news) : CompRestT prog w A h₀ L m env ct (.Name x px) x scope cl s (SrcAt h₀ ax vs.toArray) (fun i v => vs.toArray[i]? = some v) Fin vs.toArray.size 0 [] news :=
  filt_list (fun k => !(ks.any (· == k))) hi hS hk hl hd turn fin
theorem filt_size {ks : List Int} {p : Int → Bool} (h : ks.length ≤ 1000) : ks.length + (due.filter p).length ≤ sizeLine := by
  have h1 := List.length_filter_le p due
  rw [due_len] at h1
  rw [sizeLine_eq]
  omega
theorem ints_size {vs : List Value} {ks : List Int} {p : Int → Bool} (I : IntsAre vs (ks ++ due.filter p)) (h : ks.length ≤ 1000) : vs.toArray.size ≤ 16384 := by
  have h1 := List.length_filter_le p due
  rw [due_len] at h1
  rw [List.size_toArray, I.length, List.length_append]
  omega
theorem news_cut {h₀ h : Heap} {L : Addr} {a : Addr × Obj} {pre r : List (Addr × Obj)} (N : News h₀ L h (a :: (pre ++ r))) : News h₀ L h (a :: r) := fun p hp => N p (by
  rcases List.mem_cons.mp hp with rfl | hp
  · exact .head _
  · exact .tail _ (List.mem_append_right _ hp))
def notIn (ks : List Int) (k : Int) : Bool := !(ks.any (· == k))
def AcTells : Prop := ∀ (w : World) (loose : List Str) (mean : ExcName → Option Value) (mg mb : Str → Option Value) (dp un : Nat) (gd : Option (List Code)) (cn : Str) (cs : Scope) (a : Addr) (ccd : Value) (cl : List (Str × Addr)) (outer : List Env) (A₀ : Around) (base h₀ : Heap) (L : Addr) (m : Str → Option Value) (news : List (Addr × Obj)) (s : Shared) (Q E : Value → Shared → Prop)
    (x : PySem.Str) (tt : Tok) (ks : List Int),
    (hd.heap_39 w.params).In h₀ → Top hd.view_39 loose mean mg mb h₀ → Below A₀ base outer h₀ → Fr h₀ L s.heap m → News h₀ L s.heap news → cs.kind = .function → dp + 2 < recursionLimit →
    Pairs (Txt.split x (Str.ofString " ")) ks → x.length + 2 ≤ sizeLine → ks.length ≤ 1000 →
    (∀ D vs c h' tk, IntsAre vs (ks ++ due.filter (notIn ks)) → Fr h₀ L h' m → News h₀ L h' ((D, ({ cls := .type "tuple", data := .seq vs.toArray c } : Obj)) :: news) → Q (.ref D) { s with heap := h', toks := tk }) →
    wpAny (model PySem.Challenge.rw_xm0791_01.row.prog w) (ktrTop dp un gd cn cs L a ccd cl outer) (call (.ref 31) [.str x tt]) Q E s
end Mine
local macro_rules | `(tactic| walk_at "call ref") => `(tactic| (k_here; (with_reducible show wpAny _ _ (call (Value.ref 19) _) _ _ _); k_dflt (refine' Mine.head_tells _ _ _ _ _ _ _ _ _ _ _ _ _ _ _ _ _ _ _ _ _ _ _ _ _ _ ?k1 ?k2 ?k3 ?k4 ?k5 ?k6 ?k7 ?k8 ?k9 ?k10 ?_; (case k1 => k_asm); (case k2 => k_asm); (case k3 => k_asm); (case k4 => k_asm); (case k5 => k_asm); (case k6 => exact rfl); (case k7 => ktr_room); (case k8 => assumption); (case k9 => assumption); (case k10 => assumption)); intro D' vs' c' h' tk' I' F' N' o1'; (try simp only [LCg.Off1, and_true] at o1'); (try dsimp only); (try k_fold)))
local macro_rules | `(tactic| walk_at "call ref") => `(tactic| (k_here; (with_reducible show wpAny _ _ (call (Value.ref 26) _) _ _ _); k_dflt (refine' Mine.all_tells _ _ _ _ _ _ _ _ _ _ _ _ _ _ _ _ _ _ _ _ _ _ _ ?k1 ?k2 ?k3 ?k4 ?k5 ?k6 ?k7 ?_; (case k1 => k_asm); (case k2 => k_asm); (case k3 => k_asm); (case k4 => k_asm); (case k5 => k_asm); (case k6 => exact rfl); (case k7 => ktr_room)); intro D' vs' c' h' tk' I' F' N' l1; (try k_lt l1); (try dsimp only); (try k_fold)))
local macro_rules | `(tactic| walk_at "CompSrcT") => `(tactic| (k_here; k_dflt (refine LCt.CompSrcT.ledger (by rfl) (by k_asm) (by k_asm) (by k_mem) (Mine.due_size (by assumption)) ?_; intro g')))
local macro_rules | `(tactic| walk_at "CompRestT") => `(tactic| (with_unfolding_all (refine' Mine.filt_notin ?k1 ?k2 ?k3 ?k4 ?k5 ?k6 (by intro C; rfl) (by intro C; rfl) (by decide) ?turn ?fin); (case k1 => assumption); (case k2 => k_mem); (case k3 => k_mem); (case k4 => assumption); (case k5 => assumption); (case k6 => exact Or.inr ⟨_, by k_mem, rfl, _, rfl⟩); (case' turn => (intro k' t' I' oI' C' oC' D' m' ys' h' tk' E' hk' hC' hx' F' N' off' ne'; (try simp only [LCg.Off3, and_true] at off'))); (case' fin => (intro ys' I'))))
local macro_rules | `(tactic| walk_at "compareOp NotIn int ref") => `(tactic| (k_here; (refine' notin_list_ints ?k1 ?k2 ?_; (case k1 => exact Mine.mem_news (by k_asm) (by k_mem)); (case k2 => assumption))))
local macro_rules | `(tactic| walk_at "TestEnd") => `(tactic| exact Mine.TestEnd.intro (by k_asm) (by k_asm) (fun _ h => h) (by first | rfl | assumption | (symm; assumption)))
local macro_rules | `(tactic| walk_at "binaryOp Add ref ref") => `(tactic| (k_here; (with_reducible show wpAny _ _ (binaryOp _ (Value.ref _) (Value.ref _)) _ _ _); k_dflt (refine' kmk_add_ints ?F ?N ?a ?b ?i ?j ?_ ?z; (case F => k_asm); (case N => k_asm); (case a => exact Mine.mem_news (by k_asm) (by k_mem)); (case b => exact Mine.mem_news (by k_asm) (by k_mem)); (case i => assumption); (case j => assumption); (case z => exact Mine.filt_size (by assumption))); intro D' ws' h' F' N' l1 hI'; (try k_lt l1)))
local macro_rules | `(tactic| walk_at "call type:tuple") => `(tactic| (k_here; (with_reducible show wpAny _ _ (call (Value.type _) [Value.ref _]) _ _ _); k_dflt (refine' kde_tupleOf ?k1 ?k2 ?k3 ?k4 (by exact rfl) ?_; (case k1 => k_asm); (case k2 => k_asm); (case k3 => exact Mine.mem_news (by k_asm) (by k_mem)); (case k4 => exact Mine.ints_size (by assumption) (by assumption))); intro D' h' F' N' l1; (try k_lt l1)))
namespace Mine
theorem ac_tells : AcTells := by
  unfold AcTells
  k_with_none
  w_top off
  k_fill
  intro w loose mean mg mb dp un gd cn cs a ccd cl outer A₀ base h₀ L m news s Q E x tt ks X T B F N hk hd hp hx hks hret
  have kM : KstMark := kstMark
  refine wpAny_call ?_
  k_dflt (refine' code_defC ?k1 ?k2 ?k3 ?k4 ?k5 ?kA ?kF ?kK ?k6 ?k7 ?k8 ?k9 ?kB ?kD ?_ ?c2 ?c3 ?c4; (case kA => exact rfl); (case kF => exact rfl); (case kK => assumption); (case k1 => k_asm); (case k2 => k_asm); (case k3 => k_asm); (case k4 => k_asm); (case k5 => k_asm); (case k6 => k_is); (case k7 => k_is); (case k8 => ktr_room); (case k9 => exact BindsTo.of_eq rfl); (case kB => exact rfl); (case kD => decide +kernel); (case c2 => exact rfl); (case c3 => exact rfl); (case c4 => exact rfl); k_whole; intro g' L' h' tk' cells' FG' F' N' Y' B' X' T' l1; (try k_lt l1); k_cells Y'; (try simp only [List.cons_append, List.nil_append] at N'); (try dsimp only); (try k_lift B'); (try k_fold))
  have l2 : ∀ p ∈ news, p.1 < L' + 1 := fun p hp => Nat.lt_succ_of_lt (l1 p hp)
  k_steps
  all_goals (refine hret _ _ _ _ _ (by assumption) (by k_asm) (news_cut (pre := [_, _, _, _, _]) (by k_asm)))
end Mine
end
section -- C7
open PySem PySem.W PySem.Calls PyProof.Rows
set_option maxRecDepth 100000
set_option maxHeartbeats 0
namespace Mine
structure LoopOk (ks : List Int) (xs : List PySem.Str) (j : Nat) : Prop where
  pairs : Pairs xs ks
  inDue : ∀ k ∈ ks, k ∈ Mine.due
  len : ks.length = j
theorem LoopOk.zero : LoopOk [] [] 0 := ⟨.nil, (fun _ h => nomatch h), rfl⟩
theorem LoopOk.snoc {ks : List Int} {xs : List PySem.Str} {j : Nat} {n : Int} {up : Bool} (h : LoopOk ks xs j) (hn : n ∈ Mine.due) : LoopOk (ks ++ [n]) (xs ++ [Txt.item (figS up) (n.fdiv 16) ++ Txt.item (figS up) (n.fmod 16)]) (j + 1) := by
  have hr := due_range n hn
  refine ⟨h.pairs.snoc (pair_ok up hr.1 hr.2), fun k hk => ?_, by rw [List.length_append, h.len]; rfl⟩
  rcases List.mem_append.mp hk with hk | hk
  · exact h.inDue k hk
  · rw [List.mem_singleton.mp hk]; exact hn
theorem due_0 : (0 : Int) ∈ Mine.due := by decide +kernel
section
variable {w : World} {loose : List Str} {mean : ExcName → Option Value} {mg mb : Str → Option Value} {dp un : Nat} {gd : Option (List Code)} {cn : Str} {cs : Scope} {a : Addr} {ccd : Value} {cl : List (Str × Addr)} {outer : List Env} {A₀ : Around} {base h₀ : Heap} {L : Addr} {m : Str → Option Value} {news : List (Addr × Obj)} {s : Shared} {Q E : Value → Shared → Prop}
theorem src_open {vs : List Value} {ns : List Int} (I : IntsAre vs ns) (h : SrcOk ns) : ∃ x y t u, vs = [Value.int x t, Value.int y u] ∧ 0 ≤ x ∧ 0 ≤ y ∧ y < 2147483647 := by
  obtain ⟨x, y, rfl, hx, hy, hz⟩ := h.ex
  cases I with
  | cons _ t I => cases I with
    | cons _ u I => cases I with
      | nil => exact ⟨x, y, t, u, rfl, hx, hy, hz⟩
theorem src_of {x y : Int} {t u : Tok} (hx : 0 ≤ x) (hy : 0 ≤ y) (hz : y < 2147483647) : IntsAre [Value.int x t, Value.int y u] [x, y] ∧ SrcOk [x, y] := ⟨.cons _ _ (.cons _ _ .nil), ⟨x, y, rfl, hx, hy, hz⟩⟩
theorem take_use {S : Addr} {vs : List Value} {ns : List Int} {c : Nat} {g : Obj → List (Addr × Obj)} {top : Int} {tt : Tok}
    (X : (hd.heap_39 w.params).In h₀) (T : Top hd.view_39 loose mean mg mb h₀) (B : Below A₀ base outer h₀) (F : Fr h₀ L s.heap m) (N : News h₀ L s.heap news) (hk : cs.kind = .function) (hd' : dp + 1 < recursionLimit)
    (U : UpdF S (W.listOf vs.toArray c) news g) (I : IntsAre vs ns) (hs : SrcOk ns) (ht : 0 < top) (ht2 : top < 1000000)
    (hret : ∀ f tf vs' ns' c' h' tk, 0 ≤ f → f < top → IntsAre vs' ns' → SrcOk ns' → Fr h₀ L h' m → News h₀ L h' (g (W.listOf vs'.toArray c')) → Q (.int f tf) { s with heap := h', toks := tk }) :
    wpAny (model PySem.Challenge.rw_xm0791_01.row.prog w) (ktrTop dp un gd cn cs L a ccd cl outer) (call (.ref 45) [.ref S, .int top tt]) Q E s := by
  obtain ⟨x, y, t, u, rfl, hx, hy, hz⟩ := src_open I hs
  obtain ⟨rest, h1, h2, h3⟩ := updF_open U
  refine take_tells _ _ _ _ _ _ _ _ _ _ _ _ _ _ _ _ _ _ _ _ _ _ _ _ _ _ _ _ _ _ _ X T B F (h1 _ _ _ N) h2 hk hd' hx hy hz ht ht2 ?_
  intro f tf x' y' t' u' c' h' tk hf hf2 hx' hy' hz' F' N'
  obtain ⟨i1, i2⟩ := src_of (t := t') (u := u') hx' hy' hz'
  exact hret f tf _ _ c' h' tk hf hf2 i1 i2 F' (h3 _ _ _ _ N')
theorem one_use {S D : Addr} {vs us : List Value} {ns : List Int} {c d : Nat} {g : Obj → List (Addr × Obj)}
    (X : (hd.heap_39 w.params).In h₀) (T : Top hd.view_39 loose mean mg mb h₀) (B : Below A₀ base outer h₀) (F : Fr h₀ L s.heap m) (N : News h₀ L s.heap news) (hk : cs.kind = .function) (hd' : dp + 3 < recursionLimit)
    (U : UpdF S (W.listOf vs.toArray c) news g) (I : IntsAre vs ns) (hs : SrcOk ns) (hm : (D, W.listOf us.toArray d) ∈ news) (hne : D ≠ S) (hu : 0 < us.length) (hu2 : us.length < 1000000)
    (hret : ∀ v vs' ns' c' h' tk, v ∈ us → IntsAre vs' ns' → SrcOk ns' → Fr h₀ L h' m → News h₀ L h' (g (W.listOf vs'.toArray c')) → Q v { s with heap := h', toks := tk }) :
    wpAny (model PySem.Challenge.rw_xm0791_01.row.prog w) (ktrTop dp un gd cn cs L a ccd cl outer) (call (.ref 52) [.ref S, .ref D]) Q E s := by
  obtain ⟨x, y, t, u, rfl, hx, hy, hz⟩ := src_open I hs
  obtain ⟨rest, h1, h2, h3⟩ := updF_open U
  have hN : News h₀ L s.heap ((S, W.listOf [Value.int x t, Value.int y u].toArray c) :: (D, W.listOf us.toArray d) :: rest) := fun p hp => by
    rcases List.mem_cons.mp hp with rfl | hp
    · exact h1 _ _ _ N _ (.head _)
    · rcases List.mem_cons.mp hp with rfl | hp
      · exact N _ hm
      · exact h1 _ _ _ N _ (.tail _ hp)
  have hO : OwnOff ((D, W.listOf us.toArray d) :: rest) [S] := fun p hp b hb => by
    rcases List.mem_cons.mp hp with rfl | hp
    · rw [List.mem_singleton.mp hb]; exact hne
    · exact h2 p hp b hb
  refine one_tells _ _ _ _ _ _ _ _ _ _ _ _ _ _ _ _ _ _ _ _ _ _ _ _ _ _ _ _ _ _ _ _ X T B F hN hO hk hd' hx hy hz hu hu2 ?_
  · intro v x' y' t' u' c' h' tk hv hx' hy' hz' F' N'
    obtain ⟨i1, i2⟩ := src_of (t := t') (u := u') hx' hy' hz'
    refine hret v _ _ c' h' tk hv i1 i2 F' (h3 _ _ _ _ fun p hp => N' p ?_)
    rcases List.mem_cons.mp hp with rfl | hp
    · exact .head _
    · exact .tail _ (.tail _ hp)
theorem ints_mem {us : List Value} {ks : List Int} (I : IntsAre us ks) : ∀ v ∈ us, ∃ n t, v = Value.int n t ∧ n ∈ ks := by
  induction I with
  | nil => intro v h; cases h
  | cons n t I ih =>
    intro v h
    rcases List.mem_cons.mp h with rfl | h
    · exact ⟨n, t, rfl, .head _⟩
    · obtain ⟨k, t, e, h⟩ := ih v h
      exact ⟨k, t, e, .tail _ h⟩
theorem item_due {prog : Program} {A : Around} {l : Addr} {us : List Value} {c : Nat} {value slice : PySem.Expr} {k : Int} {u : Tok} (N : News h₀ L s.heap news) (hm : (l, W.listOf us.toArray c) ∈ news) (I : IntsAre us Mine.due) (h0 : 0 ≤ k) (h1 : k < 162)
    (h : ∀ n t, n ∈ Mine.due → Q (.int n t) s) (hs : subscripted slice false (.ref l) (.int k u) = operate [.ref l, .int k u] (getItem (.ref l) (.int k u))) :
    wpAny (model prog w) A (subscriptTail value slice (.ref l) (.int k u)) Q E s := by
  have hlen : us.length = 162 := by rw [I.length, due_len]
  refine item_any N hm h0 (by omega) (by omega) (fun v hv => ?_) hs
  obtain ⟨n, t, rfl, hn⟩ := ints_mem I v hv
  exact h n t hn
end
section
open PyProof.Rows.LCg
variable {prog : Program} {w : World} {A : Around} {E : Value → Shared → Prop} {s : Shared} {env : Env} {h₀ : Heap} {x : Str} {body : List Stmt} {Q : Flow → Shared → Prop}
structure LS where
  vs : List Value
  ns : List Int
  c : Nat
  ms : List Value
  ks : List Int
  cn : Nat
  qs : List Value
  xs : List PySem.Str
  cp : Nat
def LS.led (S Nn Pp : Addr) (rest : List (Addr × Obj)) (σ : LS) : List (Addr × Obj) := (S, W.listOf σ.vs.toArray σ.c) :: (Nn, W.listOf σ.ms.toArray σ.cn) :: (Pp, W.listOf σ.qs.toArray σ.cp) :: rest
structure LS.Facts (σ : LS) (j : Nat) : Prop where
  i1 : IntsAre σ.vs σ.ns
  i2 : SrcOk σ.ns
  i3 : IntsAre σ.ms σ.ks
  i4 : StrsAre σ.qs σ.xs
  i5 : LoopOk σ.ks σ.xs j
/-- behind a turn -/
def TurnOk (h₀ : Heap) (L : Addr) (x : Str) (stored : List Str) (m₀ : Str → Option Value) (S Nn Pp : Addr) (rest own : List (Addr × Obj)) (j : Nat) (s : Shared) (f : Flow) (s' : Shared) : Prop :=
  f = .next ∧ ∃ (σ : LS) (m' : Str → Option Value) (h' : Heap) (tk : Nat), s' = { s with heap := h', toks := tk } ∧ Fr h₀ L h' m' ∧ News h₀ L h' (σ.led S Nn Pp rest ++ own) ∧ σ.Facts (j + 1) ∧ ∀ z, z ≠ x → stored.contains z = false → m' z = m₀ z
theorem TurnOk.intro {L : Addr} {stored : List Str} {m₀ : Str → Option Value} {S Nn Pp : Addr} {rest own big : List (Addr × Obj)} {j : Nat} {m' : Str → Option Value} {h' : Heap} {tk : Nat}
    {vs ms qs : List Value} {ns ks : List Int} {xs : List PySem.Str} {c cn cp : Nat}
    (F : Fr h₀ L h' m') (N : News h₀ L h' big) (hm : ∀ z, z ≠ x → (∀ p ∈ ([] : List (Str × Value)), z ≠ p.1) → stored.contains z = false → m' z = m₀ z)
    (e1 : (S, W.listOf vs.toArray c) ∈ big) (e2 : (Nn, W.listOf ms.toArray cn) ∈ big) (e3 : (Pp, W.listOf qs.toArray cp) ∈ big) (e4 : ∀ p ∈ rest, p ∈ big) (e5 : ∀ p ∈ own, p ∈ big)
    (i1 : IntsAre vs ns) (i2 : SrcOk ns) (i3 : IntsAre ms ks) (i4 : StrsAre qs xs) (i5 : LoopOk ks xs (j + 1)) : TurnOk h₀ L x stored m₀ S Nn Pp rest own j s .next { s with heap := h', toks := tk } := by
  refine ⟨rfl, ⟨vs, ns, c, ms, ks, cn, qs, xs, cp⟩, m', h', tk, rfl, F, fun p hp => N p ?_, ⟨i1, i2, i3, i4, i5⟩, fun z h1 h3 => hm z h1 (fun _ h => nomatch h) h3⟩
  rcases List.mem_append.mp hp with hp | hp
  · rcases List.mem_cons.mp hp with rfl | hp
    · exact e1
    · rcases List.mem_cons.mp hp with rfl | hp
      · exact e2
      · rcases List.mem_cons.mp hp with rfl | hp
        · exact e3
        · exact e4 p hp
  · exact e5 p hp
theorem law_loop {r : Addr} {b₀ : Int} {t₀ u₀ v₀ : Tok} {n : Nat} {m₀ : Str → Option Value} {news : List (Addr × Obj)} {S Nn Pp : Addr} {vs : List Value} {ns : List Int} {c cn cp : Nat} (rest : List (Addr × Obj)) (stored : List Str)
    (hh : A.handled = none) (hr : IsRange s.heap r 0 b₀ 1 t₀ u₀ v₀) (hsmall : Builtin.Range.small 0 b₀ 1 = true) (hn : Builtin.Range.rangeSize 0 b₀ 1 = (n : Int)) (F : Fr h₀ env.locals s.heap m₀) (N : News h₀ env.locals s.heap news)
    (e1 : (S, W.listOf vs.toArray c) ∈ news) (e2 : (Nn, W.listOf [].toArray cn) ∈ news) (e3 : (Pp, W.listOf [].toArray cp) ∈ news) (e4 : ∀ p ∈ rest, p ∈ news) (I : IntsAre vs ns) (hs : SrcOk ns)
    (turn : ∀ (j : Nat) (k : Int) t (u : Str → Option Value) h tk own vs ns c ms ks cn qs xs cp, j < n → OwnOff own (S :: Nn :: Pp :: rest.map (·.1)) → IntsAre vs ns → SrcOk ns → IntsAre ms ks → StrsAre qs xs → LoopOk ks xs j →
      Fr h₀ env.locals h (fun y => if y = x then some (.int k t) else if stored.contains y then u y else m₀ y) → News h₀ env.locals h ((S, W.listOf vs.toArray c) :: (Nn, W.listOf ms.toArray cn) :: (Pp, W.listOf qs.toArray cp) :: (rest ++ own)) →
      wpAny (model prog w) A (execs body env) (TurnOk h₀ env.locals x stored m₀ S Nn Pp rest own j { s with heap := h, toks := tk }) E { s with heap := h, toks := tk })
    (done : ∀ (u : Str → Option Value) h tk vs ns c ms ks cn qs xs cp, IntsAre vs ns → SrcOk ns → IntsAre ms ks → StrsAre qs xs → LoopOk ks xs n → Fr h₀ env.locals h (fun y => if y = x then u y else if stored.contains y then u y else m₀ y) →
      News h₀ env.locals h ((S, W.listOf vs.toArray c) :: (Nn, W.listOf ms.toArray cn) :: (Pp, W.listOf qs.toArray cp) :: rest) → Q .next { s with heap := h, toks := tk }) :
    wpAny (model prog w) A (pyIter (.ref r)) (fun it s₂ => LoopAtV prog w A h₀ env x body Q E it s₂) E s := by
  refine kst_range (σ := LS) (LS.led S Nn Pp rest) (fun _ => []) (fun _ => True) stored (fun pre σ => σ.Facts pre.length) ⟨vs, ns, c, [], [], cn, [], [], cp⟩ hh hr hsmall hn F (fun p hp => N p ?_) trivial (fun _ h => nomatch h) ⟨I, hs, .nil, .nil, .zero⟩ ?_ ?_
  · rcases List.mem_cons.mp hp with rfl | hp
    · exact e1
    · rcases List.mem_cons.mp hp with rfl | hp
      · exact e2
      · rcases List.mem_cons.mp hp with rfl | hp
        · exact e3
        · exact e4 p hp
  · rintro ⟨vs, ns, c, ms, ks, cn, qs, xs, cp⟩ pre k t u h tk own _ hlt hoff _ hf F₁ N₁
    refine wpAny_mono (turn pre.length k t u h tk own vs ns c ms ks cn qs xs cp hlt hoff hf.i1 hf.i2 hf.i3 hf.i4 hf.i5 F₁ N₁) (fun f s₂ hq => ?_) fun _ _ e => e
    obtain ⟨rfl, σ, m', h', tk', rfl, F', N', hf', hm⟩ := hq
    show InvEndN _ _ _ _ _ _ _
    refine kst_end σ F' N' (fun p hp => List.mem_append_left _ hp) (fun p hp => List.mem_append_right _ hp) rfl trivial (fun _ h => nomatch h) (fun z h1 _ h3 => hm z h1 h3) ?_
    rw [List.length_append]; exact hf'
  · rintro ⟨vs, ns, c, ms, ks, cn, qs, xs, cp⟩ u h tk _ hf F₁ N₁
    rw [rangeKs_length] at hf
    exact done u h tk vs ns c ms ks cn qs xs cp hf.i1 hf.i2 hf.i3 hf.i4 hf.i5 F₁ N₁
end
end Mine
end
section -- C8
open PySem PySem.W PySem.Calls PyProof.Rows
set_option maxRecDepth 100000
set_option maxHeartbeats 0
namespace Mine
theorem upd_of {d : Addr} {o : Obj} {l : List (Addr × Obj)} {g : Obj → List (Addr × Obj)} (u : UpdF d o l g) (o' : Obj) : Upd d o o' l (g o') := by
  induction u with
  | head h => exact .head h
  | tail h _ ih => exact .tail h ih
section
variable {prog : Program} {w : World} {A : Around} {E : Value → Shared → Prop} {s : Shared} {h₀ : Heap} {L D : Addr} {m : Str → Option Value} {news : List (Addr × Obj)} {g : Obj → List (Addr × Obj)} {Q : Value → Shared → Prop}
theorem append_L {vs : List Value} {n : Nat} {x : Value} (F : Fr h₀ L s.heap m) (N : News h₀ L s.heap news) (U : UpdF D (W.listOf vs.toArray n) news g)
    (h : ∀ h', Fr h₀ L h' m → News h₀ L h' (g (W.listOf (vs ++ [x]).toArray (n + 1))) → Q .none { s with heap := h' }) (hsz : vs.length ≤ 1000) : wpAny (model prog w) A (call (.builtin "list.append") [.ref D, x]) Q E s := by
  refine append_K F N (upd_of U _) (fun h' F' N' => h h' F' ?_) ?_
  · simpa only [List.push_toArray] using N'
  · rw [List.size_toArray, sizeLine_eq]; omega
theorem fig_div {value slice : PySem.Expr} {up : Bool} {n : Int} {t u : Tok} (hn : n ∈ Mine.due) (h : ∀ t tk, Q (.str (Txt.item (figS up) (n.fdiv 16)) t) { s with toks := tk })
    (hs : subscripted slice false (.str (figS up) t) (.int (n.fdiv 16) u) = operate [.str (figS up) t, .int (n.fdiv 16) u] (getItem (.str (figS up) t) (.int (n.fdiv 16) u)))
    (ht : ∀ r, letTemporaryGo value (.str (figS up) t) r = pure ()) :
    wpAny (model prog w) A (subscriptTail value slice (.str (figS up) t) (.int (n.fdiv 16) u)) Q E s := by
  have hr := due_range n hn
  have e : n.fdiv 16 = n / 16 := Int.fdiv_eq_ediv_of_nonneg _ (by decide)
  have hl := figS_len up
  refine item_str (fitsSsize_of (N := 9223372036854775808) (by omega) (by omega) (Int.le_refl _)) (by omega) (by omega) (fun _ => h _ _) hs ht
theorem fig_mod {value slice : PySem.Expr} {up : Bool} {n : Int} {t u : Tok} (hn : n ∈ Mine.due) (h : ∀ t tk, Q (.str (Txt.item (figS up) (n.fmod 16)) t) { s with toks := tk })
    (hs : subscripted slice false (.str (figS up) t) (.int (n.fmod 16) u) = operate [.str (figS up) t, .int (n.fmod 16) u] (getItem (.str (figS up) t) (.int (n.fmod 16) u)))
    (ht : ∀ r, letTemporaryGo value (.str (figS up) t) r = pure ()) :
    wpAny (model prog w) A (subscriptTail value slice (.str (figS up) t) (.int (n.fmod 16) u)) Q E s := by
  have hr := due_range n hn
  have e : n.fmod 16 = n % 16 := Int.fmod_eq_emod_of_nonneg _ (by decide)
  have hl := figS_len up
  refine item_str (fitsSsize_of (N := 9223372036854775808) (by omega) (by omega) (Int.le_refl _)) (by omega) (by omega) (fun _ => h _ _) hs ht
end
section
variable {prog : Program} {w : World} {A : Around} {E : Value → Shared → Prop} {s : Shared} {env : Env} {h₀ : Heap} {x : Str} {body : List Stmt} {Q : Flow → Shared → Prop}
theorem law_loop2 {r : Addr} {b₀ : Int} {t₀ u₀ v₀ : Tok} {n : Nat} {m₀ : Str → Option Value} {news : List (Addr × Obj)} {S Nn Pp Cc Dd : Addr} {oc : Obj} {dv vs : List Value} {ns : List Int} {c cn cp dc : Nat}
    (hh : A.handled = none) (hr : IsRange s.heap r 0 b₀ 1 t₀ u₀ v₀) (hsmall : Builtin.Range.small 0 b₀ 1 = true) (hn : Builtin.Range.rangeSize 0 b₀ 1 = (n : Int)) (F : Fr h₀ env.locals s.heap m₀) (N : News h₀ env.locals s.heap news)
    (hsS : m₀ (PySem.Str.ofString "source") = some (.ref S)) (hsP : m₀ (PySem.Str.ofString "pairs") = some (.ref Pp)) (hsD : m₀ (PySem.Str.ofString "due") = some (.ref Dd)) (hsC : oc.data = .cell (some (.ref Nn)))
    (e1 : (S, W.listOf vs.toArray c) ∈ news) (e2 : (Nn, W.listOf [].toArray cn) ∈ news) (e3 : (Pp, W.listOf [].toArray cp) ∈ news) (e4 : (Cc, oc) ∈ news) (e5 : (Dd, W.listOf dv.toArray dc) ∈ news) (I : IntsAre vs ns) (hs : SrcOk ns)
    (turn : ∀ (j : Nat) (k : Int) t (u : Str → Option Value) h tk own vs ns c ms ks cn qs xs cp, j < n → OwnOff own [S, Nn, Pp, Cc, Dd] → IntsAre vs ns → SrcOk ns → IntsAre ms ks → StrsAre qs xs → LoopOk ks xs j →
      Fr h₀ env.locals h (fun y => if y = x then some (.int k t) else if [PySem.Str.ofString "number", PySem.Str.ofString "figures"].contains y then u y else m₀ y) → News h₀ env.locals h ((S, W.listOf vs.toArray c) :: (Nn, W.listOf ms.toArray cn) :: (Pp, W.listOf qs.toArray cp) :: (Cc, oc) :: (Dd, W.listOf dv.toArray dc) :: own) →
      wpAny (model prog w) A (execs body env) (TurnOk h₀ env.locals x [PySem.Str.ofString "number", PySem.Str.ofString "figures"] m₀ S Nn Pp [(Cc, oc), (Dd, W.listOf dv.toArray dc)] own j { s with heap := h, toks := tk }) E { s with heap := h, toks := tk })
    (done : ∀ (u : Str → Option Value) h tk vs ns c ms ks cn qs xs cp, IntsAre vs ns → SrcOk ns → IntsAre ms ks → StrsAre qs xs → LoopOk ks xs n → Fr h₀ env.locals h (fun y => if y = x then u y else if [PySem.Str.ofString "number", PySem.Str.ofString "figures"].contains y then u y else m₀ y) →
      News h₀ env.locals h [(S, W.listOf vs.toArray c), (Nn, W.listOf ms.toArray cn), (Pp, W.listOf qs.toArray cp), (Cc, oc), (Dd, W.listOf dv.toArray dc)] → Q .next { s with heap := h, toks := tk }) :
    wpAny (model prog w) A (pyIter (.ref r)) (fun it s₂ => LoopAtV prog w A h₀ env x body Q E it s₂) E s :=
  law_loop [(Cc, oc), (Dd, W.listOf dv.toArray dc)] [PySem.Str.ofString "number", PySem.Str.ofString "figures"] hh hr hsmall hn F N e1 e2 e3 (fun p hp => by
    rcases List.mem_cons.mp hp with rfl | hp
    · exact e4
    · rw [List.mem_singleton.mp hp]; exact e5) I hs turn done
end
section
variable {prog : Program} {w : World} {A : Around} {E : Value → Shared → Prop} {s : Shared} {h₀ : Heap} {L a b : Addr} {news : List (Addr × Obj)} {Q : Value → Shared → Prop}
theorem eq_tups {vs us : List Value} {ns : List Int} {c d : Nat} (N : News h₀ L s.heap news) (ha : (a, ({ cls := .type "tuple", data := .seq vs.toArray c } : Obj)) ∈ news) (hb : (b, ({ cls := .type "tuple", data := .seq us.toArray d } : Obj)) ∈ news)
    (I : IntsAre vs ns) (J : IntsAre us ns) (hu : A.units < cLine) (h : Q (.bool true) s) : wpAny (model prog w) A (compareOp .Eq (.ref a) (.ref b)) Q E s := by
  have hlen : vs.length = us.length := by rw [I.length, J.length]
  refine PySem.SeqAt.eq_tupleAt (e := fun _ => true) ⟨_, (N _ ha).1, rfl, c, rfl⟩ ⟨_, (N _ hb).1, rfl, d, rfl⟩ hu (fun j h1 h2 => ?_) ?_
  · have h1' : j < vs.length := by simpa using h1
    have h2' : j < us.length := by simpa using h2
    obtain ⟨k, t, e1, e2⟩ := IntsAre.at I j vs[j] (by simp [h1'])
    obtain ⟨k', t', e1', e2'⟩ := IntsAre.at J j us[j] (by simp [h2'])
    rw [e2] at e2'
    cases e2'
    have := PySem.SeqAt.EqAt.int_int (A := A.in1) (s := s) k t k t'
    rw [beq_self_eq_true] at this
    simpa only [List.getElem_toArray, e1, e1'] using this
  · have e : ((List.range (min vs.toArray.size us.toArray.size)).all (fun _ => true) && vs.toArray.size == us.toArray.size) = true := by
      simp [hlen]
    rw [e]; exact h
end
theorem item_add (x y : PySem.Str) (i j : Int) : (Txt.item x i).length + (Txt.item y j).length ≤ sizeLine := by
  rw [len_item, len_item, sizeLine_eq]; decide
theorem four_due {v : Value} {n z : Int} {t1 t2 t3 t4 : Tok} (hv : v ∈ [Value.int n t1, Value.int n t2, Value.int n t3, Value.int z t4]) (hn : n ∈ Mine.due) (hz : z ∈ Mine.due) : ∃ k t, v = Value.int k t ∧ k ∈ Mine.due := by
  simp only [List.mem_cons, List.not_mem_nil, or_false] at hv
  rcases hv with rfl | rfl | rfl | rfl
  · exact ⟨_, _, rfl, hn⟩
  · exact ⟨_, _, rfl, hn⟩
  · exact ⟨_, _, rfl, hn⟩
  · exact ⟨_, _, rfl, hz⟩
theorem two_figs {v : Value} {t1 t2 : Tok} (hv : v ∈ [Value.str (PySem.Str.ofString "0123456789abcdef") t1, Value.str (PySem.Str.ofString "0123456789ABCDEF") t2]) : ∃ up t, v = Value.str (figS up) t := by
  simp only [List.mem_cons, List.not_mem_nil, or_false] at hv
  rcases hv with rfl | rfl
  · exact ⟨false, _, rfl⟩
  · exact ⟨true, _, rfl⟩
theorem first_due {ks : List Int} {xs : List PySem.Str} {j : Nat} (h : LoopOk ks xs j) : (ks ++ [0]).getD (Int.toNat 0) 0 ∈ Mine.due := by
  cases ks with
  | nil => exact due_0
  | cons k r => exact h.inDue k (.head _)
theorem due_ints {ys : List Value} (I : IntsAre ys ((rangeKs 0 256).filter dueP)) : IntsAre ys Mine.due := due_is ▸ I
theorem LoopOk.read {ks : List Int} {xs : List PySem.Str} {n : Nat} (h : LoopOk ks xs n) (h0 : 0 < n) : Pairs (Txt.split (Txt.join (PySem.Str.ofString " ") xs) (PySem.Str.ofString " ")) ks := by
  rw [h.pairs.split (fun e => by have := h.len; rw [e] at this; simp at this; omega)]
  exact h.pairs
theorem LoopOk.fits {ks : List Int} {xs : List PySem.Str} {n : Nat} (h : LoopOk ks xs n) (hn : n ≤ 1000) : (xs.map (·.length)).sum + xs.length * 64 ≤ 16777216 := h.pairs.fits (by rw [h.len]; exact hn)
theorem LoopOk.joined {ks : List Int} {xs : List PySem.Str} {n : Nat} (h : LoopOk ks xs n) (hn : n ≤ 1000) : (Txt.join (PySem.Str.ofString " ") xs).length + 2 ≤ sizeLine := h.pairs.joined (by rw [h.len]; exact hn)
theorem LoopOk.small {ks : List Int} {xs : List PySem.Str} {n : Nat} (h : LoopOk ks xs n) (hn : n ≤ 1000) : ks.length ≤ 1000 := by rw [h.len]; exact hn
theorem loop_lens {ms qs : List Value} {ks : List Int} {xs : List PySem.Str} {j : Nat} (I : IntsAre ms ks) (J : StrsAre qs xs) (h : LoopOk ks xs j) : ms.length = j ∧ qs.length = j ∧ ks.length = j ∧ xs.length = j := by
  have h1 := I.length
  have h2 := J.length
  have h3 := h.pairs.length
  have h4 := h.len
  omega
theorem strs_push {vs : List Value} {xs : List PySem.Str} (h : StrsAre vs xs) (y : PySem.Str) (t : Tok) : StrsAre (vs ++ [.str y t]) (xs ++ [y]) := StrsAre.append' h (.cons _ _ .nil)
end Mine
end
section -- C9
open PySem PySem.W PySem.Calls PyProof.Rows
set_option maxRecDepth 100000
set_option maxHeartbeats 0
local macro_rules | `(tactic| walk_at "call ref") => `(tactic| (k_here; (with_reducible show wpAny _ _ (call (Value.ref 26) _) _ _ _); k_dflt (refine' Mine.all_tells _ _ _ _ _ _ _ _ _ _ _ _ _ _ _ _ _ _ _ _ _ _ _ ?k1 ?k2 ?k3 ?k4 ?k5 ?k6 ?k7 ?_; (case k1 => k_asm); (case k2 => k_asm); (case k3 => k_asm); (case k4 => k_asm); (case k5 => k_asm); (case k6 => exact rfl); (case k7 => ktr_room)); intro D' vs' c' h' tk' I' F' N' l1; (try k_lt l1); (try dsimp only); (try k_fold)))
local macro_rules | `(tactic| walk_at "CompSrcT") => `(tactic| (k_here; k_dflt (first
  | (refine LCt.CompSrcT.ledger (by rfl) (by k_asm) (by k_asm) (by k_mem) (Mine.due_size (by assumption)) ?_; intro g')
  | (refine LCt.CompSrcT.range (by rfl) (by k_asm) (by k_asm) (by assumption) (by first | decide | rfl) (by first | rfl | decide) (by first | size_fits | exact Nat.le_of_ble_eq_true rfl) ?_; intro g'))))
local macro_rules | `(tactic| walk_at "CompRestT") => `(tactic| ((with_unfolding_all (refine' Mine.filt_range Mine.dueP (by intro C; rfl) (by intro C; rfl) (by decide) (fun k' t' I' oI' C' oC' D' m' ys' h' tk' E' hk' hC' hx' F' N' off' ne' => ?_) (fun ys' I' => ?_))); (all_goals (first | (replace I' := Mine.due_ints I') | (try simp only [LCg.Off3, and_true] at off')))))
namespace Mine
theorem dueP_1 {k : Int} (h : ([0, 240].any fun x => x == k) = true) : true = dueP k := by
  simp only [List.any_cons, List.any_nil, Bool.or_false, Bool.or_eq_true, beq_iff_eq] at h
  rcases h with rfl | rfl <;> rfl
theorem dueP_not {k : Int} (h : ([0, 240].any fun x => x == k) = false) : dueP k = (decide (1 ≤ k.fmod 16) && decide (k.fmod 16 ≤ 10)) := by
  simp only [List.any_cons, List.any_nil, Bool.or_false, Bool.or_eq_false_iff, beq_eq_false_iff_ne] at h
  have e : k.fmod 16 = k % 16 := Int.fmod_eq_emod_of_nonneg _ (by decide)
  unfold dueP
  rw [e, beq_eq_false_iff_ne.mpr (Ne.symm h.1), beq_eq_false_iff_ne.mpr (Ne.symm h.2)]
  rfl
theorem dueP_2 {k : Int} (h : ([0, 240].any fun x => x == k) = false) (h1 : 1 ≤ k.fmod 16) (h2 : k.fmod 16 ≤ 10) : true = dueP k := by
  rw [dueP_not h, decide_eq_true h1, decide_eq_true h2]; rfl
theorem dueP_3 {k : Int} (h : ([0, 240].any fun x => x == k) = false) (h2 : ¬ k.fmod 16 ≤ 10) : false = dueP k := by
  rw [dueP_not h, decide_eq_false h2, Bool.and_false]
theorem dueP_4 {k : Int} (h : ([0, 240].any fun x => x == k) = false) (h2 : ¬ 1 ≤ k.fmod 16) : false = dueP k := by
  rw [dueP_not h, decide_eq_false h2, Bool.false_and]
end Mine
local macro_rules | `(tactic| walk_at "TestEnd") => `(tactic| first
  | exact Mine.TestEnd.intro (by k_asm) (by k_asm) (fun _ h => h) (by first | rfl | assumption | (symm; assumption))
  | exact Mine.TestEnd.intro (by k_asm) (by k_asm) (fun _ h => .tail _ h) (by first | exact Mine.dueP_1 (by assumption) | exact Mine.dueP_2 (by assumption) (by assumption) (by assumption) | exact Mine.dueP_3 (by assumption) (by assumption) | exact Mine.dueP_4 (by assumption) (by assumption)))
local macro_rules | `(tactic| walk_at "compareOp In int ref") => `(tactic| (k_here; k_dflt (refine' in_tuple_ints ?k1 ?k2 ?_; (case k1 => exact News.isTup (by k_asm) (by k_mem)); (case k2 => exact .cons _ _ (.cons _ _ .nil)))))
local macro_rules | `(tactic| walk_at "call ref") => `(tactic| (k_here; (with_reducible show wpAny _ _ (call (Value.ref 38) _) _ _ _); k_dflt (refine' Mine.pool_tells _ _ _ _ _ _ _ _ _ _ _ _ _ _ _ _ _ _ _ _ _ _ _ _ _ _ ?k1 ?k2 ?k3 ?k4 ?k5 ?k6 ?k7 ?k8 ?k9 ?k10 ?_; (case k1 => k_asm); (case k2 => k_asm); (case k3 => k_asm); (case k4 => k_asm); (case k5 => k_asm); (case k6 => exact rfl); (case k7 => ktr_room); (case k8 => k_asm); (case k9 => assumption); (case k10 => omega)); intro D' x' y' t' u' c' h' tk' hx' hy' hz' F' N' l1; (try k_lt l1); (obtain ⟨iS', sO'⟩ := Mine.src_of (t := t') (u := u') hx' hy' hz'); (try dsimp only); (try k_fold)))
local macro_rules | `(tactic| walk_at "call ref") => `(tactic| (k_here; (with_reducible show wpAny _ _ (call (Value.ref 45) _) _ _ _); k_dflt (refine' Mine.take_use ?k1 ?k2 ?k3 ?k4 ?k5 ?k6 ?k7 ?k8 ?k9 ?k10 ?k11 ?k12 ?_; (case k1 => k_asm); (case k2 => k_asm); (case k3 => k_asm); (case k4 => k_asm); (case k5 => k_asm); (case k6 => exact rfl); (case k7 => ktr_room); (case k8 => k_updF); (case k9 => assumption); (case k10 => assumption); (case k11 => decide); (case k12 => decide)); intro f' tf' vs' ns' c' h' tk' hf' hf2' iS' sO' F' N'; (try dsimp only at N'); (try dsimp only); (try k_fold)))
local macro_rules | `(tactic| walk_at "call ref") => `(tactic| (k_here; (with_reducible show wpAny _ _ (call (Value.ref 52) _) _ _ _); k_dflt (refine' Mine.one_use ?k1 ?k2 ?k3 ?k4 ?k5 ?k6 ?k7 ?k8 ?k9 ?k10 ?k11 ?k12 ?k13 ?k14 ?_; (case k1 => k_asm); (case k2 => k_asm); (case k3 => k_asm); (case k4 => k_asm); (case k5 => k_asm); (case k6 => exact rfl); (case k7 => ktr_room); (case k8 => k_updF); (case k9 => assumption); (case k10 => assumption); (case k11 => k_mem); (case k12 => k_ne); (case k13 => exact Nat.le_of_ble_eq_true rfl); (case k14 => exact Nat.le_of_ble_eq_true rfl)); intro v' vs' ns' c' h' tk' hv' iS' sO' F' N'; (first | (obtain ⟨_, _, e9, _⟩ := Mine.four_due hv' (by assumption) (by exact Mine.first_due (by assumption)); subst e9) | (obtain ⟨_, _, e9⟩ := Mine.two_figs hv'; subst e9)); (try clear hv'); (try dsimp only at N'); (try dsimp only); (try k_fold)))
local macro_rules | `(tactic| walk_at "pyIter ref") => `(tactic| ((with_reducible show wpAny _ _ (pyIter (Value.ref _)) (fun it s₂ => LoopAtV _ _ _ _ _ _ _ _ _ it s₂) _ _); k_here; k_dflt ((rename Fr _ _ _ _ => lF'); (rename News _ _ _ _ => lN'); (rename IsRange _ _ _ _ _ _ _ _ => rgX); (with_unfolding_all refine' Mine.law_loop2 (by rfl) rgX (by exact small_one (by omega) (by omega) (by omega) (by omega)) (by exact rangeSize_nat _ _) lF' lN' (by rfl) (by rfl) (by rfl) ?hC ?e1 ?e2 ?e3 ?e4 ?e5 ?hI ?hs (fun j' k' t' u' h' tk' own' vs' ns' c' ms' ks' cn' qs' xs' cp' hj' hoff' iS' sO' iN' iP' lO' F' N' => ?_) (fun u' h' tk' vs' ns' c' ms' ks' cn' qs' xs' cp' iS' sO' iN' iP' lO' F' N' => ?_)); (case hC => assumption); (case e1 => k_mem); (case e2 => k_mem); (case e3 => k_mem); (case e4 => k_mem); (case e5 => k_mem); (case hI => assumption); (case hs => assumption); (all_goals (try ((have hj9 : j' < 12 := by omega); (obtain ⟨n1', n2', n3', n4'⟩ := Mine.loop_lens iN' iP' lO'); (have kM := kstMark)))); (all_goals (try k_fold)))))
local macro_rules | `(tactic| walk_at "call builtin:str.join") => `(tactic| (k_here; k_dflt (refine' join_listC ?k1 ?k2 ?k3 ?k4 ?_; (case k1 => exact Mine.mem_news (by k_asm) (by k_mem)); (case k2 => assumption); (case k3 => decide); (case k4 => exact Mine.LoopOk.fits (by assumption) (by omega))); intro t' tk'))
local macro_rules | `(tactic| walk_at "call ref") => `(tactic| (k_here; (with_reducible show wpAny _ _ (call (Value.ref 19) _) _ _ _); k_dflt (refine' Mine.head_tells _ _ _ _ _ _ _ _ _ _ _ _ _ _ _ _ _ _ _ _ _ _ _ _ _ _ ?k1 ?k2 ?k3 ?k4 ?k5 ?k6 ?k7 ?k8 ?k9 ?k10 ?_; (case k1 => k_asm); (case k2 => k_asm); (case k3 => k_asm); (case k4 => k_asm); (case k5 => k_asm); (case k6 => exact rfl); (case k7 => ktr_room); (case k8 => exact Mine.LoopOk.read (by assumption) (by omega)); (case k9 => exact Mine.LoopOk.joined (by assumption) (by omega)); (case k10 => exact Mine.LoopOk.small (by assumption) (by omega))); intro D' vs' c' h' tk' I' F' N' o1'; (try simp only [LCg.Off1, and_true] at o1'); (try dsimp only); (try k_fold)))
local macro_rules | `(tactic| walk_at "call ref") => `(tactic| (k_here; (with_reducible show wpAny _ _ (call (Value.ref 31) _) _ _ _); k_dflt (refine' Mine.ac_tells _ _ _ _ _ _ _ _ _ _ _ _ _ _ _ _ _ _ _ _ _ _ _ _ _ _ ?k1 ?k2 ?k3 ?k4 ?k5 ?k6 ?k7 ?k8 ?k9 ?k10 ?_; (case k1 => k_asm); (case k2 => k_asm); (case k3 => k_asm); (case k4 => k_asm); (case k5 => k_asm); (case k6 => exact rfl); (case k7 => ktr_room); (case k8 => exact Mine.LoopOk.read (by assumption) (by omega)); (case k9 => exact Mine.LoopOk.joined (by assumption) (by omega)); (case k10 => exact Mine.LoopOk.small (by assumption) (by omega))); intro D' vs' c' h' tk' I' F' N'; (try dsimp only); (try k_fold)))
local macro_rules | `(tactic| walk_at "CompRestT") => `(tactic| (k_here; k_dflt ((with_unfolding_all (refine' Mine.filt_notin ?k1 ?k2 ?k3 ?k4 ?k5 ?k6 (by intro C; rfl) (by intro C; rfl) (by decide) (fun k' t' I' oI' C' oC' D' m' ys' h' tk' E' hk' hC' hx' F' N' off' ne' => ?_) (fun ys' I' => ?_))); (case k1 => assumption); (case k2 => k_mem); (case k3 => k_mem); (case k4 => assumption); (case k5 => assumption); (case k6 => exact Or.inr ⟨_, by k_mem, rfl, _, rfl⟩); (all_goals (try simp only [LCg.Off3, and_true] at off')))))
local macro_rules | `(tactic| walk_at "compareOp NotIn int ref") => `(tactic| (k_here; k_dflt (refine' notin_list_ints ?k1 ?k2 ?_; (case k1 => exact Mine.mem_news (by k_asm) (by k_mem)); (case k2 => assumption))))
local macro_rules | `(tactic| walk_at "binaryOp Add ref ref") => `(tactic| (k_here; (with_reducible show wpAny _ _ (binaryOp _ (Value.ref _) (Value.ref _)) _ _ _); k_dflt (refine' kmk_add_ints ?F ?N ?a ?b ?i ?j ?_ ?z; (case F => k_asm); (case N => k_asm); (case a => exact Mine.mem_news (by k_asm) (by k_mem)); (case b => exact Mine.mem_news (by k_asm) (by k_mem)); (case i => assumption); (case j => first | assumption | exact .cons _ _ .nil); (case z => first | exact Mine.filt_size (Mine.LoopOk.small (by assumption) (by omega)) | (rw [PySem.sizeLine_eq]; simp only [List.length_cons, List.length_nil]; omega))); intro D' ws' h' F' N' l1 hI'; (try k_lt l1)))
local macro_rules | `(tactic| walk_at "call type:tuple") => `(tactic| (k_here; (with_reducible show wpAny _ _ (call (Value.type _) [Value.ref _]) _ _ _); k_dflt (refine' kde_tupleOf ?k1 ?k2 ?k3 ?k4 (by exact rfl) ?_; (case k1 => k_asm); (case k2 => k_asm); (case k3 => exact Mine.mem_news (by k_asm) (by k_mem)); (case k4 => exact Mine.ints_size (by assumption) (Mine.LoopOk.small (by assumption) (by omega)))); intro D' h' F' N' l1; (try k_lt l1)))
local macro_rules | `(tactic| walk_at "subscriptTail Name Call ref int") => `(tactic| (k_here; k_dflt (refine' Mine.item_due ?k1 ?k2 ?k3 ?k4 ?k5 ?_ ?k6; (case k1 => k_asm); (case k2 => k_mem); (case k3 => assumption); (case k4 => assumption); (case k5 => assumption); (case k6 => with_unfolding_all rfl)); intro n' t' hn'))
local macro_rules | `(tactic| walk_at "subscriptTail Name BinOp str int") => `(tactic| (k_here; (with_reducible show wpAny _ _ (subscriptTail _ _ (Value.str _ _) (Value.int (Int.fdiv _ _) _)) _ _ _); k_dflt (refine' Mine.fig_div ?k1 ?_ ?k2 ?k3; (case k1 => assumption); (case k2 => with_unfolding_all rfl); (case k3 => intro _; with_unfolding_all rfl)); intro t' tk'))
local macro_rules | `(tactic| walk_at "subscriptTail Name BinOp str int") => `(tactic| (k_here; (with_reducible show wpAny _ _ (subscriptTail _ _ (Value.str _ _) (Value.int (Int.fmod _ _) _)) _ _ _); k_dflt (refine' Mine.fig_mod ?k1 ?_ ?k2 ?k3; (case k1 => assumption); (case k2 => with_unfolding_all rfl); (case k3 => intro _; with_unfolding_all rfl)); intro t' tk'))
local macro_rules | `(tactic| walk_at "binaryOp Add str str") => `(tactic| (k_here; (refine add_str ?_ (Mine.item_add _ _ _ _)); intro t' tk'))
local macro_rules | `(tactic| walk_at "call builtin:list.append") => `(tactic| (k_here; k_dflt (refine' Mine.append_L ?k1 ?k2 ?k3 ?_ ?k5; (case k1 => k_asm); (case k2 => k_asm); (case k3 => k_updF); (case k5 => omega)); intro h' F' N'; (try dsimp only at N')))
local macro_rules | `(tactic| walk_at "TurnOk") => `(tactic| k_dflt (exact Mine.TurnOk.intro (by k_asm) (by k_asm) (by kst_same) (by k_mem) (by k_mem) (by k_mem) (by exact List.forall_mem_cons.mpr ⟨by k_mem, List.forall_mem_cons.mpr ⟨by k_mem, List.forall_mem_nil _⟩⟩) (by intro p hp; kst_mem) (by assumption) (by assumption) (by exact Mine.ints_push (by assumption) _ _) (by exact Mine.strs_push (by assumption) _ _) (by exact Mine.LoopOk.snoc (by assumption) (by assumption))))
local macro_rules | `(tactic| walk_at "compareOp Eq ref ref") => `(tactic| (k_here; (with_reducible show wpAny _ _ (compareOp CmpOp.Eq (Value.ref _) (Value.ref _)) _ _ _); k_dflt (refine' Mine.eq_tups ?k1 ?k2 ?k3 ?k4 ?k5 ?k6 ?_; (case k1 => k_asm); (case k2 => k_mem); (case k3 => k_mem); (case k4 => assumption); (case k5 => assumption); (case k6 => ke_room))))
theorem PySem.Challenge.cw_xm0791_01_holds : PySem.Challenge.rw_xm0791_01.Holds := by
  k_with_none
  refine Mine.hd ?_
  k_go0; (all_goals try k_fold); k_steps
end
