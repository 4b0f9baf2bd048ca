import PyProof.Rows.All
import Wide.All
import OpenK.AllK
import Wide.FinOn
import Lean
import PySem.Challenge.RW_nz0266_01
open PySem PySem.W PySem.Calls PyProof.Rows
set_option Elab.async false
set_option maxRecDepth 100000
namespace Nz
set_option maxHeartbeats 8000000 in
open_top hd for PySem.Challenge.rw_nz0266_01
end Nz

/-! part NzLib -/
namespace Nz
abbrev Al := List (Addr × Obj)

section
variable {prog : Program} {w : World} {A : Around} {E : Value → Shared → Prop} {s : Shared} {h₀ : Heap} {L : Addr} {m : Str → Option Value} {env : Env}

/-- what an iterable hands to a comprehension: a fresh iterator, and all its turns -/
def ItAt (prog : Program) (w : World) (A : Around) (h₀ : Heap) (L : Addr) (m : Str → Option Value) (env : Env) (elt : Expr) (x : Str) (scope : Scope) (cl : List (Str × Addr))
    (Fin : Shared → List Value → Al → Prop) (it : Value) (s₂ : Shared) : Prop :=
  ∃ (I : Addr) (n : Nat) (P : Nat → Value → Prop) (St : Nat → Heap → Prop) (news : Al), it = .ref I ∧ Walks prog w A I [I] [I] n P St ∧ n ≤ sizeLine ∧ (∀ i h, St i h → ∃ o, h.get? I = some o) ∧
    St 0 s₂.heap ∧ I < s₂.heap.objs.size ∧ Fr h₀ L s₂.heap m ∧ News h₀ L s₂.heap news ∧ L ≠ I ∧ h₀.get? I = none ∧ (∀ p ∈ news, p.1 ≠ I) ∧
    LCg.CompRest prog w A h₀ L m env elt x scope cl s₂ (fun _ => True) P (Fin s₂) n 0 [] news

theorem ListComp_W {elt iter : Expr} {x : Str} {px : Pos} {scope : Scope} {cl : List (Str × Addr)} {pos : Pos} {Q : Value → Shared → Prop} (_F₀ : Fr h₀ L s.heap m)
    (hclos : closureFor scope env = pure cl) (hcell : ∀ y ∈ scope.names, y.2 ≠ .cell) (hkind : scope.kind = .function)
    (hnames : ∀ y ∈ scope.names, y.2 = .local → scope.names.lookup y.1 = some .local) (hx : scope.names.lookup x = some .local)
    (h : wpAny (model prog w) A (eval iter env) (fun xv s₁ => wpAny (model prog w) A (pyIter xv) (ItAt prog w A h₀ L m env elt x scope cl (fun s₂ => LCg.FinE h₀ L m s₂ Q)) E s₁) E s)
    (hs : ∀ x, foldedSetIterable iter env x = pure x := by intro _; rfl) :
    wpAny (model prog w) A (eval (.ListComp elt [⟨.Name x px, iter, [], 0⟩] scope pos) env) Q E s := by
  rw [eval_ListComp]
  refine wpAny_comprehension_free (use := none) rfl hs hclos hkind hnames (wpAny_mono h (fun xv s₁ h₁ => wpAny_mono h₁ (fun it s₂ h₂ => ?_) fun _ _ e => e) fun _ _ e => e)
  obtain ⟨I, n, P, St, news, rfl, W, hsz, hIo, hst, hI, F, N, hLI, hI0, off, R⟩ := h₂
  refine LCg.block_U (S := fun _ => True) W hsz hIo (fun i h h' o nw st e e' _ _ _ => ?_) hcell hkind hx hst (fun b hb => ?_) F N hLI hI0 off trivial R ?_
  · refine W.frame i h h' st fun b hb o' q => ?_
    rw [List.mem_singleton.mp hb] at q ⊢
    rw [e] at q
    cases q
    exact e'
  · rw [List.mem_singleton.mp hb]
    exact hI
  · intro D C h tk m' ys news' F' N' o1 hn hC₀ hD₀ hCL hDL hCD offC fin
    refine ⟨m', hn, fun h'' hs'' => fin D h'' tk (F'.change hs'' hCL hC₀) (fun p hp => ?_) o1⟩
    refine ⟨hs''.extBut _ _ ?_ (N' p hp).1, (N' p hp).2⟩
    rcases List.mem_cons.mp hp with rfl | hp
    · exact Ne.symm hCD
    · exact offC p hp

/-- bytes -/
theorem it_bytes {elt : Expr} {x : Str} {scope : Scope} {cl : List (Str × Addr)} {Fin : Shared → List Value → Al → Prop} {b : Array UInt8} {t : Tok} {news : Al}
    (hh : A.handled = none) (F : Fr h₀ L s.heap m) (N : News h₀ L s.heap news) (hsz : b.size ≤ sizeLine)
    (R : ∀ g, LCg.CompRest prog w A h₀ L m env elt x scope cl { s with heap := g } (fun _ => True) (fun i v => ∃ c u, b[i]? = some c ∧ v = .int (c.toNat : Int) u) (Fin { s with heap := g }) b.size 0 [] news) :
    wpAny (model prog w) A (pyIter (.bytes b t)) (ItAt prog w A h₀ L m env elt x scope cl Fin) E s := by
  refine KBw.pyIter_bytes ?_
  refine ⟨s.heap.objs.size, b.size, _, _, news, rfl, KBw.walks hh _ b t, hsz, fun i h st => let ⟨o, e, _⟩ := st; ⟨o, e⟩, ⟨_, Heap.get?_push_size _ rfl, rfl, rfl⟩, ?_, F.push _,
    fun p hp => ⟨Heap.get?_push_of_some _ (N p hp).1, (N p hp).2⟩, Nat.ne_of_lt F.ns.lt, next_is_new F, fun p hp => Nat.ne_of_lt (Heap.lt_size (N p hp).1), R _⟩
  show _ < (s.heap.push _).objs.size
  rw [Heap.size_push]
  exact Nat.lt_succ_self _

/-- a text -/
theorem it_str {elt : Expr} {x : Str} {scope : Scope} {cl : List (Str × Addr)} {Fin : Shared → List Value → Al → Prop} {b : Str} {t : Tok} {news : Al}
    (hh : A.handled = none) (F : Fr h₀ L s.heap m) (N : News h₀ L s.heap news) (hsz : b.cps.size ≤ sizeLine)
    (R : ∀ g, LCg.CompRest prog w A h₀ L m env elt x scope cl { s with heap := g } (fun _ => True) (SignAt b) (Fin { s with heap := g }) b.cps.size 0 [] news) :
    wpAny (model prog w) A (pyIter (.str b t)) (ItAt prog w A h₀ L m env elt x scope cl Fin) E s := by
  have lt : ∀ o : Obj, s.heap.objs.size < (s.heap.push o).objs.size := fun o => by rw [Heap.size_push]; exact Nat.lt_succ_self _
  cases ha : b.cps.all (· < 128)
  · exact wpAny_pyIter_wide ha ⟨s.heap.objs.size, b.cps.size, _, _, news, rfl, Walks.strWide hh _ b t, hsz, fun i h st => let ⟨o, e, _⟩ := st; ⟨o, e⟩, ⟨_, Heap.get?_push_size _ rfl, rfl, rfl⟩, lt _, F.push _,
      fun p hp => ⟨Heap.get?_push_of_some _ (N p hp).1, (N p hp).2⟩, Nat.ne_of_lt F.ns.lt, next_is_new F, fun p hp => Nat.ne_of_lt (Heap.lt_size (N p hp).1), R _⟩
  · exact wpAny_pyIter_ascii ha ⟨s.heap.objs.size, b.cps.size, _, _, news, rfl, Walks.strAscii hh _ b t, hsz, fun i h st => let ⟨o, e, _⟩ := st; ⟨o, e⟩, ⟨_, Heap.get?_push_size _ rfl, rfl, rfl⟩, lt _, F.push _,
      fun p hp => ⟨Heap.get?_push_of_some _ (N p hp).1, (N p hp).2⟩, Nat.ne_of_lt F.ns.lt, next_is_new F, fun p hp => Nat.ne_of_lt (Heap.lt_size (N p hp).1), R _⟩

/-- the turns by an invariant over what is made and the ledger -/
theorem comp_inv {elt : Expr} {x : Str} {scope : Scope} {cl : List (Str × Addr)} {S : Al → Prop} {P : Nat → Value → Prop} {Fin : List Value → Al → Prop} {n : Nat} {news : Al}
    (J : Nat → List Value → Al → Prop)
    (start : J 0 [] news)
    (turn : ∀ i v nx I oI C oC D m₂ ys h tk (E' : Value → Shared → Prop), i < n → ys.length = i → P i v → J i ys nx → LCg.NsObj oC m₂ → m₂ x = some v → Fr h₀ L h m → News h₀ L h ((I, oI) :: (C, oC) :: (D, LCg.lst ys) :: nx) → LCg.Off3 I C D nx → ((@Ne Nat I C) ∧ (@Ne Nat I D) ∧ (@Ne Nat C D)) →
      wpAny (model prog w) A (eval elt (compEnvC scope cl C env)) (LCg.CompEnd h₀ L m { s with heap := h, toks := tk } I oI C oC D (LCg.lst ys) S (fun y news' => J (i + 1) (ys ++ [y]) news')) E' { s with heap := h, toks := tk })
    (fin : ∀ ys nx, ys.length = n → J n ys nx → Fin ys nx) : LCg.CompRest prog w A h₀ L m env elt x scope cl s S P Fin n 0 [] news := by
  have key : ∀ (j i : Nat) (ys : List Value) (nx : Al), i + j = n → ys.length = i → J i ys nx → LCg.CompRest prog w A h₀ L m env elt x scope cl s S P Fin j i ys nx := by
    intro j
    induction j with
    | zero =>
      intro i ys nx hi hl hy
      have e : i = n := by omega
      subst e
      exact LCg.CompRest.zero (fin ys nx hl hy)
    | succ j ih =>
      intro i ys nx hi hl hy
      refine LCg.CompRest.succ ?_
      intro v I oI C oC D m₂ h tk E' hv hC hx F N off ne
      refine wpAny_mono (turn i v nx I oI C oC D m₂ ys h tk E' (by omega) hl hv hy hC hx F N off ne) (fun y s₂ hq => ?_) fun _ _ e => e
      obtain ⟨h', tk', nw, e, F', N', off', hS, hj⟩ := hq
      exact ⟨h', tk', nw, e, F', N', off', hS, ih (i + 1) _ nw (by omega) (by rw [List.length_append, List.length_singleton, hl]) hj⟩
  exact key n 0 [] news (by omega) rfl start

/-- the turns of an element that changes nothing -/
theorem comp_map {elt : Expr} {x : Str} {scope : Scope} {cl : List (Str × Addr)} {S : Al → Prop} {P : Nat → Value → Prop} {Fin : List Value → Al → Prop} {n : Nat} {news : Al}
    (R : Nat → Value → Prop)
    (turn : ∀ i v I oI C oC D m₂ ys h tk (E' : Value → Shared → Prop), i < n → P i v → LCg.NsObj oC m₂ → m₂ x = some v → Fr h₀ L h m → News h₀ L h ((I, oI) :: (C, oC) :: (D, LCg.lst ys) :: news) → LCg.Off3 I C D news → ((@Ne Nat I C) ∧ (@Ne Nat I D) ∧ (@Ne Nat C D)) →
      wpAny (model prog w) A (eval elt (compEnvC scope cl C env)) (LCg.CompEnd h₀ L m { s with heap := h, toks := tk } I oI C oC D (LCg.lst ys) S (fun y news' => news' = news ∧ R i y)) E' { s with heap := h, toks := tk })
    (fin : ∀ ys, ys.length = n → (∀ i v, ys[i]? = some v → R i v) → Fin ys news) : LCg.CompRest prog w A h₀ L m env elt x scope cl s S P Fin n 0 [] news := by
  refine comp_inv (fun i ys nx => nx = news ∧ ∀ j v, ys[j]? = some v → R j v) ⟨rfl, by simp⟩ ?_ ?_
  · rintro i v nx I oI C oC D m₂ ys h tk E' hi hl hv ⟨rfl, hR⟩ hC hx F N off ne
    refine wpAny_mono (turn i v I oI C oC D m₂ ys h tk E' hi hv hC hx F N off ne) (fun y s₂ hq => ?_) fun _ _ e => e
    obtain ⟨h', tk', nw, e, F', N', off', hS, rfl, hy⟩ := hq
    refine ⟨h', tk', nw, e, F', N', off', hS, rfl, fun j u hj => ?_⟩
    rcases Nat.lt_trichotomy j ys.length with hlt | heq | hgt
    · exact hR j u (by rwa [List.getElem?_append_left hlt] at hj)
    · subst heq
      simp at hj
      subst hj
      rw [hl]
      exact hy
    · have hnone : (ys ++ [y])[j]? = none := List.getElem?_eq_none (by rw [List.length_append, List.length_singleton]; omega)
      rw [hnone] at hj
      cases hj
  · rintro ys nx hl ⟨rfl, hR⟩
    exact fin ys hl hR
end
end Nz

/-! part NzL2 -/
namespace Nz
/-- octets by their codes -/
def bOf (l : List Nat) : Array UInt8 := (l.map Nat.toUInt8).toArray
/-- a text by its codes -/
def sOf (l : List Nat) : Str := ⟨l.toArray⟩
def Small (l : List Nat) : Prop := ∀ c ∈ l, c < 256
theorem bOf_size (l : List Nat) : (bOf l).size = l.length := by simp [bOf]
theorem sOf_size (l : List Nat) : (sOf l).cps.size = l.length := by simp [sOf]
theorem sOf_length (l : List Nat) : (sOf l).length = l.length := sOf_size l
theorem toUInt8_toNat {c : Nat} (h : c < 256) : (c.toUInt8).toNat = c := by
  show (UInt8.ofNat c).toNat = c
  rw [UInt8.toNat_ofNat']
  exact Nat.mod_eq_of_lt h
theorem bOf_get {l : List Nat} (hs : Small l) {i : Nat} {c : UInt8} (h : (bOf l)[i]? = some c) : ∃ k, l[i]? = some k ∧ c.toNat = k ∧ k < 256 := by
  simp only [bOf, List.getElem?_toArray, List.getElem?_map, Option.map_eq_some_iff] at h
  obtain ⟨k, hk, rfl⟩ := h
  exact ⟨k, hk, toUInt8_toNat (hs k (List.mem_of_getElem? hk)), hs k (List.mem_of_getElem? hk)⟩
theorem sOf_get {l : List Nat} {i c : Nat} (h : (sOf l).cps[i]? = some c) : l[i]? = some c := by simpa [sOf] using h
theorem bOf_inj {l k : List Nat} (hl : Small l) (hk : Small k) (h : bOf l = bOf k) : l = k := by
  have e : l.map Nat.toUInt8 = k.map Nat.toUInt8 := by
    have := congrArg Array.toList h
    simpa [bOf] using this
  have q : (l.map Nat.toUInt8).map UInt8.toNat = (k.map Nat.toUInt8).map UInt8.toNat := by rw [e]
  rw [List.map_map, List.map_map] at q
  have a : l.map (UInt8.toNat ∘ Nat.toUInt8) = l := (List.map_congr_left (g := fun c => c) fun c hc => toUInt8_toNat (hl c hc)).trans (List.map_id' _)
  have b : k.map (UInt8.toNat ∘ Nat.toUInt8) = k := (List.map_congr_left (g := fun c => c) fun c hc => toUInt8_toNat (hk c hc)).trans (List.map_id' _)
  rw [a, b] at q
  exact q
theorem sOf_inj {l k : List Nat} (h : sOf l = sOf k) : l = k := by
  have := congrArg Str.cps h
  simpa [sOf] using this
theorem glue (l : List Nat) : PySem.Txt.join (PySem.Str.ofString "") (l.map fun c => (⟨#[c]⟩ : Str)) = sOf l := by
  show Builtin.Str.glued (PySem.Str.ofString "") _ = _
  rw [StrLaws.glued_eq_join]
  have key : ∀ l : List Nat, (Str.join (PySem.Str.ofString "") (l.map fun c => (⟨#[c]⟩ : Str))).cps.toList = l := by
    intro l
    induction l with
    | nil => rfl
    | cons c r ih =>
      cases r with
      | nil => rfl
      | cons d r =>
        show (((⟨#[c]⟩ : Str) ++ PySem.Str.ofString "") ++ Str.join (PySem.Str.ofString "") ((d :: r).map fun c => (⟨#[c]⟩ : Str))).cps.toList = _
        rw [PySem.Str.cps_append, Array.toList_append, ih, PySem.Str.cps_append, Array.toList_append]
        have z : (PySem.Str.ofString "").cps = #[] := by decide
        rw [z]
        rfl
  have := key l
  refine Str.ext' ?_
  rw [← Array.toList_inj, this]
  rfl

theorem ints_of {l : List Nat} (f : Nat → Int) : ∀ {ys : List Value}, ys.length = l.length → (∀ (i : Nat) (v : Value), ys[i]? = some v → ∃ c t, l[i]? = some c ∧ v = Value.int (f c) t) → IntsAre ys (l.map f) := by
  induction l with
  | nil =>
    intro ys hl _
    cases ys with
    | nil => exact .nil
    | cons _ _ => cases hl
  | cons c r ih =>
    intro ys hl h
    cases ys with
    | nil => cases hl
    | cons y ys =>
      obtain ⟨c', t, hc, rfl⟩ := h 0 y rfl
      cases hc
      exact .cons _ t (ih (by simpa using hl) fun i v hi => h (i + 1) v (by simpa using hi))
theorem strs_of {l : List Nat} (f : Nat → Str) : ∀ {ys : List Value}, ys.length = l.length → (∀ (i : Nat) (v : Value), ys[i]? = some v → ∃ c t, l[i]? = some c ∧ v = Value.str (f c) t) → StrsAre ys (l.map f) := by
  induction l with
  | nil =>
    intro ys hl _
    cases ys with
    | nil => exact .nil
    | cons _ _ => cases hl
  | cons c r ih =>
    intro ys hl h
    cases ys with
    | nil => cases hl
    | cons y ys =>
      obtain ⟨c', t, hc, rfl⟩ := h 0 y rfl
      cases hc
      exact .cons _ t (ih (by simpa using hl) fun i v hi => h (i + 1) v (by simpa using hi))

section
variable {prog : Program} {w : World} {A : Around} {E : Value → Shared → Prop} {s : Shared} {h₀ : Heap} {L : Addr} {m : Str → Option Value} {env : Env}
/-- a comprehension over octets, an int each -/
theorem it_bytes_ints {elt : Expr} {x : Str} {scope : Scope} {cl : List (Str × Addr)} {Fin : Shared → List Value → Al → Prop} {l : List Nat} {t : Tok} {news : Al} (f : Nat → Int)
    (hh : A.handled = none) (F : Fr h₀ L s.heap m) (N : News h₀ L s.heap news) (hsz : l.length ≤ 1000) (hs : Small l)
    (turn : ∀ c u I oI C oC D m₂ ys h tk (E' : Value → Shared → Prop), c ∈ l → c < 256 → LCg.NsObj oC m₂ → m₂ x = some (.int (c : Int) u) → Fr h₀ L h m → News h₀ L h ((I, oI) :: (C, oC) :: (D, LCg.lst ys) :: news) → LCg.Off3 I C D news → ((@Ne Nat I C) ∧ (@Ne Nat I D) ∧ (@Ne Nat C D)) →
      wpAny (model prog w) A (eval elt (compEnvC scope cl C env)) (LCg.CompEnd h₀ L m { s with heap := h, toks := tk } I oI C oC D (LCg.lst ys) (fun _ => True) (fun y news' => news' = news ∧ ∃ t', y = .int (f c) t')) E' { s with heap := h, toks := tk })
    (fin : ∀ g ys, IntsAre ys (l.map f) → Fin { s with heap := g } ys news) :
    wpAny (model prog w) A (pyIter (.bytes (bOf l) t)) (ItAt prog w A h₀ L m env elt x scope cl Fin) E s := by
  refine it_bytes hh F N (by rw [bOf_size, PySem.sizeLine_eq]; omega) fun g => ?_
  refine comp_map (fun i v => ∃ c t', l[i]? = some c ∧ v = .int (f c) t') ?_ ?_
  · rintro i v I oI C oC D m₂ ys h tk E' hi ⟨c, u, hc, rfl⟩ hC hx F9 N9 off ne
    obtain ⟨k, hk, e, hlt⟩ := bOf_get hs hc
    rw [e] at hx
    refine wpAny_mono (turn k u I oI C oC D m₂ ys h tk E' (List.mem_of_getElem? hk) hlt hC hx F9 N9 off ne) (fun y s₂ hq => ?_) fun _ _ e => e
    obtain ⟨h', tk', nw, e, F', N', off', hS, rfl, t', hy⟩ := hq
    exact ⟨h', tk', nw, e, F', N', off', hS, rfl, k, t', hk, hy⟩
  · intro ys hl hy
    rw [bOf_size] at hl
    exact fin g ys (ints_of f hl hy)
/-- a comprehension over octets, a text each -/
theorem it_bytes_strs {elt : Expr} {x : Str} {scope : Scope} {cl : List (Str × Addr)} {Fin : Shared → List Value → Al → Prop} {l : List Nat} {t : Tok} {news : Al} (f : Nat → Str)
    (hh : A.handled = none) (F : Fr h₀ L s.heap m) (N : News h₀ L s.heap news) (hsz : l.length ≤ 1000) (hs : Small l)
    (turn : ∀ c u I oI C oC D m₂ ys h tk (E' : Value → Shared → Prop), c ∈ l → c < 256 → LCg.NsObj oC m₂ → m₂ x = some (.int (c : Int) u) → Fr h₀ L h m → News h₀ L h ((I, oI) :: (C, oC) :: (D, LCg.lst ys) :: news) → LCg.Off3 I C D news → ((@Ne Nat I C) ∧ (@Ne Nat I D) ∧ (@Ne Nat C D)) →
      wpAny (model prog w) A (eval elt (compEnvC scope cl C env)) (LCg.CompEnd h₀ L m { s with heap := h, toks := tk } I oI C oC D (LCg.lst ys) (fun _ => True) (fun y news' => news' = news ∧ ∃ t', y = .str (f c) t')) E' { s with heap := h, toks := tk })
    (fin : ∀ g ys, StrsAre ys (l.map f) → Fin { s with heap := g } ys news) :
    wpAny (model prog w) A (pyIter (.bytes (bOf l) t)) (ItAt prog w A h₀ L m env elt x scope cl Fin) E s := by
  refine it_bytes hh F N (by rw [bOf_size, PySem.sizeLine_eq]; omega) fun g => ?_
  refine comp_map (fun i v => ∃ c t', l[i]? = some c ∧ v = .str (f c) t') ?_ ?_
  · rintro i v I oI C oC D m₂ ys h tk E' hi ⟨c, u, hc, rfl⟩ hC hx F9 N9 off ne
    obtain ⟨k, hk, e, hlt⟩ := bOf_get hs hc
    rw [e] at hx
    refine wpAny_mono (turn k u I oI C oC D m₂ ys h tk E' (List.mem_of_getElem? hk) hlt hC hx F9 N9 off ne) (fun y s₂ hq => ?_) fun _ _ e => e
    obtain ⟨h', tk', nw, e, F', N', off', hS, rfl, t', hy⟩ := hq
    exact ⟨h', tk', nw, e, F', N', off', hS, rfl, k, t', hk, hy⟩
  · intro ys hl hy
    rw [bOf_size] at hl
    exact fin g ys (strs_of f hl hy)
/-- a comprehension over a text, an int each -/
theorem it_str_ints {elt : Expr} {x : Str} {scope : Scope} {cl : List (Str × Addr)} {Fin : Shared → List Value → Al → Prop} {l : List Nat} {t : Tok} {news : Al} (f : Nat → Int)
    (hh : A.handled = none) (F : Fr h₀ L s.heap m) (N : News h₀ L s.heap news) (hsz : l.length ≤ 1000) (hs : Small l)
    (turn : ∀ c u I oI C oC D m₂ ys h tk (E' : Value → Shared → Prop), c ∈ l → c < 256 → LCg.NsObj oC m₂ → m₂ x = some (.str ⟨#[c]⟩ u) → Fr h₀ L h m → News h₀ L h ((I, oI) :: (C, oC) :: (D, LCg.lst ys) :: news) → LCg.Off3 I C D news → ((@Ne Nat I C) ∧ (@Ne Nat I D) ∧ (@Ne Nat C D)) →
      wpAny (model prog w) A (eval elt (compEnvC scope cl C env)) (LCg.CompEnd h₀ L m { s with heap := h, toks := tk } I oI C oC D (LCg.lst ys) (fun _ => True) (fun y news' => news' = news ∧ ∃ t', y = .int (f c) t')) E' { s with heap := h, toks := tk })
    (fin : ∀ g ys, IntsAre ys (l.map f) → Fin { s with heap := g } ys news) :
    wpAny (model prog w) A (pyIter (.str (sOf l) t)) (ItAt prog w A h₀ L m env elt x scope cl Fin) E s := by
  refine it_str hh F N (by rw [sOf_size, PySem.sizeLine_eq]; omega) fun g => ?_
  refine comp_map (fun i v => ∃ c t', l[i]? = some c ∧ v = .int (f c) t') ?_ ?_
  · rintro i v I oI C oC D m₂ ys h tk E' hi ⟨c, u, hc, rfl⟩ hC hx F9 N9 off ne
    have hk := sOf_get hc
    refine wpAny_mono (turn c u I oI C oC D m₂ ys h tk E' (List.mem_of_getElem? hk) (hs _ (List.mem_of_getElem? hk)) hC hx F9 N9 off ne) (fun y s₂ hq => ?_) fun _ _ e => e
    obtain ⟨h', tk', nw, e, F', N', off', hS, rfl, t', hy⟩ := hq
    exact ⟨h', tk', nw, e, F', N', off', hS, rfl, c, t', hk, hy⟩
  · intro ys hl hy
    rw [sOf_size] at hl
    exact fin g ys (ints_of f hl hy)
/-- a comprehension over a text, a text each -/
theorem it_str_strs {elt : Expr} {x : Str} {scope : Scope} {cl : List (Str × Addr)} {Fin : Shared → List Value → Al → Prop} {l : List Nat} {t : Tok} {news : Al} (f : Nat → Str)
    (hh : A.handled = none) (F : Fr h₀ L s.heap m) (N : News h₀ L s.heap news) (hsz : l.length ≤ 1000) (hs : Small l)
    (turn : ∀ c u I oI C oC D m₂ ys h tk (E' : Value → Shared → Prop), c ∈ l → c < 256 → LCg.NsObj oC m₂ → m₂ x = some (.str ⟨#[c]⟩ u) → Fr h₀ L h m → News h₀ L h ((I, oI) :: (C, oC) :: (D, LCg.lst ys) :: news) → LCg.Off3 I C D news → ((@Ne Nat I C) ∧ (@Ne Nat I D) ∧ (@Ne Nat C D)) →
      wpAny (model prog w) A (eval elt (compEnvC scope cl C env)) (LCg.CompEnd h₀ L m { s with heap := h, toks := tk } I oI C oC D (LCg.lst ys) (fun _ => True) (fun y news' => news' = news ∧ ∃ t', y = .str (f c) t')) E' { s with heap := h, toks := tk })
    (fin : ∀ g ys, StrsAre ys (l.map f) → Fin { s with heap := g } ys news) :
    wpAny (model prog w) A (pyIter (.str (sOf l) t)) (ItAt prog w A h₀ L m env elt x scope cl Fin) E s := by
  refine it_str hh F N (by rw [sOf_size, PySem.sizeLine_eq]; omega) fun g => ?_
  refine comp_map (fun i v => ∃ c t', l[i]? = some c ∧ v = .str (f c) t') ?_ ?_
  · rintro i v I oI C oC D m₂ ys h tk E' hi ⟨c, u, hc, rfl⟩ hC hx F9 N9 off ne
    have hk := sOf_get hc
    refine wpAny_mono (turn c u I oI C oC D m₂ ys h tk E' (List.mem_of_getElem? hk) (hs _ (List.mem_of_getElem? hk)) hC hx F9 N9 off ne) (fun y s₂ hq => ?_) fun _ _ e => e
    obtain ⟨h', tk', nw, e, F', N', off', hS, rfl, t', hy⟩ := hq
    exact ⟨h', tk', nw, e, F', N', off', hS, rfl, c, t', hk, hy⟩
  · intro ys hl hy
    rw [sOf_size] at hl
    exact fin g ys (strs_of f hl hy)
/-- octets of a list of ints -/
theorem bytes_of {D : Addr} {ys : List Value} {ks : List Nat} {news : Al} {Q : Value → Shared → Prop} (F : Fr h₀ L s.heap m) (N : News h₀ L s.heap news) (hl : s.heap.IsList D ys.toArray) (hi : IntsAre ys (ks.map fun c => ((c : Nat) : Int)))
    (hr : Small ks) (hz : ks.length ≤ 1000) (hh : A.handled = none) (h : ∀ h' t k, Fr h₀ L h' m → News h₀ L h' news → Q (.bytes (bOf ks) t) { s with heap := h', toks := k }) :
    wpAny (model prog w) A (call (.type "bytes") [.ref D]) Q E s := by
  have hlen := hi.length
  rw [List.length_map] at hlen
  refine bytes_K F N hl hi (fun n hn => ?_) (by rw [PySem.sizeLine_eq]; omega) hh fun h' t k F' N' _ => ?_
  · obtain ⟨c, hc, rfl⟩ := List.mem_map.mp hn
    have := hr c hc
    omega
  · have e : (List.map (fun n => n.toNat.toUInt8) (ks.map fun c => ((c : Nat) : Int))).toArray = bOf ks := by
      unfold bOf
      rw [List.map_map]
      rfl
    rw [e]
    exact h h' t k F' N'
/-- a text of a list of signs -/
theorem text_of {D : Addr} {ys : List Value} {ks : List Nat} {t : Tok} {Q : Value → Shared → Prop} (hl : s.heap.IsList D ys.toArray) (hi : StrsAre ys (ks.map fun c => (⟨#[c]⟩ : Str))) (hz : ks.length ≤ 1000)
    (h : ∀ t' k, Q (.str (sOf ks) t') { s with toks := k }) : wpAny (model prog w) A (call (.builtin "str.join") [.str (PySem.Str.ofString "") t, .ref D]) Q E s := by
  have hc := hi.carried
  rw [List.map_map] at hc
  refine KT.join_1 (l := ks) (g := fun c => (⟨#[c]⟩ : Str)) hl hc (fun _ _ => rfl) (by omega) fun t' k _ => ?_
  rw [glue]
  exact h t' k
end
section
variable {prog : Program} {w : World} {A : Around} {E : Value → Shared → Prop} {s : Shared} {l k : List Nat} {t u : Tok} {Q : Value → Shared → Prop}
theorem len_bO (hz : l.length ≤ 1000) (h : ∀ t' k', Q (.int (l.length : Int) t') { s with toks := k' }) : wpAny (model prog w) A (call (.builtin "len") [.bytes (bOf l) t]) Q E s :=
  len_bytes (by rw [bOf_size]; omega) (by rw [bOf_size]; exact h _ _)
theorem len_sO (hz : l.length ≤ 1000) (h : ∀ t' k', Q (.int (l.length : Int) t') { s with toks := k' }) : wpAny (model prog w) A (call (.builtin "len") [.str (sOf l) t]) Q E s :=
  P.len_str (by rw [sOf_length]; omega) (by rw [sOf_length]; exact h _ _)
theorem bOf_eq (hl : Small l) (hk : Small k) : ((bOf l).toList == (bOf k).toList) = decide (l = k) := by
  rw [Bool.eq_iff_iff, beq_iff_eq, decide_eq_true_iff]
  exact ⟨fun e => bOf_inj hl hk (Array.toList_inj.mp e), fun e => by rw [e]⟩
theorem sOf_eq : ((sOf l) == (sOf k)) = decide (l = k) := by
  rw [Bool.eq_iff_iff, beq_iff_eq, decide_eq_true_iff]
  exact ⟨sOf_inj, fun e => by rw [e]⟩
theorem eq_bO (hl : Small l) (hk : Small k) (h : Q (.bool (decide (l = k))) s) : wpAny (model prog w) A (compareOp .Eq (.bytes (bOf l) t) (.bytes (bOf k) u)) Q E s := eq_bytes (by rw [bOf_eq hl hk]; exact h)
theorem ne_bO (hl : Small l) (hk : Small k) (h : Q (.bool (!decide (l = k))) s) : wpAny (model prog w) A (compareOp .NotEq (.bytes (bOf l) t) (.bytes (bOf k) u)) Q E s := ne_bytes (by rw [bne, bOf_eq hl hk]; exact h)
theorem item_bO {value slice : Expr} {i : Nat} {ui : Tok} (hs' : Small l) (hz : l.length ≤ 1000) (hi : i < l.length) (h : ∀ t' k', Q (.int ((l.getD i 0 : Nat) : Int) t') { s with toks := k' })
    (hs : subscripted slice false (.bytes (bOf l) t) (.int (i : Int) ui) = operate [.bytes (bOf l) t, .int (i : Int) ui] (getItem (.bytes (bOf l) t) (.int (i : Int) ui)) := by with_unfolding_all rfl)
    (ht : ∀ r, letTemporaryGo value (.bytes (bOf l) t) r = pure () := by intro _; with_unfolding_all rfl) : wpAny (model prog w) A (subscriptTail value slice (.bytes (bOf l) t) (.int (i : Int) ui)) Q E s := by
  refine KBy.item_N (x := l.map Nat.toUInt8) (by rw [List.length_map]; omega) (by omega) (by rw [List.length_map]; omega) ?_ hs ht
  have e : ((l.map Nat.toUInt8).getD (i : Int).toNat 0).toNat = l.getD i 0 := by
    rw [Int.toNat_natCast]
    have h1 : (l.map Nat.toUInt8)[i]? = some (l[i]).toUInt8 := by simp [hi]
    have h2 : l[i]? = some l[i] := by simp [hi]
    rw [List.getD_eq_getElem?_getD, List.getD_eq_getElem?_getD, h1, h2]
    exact toUInt8_toNat (hs' _ (List.getElem_mem hi))
  rw [e]
  exact h _ _
theorem item_sO {value slice : Expr} {i : Nat} {ui : Tok} (hz : l.length ≤ 1000) (hi : i < l.length) (h : ∀ t' k', Q (.str ⟨#[l.getD i 0]⟩ t') { s with toks := k' })
    (hs : subscripted slice false (.str (sOf l) t) (.int (i : Int) ui) = operate [.str (sOf l) t, .int (i : Int) ui] (getItem (.str (sOf l) t) (.int (i : Int) ui)) := by with_unfolding_all rfl)
    (ht : ∀ r, letTemporaryGo value (.str (sOf l) t) r = pure () := by intro _; with_unfolding_all rfl) : wpAny (model prog w) A (subscriptTail value slice (.str (sOf l) t) (.int (i : Int) ui)) Q E s := by
  refine tail_of_ItemOn ⟨"str", _, F.slot_str_getitem.lookup, typeIs_str _ _ _, P.getItem_str (c := l.getD i 0) ?_ ?_ (h _ _)⟩ hs ht
  · have a : ¬ ((i : Int) < -(2 ^ 63 : Int)) := by omega
    have b : ¬ ((i : Int) ≥ 2 ^ 63) := by omega
    rw [decide_eq_false a, decide_eq_false b]
    rfl
  · have e1 : seqIndex? (i : Int) (sOf l).length = some i := by
      rw [sOf_length]
      unfold seqIndex?
      have a : ¬ ((i : Int) < 0) := by omega
      simp only [a, if_false]
      have b : (0 ≤ (i : Int) ∧ (i : Int) < (l.length : Int)) := by omega
      simp [hi]
    rw [e1]
    show (sOf l).cps[i]? = _
    have h2 : l[i]? = some l[i] := by simp [hi]
    rw [List.getD_eq_getElem?_getD, h2]
    simp [sOf, hi]
end
end Nz

/-! part NzC1 -/
namespace Nz
/-- a call of the def at f, made in a def's frame -/
def Ct (w : World) (mean : ExcName → Option Value) (mg mb : Str → Option Value) (f : Addr) (k : Nat) (vs : List Value) (news : Al) (Post : Value → Al → Prop) : Prop :=
  ∀ (dp un : Nat) (gd : Option (List Code)) (cn : Str) (cs : Scope) (a : Addr) (ccd : Value) (cl : List (Str × Addr)) (outer : List Env) (A₀ : Around) (base h₀ : Heap) (L : Addr) (m : Str → Option Value) (s : Shared) (Q E : Value → Shared → Prop),
    Below A₀ base outer h₀ → Fr h₀ L s.heap m → (hd.heap_39 w.params).In h₀ → News h₀ L s.heap news → Top hd.view_39 (looseW hd.view_39 [Str.ofString "PostError", Str.ofString "_law_signs"]) mean mg mb h₀ → cs.kind = .function →
    dp + k < recursionLimit → un + 100 * k < cLine →
    (∀ v news' h' tk', Post v news' → Fr h₀ L h' m → News h₀ L h' news' → Q v { s with heap := h', toks := tk' }) →
    wpAny (model PySem.Challenge.rw_nz0266_01.row.prog w) (ktrTop dp un gd cn cs L a ccd cl outer) (call (.ref f) vs) Q E s

theorem Ct.use {w : World} {mean : ExcName → Option Value} {mg mb : Str → Option Value} {f : Addr} {k : Nat} {vs : List Value} {news : Al} {Post : Value → Al → Prop} (C : Ct w mean mg mb f k vs news Post)
    {dp un : Nat} {gd : Option (List Code)} {cn : Str} {cs : Scope} {a : Addr} {ccd : Value} {cl : List (Str × Addr)} {outer : List Env} {A₀ : Around} {base h₀ : Heap} {L : Addr} {m : Str → Option Value} {s : Shared} {Q E : Value → Shared → Prop}
    (B : Below A₀ base outer h₀) (F : Fr h₀ L s.heap m) (X : (hd.heap_39 w.params).In h₀) (N : News h₀ L s.heap news) (T : Top hd.view_39 (looseW hd.view_39 [Str.ofString "PostError", Str.ofString "_law_signs"]) mean mg mb h₀) (hk : cs.kind = .function)
    (hd : dp + k < recursionLimit) (hu : un + 100 * k < cLine) (ret : ∀ v news' h' tk', Post v news' → Fr h₀ L h' m → News h₀ L h' news' → Q v { s with heap := h', toks := tk' }) :
    wpAny (model PySem.Challenge.rw_nz0266_01.row.prog w) (ktrTop dp un gd cn cs L a ccd cl outer) (call (.ref f) vs) Q E s := C dp un gd cn cs a ccd cl outer A₀ base h₀ L m s Q E B F X N T hk hd hu ret
/-- nothing is changed; the value is R of some token -/
abbrev Pu (news : Al) (R : Tok → Value) : Value → Al → Prop := fun v nx => nx = news ∧ ∃ t', v = R t'
theorem Ct.pure {w : World} {mean : ExcName → Option Value} {mg mb : Str → Option Value} {f : Addr} {k : Nat} {vs : List Value} {news : Al} {R : Tok → Value} (C : Ct w mean mg mb f k vs news (Pu news R))
    {dp un : Nat} {gd : Option (List Code)} {cn : Str} {cs : Scope} {a : Addr} {ccd : Value} {cl : List (Str × Addr)} {outer : List Env} {A₀ : Around} {base h₀ : Heap} {L : Addr} {m : Str → Option Value} {s : Shared} {Q E : Value → Shared → Prop}
    (B : Below A₀ base outer h₀) (F : Fr h₀ L s.heap m) (X : (hd.heap_39 w.params).In h₀) (N : News h₀ L s.heap news) (T : Top hd.view_39 (looseW hd.view_39 [Str.ofString "PostError", Str.ofString "_law_signs"]) mean mg mb h₀) (hk : cs.kind = .function)
    (hd : dp + k < recursionLimit) (hu : un + 100 * k < cLine) (ret : ∀ t' h' tk', Fr h₀ L h' m → News h₀ L h' news → Q (R t') { s with heap := h', toks := tk' }) :
    wpAny (model PySem.Challenge.rw_nz0266_01.row.prog w) (ktrTop dp un gd cn cs L a ccd cl outer) (call (.ref f) vs) Q E s := C.use B F X N T hk hd hu fun v nx h' tk' hP F' N' => by
  obtain ⟨rfl, t', rfl⟩ := hP
  exact ret t' h' tk' F' N'
theorem bytes_is {x y : Array UInt8} {t : Tok} (h : x = y) : ∃ t', Value.bytes x t = .bytes y t' := ⟨t, h ▸ rfl⟩
theorem str_is {x y : Str} {t : Tok} (h : x = y) : ∃ t', Value.str x t = .str y t' := ⟨t, h ▸ rfl⟩
theorem bool_is {x y : Bool} (h : x = y) : ∃ _t' : Tok, Value.bool x = .bool y := ⟨0, h ▸ rfl⟩
def low (c : Nat) : Nat := if 65 ≤ c ∧ c ≤ 90 then c + 32 else c
theorem low_small {c : Nat} (h : c < 256) : low c < 256 := by unfold low; split <;> omega
def lowerC (x : Int) : Int := if 65 ≤ x ∧ x ≤ 90 then x + 32 else x
theorem lowerC_nat (c : Nat) : lowerC (c : Int) = ((low c : Nat) : Int) := by unfold lowerC low; split <;> split <;> omega
set_option maxHeartbeats 8000000 in
theorem ct_lower_code (w : World) (mean : ExcName → Option Value) (mg mb : Str → Option Value) (x : Int) (t : Tok) (news : Al) :
    Ct w mean mg mb 68 1 [.int x t] news (Pu news fun t' => .int (lowerC x) t') := by
  unfold Ct
  w_top off
  k_fill
  intro dp un gd cn cs a ccd cl outer A₀ base h₀ L m s Q E B F X N T hk hdp hun hret
  refine wpAny_call ?_
  k_dflt cell_enter
  k_steps
  all_goals (refine' hret _ _ _ _ ?zp ?zf ?zn; (case zf => k_asm); (case zn => k_asm); (case zp => exact ⟨rfl, ktn_int (by unfold lowerC; split <;> omega)⟩))
theorem ct_lower_nat (w : World) (mean : ExcName → Option Value) (mg mb : Str → Option Value) (c : Nat) (t : Tok) (news : Al) :
    Ct w mean mg mb 68 1 [.int (c : Int) t] news (Pu news fun t' => .int ((low c : Nat) : Int) t') := by
  have h := ct_lower_code w mean mg mb (c : Int) t news
  rw [lowerC_nat] at h
  exact h
theorem chr_nat {prog : Program} {w : World} {A : Around} {E : Value → Shared → Prop} {s : Shared} {c : Nat} {t : Tok} {Q : Value → Shared → Prop} (hc : c < 256) (h : Q (.str ⟨#[c]⟩ s.toks) { s with toks := s.toks + 1 }) :
    wpAny (model prog w) A (call (.builtin "chr") [.int (c : Int) t]) Q E s := chr_of_range (by omega) (by omega) (by rw [Int.toNat_natCast]; exact h)
end Nz

/-! part NzC2 -/
namespace Nz
local macro_rules | `(tactic| walk_at "eval ListComp") => `(tactic| (k_here; k_dflt (refine ListComp_W (by k_asm) (by with_unfolding_all rfl) (by decide) (by rfl) (by decide) (by rfl) ?_)))
local macro_rules | `(tactic| walk_at "call ref") => `(tactic| (k_here; (with_reducible show wpAny _ _ (call (Value.ref 68) _) _ _ _); k_dflt (refine' Ct.pure (ct_lower_nat _ _ _ _ _ _ _) ?z1 ?z2 ?z3 ?z4 ?z5 ?z6 ?z7 ?z8 ?_; (case z1 => k_asm); (case z2 => k_asm); (case z3 => k_asm); (case z4 => k_asm); (case z5 => k_asm); (case z6 => first | exact rfl | assumption); (case z7 => first | omega | ktr_room); (case z8 => first | omega | ktr_units)); intro t' h' tk' F' N'))

set_option maxHeartbeats 8000000 in
theorem ct_lower (w : World) (mean : ExcName → Option Value) (mg mb : Str → Option Value) (l : List Nat) (t : Tok) (news : Al) (hs : Small l) (hb : l.length ≤ 1000) :
    Ct w mean mg mb 73 2 [.bytes (bOf l) t] news (Pu news fun t' => .bytes (bOf (l.map low)) t') := by
  unfold Ct
  w_top off
  k_fill
  intro dp un gd cn cs a ccd cl outer A₀ base h₀ L m s Q E B F X N T hk hdp hun hret
  refine wpAny_call ?_
  k_dflt cell_enter
  k_steps
  refine it_bytes_ints (fun c => ((low c : Nat) : Int)) (news := news) (by rfl) (by k_asm) (by k_asm) hb hs ?_ ?_
  · intro c u I oI C oC D m₂ ys h tk E' hc hlt hC hx F9 N9 off ne
    k_steps
    exact LCg.CompEnd.intro (by k_asm) (by k_asm) news (fun _ hp => hp) off trivial ⟨rfl, _, rfl⟩
  · intro g ys hy
    k_steps
    refine bytes_of (ks := l.map low) (by k_asm) (by k_asm) (News.isList (by k_asm) (by k_mem)) ?_ ?_ ?_ (by rfl) ?_
    · rw [List.map_map]; exact hy
    · intro c hc
      obtain ⟨d, hd, rfl⟩ := List.mem_map.mp hc
      exact low_small (hs d hd)
    · rw [List.length_map]; exact hb
    · intro h9 t9 k9 F9 N9
      k_steps
      rename News h₀ L _ _ => kN9
      exact hret _ news _ _ ⟨rfl, _, rfl⟩ (by k_asm) fun p hp => kN9 p (List.mem_cons_of_mem _ hp)

set_option maxHeartbeats 8000000 in
theorem ct_lower_text (w : World) (mean : ExcName → Option Value) (mg mb : Str → Option Value) (l : List Nat) (t : Tok) (news : Al) (hs : Small l) (hb : l.length ≤ 1000) :
    Ct w mean mg mb 78 2 [.str (sOf l) t] news (Pu news fun t' => .str (sOf (l.map low)) t') := by
  unfold Ct
  w_top off
  k_fill
  intro dp un gd cn cs a ccd cl outer A₀ base h₀ L m s Q E B F X N T hk hdp hun hret
  refine wpAny_call ?_
  k_dflt cell_enter
  k_steps
  refine it_str_strs (fun c => (⟨#[low c]⟩ : Str)) (news := news) (by rfl) (by k_asm) (by k_asm) hb hs ?_ ?_
  · intro c u I oI C oC D m₂ ys h tk E' hc hlt hC hx F9 N9 off ne
    k_steps
    refine chr_nat (low_small hlt) ?_
    k_steps
    exact LCg.CompEnd.intro (by k_asm) (by k_asm) news (fun _ hp => hp) off trivial ⟨rfl, _, rfl⟩
  · intro g ys hy
    k_steps
    refine text_of (ks := l.map low) (News.isList (by k_asm) (by k_mem)) (by rw [List.map_map]; exact hy) (by rw [List.length_map]; exact hb) ?_
    intro t9 k9
    k_steps
    rename News h₀ L _ _ => kN9
    exact hret _ news _ _ ⟨rfl, _, rfl⟩ (by k_asm) fun p hp => kN9 p (List.mem_cons_of_mem _ hp)

set_option maxHeartbeats 8000000 in
theorem ct_text (w : World) (mean : ExcName → Option Value) (mg mb : Str → Option Value) (l : List Nat) (t : Tok) (news : Al) (hs : Small l) (hb : l.length ≤ 1000) :
    Ct w mean mg mb 123 2 [.bytes (bOf l) t] news (Pu news fun t' => .str (sOf l) t') := by
  unfold Ct
  w_top off
  k_fill
  intro dp un gd cn cs a ccd cl outer A₀ base h₀ L m s Q E B F X N T hk hdp hun hret
  refine wpAny_call ?_
  k_dflt cell_enter
  k_steps
  refine it_bytes_strs (fun c => (⟨#[c]⟩ : Str)) (news := news) (by rfl) (by k_asm) (by k_asm) hb hs ?_ ?_
  · intro c u I oI C oC D m₂ ys h tk E' hc hlt hC hx F9 N9 off ne
    k_steps
    exact LCg.CompEnd.intro (by k_asm) (by k_asm) news (fun _ hp => hp) off trivial ⟨rfl, _, rfl⟩
  · intro g ys hy
    k_steps
    refine text_of (ks := l) (News.isList (by k_asm) (by k_mem)) hy hb ?_
    intro t9 k9
    k_steps
    rename News h₀ L _ _ => kN9
    exact hret _ news _ _ ⟨rfl, _, rfl⟩ (by k_asm) fun p hp => kN9 p (List.mem_cons_of_mem _ hp)

theorem sign_lt {c d : Nat} : ([c] : List Nat) < [d] ↔ c < d := by
  simp [List.cons_lt_cons_iff]
theorem sign_a : Str.ofString "a" = ⟨#[97]⟩ := by decide +kernel
theorem sign_z : Str.ofString "z" = ⟨#[122]⟩ := by decide +kernel
def up (c : Nat) : Nat := if 97 ≤ c ∧ c ≤ 122 then c - 32 else c
set_option maxHeartbeats 8000000 in
theorem ct_upper_text (w : World) (mean : ExcName → Option Value) (mg mb : Str → Option Value) (l : List Nat) (t : Tok) (news : Al) (hs : Small l) (hb : l.length ≤ 1000) :
    Ct w mean mg mb 83 2 [.str (sOf l) t] news (Pu news fun t' => .str (sOf (l.map up)) t') := by
  unfold Ct
  w_top off
  k_fill
  intro dp un gd cn cs a ccd cl outer A₀ base h₀ L m s Q E B F X N T hk hdp hun hret
  refine wpAny_call ?_
  k_dflt cell_enter
  k_steps
  refine it_str_strs (fun c => (⟨#[up c]⟩ : Str)) (news := news) (by rfl) (by k_asm) (by k_asm) hb hs ?_ ?_
  · intro c u I oI C oC D m₂ ys h tk E' hc hlt hC hx F9 N9 off ne
    k_steps
    all_goals (simp only [sign_a, sign_z, sign_lt] at *)
    · have e : up c = c := by unfold up; split <;> omega
      exact LCg.CompEnd.intro (by k_asm) (by k_asm) news (fun _ hp => hp) off trivial ⟨rfl, str_is (by rw [e])⟩
    · have e : up c = c := by unfold up; split <;> omega
      exact LCg.CompEnd.intro (by k_asm) (by k_asm) news (fun _ hp => hp) off trivial ⟨rfl, str_is (by rw [e])⟩
    · have e : ((c : Nat) : Int) - 32 = ((up c : Nat) : Int) := by unfold up; split <;> omega
      have e2 : up c < 256 := by unfold up; split <;> omega
      rw [e]
      refine chr_nat e2 ?_
      k_steps
      exact LCg.CompEnd.intro (by k_asm) (by k_asm) news (fun _ hp => hp) off trivial ⟨rfl, _, rfl⟩
  · intro g ys hy
    k_steps
    refine text_of (ks := l.map up) (News.isList (by k_asm) (by k_mem)) (by rw [List.map_map]; exact hy) (by rw [List.length_map]; exact hb) ?_
    intro t9 k9
    k_steps
    rename News h₀ L _ _ => kN9
    exact hret _ news _ _ ⟨rfl, _, rfl⟩ (by k_asm) fun p hp => kN9 p (List.mem_cons_of_mem _ hp)

def sm (c : Nat) : Nat := if c = 65 then 97 else if c = 90 then 122 else c
set_option maxHeartbeats 8000000 in
theorem ct_small (w : World) (mean : ExcName → Option Value) (mg mb : Str → Option Value) (c : Nat) (t : Tok) (news : Al) :
    Ct w mean mg mb 130 1 [.int (c : Int) t] news (Pu news fun t' => .int ((sm c : Nat) : Int) t') := by
  unfold Ct
  w_top off
  k_fill
  intro dp un gd cn cs a ccd cl outer A₀ base h₀ L m s Q E B F X N T hk hdp hun hret
  refine wpAny_call ?_
  k_dflt cell_enter
  k_steps
  all_goals (rename News h₀ L _ _ => kN9; refine' hret _ news _ _ ?zp ?zf ?zn; (case zf => k_asm); (case zn => exact fun p hp => kN9 p (List.mem_cons_of_mem _ hp)); (case zp => exact ⟨rfl, ktn_int (by unfold sm; split <;> (try split) <;> omega)⟩))
end Nz

/-! part NzC3 -/
namespace Nz
theorem Small.low {l : List Nat} (h : Small l) : Small (l.map low) := fun c hc => by
  obtain ⟨d, hd, rfl⟩ := List.mem_map.mp hc
  exact low_small (h d hd)
theorem up_small {c : Nat} (h : c < 256) : up c < 256 := by unfold up; split <;> omega
theorem sm_small {c : Nat} (h : c < 256) : sm c < 256 := by unfold sm; split <;> (try split) <;> omega
theorem Small.up {l : List Nat} (h : Small l) : Small (l.map up) := fun c hc => by
  obtain ⟨d, hd, rfl⟩ := List.mem_map.mp hc
  exact up_small (h d hd)
theorem Small.sm {l : List Nat} (h : Small l) : Small (l.map sm) := fun c hc => by
  obtain ⟨d, hd, rfl⟩ := List.mem_map.mp hc
  exact sm_small (h d hd)
local macro_rules | `(tactic| walk_at "call ref") => `(tactic| (k_here; (with_reducible show wpAny _ _ (call (Value.ref 68) _) _ _ _); k_dflt (refine' Ct.pure (ct_lower_nat _ _ _ _ _ _ _) ?z1 ?z2 ?z3 ?z4 ?z5 ?z6 ?z7 ?z8 ?_; (case z1 => k_asm); (case z2 => k_asm); (case z3 => k_asm); (case z4 => k_asm); (case z5 => k_asm); (case z6 => first | exact rfl | assumption); (case z7 => first | omega | ktr_room); (case z8 => first | omega | ktr_units)); intro t' h' tk' F' N'))
local macro_rules | `(tactic| walk_at "call ref") => `(tactic| (k_here; (with_reducible show wpAny _ _ (call (Value.ref 73) _) _ _ _); k_dflt (refine' Ct.pure (ct_lower _ _ _ _ _ _ _ (by assumption) (by assumption)) ?z1 ?z2 ?z3 ?z4 ?z5 ?z6 ?z7 ?z8 ?_; (case z1 => k_asm); (case z2 => k_asm); (case z3 => k_asm); (case z4 => k_asm); (case z5 => k_asm); (case z6 => first | exact rfl | assumption); (case z7 => first | omega | ktr_room); (case z8 => first | omega | ktr_units)); intro t' h' tk' F' N'))
local macro_rules | `(tactic| walk_at "call ref") => `(tactic| (k_here; (with_reducible show wpAny _ _ (call (Value.ref 78) _) _ _ _); k_dflt (refine' Ct.pure (ct_lower_text _ _ _ _ _ _ _ (by assumption) (by assumption)) ?z1 ?z2 ?z3 ?z4 ?z5 ?z6 ?z7 ?z8 ?_; (case z1 => k_asm); (case z2 => k_asm); (case z3 => k_asm); (case z4 => k_asm); (case z5 => k_asm); (case z6 => first | exact rfl | assumption); (case z7 => first | omega | ktr_room); (case z8 => first | omega | ktr_units)); intro t' h' tk' F' N'))
local macro_rules | `(tactic| walk_at "call builtin:len") => `(tactic| (k_here; first | (refine len_bO (by assumption) ?_; intro t' k') | (refine len_sO (by assumption) ?_; intro t' k')))
local macro_rules | `(tactic| walk_at "compareOp Eq bytes bytes") => `(tactic| (k_here; refine eq_bO ?ha ?hb ?_; (case ha => first | assumption | exact Small.low (by assumption)); (case hb => first | assumption | exact Small.low (by assumption))))

set_option maxHeartbeats 8000000 in
theorem ct_same_bytes (w : World) (mean : ExcName → Option Value) (mg mb : Str → Option Value) (l k : List Nat) (t u : Tok) (news : Al) (hl : Small l) (hk' : Small k) (hb : l.length ≤ 1000) (hb' : k.length ≤ 1000) :
    Ct w mean mg mb 90 3 [.bytes (bOf l) t, .bytes (bOf k) u] news (Pu news fun _ => .bool (decide (l.map low = k.map low))) := by
  unfold Ct
  w_top off
  k_fill
  intro dp un gd cn cs a ccd cl outer A₀ base h₀ L m s Q E B F X N T hk hdp hun hret
  refine wpAny_call ?_
  k_dflt cell_enter
  k_steps
  · refine hret _ news _ _ ⟨rfl, bool_is ?_⟩ (by k_asm) (by k_asm)
    refine (decide_eq_false fun e => ?_).symm
    have := congrArg List.length e
    simp only [List.length_map] at this
    omega
  · exact hret _ news _ _ ⟨rfl, bool_is rfl⟩ (by k_asm) (by k_asm)
set_option maxHeartbeats 8000000 in
theorem ct_same_text (w : World) (mean : ExcName → Option Value) (mg mb : Str → Option Value) (l k : List Nat) (t u : Tok) (news : Al) (hl : Small l) (hk' : Small k) (hb : l.length ≤ 1000) (hb' : k.length ≤ 1000) :
    Ct w mean mg mb 90 3 [.str (sOf l) t, .str (sOf k) u] news (Pu news fun _ => .bool (decide (l.map low = k.map low))) := by
  unfold Ct
  w_top off
  k_fill
  intro dp un gd cn cs a ccd cl outer A₀ base h₀ L m s Q E B F X N T hk hdp hun hret
  refine wpAny_call ?_
  k_dflt cell_enter
  k_steps
  · refine hret _ news _ _ ⟨rfl, bool_is ?_⟩ (by k_asm) (by k_asm)
    refine (decide_eq_false fun e => ?_).symm
    have := congrArg List.length e
    simp only [List.length_map] at this
    omega
  · exact hret _ news _ _ ⟨rfl, bool_is sOf_eq⟩ (by k_asm) (by k_asm)
end Nz

/-! part NzC4 -/
namespace Nz
/-- the first place of a code beyond 127, or -1 -/
def plainI (l : List Nat) : Int := match l.findIdx? (fun c => decide (127 < c)) with
  | some i => (i : Int)
  | none => -1
theorem foldl_keep {α : Type} (p : α → Bool) : ∀ (xs acc : List α), xs.foldl (fun acc k => if p k = true then acc ++ [k] else acc) acc = acc ++ xs.filter p := by
  intro xs
  induction xs with
  | nil => simp
  | cons x r ih =>
    intro acc
    rw [List.foldl_cons, ih, List.filter_cons]
    split <;> simp
theorem plain_head (l : List Nat) : ((rangeKs 0 l.length).filter fun k => decide (127 < ((l.getD k.toNat 0 : Nat) : Int))).head? = (l.findIdx? (fun c => decide (127 < c))).map fun i => (i : Int) := by
  rw [List.head?_filter]
  unfold rangeKs
  rw [List.find?_map]
  have e : ((fun k : Int => decide (127 < ((l.getD k.toNat 0 : Nat) : Int))) ∘ fun (i : Nat) => (0 : Int) + (i : Int)) = fun i : Nat => decide (127 < l.getD i 0) := by
    funext i
    simp only [Function.comp, Int.zero_add, Int.toNat_natCast]
    rw [decide_eq_decide]
    omega
  rw [e]
  have q : (List.range l.length).find? (fun i => decide (127 < l.getD i 0)) = l.findIdx? (fun c => decide (127 < c)) := by
    cases h : l.findIdx? (fun c => decide (127 < c)) with
    | none =>
      rw [List.findIdx?_eq_none_iff] at h
      rw [List.find?_range_eq_none]
      intro i hi
      have := h (l[i]) (List.getElem_mem hi)
      simpa [List.getD_eq_getElem?_getD, hi] using this
    | some i =>
      rw [List.findIdx?_eq_some_iff_getElem] at h
      obtain ⟨hi, h1, h2⟩ := h
      rw [List.find?_range_eq_some]
      refine ⟨by simpa [List.getD_eq_getElem?_getD, hi] using h1, by simpa using hi, fun j hj => ?_⟩
      have := h2 j hj
      have hj' : j < l.length := by omega
      simpa [List.getD_eq_getElem?_getD, hj'] using this
  rw [q]
  cases l.findIdx? (fun c => decide (127 < c)) <;> simp
theorem plain_some {l : List Nat} (h : 0 < ((rangeKs 0 l.length).filter fun k => decide (127 < ((l.getD k.toNat 0 : Nat) : Int))).length) : ((rangeKs 0 l.length).filter fun k => decide (127 < ((l.getD k.toNat 0 : Nat) : Int))).getD 0 0 = plainI l := by
  have e := plain_head l
  generalize (rangeKs 0 l.length).filter (fun k => decide (127 < ((l.getD k.toNat 0 : Nat) : Int))) = xs at h e
  cases xs with
  | nil => simp at h
  | cons x r =>
    unfold plainI
    cases q : l.findIdx? (fun c => decide (127 < c)) with
    | none => rw [q] at e; cases e
    | some i => rw [q] at e; simpa using e
theorem plain_none {l : List Nat} (h : ¬ 0 < ((rangeKs 0 l.length).filter fun k => decide (127 < ((l.getD k.toNat 0 : Nat) : Int))).length) : plainI l = -1 := by
  have e := plain_head l
  generalize (rangeKs 0 l.length).filter (fun k => decide (127 < ((l.getD k.toNat 0 : Nat) : Int))) = xs at h e
  cases xs with
  | nil =>
    unfold plainI
    cases q : l.findIdx? (fun c => decide (127 < c)) with
    | none => rfl
    | some i => rw [q] at e; cases e
  | cons x r => simp at h
local macro_rules | `(tactic| walk_at "call builtin:len") => `(tactic| (k_here; first | (refine len_bO (by assumption) ?_; intro t' k') | (refine len_sO (by assumption) ?_; intro t' k')))
local macro_rules | `(tactic| walk_at "subscriptTail") => `(tactic| (k_here; (with_reducible show wpAny _ _ (subscriptTail _ _ (Value.bytes (bOf _) _) (Value.int (Nat.cast _) _)) _ _ _); (with_unfolding_all refine item_bO (by assumption) (by assumption) (by omega) ?_); intro t' k'))
local macro_rules | `(tactic| walk_at "CompSrcT") => `(tactic| (k_here; k_dflt (refine LCt.CompSrcT.range (by rfl) (by k_asm) (by k_asm) (by assumption) (by exact small_one (by kcf_bnd) (by kcf_bnd) (by kcf_bnd) (by kcf_bnd)) (by exact rangeSize_nat _ _) (by rw [PySem.sizeLine_eq]; omega) ?_); intro g'))
set_option maxHeartbeats 8000000 in
theorem ct_plain (w : World) (mean : ExcName → Option Value) (mg mb : Str → Option Value) (l : List Nat) (t : Tok) (news : Al) (hl : Small l) (hb : l.length ≤ 1000) :
    Ct w mean mg mb 135 2 [.bytes (bOf l) t] news (Pu news fun t' => .int (plainI l) t') := by
  unfold Ct
  w_top off
  k_fill
  intro dp un gd cn cs a ccd cl outer A₀ base h₀ L m s Q E B F X N T hk hdp hun hret
  refine wpAny_call ?_
  k_dflt (refine' code_defC ?k1 ?k2 ?k3 ?k4 ?k5 ?kA ?kF ?kK ?k6 ?k7 ?k8 ?k9 ?kB ?kD ?_ ?c2 ?c3 ?c4; (case kA => exact rfl); (case kF => exact rfl); (case kK => assumption); (case k1 => k_asm); (case k2 => k_asm); (case k3 => k_asm); (case k4 => k_asm); (case k5 => k_asm); (case k6 => k_is); (case k7 => k_is); (case k8 => ktr_room); (case k9 => exact BindsTo.of_eq rfl); (case kB => exact rfl); (case kD => decide +kernel); (case c2 => exact rfl); (case c3 => exact rfl); (case c4 => exact rfl); k_whole)
  intro g' L' h' tk' cells' FG' F' N' Y' B' X' T' l1
  (k_cells Y'); (try simp only [List.cons_append, List.nil_append] at N'); (try dsimp only); (try k_lift B'); (try k_fold)
  k_steps
  rw [show (((l.length : Int) - 0).toNat) = l.length from by omega]
  refine kci_range (fun acc k => if decide (127 < ((l.getD k.toNat 0 : Nat) : Int)) = true then acc ++ [k] else acc) ?_ ?_ ?_
  · intro k t I oI C oC D m₂ ys lst h tk E' h0 hn hI hC hx F9 N9 off ne mk
    obtain ⟨i, rfl⟩ : ∃ i : Nat, k = (i : Int) := ⟨k.toNat, by omega⟩
    have hi : i < l.length := by omega
    simp only [Int.toNat_natCast]
    k_steps
    · exact LCg.CompEnd.intro (by k_asm) (by k_asm) _ (fun _ hp => hp) off trivial (kci_el (by rw [if_pos (decide_eq_true (by assumption))]) rfl rfl)
    · exact LCg.CompEnd.intro (by k_asm) (by k_asm) _ (fun _ hp => hp) off trivial (kci_no (by rw [if_neg (fun e => absurd (of_decide_eq_true e) (by assumption))]) rfl)
  · intro ys hI hlen
    rw [foldl_keep, List.nil_append] at hI
    have hL8 := IntsAre.length hI
    k_steps
    · rename News h₀ L _ _ => kN9
      exact hret _ news _ _ ⟨rfl, ktn_int (plain_some (by assumption))⟩ (by k_asm) fun p hp => kN9 p (List.mem_cons_of_mem _ (List.mem_cons_of_mem _ hp))
    · rename News h₀ L _ _ => kN9
      exact hret _ news _ _ ⟨rfl, ktn_int (plain_none (by assumption)).symm⟩ (by k_asm) fun p hp => kN9 p (List.mem_cons_of_mem _ (List.mem_cons_of_mem _ hp))
  · intro lst k
    dsimp only
    split <;> simp
end Nz

/-! part NzC5 -/
namespace Nz
/-- the pen: its cells' list, the great number, the state, the place -/
abbrev penObj (C : Addr) (g st pl : Int) (t1 t2 t3 : Tok) (n : Nat) : Obj := listOf #[.ref C, .int g t1, .int st t2, .int pl t3] n
structure PenOk (g st pl : Int) : Prop where
  g0 : 0 ≤ g
  g1 : g < 10 ^ 240
  s0 : 0 ≤ st
  s1 : st < 2147483647
  p0 : 0 ≤ pl
  p1 : pl < 1000
section
variable {prog : Program} {w : World} {A : Around} {E : Value → Shared → Prop} {s : Shared} {h₀ : Heap} {L P : Addr} {m : Str → Option Value} {news : Al} {its its' : Array Value} {n : Nat}
theorem head_set {k : Int} {t : Tok} {v : Value} {Q : Unit → Shared → Prop} (F : Fr h₀ L s.heap m) (N : News h₀ L s.heap ((P, listOf its n) :: news)) (hoff : ∀ p ∈ news, p.1 ≠ P) (h0 : 0 ≤ k) (hfit : k < 2 ^ 63) (hn' : Nat.blt k.toNat its.size = true)
    (e : its.setIfInBounds k.toNat v = its')
    (h : ∀ h', Fr h₀ L h' m → News h₀ L h' ((P, listOf its' n) :: news) → Q () { s with heap := h' }) : wpAny (model prog w) A (setItem (.ref P) (.int k t) v) Q E s := by
  have hn : k < its.size := by
    have : k.toNat < its.size := Nat.le_of_ble_eq_true hn'
    omega
  have z := N (P, listOf its n) List.mem_cons_self
  refine ki_setAt z.1 h0 hfit hn (h _ (F.change (Heap.SameBut.update ..) z.2.1 z.2.2) ?_)
  have q := ki_turn (pre := []) (post := news) (its' := its') (n' := n) (fun xs => xs.setIfInBounds k.toNat v) N (fun _ hp => (nomatch hp)) hoff e (by rw [if_pos]; rw [← e]; simp)
  exact q
variable {C : Addr} {g st pl x : Int} {t t1 t2 t3 u : Tok} {Q : Unit → Shared → Prop}
theorem pen_set1 (F : Fr h₀ L s.heap m) (N : News h₀ L s.heap ((P, penObj C g st pl t1 t2 t3 n) :: news)) (hoff : ∀ p ∈ news, p.1 ≠ P)
    (h : ∀ h', Fr h₀ L h' m → News h₀ L h' ((P, penObj C x st pl u t2 t3 n) :: news) → Q () { s with heap := h' }) : wpAny (model prog w) A (setItem (.ref P) (.int 1 t) (.int x u)) Q E s :=
  head_set F N hoff (by decide) (by decide) rfl rfl h
theorem pen_set2 (F : Fr h₀ L s.heap m) (N : News h₀ L s.heap ((P, penObj C g st pl t1 t2 t3 n) :: news)) (hoff : ∀ p ∈ news, p.1 ≠ P)
    (h : ∀ h', Fr h₀ L h' m → News h₀ L h' ((P, penObj C g x pl t1 u t3 n) :: news) → Q () { s with heap := h' }) : wpAny (model prog w) A (setItem (.ref P) (.int 2 t) (.int x u)) Q E s :=
  head_set F N hoff (by decide) (by decide) rfl rfl h
theorem pen_set3 (F : Fr h₀ L s.heap m) (N : News h₀ L s.heap ((P, penObj C g st pl t1 t2 t3 n) :: news)) (hoff : ∀ p ∈ news, p.1 ≠ P)
    (h : ∀ h', Fr h₀ L h' m → News h₀ L h' ((P, penObj C g st x t1 t2 u n) :: news) → Q () { s with heap := h' }) : wpAny (model prog w) A (setItem (.ref P) (.int 3 t) (.int x u)) Q E s :=
  head_set F N hoff (by decide) (by decide) rfl rfl h
end
theorem offs {P C : Addr} {o : Obj} {news : Al} (hPC : P ≠ C) (hoff : ∀ p ∈ news, p.1 ≠ P) : ∀ p ∈ (C, o) :: news, p.1 ≠ P := fun p hp => by
  rcases List.mem_cons.mp hp with rfl | hp
  · exact Ne.symm hPC
  · exact hoff p hp
local macro_rules | `(tactic| walk_at "setItem ref int") => `(tactic| (k_here; k_dflt (first
  | ((with_reducible show wpAny _ _ (setItem (Value.ref _) (Value.int 1 _) _) _ _ _); refine' pen_set1 ?k1 ?k2 ?k3 ?_; (case k1 => k_asm); (case k2 => k_asm); (case k3 => exact offs (by assumption) (by assumption)); k_whole)
  | ((with_reducible show wpAny _ _ (setItem (Value.ref _) (Value.int 2 _) _) _ _ _); refine' pen_set2 ?k1 ?k2 ?k3 ?_; (case k1 => k_asm); (case k2 => k_asm); (case k3 => exact offs (by assumption) (by assumption)); k_whole)
  | ((with_reducible show wpAny _ _ (setItem (Value.ref _) (Value.int 3 _) _) _ _ _); refine' pen_set3 ?k1 ?k2 ?k3 ?_; (case k1 => k_asm); (case k2 => k_asm); (case k3 => exact offs (by assumption) (by assumption)); k_whole)); intro h' F' N'; (try k_sweep)))
theorem fm0 (a : Int) {b : Int} (h : 1 ≤ b) : 0 ≤ a.fmod b := Int.fmod_nonneg_of_pos a (by omega)
theorem fm1 (a : Int) {b : Int} (h : 1 ≤ b) : a.fmod b < b := Int.fmod_lt_of_pos a (by omega)
theorem fd0 {a b : Int} (h0 : 0 ≤ a) (h : 1 ≤ b) : 0 ≤ a.fdiv b := Int.fdiv_nonneg h0 (by omega)
theorem fd1 {a b : Int} (h0 : 0 ≤ a) (h : 1 ≤ b) : a.fdiv b ≤ a := by
  rw [Int.fdiv_eq_ediv_of_nonneg _ (by omega)]
  exact Int.ediv_le_self b h0
set_option maxHeartbeats 8000000 in
theorem ct_draw (w : World) (mean : ExcName → Option Value) (mg mb : Str → Option Value) (P C : Addr) (g st pl : Int) (t1 t2 t3 : Tok) (n nC : Nat) (cs : List Value) (ns : List Int) (lim : Int) (t : Tok) (news : Al)
    (hPC : P ≠ C) (hoff : ∀ p ∈ news, p.1 ≠ P) (hi : IntsAre cs ns) (hlen : ns.length ≤ 48) (h1 : PenOk g st pl) (hl0 : 1 ≤ lim) (hl1 : lim ≤ 12) :
    Ct w mean mg mb 112 1 [.ref P, .int lim t] ((P, penObj C g st pl t1 t2 t3 n) :: (C, listOf cs.toArray nC) :: news)
      (fun v nx => ∃ r t' g' st' t1' t2' t3' n', v = .int r t' ∧ 0 ≤ r ∧ r < lim ∧ 0 ≤ g' ∧ g' < 10 ^ 240 ∧ 0 ≤ st' ∧ st' < 2147483647 ∧ nx = (P, penObj C g' st' (pl + 1) t1' t2' t3' n') :: (C, listOf cs.toArray nC) :: news) := by
  unfold Ct
  w_top off
  k_fill
  intro dp un gd cn csc a ccd cl outer A₀ base h₀ L m s Q E B F X N T hk hdp hun hret
  obtain ⟨g0, g1, s0, s1, p0, p1⟩ := h1
  refine wpAny_call ?_
  k_dflt cell_enter
  k_steps
  · exact hret _ _ _ _ ⟨_, _, _, _, _, _, _, _, rfl, fm0 _ hl0, fm1 _ hl0, fd0 g0 hl0, Int.lt_of_le_of_lt (fd1 g0 hl0) g1, s0, s1, rfl⟩ (by k_asm) (by k_asm)
  · exact hret _ _ _ _ ⟨_, _, _, _, _, _, _, _, rfl, fm0 _ hl0, fm1 _ hl0, g0, g1, fm0 _ (by decide), fm1 _ (by decide), rfl⟩ (by k_asm) (by k_asm)
  · exact hret _ _ _ _ ⟨_, _, _, _, _, _, _, _, rfl, fm0 _ hl0, fm1 _ hl0, g0, g1, fm0 _ (by decide), fm1 _ (by decide), rfl⟩ (by k_asm) (by k_asm)
end Nz

/-! part NzC6 -/
namespace Nz
def signsL : List Nat := [97, 65, 90, 122, 91, 64, 96, 123, 48, 233, 201, 45]
/-- a goal that the walk leaves alone -/
def Hold (p : Prop) : Prop := p
theorem Hold.out {p : Prop} (h : Hold p) : p := h
theorem signs_at (w : World) : (hd.heap_39 w.params).lookup 113 = some ⟨.type "list", none, .seq [Value.int 97 317, .int 65 318, .int 90 319, .int 122 320, .int 91 321, .int 64 322, .int 96 323, .int 123 324, .int 48 325, .int 233 326, .int 201 327, .int 45 328].toArray 0, #[]⟩ := by with_unfolding_all rfl
theorem sign_item {prog : Program} {w : World} {A : Around} {E : Value → Shared → Prop} {s : Shared} {h₀ : Heap} {L : Addr} {m : Str → Option Value} {value slice : Expr} {r : Int} {u : Tok} {Q : Value → Shared → Prop} (F : Fr h₀ L s.heap m) (X : (hd.heap_39 w.params).In h₀) (r0 : 0 ≤ r) (r1 : r < 12) (h : ∀ c t', c ∈ signsL → Q (.int ((c : Nat) : Int) t') s)
    (hs : subscripted slice false (.ref 113) (.int r u) = operate [.ref 113, .int r u] (getItem (.ref 113) (.int r u)) := by with_unfolding_all rfl) :
    wpAny (model prog w) A (subscriptTail value slice (.ref 113) (.int r u)) Q E s := by
  rcases (by omega : r = 0 ∨ r = 1 ∨ r = 2 ∨ r = 3 ∨ r = 4 ∨ r = 5 ∨ r = 6 ∨ r = 7 ∨ r = 8 ∨ r = 9 ∨ r = 10 ∨ r = 11) with rfl | rfl | rfl | rfl | rfl | rfl | rfl | rfl | rfl | rfl | rfl | rfl
  · exact topList_K F X (signs_at w) (by decide) (by decide) rfl (h 97 317 (by decide)) hs
  · exact topList_K F X (signs_at w) (by decide) (by decide) rfl (h 65 318 (by decide)) hs
  · exact topList_K F X (signs_at w) (by decide) (by decide) rfl (h 90 319 (by decide)) hs
  · exact topList_K F X (signs_at w) (by decide) (by decide) rfl (h 122 320 (by decide)) hs
  · exact topList_K F X (signs_at w) (by decide) (by decide) rfl (h 91 321 (by decide)) hs
  · exact topList_K F X (signs_at w) (by decide) (by decide) rfl (h 64 322 (by decide)) hs
  · exact topList_K F X (signs_at w) (by decide) (by decide) rfl (h 96 323 (by decide)) hs
  · exact topList_K F X (signs_at w) (by decide) (by decide) rfl (h 123 324 (by decide)) hs
  · exact topList_K F X (signs_at w) (by decide) (by decide) rfl (h 48 325 (by decide)) hs
  · exact topList_K F X (signs_at w) (by decide) (by decide) rfl (h 233 326 (by decide)) hs
  · exact topList_K F X (signs_at w) (by decide) (by decide) rfl (h 201 327 (by decide)) hs
  · exact topList_K F X (signs_at w) (by decide) (by decide) rfl (h 45 328 (by decide)) hs
theorem signs_small {c : Nat} (h : c ∈ signsL) : c < 256 := by
  simp only [signsL, List.mem_cons, List.not_mem_nil, or_false] at h
  omega
local macro_rules | `(tactic| walk_at "subscriptTail") => `(tactic| (k_here; (with_reducible show wpAny _ _ (subscriptTail _ _ (Value.ref 113) _) _ _ _); refine Hold.out ?_))
local macro_rules | `(tactic| walk_at "call ref") => `(tactic| (k_here; (with_reducible show wpAny _ _ (call (Value.ref 112) _) _ _ _); refine Hold.out ?_))
local macro_rules | `(tactic| walk_at "eval ListComp") => `(tactic| (k_here; k_dflt (refine LCg.ListComp_U (F₀ := by k_asm) (by with_unfolding_all rfl) (by decide) (by rfl) (by decide) (by rfl) ?_)))
local macro_rules | `(tactic| walk_at "CompSrc") => `(tactic| (k_here; k_dflt (refine LCg.CompSrc.range (by rfl) (by k_asm) (by k_asm) (by assumption) (by exact small_one (by kcf_bnd) (by kcf_bnd) (by kcf_bnd) (by kcf_bnd)) (by exact rangeSize_nat _ _) (by rw [PySem.sizeLine_eq]; omega) ?_); intro g'; refine Hold.out ?_))
set_option maxHeartbeats 8000000 in
theorem ct_word (w : World) (mean : ExcName → Option Value) (mg mb : Str → Option Value) (P C : Addr) (g st pl : Int) (t1 t2 t3 : Tok) (n nC : Nat) (cs : List Value) (ns : List Int) (news : Al)
    (hPC : P ≠ C) (hoff : ∀ p ∈ news, p.1 ≠ P) (hi : IntsAre cs ns) (hlen : ns.length ≤ 48) (h1 : PenOk g st pl) (hp : pl < 500) :
    Ct w mean mg mb 118 2 [.ref P] ((P, penObj C g st pl t1 t2 t3 n) :: (C, listOf cs.toArray nC) :: news)
      (fun v nx => ∃ ks t' g' st' pl' t1' t2' t3' n', v = .bytes (bOf ks) t' ∧ ks.length ≤ 5 ∧ (∀ c ∈ ks, c ∈ signsL) ∧ PenOk g' st' pl' ∧ pl' ≤ pl + 6 ∧ nx = (P, penObj C g' st' pl' t1' t2' t3' n') :: (C, listOf cs.toArray nC) :: news) := by
  unfold Ct
  w_top off
  k_fill
  intro dp un gd cn csc a ccd cl outer A₀ base h₀ L m s Q E B F X N T hk hdp hun hret
  refine wpAny_call ?_
  k_dflt (refine' code_defC ?k1 ?k2 ?k3 ?k4 ?k5 ?kA ?kF ?kK ?k6 ?k7 ?k8 ?k9 ?kB ?kD ?_ ?c2 ?c3 ?c4; (case kA => exact rfl); (case kF => exact rfl); (case kK => assumption); (case k1 => k_asm); (case k2 => k_asm); (case k3 => k_asm); (case k4 => k_asm); (case k5 => k_asm); (case k6 => k_is); (case k7 => k_is); (case k8 => ktr_room); (case k9 => exact BindsTo.of_eq rfl); (case kB => exact rfl); (case kD => decide +kernel); (case c2 => exact rfl); (case c3 => exact rfl); (case c4 => exact rfl); k_whole)
  intro g' L' h' tk' cells' FG' F' N' Y' B' X' T' l1
  (k_cells Y'); (try simp only [List.cons_append, List.nil_append] at N'); (try dsimp only); (try k_lift B'); (try k_fold)
  k_steps
  unfold Hold
  rename Obj => o9
  have hoff2 : ∀ p ∈ (L' + 1, o9) :: news, p.1 ≠ P := fun p hp => by
    rcases List.mem_cons.mp hp with rfl | hp
    · have := l1 _ List.mem_cons_self
      exact Nat.ne_of_gt (Nat.lt_succ_of_lt this)
    · exact hoff p hp
  have N2 : News g' L' h' ((P, penObj C g st pl t1 t2 t3 n) :: (C, listOf cs.toArray nC) :: (L' + 1, o9) :: news) := fun p hp => by
    refine N' p ?_
    simp only [List.mem_cons] at hp ⊢
    rcases hp with h | h | h | h
    · exact .inr (.inl h)
    · exact .inr (.inr (.inl h))
    · exact .inl h
    · exact .inr (.inr (.inr h))
  k_dflt (refine' Ct.use (ct_draw _ _ _ _ P C g st pl t1 t2 t3 n nC cs ns 6 _ ((L' + 1, o9) :: news) hPC hoff2 hi hlen h1 (by decide) (by decide)) ?z1 ?z2 ?z3 ?z4 ?z5 ?z6 ?z7 ?z8 ?_; (case z1 => k_asm); (case z2 => k_asm); (case z3 => k_asm); (case z4 => k_asm); (case z5 => k_asm); (case z6 => first | exact rfl | assumption); (case z7 => first | omega | ktr_room); (case z8 => first | omega | ktr_units))
  rintro v nx h9 tk9 ⟨r, t9, g9, st9, t91, t92, t93, n9, rfl, r0, r1, g0, g1, s0, s1, rfl⟩ F9 N9
  k_steps
  unfold Hold
  refine comp_inv (fun i ys nx => ∃ g' st' t1' t2' t3' n', ∃ ks : List Nat, nx = (P, penObj C g' st' (pl + 1 + (i : Int)) t1' t2' t3' n') :: (C, listOf cs.toArray nC) :: (L' + 1, o9) :: news ∧ 0 ≤ g' ∧ g' < 10 ^ 240 ∧ 0 ≤ st' ∧ st' < 2147483647 ∧ IntsAre ys (ks.map fun c => ((c : Nat) : Int)) ∧ ks.length = i ∧ ∀ c ∈ ks, c ∈ signsL) ?_ ?_ ?_
  · refine ⟨g9, st9, t91, t92, t93, n9, [], ?_, g0, g1, s0, s1, .nil, rfl, fun _ h => (nomatch h)⟩
    rw [show pl + 1 + ((0 : Nat) : Int) = pl + 1 from by omega]
  · rintro i v nx I oI Cc oC D m₂ ys h8 tk8 E8 hi8 hys hv ⟨g8, st8, t81, t82, t83, n8, ks, rfl, g80, g81, s80, s81, hks, hkl, hkm⟩ hC hx F8 N8 off ne
    have hn8 := h1.p0
    k_steps
    unfold Hold
    have hoff3 : ∀ p ∈ (I, oI) :: (Cc, oC) :: (D, LCg.lst ys) :: (L' + 1, o9) :: news, p.1 ≠ P := fun p hp => by
      have q := off.1
      simp only [List.mem_cons] at hp
      rcases hp with rfl | rfl | rfl | hp
      · exact Ne.symm q.1
      · exact Ne.symm q.2.1
      · exact Ne.symm q.2.2
      · exact hoff2 p (List.mem_cons.mpr hp)
    have N7 : News g' L' h8 ((P, penObj C g8 st8 (pl + 1 + (i : Int)) t81 t82 t83 n8) :: (C, listOf cs.toArray nC) :: (I, oI) :: (Cc, oC) :: (D, LCg.lst ys) :: (L' + 1, o9) :: news) := fun p hp => by
      refine N8 p ?_
      simp only [List.mem_cons] at hp ⊢
      rcases hp with h | h | h | h | h | h
      · exact .inr (.inr (.inr (.inl h)))
      · exact .inr (.inr (.inr (.inr (.inl h))))
      · exact .inl h
      · exact .inr (.inl h)
      · exact .inr (.inr (.inl h))
      · exact .inr (.inr (.inr (.inr (.inr h))))
    k_dflt (refine' Ct.use (ct_draw _ _ _ _ P C g8 st8 (pl + 1 + (i : Int)) t81 t82 t83 n8 nC cs ns 12 _ ((I, oI) :: (Cc, oC) :: (D, LCg.lst ys) :: (L' + 1, o9) :: news) hPC hoff3 hi hlen ⟨g80, g81, s80, s81, by omega, by omega⟩ (by decide) (by decide)) ?z1 ?z2 ?z3 ?z4 ?z5 ?z6 ?z7 ?z8 ?_; (case z1 => k_asm); (case z2 => k_asm); (case z3 => k_asm); (case z4 => k_asm); (case z5 => k_asm); (case z6 => first | exact rfl | assumption); (case z7 => first | omega | ktr_room); (case z8 => first | omega | ktr_units))
    rintro v7 nx7 h7 tk7 ⟨r7, t7, g7, st7, t71, t72, t73, n7, rfl, r70, r71, g70, g71, s70, s71, rfl⟩ F7 N7'
    k_steps
    unfold Hold
    refine sign_item (by k_asm) (by k_asm) r70 r71 ?_
    intro c tc hc
    k_steps
    refine LCg.CompEnd.intro F7 N7' ((P, penObj C g7 st7 (pl + 1 + (i : Int) + 1) t71 t72 t73 n7) :: (C, listOf cs.toArray nC) :: (L' + 1, o9) :: news) (fun p hp => ?_) off trivial ⟨g7, st7, t71, t72, t73, n7, ks ++ [c], ?_, g70, g71, s70, s71, ?_, ?_, ?_⟩
    · simp only [List.mem_cons] at hp ⊢
      rcases hp with h | h | h | h | h | h
      · exact .inr (.inr (.inl h))
      · exact .inr (.inr (.inr (.inl h)))
      · exact .inr (.inr (.inr (.inr (.inl h))))
      · exact .inl h
      · exact .inr (.inl h)
      · exact .inr (.inr (.inr (.inr (.inr h))))
    · rw [show pl + 1 + ((i + 1 : Nat) : Int) = pl + 1 + (i : Int) + 1 from by omega]
    · rw [List.map_append]
      exact IntsAre.append hks (.cons _ _ .nil)
    · rw [List.length_append, hkl]; rfl
    · intro d hd
      rcases List.mem_append.mp hd with h | h
      · exact hkm d h
      · rw [List.mem_singleton.mp h]; exact hc
  · rintro ys nx hys ⟨g8, st8, t81, t82, t83, n8, ks, rfl, g80, g81, s80, s81, hks, hkl, hkm⟩
    k_steps
    refine bytes_of (ks := ks) (by k_asm) (by k_asm) (News.isList (by k_asm) (by k_mem)) hks (fun c hc => signs_small (hkm c hc)) (by omega) (by rfl) ?_
    intro h9 t9 k9 F9 N9
    k_steps
    rename News h₀ L _ _ => kN9
    have hp0 := h1.p0
    refine hret _ _ _ _ ⟨ks, t9, g8, st8, pl + 1 + (((r - 0).toNat : Nat) : Int), t81, t82, t83, n8, rfl, by omega, hkm, ⟨g80, g81, s80, s81, by omega, by omega⟩, by omega, rfl⟩ (by k_asm) fun p hp => kN9 p ?_
    simp only [List.mem_cons] at hp ⊢
    rcases hp with h | h | h
    · exact .inr (.inl h)
    · exact .inr (.inr (.inl h))
    · exact .inr (.inr (.inr (.inr h)))
end Nz

/-! part NzC7 -/
namespace Nz
theorem ints_ofI : ∀ {l : List Int} {ys : List Value}, ys.length = l.length → (∀ (i : Nat) (v : Value), ys[i]? = some v → ∃ k t, l[i]? = some k ∧ v = Value.int k t) → IntsAre ys l
  | [], [], _, _ => .nil
  | [], _ :: _, h, _ => by cases h
  | _ :: _, [], h, _ => by cases h
  | k :: l, y :: ys, hl, h => by
    obtain ⟨k', t, hk, rfl⟩ := h 0 y rfl
    cases hk
    exact .cons _ t (ints_ofI (by simpa using hl) fun i v hi => h (i + 1) v (by simpa using hi))
theorem foldl_inv {σ : Type} {α : Type} (P : σ → Prop) (f : σ → α → σ) (hf : ∀ s n, P s → P (f s n)) : ∀ (xs : List α) (s : σ), P s → P (xs.foldl f s)
  | [], _, h => h
  | x :: xs, s, h => foldl_inv P f hf xs (f s x) (hf s x h)
theorem drop3 {h₀ h : Heap} {L : Addr} {a b c : Addr × Obj} {news : Al} (N : News h₀ L h (a :: b :: c :: news)) : News h₀ L h (a :: b :: news) := fun p hp => N p (by
  simp only [List.mem_cons] at hp ⊢
  rcases hp with h | h | h
  · exact .inl h
  · exact .inr (.inl h)
  · exact .inr (.inr (.inr h)))
theorem pen_fold3 (xs : List Int) (G : Int) (h0 : 0 ≤ G) (h1 : G < 10 ^ 240) (r : Int × Int × Int × Unit) (hr : r = xs.foldl (fun (σ : Int × Int × Int × Unit) (n : Int) => ((σ.fst * 48271 + n.fmod 2147483647 + 12345).fmod 2147483647, σ.snd.fst, σ.snd.fst, ())) (1, G, 0, ())) :
    0 ≤ r.2.1 ∧ r.2.1 < 10 ^ 240 ∧ 0 ≤ r.1 ∧ r.1 < 2147483647 := by
  subst hr
  refine foldl_inv (fun σ : Int × Int × Int × Unit => 0 ≤ σ.2.1 ∧ σ.2.1 < 10 ^ 240 ∧ 0 ≤ σ.1 ∧ σ.1 < 2147483647) _ ?_ xs _ ?_
  · intro σ n h
    exact ⟨h.1, h.2.1, fm0 _ (by decide), fm1 _ (by decide)⟩
  · exact ⟨h0, h1, by show (0 : Int) ≤ 1; decide, by show (1 : Int) < 2147483647; decide⟩
theorem pen_fold2 (xs : List Int) (r : Int × Int × Unit) (hr : r = xs.foldl (fun (σ : Int × Int × Unit) (n : Int) => ((σ.fst * 48271 + n.fmod 2147483647 + 12345).fmod 2147483647, σ.snd.fst, ())) (1, 0, ())) :
    0 ≤ r.2.1 ∧ r.2.1 < 10 ^ 240 ∧ 0 ≤ r.1 ∧ r.1 < 2147483647 := by
  subst hr
  refine foldl_inv (fun σ : Int × Int × Unit => 0 ≤ σ.2.1 ∧ σ.2.1 < 10 ^ 240 ∧ 0 ≤ σ.1 ∧ σ.1 < 2147483647) _ ?_ xs _ ?_
  · intro σ n h
    exact ⟨h.1, h.2.1, fm0 _ (by decide), fm1 _ (by decide)⟩
  · exact ⟨by show (0 : Int) ≤ 0; decide, by show (0 : Int) < 10 ^ 240; decide, by show (0 : Int) ≤ 1; decide, by show (1 : Int) < 2147483647; decide⟩
theorem big0 (a : Int) : 0 ≤ a.fmod (10 ^ Int.toNat 240) := fm0 a (by decide)
theorem big1 (a : Int) : a.fmod (10 ^ Int.toNat 240) < 10 ^ 240 := fm1 a (by decide)
theorem lt_mem {D : Addr} : ∀ {l : Al}, AllLt D l → ∀ p ∈ l, p.1 ≠ D
  | [], _, _, h => nomatch h
  | _ :: _, x, p, h => by
    rcases List.mem_cons.mp h with rfl | h
    · exact Nat.ne_of_lt x.1
    · exact lt_mem x.2 p h
theorem off1_mem {D : Addr} : ∀ {l : Al}, LCg.Off1 D l → ∀ p ∈ l, p.1 ≠ D
  | [], _, _, h => nomatch h
  | _ :: _, x, p, h => by
    rcases List.mem_cons.mp h with rfl | h
    · exact x.1
    · exact off1_mem x.2 p h
local macro_rules | `(tactic| walk_at "exec Assign cons ListComp") => `(tactic| (k_here; k_dflt (refine LCg.Assign_ListComp_U (F₀ := by k_asm) (by rfl) (by with_unfolding_all rfl) (by with_unfolding_all rfl) (by decide) (by rfl) (by decide) (by rfl) (by rfl) (by rfl) ?_)))
local macro_rules | `(tactic| walk_at "CompSrc") => `(tactic| (k_here; k_dflt (refine LCg.CompSrc.ledger (by rfl) (by k_asm) (by k_asm) (by k_mem) (by rw [PySem.sizeLine_eq, List.size_toArray, IntsAre.length (by assumption)]; omega) ?_); intro g'; refine Hold.out ?_))
set_option maxHeartbeats 8000000 in
theorem ct_pen (w : World) (mean : ExcName → Option Value) (mg mb : Str → Option Value) (S : Addr) (vs : List Value) (ns : List Int) (news : Al)
    (hi : IntsAre vs ns) (hlay : (PyData.list (List.map PyData.int ns)).layable0 = true) (h63 : ns.length ≤ 63)
    (dp un : Nat) (gd : Option (List Code)) (cn : Str) (cs : Scope) (a : Addr) (ccd : Value) (cl : List (Str × Addr)) (outer : List Env) (A₀ : Around) (base h₀ : Heap) (L : Addr) (m : Str → Option Value) (s : Shared) (Q E : Value → Shared → Prop)
    (B : Below A₀ base outer h₀) (F : Fr h₀ L s.heap m) (N : News h₀ L s.heap news) (T : Top hd.view_39 (looseW hd.view_39 [Str.ofString "PostError", Str.ofString "_law_signs"]) mean mg mb h₀) (hk : cs.kind = .function)
    (hdp : dp + 2 < recursionLimit) (hun : un + 200 < cLine) (hl : base.IsList S vs.toArray)
    (hret : ∀ P C g st t1 t2 t3 n nC ks ms h' tk', P ≠ C → (∀ p ∈ news, p.1 ≠ C ∧ p.1 ≠ P) → IntsAre ks ms → ms.length ≤ 48 → 0 ≤ g → g < 10 ^ 240 → 0 ≤ st → st < 2147483647 → Fr h₀ L h' m → News h₀ L h' ((P, penObj C g st 0 t1 t2 t3 n) :: (C, listOf ks.toArray nC) :: news) → Q (.ref P) { s with heap := h', toks := tk' }) :
    (hd.heap_39 w.params).In h₀ → wpAny (model PySem.Challenge.rw_nz0266_01.row.prog w) (ktrTop dp un gd cn cs L a ccd cl outer) (call (.ref 105) [.ref S]) Q E s := by
  w_top off
  k_fill
  intro X
  refine wpAny_call ?_
  k_dflt cell_enter
  k_steps
  unfold Hold
  rename IntsAre _ _ => hI9
  rename List Value => ws9
  rename (List.take 48 ns).length = _ => hC9
  have hws : ws9.toArray.size = (List.take 48 ns).length := by rw [List.size_toArray, hI9.length]
  refine comp_map (fun i y => ∃ k t, (List.take 48 ns)[i]? = some k ∧ y = .int k t) ?_ ?_
  · intro i v I oI C oC D m₂ ys h8 tk8 E8 hi8 hv hC hx F8 N8 off ne
    obtain ⟨k, t, rfl, hk⟩ := IntsAre.at hI9 i v (by simpa using hv)
    k_steps
    exact LCg.CompEnd.intro (by k_asm) (by k_asm) _ (fun _ hp => hp) off (Or.inr ⟨_, List.mem_cons_self, rfl, _, rfl⟩) ⟨rfl, k, t, hk, rfl⟩
  · intro ys hl' hy
    have hI8 := ints_ofI (by rw [hl', hws]) hy
    k_steps
    all_goals
      rename News h₀ L _ _ => kN9
      have kN8 := drop3 kN9
      rename _ ∧ _ ∧ AllLt _ _ => l9
      rename _ ∧ LCg.Off1 _ _ => o9
      have l4 : (List.take 48 ns).length ≤ 48 := by rw [hC9]; omega
      refine hret _ _ _ _ _ _ _ _ _ _ (List.take 48 ns) _ _ (Nat.ne_of_gt l9.1) (fun p hp => ⟨off1_mem o9.2 p hp, lt_mem l9.2.2 p hp⟩) (by assumption) l4 ?_ ?_ ?_ ?_ (by k_asm) kN8
    · exact (pen_fold3 _ _ (big0 _) (big1 _) _ rfl).1
    · exact (pen_fold3 _ _ (big0 _) (big1 _) _ rfl).2.1
    · exact (pen_fold3 _ _ (big0 _) (big1 _) _ rfl).2.2.1
    · exact (pen_fold3 _ _ (big0 _) (big1 _) _ rfl).2.2.2
    · exact (pen_fold2 _ _ rfl).1
    · exact (pen_fold2 _ _ rfl).2.1
    · exact (pen_fold2 _ _ rfl).2.2.1
    · exact (pen_fold2 _ _ rfl).2.2.2
    · exact (pen_fold2 _ _ rfl).1
    · exact (pen_fold2 _ _ rfl).2.1
    · exact (pen_fold2 _ _ rfl).2.2.1
    · exact (pen_fold2 _ _ rfl).2.2.2
end Nz

/-! part NzE1 -/
namespace Nz
/-- an exception of the class cls at e, its dict at d, its newest traceback's flight fl -/
def TrD (h base : Heap) (e d : Addr) (cls fl : Value) : Prop :=
  ∃ vs sl T oT ts, h.get? e = some ⟨cls, some d, .fields vs, sl⟩ ∧ vs[1]? = some (.ref T) ∧ base.get? T = none ∧ T ≠ e ∧ h.get? T = some oT ∧ oT.data = .fields ts ∧ ts[3]? = some fl
structure FlyD (base : Heap) (l : List Env) (e d : Addr) (cls fl : Value) (h : Heap) : Prop where
  stays : base.StaysIn h
  new : base.get? e = none
  frames : h.FunFrames base l
  tr : TrD h base e d cls fl
/-- an exception as it was made: not yet in flight -/
def FreshD (h : Heap) (e d : Addr) (cls : Value) : Prop := ∃ vs sl, h.get? e = some ⟨cls, some d, .fields vs, sl⟩ ∧ vs[1]? = some .none
section
variable {M : Model} {A : Around} {E : Value → Shared → Prop} {s : Shared} {base : Heap} {env : Env} {outer l : List Env} {L e d : Addr} {cls fl : Value} {Q : Unit → Shared → Prop}

/-- a new entry of the traceback -/
theorem entryD {vs : Array Value} {sl : Array (Option Value)} {head : Value} {hadNext : Bool} (hfr : A.frames = some (env :: outer)) (hl : s.heap.FunFrames base (env :: outer)) (hf : env.frame = some L)
    (he : s.heap.get? e = some ⟨cls, some d, .fields vs, sl⟩) (hkb : base.StaysIn s.heap) (hen : base.get? e = none) (hsz : 1 < vs.size)
    (h : ∀ h', FlyD base (env :: outer) e d cls (rawInt L) h' → s.heap.UpToSlots h' → Q () { s with heap := h' }) :
    wpAny M A (do let a ← frameOf env; let pl ← entryPlaceOf L hadNext; let b ← EntryCells.newEntry head a .none (rawInt L) .none pl; setField (.ref e) 1 b) Q E s := by
  have nfe : ∀ b o, s.heap.get? b = some o → (∀ ws, o.data ≠ .fields ws) → b ≠ e := fun b o hb hn q => by
    subst q
    rw [he] at hb
    cases hb
    exact hn vs rfl
  have notin : e ∉ (env :: outer).filterMap (·.frame) := fun hm => by
    obtain ⟨_, o, ho, hn⟩ := hl.mem hm
    exact nfe e o ho hn rfl
  refine wpAny_bind (wpAny_frameOf_fun hfr hl hf fun h₁ hs => wpAny_bind (wpAny_entryPlaceOf fun pl hpl => ?_))
  unfold EntryCells.newEntry newFields
  refine wpAny_bind (wpAny_newObj_type ?_ (hpl.sizeOk5 _ _ _ _ _))
  generalize hT : ({ cls := .type "traceback", dict := none, data := .fields ([head, .ref L, .none, rawInt L, .none] ++ (if pl.isEmpty then List.replicate 6 Value.none else pl)).toArray } : Obj) = oT
  have he₁ : h₁.get? e = some ⟨cls, some d, .fields vs, sl⟩ := (hs.2.1 e notin).trans he
  have he₂ := Heap.get?_push_of_some (h := h₁) oT he₁
  have ne : h₁.objs.size ≠ e := Nat.ne_of_gt (Heap.lt_size he₁)
  refine wpAny_setField he₂ rfl hsz (h _ ?_ ?_)
  · have stay : ∀ b o, b ≠ e → h₁.get? b = some o → ((h₁.push oT).update e (Obj.mapFields (·.setIfInBounds 1 (.ref h₁.objs.size)))).get? b = some o := fun b o hb q => by
      rw [Heap.get?_update_other _ _ (Ne.symm hb)]
      exact Heap.get?_push_of_some _ q
    have kb : base.StaysIn h₁ := fun b o q => (hs.2.1 b fun hm => by rw [(hl.mem hm).1] at q; cases q).trans (hkb b o q)
    refine ⟨fun b o q => stay b o (fun z => by rw [z, hen] at q; cases q) (kb b o q), hen, hl.of_keeps fun b o hb hn => ?_, ?_⟩
    · obtain ⟨sl', q⟩ := hs.2.2 b o hb
      exact ⟨_, stay b _ (nfe b o hb hn) q, rfl⟩
    · refine ⟨vs.setIfInBounds 1 (.ref h₁.objs.size), sl, h₁.objs.size, oT, _, ?_, ?_, kb.fresh, ne, ?_, by rw [← hT], ?_⟩
      · exact Heap.get?_update_self (Obj.mapFields (·.setIfInBounds 1 (Value.ref h₁.objs.size))) he₂ rfl
      · simp [hsz]
      · rw [Heap.get?_update_other _ _ (Ne.symm ne)]
        exact Heap.get?_push_size _ (by rw [← hT]; rfl)
      · rcases hpl with rfl | ⟨_, _, _, _, _, _, _, rfl⟩ <;> simp
  · intro b o hb hn
    obtain ⟨sl', q⟩ := hs.2.2 b o hb
    refine ⟨sl', ?_⟩
    rw [Heap.get?_update_other _ _ (Ne.symm (nfe b o hb hn))]
    exact Heap.get?_push_of_some _ q

theorem note_first (hfr : A.frames = some (env :: outer)) (hl : s.heap.FunFrames base (env :: outer)) (hf : env.frame = some L) (he : FreshD s.heap e d cls) (hkb : base.StaysIn s.heap) (hen : base.get? e = none)
    (h : ∀ h', FlyD base (env :: outer) e d cls (rawInt L) h' → s.heap.UpToSlots h' → Q () { s with heap := h' }) : wpAny M A (noteFrame (.ref e) env) Q E s := by
  obtain ⟨vs, sl, he, h1⟩ := he
  unfold noteFrame
  simp only [hf]
  refine wpAny_bind (wpAny_field he rfl h1 ?_)
  rw [if_neg (by decide)]
  exact entryD hfr hl hf he hkb hen (Array.getElem?_eq_some_iff.mp h1).1 h

theorem flightD {fl' : Value} (hh : FlyD base l e d cls fl' s.heap) (h : ∀ h', FlyD base l e d cls .none h' → s.heap.UpToSlots h' → Q () { s with heap := h' }) : wpAny M A (setFlight (.ref e) none) Q E s := by
  obtain ⟨hkb, hen, hl, vs, sl, T, oT, ts, he, h1, hnT, hTe, hT, hdT, h3⟩ := hh
  have h3' := (Array.getElem?_eq_some_iff.mp h3).1
  have nT : ∀ b o, s.heap.get? b = some o → (∀ ws, o.data ≠ .fields ws) → b ≠ T := fun b o hb hn q => by
    subst q
    rw [hT] at hb
    cases hb
    exact hn ts hdT
  unfold setFlight
  refine wpAny_bind (wpAny_field he rfl h1 ?_)
  rw [if_pos (show (Value.ref T != Value.none) = true from by simp)]
  refine wpAny_setField hT hdT h3' (h _ ⟨fun b o q => ?_, hen, hl.of_keeps fun b o hb hn => ⟨o, ?_, rfl⟩, vs, sl, T, _, _, ?_, h1, hnT, hTe, Heap.get?_update_self _ hT (Obj.isFreed_of_fields (Obj.data_mapFields hdT _)), Obj.data_mapFields hdT _, ?_⟩ fun b o hb hn => ⟨o.slots, ?_⟩)
  · rw [Heap.get?_update_other _ _ (fun z => by rw [← z, hnT] at q; cases q)]
    exact hkb b o q
  · rw [Heap.get?_update_other _ _ (Ne.symm (nT b o hb hn))]
    exact hb
  · rw [Heap.get?_update_other _ _ hTe]
    exact he
  · simp [h3']
  · rw [Heap.get?_update_other _ _ (Ne.symm (nT b o hb hn))]
    exact hb

theorem note_next (hfr : A.frames = some (env :: outer)) (hf : env.frame = some L) (hh : FlyD base (env :: outer) e d cls .none s.heap)
    (h : ∀ h', FlyD base (env :: outer) e d cls (rawInt L) h' → s.heap.UpToSlots h' → Q () { s with heap := h' }) : wpAny M A (noteFrame (.ref e) env) Q E s := by
  obtain ⟨hkb, hen, hl, vs, sl, T, oT, ts, he, h1, hnT, hTe, hT, hdT, h3⟩ := hh
  have h3' := (Array.getElem?_eq_some_iff.mp h3).1
  have nT : ∀ b o, s.heap.get? b = some o → (∀ ws, o.data ≠ .fields ws) → b ≠ T := fun b o hb hn q => by
    subst q
    rw [hT] at hb
    cases hb
    exact hn ts hdT
  unfold noteFrame
  simp only [hf]
  refine wpAny_bind (wpAny_field he rfl h1 ?_)
  rw [if_pos (show (Value.ref T != Value.none) = true from by simp)]
  refine wpAny_bind (wpAny_field hT hdT h3 ?_)
  rw [if_neg (show ¬ ((Value.none == rawInt L) = true) from by simp [rawInt])]
  refine wpAny_bind (wpAny_setField hT hdT h3' ?_)
  have up : s.heap.UpToSlots (s.heap.update T (Obj.mapFields (·.setIfInBounds 3 Value.none))) := fun b o hb hn => ⟨o.slots, by
    rw [Heap.get?_update_other _ _ (Ne.symm (nT b o hb hn))]
    exact hb⟩
  refine entryD hfr (hl.of_keeps fun b o hb hn => ⟨o, ?_, rfl⟩) hf (sl := sl) (vs := vs) ?_ (fun b o q => ?_) hen (Array.getElem?_eq_some_iff.mp h1).1 fun h' x y => h h' x (up.trans y)
  · show (s.heap.update T _).get? b = some o
    rw [Heap.get?_update_other _ _ (Ne.symm (nT b o hb hn))]
    exact hb
  · show (s.heap.update T _).get? e = _
    rw [Heap.get?_update_other _ _ hTe]
    exact he
  · show (s.heap.update T _).get? b = some o
    rw [Heap.get?_update_other _ _ (fun z => by rw [← z, hnT] at q; cases q)]
    exact hkb b o q

theorem leave_first (hfr : A.frames = some (env :: outer)) (hl : s.heap.FunFrames base (env :: outer)) (hf : env.frame = some L) (he : FreshD s.heap e d cls) (hkb : base.StaysIn s.heap) (hen : base.get? e = none)
    (h : ∀ h', FlyD base outer e d cls .none h' → s.heap.UpToSlots h' → Q () { s with heap := h' }) : wpAny M A (leaving env (.ref e)) Q E s := by
  unfold leaving
  refine wpAny_bind (note_first hfr hl hf he hkb hen fun h₁ f1 u1 => flightD f1 fun h₂ f2 u2 => h h₂ ⟨f2.stays, f2.new, ?_, f2.tr⟩ (u1.trans u2))
  obtain ⟨_, _, q⟩ := f2.frames
  exact q
end
end Nz

/-! part NzE2 -/
namespace Nz
section
variable {prog : Program} {w : World} {A : Around} {E : Value → Shared → Prop} {R : Result → Shared → Prop} {h : Heap} {g : Array GenState} {d : Drawn} {t : Nat} {os : OsState}
variable {nm q : Str} {C N : Addr} {bs bm bmN : List Value} {hdct : Bool} {sn : List Str} {sub : List Value} {ab : Bool} {col : Option Bool} {dd : Option Addr} {k0 k1 k2 k3 k5 : Option Value} {Bn newId inN : String}

theorem new_check (Fn : ExcBaseFacts Bn newId inN bmN) (hcB : (Value.ref C :: bm).contains (.type Bn) = true) {M : Model} {rest : List Value} {Q : Unit → Shared → Prop}
    (hC : h.get? C = some (excClassObj nm q C N bs bm hdct sn sub ab col dd k0 k1 k2 k3 k5 newId)) (hq : Q () ⟨h, g, d, t, os⟩) : wpAny M A (checkBuiltinCall newId ⟨.ref C :: rest, []⟩) Q E ⟨h, g, d, t, os⟩ := by
  have hstar := Fn.noStar
  simp only [checkBuiltinCall, Fn.newKind, Fn.newSplit, Fn.newRow]
  repeat (first | refine wpAny_loadPart_at hC ?_ | (refine wpAny_isSubtype_exc hC ?_; rw [hcB]) | refine wpAny_staticBase_exc hC ?_ | refine wpAny_madeBy_exc hC ?_ | simp only [bne_self_eq_false, Bool.false_eq_true, if_false] | wp_step)
  exact hq

theorem new_run (Fn : ExcBaseFacts Bn newId inN bmN) (hcB : (Value.ref C :: bm).contains (.type Bn) = true) (hcA : (Value.ref C :: bm).contains (.type "AttributeError") = false) (hcN : (Value.ref C :: bm).contains (.type "NameError") = false)
    {rest : List Value} (hC : h.get? C = some (excClassObj nm q C N bs bm hdct sn sub ab col dd k0 k1 k2 k3 k5 newId))
    (hq : R (.ok (.ret (.ref (h.objs.size + 1)))) ⟨(h.push { cls := .type "tuple", data := .seq rest.toArray }).push
      { cls := .ref C, data := .fields #[.ref h.objs.size, .none, .none, .none, .bool false, .none] }, g, d, t, os⟩) (hrest : rest.length ≤ sizeLine) :
    codeAny (model prog w) A (.builtin newId ⟨.ref C :: rest, []⟩) R ⟨h, g, d, t, os⟩ := by
  have hends := Fn.ends
  refine codeAny_builtinAt Fn.entry ?_
  unfold Builtin.«BaseException.__new__»
  refine PySem.wpAt_bind ?_
  show PySem.wpAt _ _ _ (stack >>= _) _ _ _
  refine PySem.wpAt_bind (PySem.wpAt_stack fun p below => PySem.wpAt_of_wpAny ?_)
  wp_walk
  refine PySem.wpAt_of_wpAny ?_
  rw [Fn.owner]
  repeat (first | with_reducible refine wpAny_madeHere_exc Fn.canon hC ?_ | with_reducible refine wpAny_loadPart_at hC ?_ | (with_reducible refine wpAny_isSubtype_exc hC ?_; first | rw [hcB] | rw [hcA] | rw [hcN]) | wp_step)
  show R _ _
  rw [Heap.size_push]
  exact hq

theorem type_call_init (Fn : ExcBaseFacts Bn newId inN bmN) (hcB : (Value.ref C :: bm).contains (.type Bn) = true) (hcA : (Value.ref C :: bm).contains (.type "AttributeError") = false) (hcN : (Value.ref C :: bm).contains (.type "NameError") = false)
    {rest : List Value} {fI : Addr} {oI : Obj} {Q : Fin → Shared → Prop}
    (hC : h.get? C = some (excClassObj nm q C N bs bm hdct sn sub ab col dd k0 k1 k2 k3 k5 newId)) (hi : Looks (model prog w) h (typeLookup (.ref C) "__init__") (some (.ref fI)))
    (hfI : h.get? fI = some oI) (hfc : oI.cls = .type "function")
    (hq : ∀ h' e, Heap.MadeExcOf h h' e (.ref C) rest →
      wpAny (model prog w) A (call (.ref fI) (.ref e :: rest)) (fun r s' => r = .none ∧ Q (.done (.ret (.ref e))) s') E ⟨h', g, d, t, os⟩) (hrest : rest.length ≤ sizeLine) :
    wpAny (model prog w) A (Builtin.«type.__call__» ⟨.ref C :: rest, []⟩) Q E ⟨h, g, d, t, os⟩ := by
  repeat (first | with_reducible refine wpAny_loadPart_at hC ?_ | with_reducible refine wpAny_madeBy_exc hC ?_ | wp_step)
  refine codeAny_call_builtin_code (Code.quiet_builtin _ Fn.quiet) (new_check Fn hcB hC ?_)
  refine new_run Fn hcB hcA hcN hC ?_ hrest
  show wpAny _ _ _ _ _ _
  have keep : ∀ b o, h.get? b = some o → ((h.push { cls := .type "tuple", data := .seq rest.toArray }).push { cls := .ref C, data := .fields #[.ref h.objs.size, .none, .none, .none, .bool false, .none] }).get? b = some o := fun b o e => Heap.get?_push_of_some _ (Heap.get?_push_of_some _ e)
  have hC₁ := keep _ _ hC
  have hfI₁ := keep _ _ hfI
  have hget : ((h.push { cls := .type "tuple", data := .seq rest.toArray }).push
      { cls := .ref C, data := .fields #[.ref h.objs.size, .none, .none, .none, .bool false, .none] }).get? (h.objs.size + 1) = some
      { cls := .ref C, data := .fields #[.ref h.objs.size, .none, .none, .none, .bool false, .none] } := by heap_get
  have hcC : (Value.ref C :: bm).contains (.ref C) = true := by simp
  unfold isInstance
  repeat (first | with_reducible refine wpAny_loadPart_at hget ?_ | (with_reducible refine wpAny_isSubtype_exc hC₁ ?_; rw [hcC]) | wp_step)
  show wpAny _ _ (typeLookup (.ref C) _) _ _ _
  refine hi _ _ _ _ keep ?_
  refine wpAny_holding (wpAny_bind ?_)
  unfold bindSpecial
  refine wpAny_bind (wpAny_typeOf (T := "function") ⟨_, hfI₁, hfc⟩ ?_)
  rw [if_pos (by decide)]
  refine wpAny_pure (wpAny_bind (wpAny_mono (hq _ (h.objs.size + 1) ⟨keep, Heap.get?_none_of_le (Nat.le_succ _), h.objs.size, hget, Heap.get?_none_of_le (Nat.le_refl _), ?_⟩) (fun r s' hr => ?_) fun _ _ x => x))
  · exact Heap.get?_push_of_some _ (Heap.get?_push_at rfl rfl)
  · obtain ⟨rfl, hQ⟩ := hr
    wp_walk
    exact hQ

theorem call_init (Fn : ExcBaseFacts Bn newId inN bmN) (hcB : (Value.ref C :: bm).contains (.type Bn) = true) (hcA : (Value.ref C :: bm).contains (.type "AttributeError") = false) (hcN : (Value.ref C :: bm).contains (.type "NameError") = false)
    {rest : List Value} {fI : Addr} {oI : Obj} {Q : Value → Shared → Prop}
    (hC : h.get? C = some (excClassObj nm q C N bs bm hdct sn sub ab col dd k0 k1 k2 k3 k5 newId)) (hi : Looks (model prog w) h (typeLookup (.ref C) "__init__") (some (.ref fI)))
    (hfI : h.get? fI = some oI) (hfc : oI.cls = .type "function")
    (hq : ∀ h' e, Heap.MadeExcOf h h' e (.ref C) rest →
      wpAny (model prog w) (A.under (.builtin "type.__call__" ⟨.ref C :: rest, []⟩)) (call (.ref fI) (.ref e :: rest)) (fun r s' => r = .none ∧ Q (.ref e) s') E ⟨h', g, d, t, os⟩) (hrest : rest.length ≤ sizeLine) :
    wpAny (model prog w) A (call (.ref C) rest) Q E ⟨h, g, d, t, os⟩ := by
  have f1 := tc_lookup
  have f2 := tc_bind (.ref C)
  have hT : (⟨h, g, d, t, os⟩ : Shared).TypeIs (.ref C) "type" := ⟨_, hC, rfl⟩
  refine wpAny_call (codeAny_of_tree ?_)
  show wpAny _ _ (callAny (.ref C) _) _ _ _
  repeat (any_goals (first | assumption | with_reducible refine wpAny_loadPart_at hC ?_ | wp_step))
  refine ⟨rfl, ?_⟩
  refine codeAny_call_builtin_at (Code.quiet_builtin _ (by decide +kernel)) entry_typeCall (wpAny_check_type_call_sub hC (type_call_init (hrest := hrest) Fn hcB hcA hcN hC hi hfI hfc fun h' e hm => ?_))
  exact hq h' e hm
end
end Nz

/-! part NzE3 -/
namespace Nz
def excIn (K : Frag) (C : Addr) (bm : List Value) (newId : String) : Bool := match K.lookup C with
  | some ⟨.type "type", _, .cls cd, sl⟩ => (match cd.mro, sl.toList with
    | .ref C' :: bm', [_, _, _, _, some (.builtin n), _] => C' == C && !cd.hasDel && cd.hasDict && bm' == bm && n == newId
    | _, _ => false)
  | _ => false
theorem exc_cls {K : Frag} {C : Addr} {bm : List Value} {newId : String} (q : excIn K C bm newId = true) : ∃ nm qn N bs sn sub ab col dd k0 k1 k2 k3 k5,
    K.lookup C = some (excClassObj nm qn C N bs bm true sn sub ab col dd k0 k1 k2 k3 k5 newId) := by
  unfold excIn at q
  split at q
  · rename_i dd cd sl ho
    split at q
    · rename_i C' bm' k0 k1 k2 k3 n k5 hm hs
      simp only [Bool.and_eq_true, beq_iff_eq, Bool.not_eq_true'] at q
      obtain ⟨⟨⟨⟨rfl, hdel⟩, hdi⟩, rfl⟩, rfl⟩ := q
      obtain ⟨nm, bs, mro, ns, qn, hd, sn, sub, ab, col, del⟩ := cd
      dsimp only at hm hdel hdi
      subst hm hdel hdi
      have hsl : sl = #[k0, k1, k2, k3, some (.builtin n), k5] := by
        obtain ⟨l⟩ := sl
        simp only at hs
        rw [hs]
      subst hsl
      exact ⟨nm, qn, ns, bs, sn, sub, ab, col, dd, k0, k1, k2, k3, k5, ho⟩
    · cases q
  · cases q
section
variable {prog : Program} {w : World} {A : Around} {E : Value → Shared → Prop} {h : Heap} {g : Array GenState} {d : Drawn} {t : Nat} {os : OsState}
variable {nm q : Str} {C N x : Addr} {bs bm : List Value} {sn : List Str} {sub : List Value} {ab : Bool} {col : Option Bool} {dd : Option Addr} {k0 k1 k2 k3 k5 : Option Value} {B newId sa owner : String}
  {mA : Str → Option Value} {name : Str} {v : Value}

theorem sa_check {M : Model} {o : Obj} {nameV : Value} {Q : Unit → Shared → Prop} {bmB : List Value} (SF : StoreFacts B bmB sa owner) (hcB : (Value.ref C :: bm).contains (.type owner) = true)
    (hC : h.get? C = some (excClassObj nm q C N bs bm true sn sub ab col dd k0 k1 k2 k3 k5 newId)) (hx : h.get? x = some o) (hc : o.cls = .ref C) (hq : Q () ⟨h, g, d, t, os⟩) :
    wpAny M A (checkBuiltinCall sa ⟨[.ref x, nameV, v], []⟩) Q E ⟨h, g, d, t, os⟩ := by
  have ha := SF.args (.ref x) nameV v
  simp only [checkBuiltinCall, SF.kind, SF.split]
  refine wpAny_bind ?_
  · unfold isInstance
    repeat (first | (with_reducible refine wpAny_loadPart_at hx ?_; rw [hc]) | (with_reducible refine wpAny_isSubtype_exc hC ?_; rw [hcB]) | wp_step)
    cases hsig : Manifest.signature? sa with
    | none => exact wpAny_pure hq
    | some sig =>
      simp only [argsOk, hsig] at ha
      have h2 : Bind.checkArgs sa sig ⟨[.ref x, nameV, v], []⟩ = pure () := ha
      show wpAny M A (Bind.checkArgs sa sig ⟨[.ref x, nameV, v], []⟩) Q E _
      rw [h2]; exact wpAny_pure hq

/-- what a store of an attribute leaves -/
def Stored (h h' : Heap) (x : Addr) (o : Obj) (name : Str) (v : Value) (mA : Str → Option Value) : Prop :=
  ∃ dx, h'.get? x = some { o with dict := some dx } ∧ dx ≠ x ∧ h'.Ns1 dx (fun y => if y = name then some v else mA y) ∧ (o.dict = some dx ∨ h.get? dx = none) ∧ ∀ b ob, b ≠ x → b ≠ dx → h.get? b = some ob → h'.get? b = some ob

theorem sa_run {tk : Tok} {Q : Fin → Shared → Prop} {ns : List Str} {o : Obj}
    (hC : h.get? C = some (excClassObj nm q C N bs bm true sn sub ab col dd k0 k1 k2 k3 k5 newId)) (hpass : refuseLoop (.ref x) "__setattr__" (.ref C :: bm) = pure ()) (hna : Looks (model prog w) h (typeLookup (.ref C) name) none)
    (hx : h.get? x = some o) (hc : o.cls = .ref C) (hnc : ∀ c, o.data ≠ .cls c) (hd : (o.dict = none ∧ ∀ n, mA n = none) ∨ ∃ d, o.dict = some d ∧ d ≠ x ∧ h.Ns1 d mA)
    (hq : ∀ h' tk', Stored h h' x o name v mA → Q (.done (.ret .none)) ⟨h', g, d, tk', os⟩) (hw : Within mA ns) (hsz : ns.length ≤ sizeLine) :
    wpAny (model prog w) A (Builtin.«object.__setattr__» ⟨[.ref x, .str name tk, v], []⟩) Q E ⟨h, g, d, t, os⟩ := by
  have hna' : ∀ {A : Around} {Q : Option Value → Shared → Prop} {E : Value → Shared → Prop} {t : Nat}, Q none ⟨h, g, d, t, os⟩ → wpAny (model prog w) A (typeLookup (.ref C) name) Q E ⟨h, g, d, t, os⟩ := fun q => hna _ _ _ _ (fun _ _ e => e) q
  unfold Builtin.«object.__setattr__»
  repeat (first | rw [refuse_eq] | (rw [hpass]) | (with_reducible refine wpAny_loadPart_at hx ?_; rw [hc]) | with_reducible refine wpAny_mroOf_exc hC ?_ | (with_reducible refine hna' ?_) | wp_step)
  rcases hd with ⟨hdn, hmA⟩ | ⟨dx, hdx, hne, hns⟩
  ·
    rw [hdn, if_neg (by simp [typeHasDict])]
    split
    · rename_i hcd
      cases hcd
    split
    · rename_i c hcd
      exact absurd hcd (hnc c)
    · have hx₁ : (h.push { cls := .type "dict", data := .dict #[] }).get? x = some o := Heap.get?_push_of_some _ hx
      have hxs : x ≠ h.objs.size := Nat.ne_of_lt (Heap.lt_size hx)
      refine wpAny_bind (wpAny_alloc' ?_)
      refine wpAny_bind (wpAny_update' hx₁ ?_)
      refine wpAny_pure ?_
      have hgd : ((h.push { cls := .type "dict", data := .dict #[] }).update x fun o => { cls := o.cls, dict := some h.objs.size, data := o.data, slots := o.slots }).get? h.objs.size
          = some { cls := .type "dict", data := .dict #[] } :=
        (Heap.get?_update_ne _ _ _ _ hxs.symm).trans (Heap.get?_push_at rfl rfl)
      have hnd : ((h.push { cls := .type "dict", data := .dict #[] }).update x fun o => { cls := o.cls, dict := some h.objs.size, data := o.data, slots := o.slots }).Ns h.objs.size (fun _ => none) :=
        ⟨_, #[], _, hgd, rfl, fun e he => absurd he (by simp), fun _ => rfl⟩
      show wpAny _ _ (Builtin.ObjectAttr.storeInDict h.objs.size (.str name tk) name v) _ _ _
      unfold Builtin.ObjectAttr.storeInDict Builtin.ObjectAttr.newKeyGuard
      refine wpAny_bind (wpAny_pure (wpAny_bind (wpAny_nsSet1 (Heap.Ns1.of_empty hnd) fun h' hn' hs => ?_)))
      obtain ⟨oD, esD, epD, hoD, hdD, hcD⟩ := hn'.count (Within.cons name v Within.nil)
      refine wpAny_bind (wpAny_lookBehind hoD (by rw [hdD]; exact pastItsLine_dict (Nat.le_trans hcD (by rw [List.length_cons, List.length_nil, sizeLine_eq]; omega))) ?_)
      wp_walk
      have hx' : h'.get? x = some { cls := o.cls, dict := some h.objs.size, data := o.data, slots := o.slots } := ?_
      refine hq h' _ ⟨h.objs.size, hx', hxs.symm, ?_, .inr (Heap.get?_none_of_le (Nat.le_refl _)), fun b ob hbx _ hb => ?_⟩
      · obtain ⟨o', es, ep, e1, e2, e3, eu, e4⟩ := hn'
        exact ⟨o', es, ep, e1, e2, e3, eu, fun y => by rw [e4 y]; by_cases hy : y = name <;> simp [hy, hmA]⟩
      · exact (hs.2 b (Nat.ne_of_lt (Heap.lt_size hb))).trans ((Heap.get?_update_ne _ _ _ _ hbx).trans (Heap.get?_push_of_some _ hb))
      · refine (hs.2 x hxs).trans (Heap.get?_update_self _ hx₁ ?_)
        have hfr := (Heap.get?_some_iff.mp hx).2
        obtain ⟨oc, od, odt, osl⟩ := o
        cases odt <;> first | rfl | exact hfr
  ·
    rw [hdx]
    refine wpAny_pure ?_
    show wpAny _ _ (Builtin.ObjectAttr.storeInDict dx (.str name tk) name v) _ _ _
    unfold Builtin.ObjectAttr.storeInDict Builtin.ObjectAttr.newKeyGuard
    refine wpAny_bind (wpAny_pure (wpAny_bind (wpAny_nsSet1 hns fun h' hn' hs => ?_)))
    obtain ⟨oD, esD, epD, hoD, hdD, hcD⟩ := hn'.count (Within.cons name v hw)
    refine wpAny_bind (wpAny_lookBehind hoD (by rw [hdD]; exact pastItsLine_dict (Nat.le_trans hcD (by rw [List.length_cons]; omega))) ?_)
    wp_walk
    refine hq h' _ ⟨dx, ?_, hne, hn', .inl hdx, fun b ob _ hbd hb => (hs.2 b hbd).trans hb⟩
    refine ((hs.2 x hne.symm).trans hx).trans ?_
    rw [← hdx]

theorem sa_attr {Q : Unit → Shared → Prop} {ns : List Str} {o : Obj} {bmB : List Value} (SF : StoreFacts B bmB sa owner) (hcB : (Value.ref C :: bm).contains (.type owner) = true)
    (hC : h.get? C = some (excClassObj nm q C N bs bm true sn sub ab col dd k0 k1 k2 k3 k5 newId)) (hpass : refuseLoop (.ref x) "__setattr__" (.ref C :: bm) = pure ()) (hns : Looks (model prog w) h (typeLookup (.ref C) "__setattr__") (some (.builtin sa))) (hna : Looks (model prog w) h (typeLookup (.ref C) name) none)
    (hx : h.get? x = some o) (hc : o.cls = .ref C) (hnc : ∀ c, o.data ≠ .cls c) (hd : (o.dict = none ∧ ∀ n, mA n = none) ∨ ∃ d, o.dict = some d ∧ d ≠ x ∧ h.Ns1 d mA)
    (hw : Within mA ns) (hsz : ns.length ≤ sizeLine) (hq : ∀ h' tk', Stored h h' x o name v mA → Q () ⟨h', g, d, tk', os⟩) :
    wpAny (model prog w) A (setAttr (.ref x) name v) Q E ⟨h, g, d, t, os⟩ := by
  have f3 := SF.slot.bind (.ref x)
  have hns' : ∀ {A : Around} {Q : Option Value → Shared → Prop} {E : Value → Shared → Prop} {t : Nat}, Q (some (.builtin sa)) ⟨h, g, d, t, os⟩ → wpAny (model prog w) A (typeLookup (.ref C) "__setattr__") Q E ⟨h, g, d, t, os⟩ := fun q => hns _ _ _ _ (fun _ _ e => e) q
  unfold setAttr callSpecial? specialOf
  repeat (any_goals (first | assumption | (with_reducible refine wpAny_loadPart_at hx ?_; rw [hc]) | (with_reducible refine hns' ?_) | wp_step))
  refine codeAny_call_builtin SF.slot.plain SF.entry (sa_check SF hcB hC hx hc (sa_run hC hpass hna hx hc hnc hd (fun h' tk' S => ?_) hw hsz))
  repeat (any_goals (first | assumption | wp_step))
  exact hq h' tk' S

theorem init_check (F : ExcBaseFacts B newId' initId bmB) (hcB : (Value.ref C :: bm).contains (.type B) = true) {hdct : Bool} {M : Model} {e : Addr} {oe : Obj} {rest : List Value} {Q : Unit → Shared → Prop}
    (hC : h.get? C = some (excClassObj nm q C N bs bm hdct sn sub ab col dd k0 k1 k2 k3 k5 newId)) (he : h.get? e = some oe) (hcls : oe.cls = .ref C) (hq : Q () ⟨h, g, d, t, os⟩) :
    wpAny M A (checkBuiltinCall initId ⟨.ref e :: rest, []⟩) Q E ⟨h, g, d, t, os⟩ := by
  have hshort := F.noStar
  simp only [checkBuiltinCall, F.initKind, F.initSplit, F.initRow]
  repeat (first | (with_reducible refine wpAny_loadPart_at he ?_; rw [hcls]) | with_reducible refine wpAny_loadPart_at hC ?_ | (with_reducible refine wpAny_isSubtype_exc hC ?_; rw [hcB]) | wp_step)
  refine wpAny_onRaise ?_
  rw [show ∀ (a b : String) (n : Nat), Bind.check ⟨.positional, "*", B, .self, [⟨"args", .varPos, false⟩]⟩ a b n (List.map (fun x => x.fst) ({ pos := Value.ref e :: rest } : Args).kw) = pure () from
    fun a b n => check_star_args _ _ _ _ _ _]
  exact wpAny_pure hq

theorem init_call (F : ExcBaseFacts B newId' initId bmB) (hcB : (Value.ref C :: bm).contains (.type B) = true) {hdct : Bool} {e t0 : Addr} {v : Value} {Q : Value → Shared → Prop}
    (hC : h.get? C = some (excClassObj nm q C N bs bm hdct sn sub ab col dd k0 k1 k2 k3 k5 newId)) (he : h.get? e = some { cls := .ref C, data := .fields #[.ref t0, .none, .none, .none, .bool false, .none] })
    (hq : Q .none ⟨(h.push { cls := .type "tuple", data := .seq #[v] }).update e (Obj.mapFields (·.setIfInBounds 0 (.ref h.objs.size))), g, d, t, os⟩) :
    wpAny (model prog w) A (call (.builtin initId) [.ref e, v]) Q E ⟨h, g, d, t, os⟩ := by
  refine wpAny_call (codeAny_call_builtin F.init.plain F.initEntry (init_check F hcB hC he rfl ?_))
  wp_walk
  exact hq
end
theorem typed_at {K : Frag} {h : Heap} (X : K.In h) {f : Addr} (e : isFn K (.ref f) = true) : ∃ o, h.get? f = some o ∧ o.cls = .type "function" := by
  have e' : typeIn K (.ref f) = some (.type "function") := beq_iff_eq.mp e
  obtain ⟨o, ho, hc⟩ := Option.map_eq_some_iff.mp (show (K.lookup f).map (·.cls) = some (.type "function") from e')
  exact ⟨o, X _ _ ho, hc⟩
theorem stored_ledger {g h h' : Heap} {L e : Addr} {m mA : Str → Option Value} {o : Obj} {name : Str} {v : Value} {news : Al} (F : Fr g L h m) (N : News g L h ((e, o) :: news)) (ne : ∀ p ∈ news, p.1 ≠ e)
    (hd : ∀ dx, o.dict = some dx → g.get? dx = none ∧ dx ≠ L ∧ ∀ p ∈ news, p.1 ≠ dx) (S : Stored h h' e o name v mA) :
    ∃ dx dob, dx ≠ e ∧ (∀ p ∈ news, p.1 ≠ dx) ∧ g.get? dx = none ∧ dx ≠ L ∧ h'.Ns1 dx (fun y => if y = name then some v else mA y) ∧ h'.get? dx = some dob ∧ Fr g L h' m ∧ News g L h' ((e, { o with dict := some dx }) :: (dx, dob) :: news) := by
  obtain ⟨dx, hx, hne, hns, hor, hk⟩ := S
  have hdx : g.get? dx = none ∧ dx ≠ L ∧ ∀ p ∈ news, p.1 ≠ dx := by
    rcases hor with q | q
    · exact hd dx q
    · refine ⟨kts_none F.keep q, fun z => ?_, fun p hp z => ?_⟩
      · obtain ⟨oL, _, _, hL, _⟩ := F.ns
        rw [← z, q] at hL
        cases hL
      · have := (N p (.tail _ hp)).1
        rw [z, q] at this
        cases this
  have hE := N (e, o) (.head _)
  obtain ⟨dob, es, ep, hdob, rest⟩ := id hns
  refine ⟨dx, dob, hne, hdx.2.2, hdx.1, hdx.2.1, hns, hdob, ⟨?_, fun b ob hb => hk b ob (fun z => ?_) (fun z => ?_) (F.keep b ob hb), F.above⟩, fun p hp => ?_⟩
  · obtain ⟨oL, es', ep', hL, r⟩ := F.ns
    exact ⟨oL, es', ep', hk L oL (Ne.symm hE.2.1) (Ne.symm hdx.2.1) hL, r⟩
  · rw [z, hE.2.2] at hb
    cases hb
  · rw [z, hdx.1] at hb
    cases hb
  · rcases List.mem_cons.mp hp with rfl | hp
    · exact ⟨hx, hE.2.1, hE.2.2⟩
    · rcases List.mem_cons.mp hp with rfl | hp
      · exact ⟨hdob, hdx.2.1, hdx.1⟩
      · have P := N p (.tail _ hp)
        exact ⟨hk _ _ (ne p hp) (hdx.2.2 p hp) P.1, P.2⟩
theorem find_at {o : Obj} {es : Array DictEntry} {n : Nat} {name : Str} {v : Value} (hd : o.data = .dict es n) (h : nsFind es name = some v) : lookIn name o = some (some v) := by
  unfold nsFind findBy at h
  unfold lookIn
  rw [hd]
  dsimp only
  obtain ⟨en, h1, h2⟩ := Option.map_eq_some_iff.mp h
  have h1' : es.toList.find? (fun x => x.key.isStr name) = some en := by rw [Array.find?_toList]; exact h1
  rw [h1', ← h2]
local macro_rules | `(tactic| walk_at "getMethod type:Exception") => `(tactic| (k_here; (with_reducible show wpAny _ _ (getMethod (Value.type "Exception") _ _) _ _ _); k_dflt (refine' method_type ?nzF ?nzX ?nzm (by decide +kernel) ?nze ?nzh ?_; (case nzF => k_asm); (case nzX => k_asm); (case nzm => kernel_rfl); (case nze => k_is); (case nzh => exact rfl); k_whole)))
local macro_rules | `(tactic| walk_at "call builtin:Exception.__init__") => `(tactic| (k_here; refine Hold.out ?_))
local macro_rules | `(tactic| walk_at "setAttr ref") => `(tactic| (k_here; refine Hold.out ?_))
set_option maxHeartbeats 8000000 in
theorem make59 (w : World) (mean : ExcName → Option Value) (mg mb : Str → Option Value) {dp un : Nat} {gd : Option (List Code)} {cn : Str} {cs : Scope} {a : Addr} {ccd : Value} {cl : List (Str × Addr)} {outer : List Env} {A₀ : Around} {base h₀ : Heap} {L : Addr} {m : Str → Option Value} {s : Shared} {Q E : Value → Shared → Prop} {news : Al} {msg : Str} {tm ta : Tok} {at' : Int} :
    Below A₀ base outer h₀ → Fr h₀ L s.heap m → (hd.heap_39 w.params).In h₀ → News h₀ L s.heap news → Top hd.view_39 (looseW hd.view_39 [Str.ofString "PostError", Str.ofString "_law_signs"]) mean mg mb h₀ → cs.kind = .function →
    dp + 4 < recursionLimit → un + 400 < cLine →
    (∀ e d vs sl dob h' tk', Fr h₀ L h' m → News h₀ L h' ((e, ⟨.ref 59, some d, .fields vs, sl⟩) :: (d, dob) :: news) → vs[1]? = some .none → (∀ p ∈ (d, dob) :: news, p.1 ≠ e) → (∃ t, lookIn "at" dob = some (some (.int at' t))) → Q (.ref e) { s with heap := h', toks := tk' }) →
    wpAny (model PySem.Challenge.rw_nz0266_01.row.prog w) (ktrTop dp un gd cn cs L a ccd cl outer) (call (.ref 59) [.str msg tm, .int at' ta]) Q E s := by
  w_top off
  k_fill
  intro B F X N T hk hdp hun ret
  have Xh := X.keeps F.keep
  obtain ⟨nm, q, N', bs, sn, sub, ab, col, dd, k0, k1, k2, k3, k5, hC⟩ := exc_cls (C := 59) (bm := [.ref 46, .type "Exception", .type "BaseException", .type "object"]) (newId := "Exception.__new__") (K := hd.heap_39 w.params) (by kernel_rfl)
  obtain ⟨oI, hI, hIc⟩ := typed_at Xh (f := 36) (by k_is)
  obtain ⟨h, g, d, t, os⟩ := s
  refine call_init (PySem.F.excBase_Exception) (by decide) (by decide) (by decide) (Xh _ _ hC) (looks_findIn Xh (t := .ref 59) (name := "__init__") (r := some (.ref 36)) (by k_is)) hI hIc (fun h' e hm => ?_) (by size_fits)
  obtain ⟨t0, he, ht0, htt⟩ := hm.there
  have F1 : Fr h₀ L h' m := F.after hm.keeps
  have ne : ∀ p ∈ news, p.1 ≠ e := fun p hp z => by
    have := (N p hp).1
    rw [z, hm.new] at this
    cases this
  have N1 : News h₀ L h' ((e, { cls := .ref 59, data := .fields #[.ref t0, .none, .none, .none, .bool false, .none] }) :: news) := fun p hp => by
    rcases List.mem_cons.mp hp with rfl | hp
    · refine ⟨he, fun z => ?_, kts_none F.keep hm.new⟩
      obtain ⟨oL, _, _, hL, _⟩ := F.ns
      dsimp only at z
      rw [← z, hm.new] at hL
      cases hL
    · exact ⟨hm.keeps _ _ (N p hp).1, (N p hp).2⟩
  refine wpAny_call ?_
  have hroom : ((ktrTop dp un gd cn cs L a ccd cl outer).under (.builtin "type.__call__" ⟨[.ref 59, .str msg tm, .int at' ta], []⟩)).depth < recursionLimit := by
    show dp + 1 < recursionLimit
    omega
  k_dflt (refine' code_def ?k1 ?k2 ?k3 ?k4 ?k5 ?kA ?kF ?kK ?k6 ?k7 ?k8 ?k9 ?kB ?_ ?c2 ?c3 ?c4 ?c5; (case kA => exact rfl); (case kF => exact rfl); (case kK => assumption); (case k1 => k_asm); (case k2 => k_asm); (case k3 => k_asm); (case k4 => k_asm); (case k5 => k_asm); (case k6 => k_is); (case k7 => k_is); (case k8 => exact hroom); (case k9 => (refine' binds_K ?X ?d ?o ?s ?h1 ?h2; (case d => exact rfl); (case X => exact (X.keeps F1.keep)); (case o => k_is); (case s => exact rfl); (case h1 => exact rfl); (case h2 => exact rfl))); (case c5 => decide); (case kB => exact locs rfl); (case c2 => exact rfl); (case c3 => exact rfl); (case c4 => exact rfl); k_whole; intro g' L' h' FG' F' N' B' X' T'; (try dsimp only); (try k_fold))
  k_steps
  unfold Hold
  rename Fr g' L' h' _ => F2
  rename News g' L' h' _ => N2
  refine init_call (PySem.F.excBase_Exception) (bm := [.ref 46, .type "Exception", .type "BaseException", .type "object"]) (by decide) ((X'.keeps F2.keep) _ _ hC) (N2 _ (.head _)).1 ?_
  obtain ⟨F3, N3⟩ := news_upd (pre := []) (f := Obj.mapFields (·.setIfInBounds 0 (.ref h'.objs.size))) (F2.push { cls := .type "tuple", data := .seq #[.str msg tm] }) (N2.pushKeep { cls := .type "tuple", data := .seq #[.str msg tm] }) (by simp) ne rfl rfl
  k_steps
  unfold Hold
  generalize hT : h'.objs.size = T1 at N3 F3 ⊢
  replace N3 : News g' L' ((h'.push { cls := .type "tuple", data := .seq #[.str msg tm] }).update e (Obj.mapFields (·.setIfInBounds 0 (.ref T1)))) ((e, { cls := .ref 59, data := .fields #[.ref T1, .none, .none, .none, .bool false, .none] }) :: news) := N3
  generalize ((h'.push { cls := .type "tuple", data := .seq #[.str msg tm] }).update e (Obj.mapFields (·.setIfInBounds 0 (.ref T1)))) = h3 at N3 F3 ⊢
  have hpass : refuseLoop (.ref e) "__setattr__" [.ref 59, .ref 46, .type "Exception", .type "BaseException", .type "object"] = pure () := by
    rw [refuseLoop_ref, refuseLoop_ref]
    exact PySem.F.store_Exception.passes _
  have X3 := X'.keeps F3.keep
  refine sa_attr (PySem.F.store_Exception) (bm := [.ref 46, .type "Exception", .type "BaseException", .type "object"]) (ns := []) (mA := fun _ => none) (by decide) (X3 _ _ hC) hpass (looks_findIn X3 (r := some (.builtin "object.__setattr__")) (by k_is)) (looks_findIn X3 (r := none) (by k_is)) (N3 _ (.head _)).1 rfl (fun c q => by cases q) (.inl ⟨rfl, fun _ => rfl⟩) Within.nil (Nat.zero_le _) (fun h4 tk4 S4 => ?_)
  obtain ⟨d4, ob4, e41, e42, e43, e44, ns4, gd4, F4, N4⟩ := stored_ledger F3 N3 ne (fun dx q => by cases q) S4
  k_steps
  all_goals (unfold Hold)
  have X4 := X'.keeps F4.keep
  have N4' : News g' L' h4 ((e, ⟨.ref 59, some d4, .fields #[.ref T1, .none, .none, .none, .bool false, .none], #[]⟩) :: news) := fun p hp => N4 p (by
    rcases List.mem_cons.mp hp with rfl | q
    · exact .head _
    · exact .tail _ (.tail _ q))
  refine sa_attr (PySem.F.store_Exception) (bm := [.ref 46, .type "Exception", .type "BaseException", .type "object"]) (ns := ["what"]) (mA := fun y => if y = "what" then some (.str msg tm) else none) (by decide) (X4 _ _ hC) hpass (looks_findIn X4 (r := some (.builtin "object.__setattr__")) (by k_is)) (looks_findIn X4 (r := none) (by k_is)) (N4 _ (.head _)).1 rfl (fun c q => by cases q) (.inr ⟨d4, rfl, e41, ns4⟩) (Within.cons _ _ Within.nil) (by size_fits) (fun h5 tk5 S5 => ?_)
  obtain ⟨d5, ob5, e51, e52, e53, e54, ns5, gd5, F5, N5⟩ := stored_ledger F4 N4' ne (fun dx q => by cases q; exact ⟨e43, e44, e42⟩) S5
  k_steps
  obtain ⟨o6, es6, ep6, g6, hd6, _, _, hf6⟩ := ns5
  rw [gd5] at g6
  cases g6
  exact ret e d5 _ _ ob5 h5 tk5 (by assumption) (by assumption) rfl (fun p hp => (List.mem_cons.mp hp).elim (fun q => q ▸ e51) (ne p)) ⟨ta, find_at hd6 (by rw [hf6]; exact if_pos rfl)⟩
end Nz

/-! part NzE4 -/
namespace Nz
theorem flyD_look {B h : Heap} {l : List Env} {e d : Addr} {cls fl : Value} (x : FlyD B l e d cls fl h) : ∃ vs sl, h.get? e = some ⟨cls, some d, .fields vs, sl⟩ := by
  obtain ⟨_, _, _, vs, sl, T, oT, ts, h1, _⟩ := x
  exact ⟨vs, sl, h1⟩
def RaisedSD (base G : Heap) (l : List Env) (e d : Addr) (cls : Value) (news : Al) (h : Heap) : Prop :=
  ∃ B, base.StaysIn B ∧ (∀ b o, G.get? b = some o → b ∉ l.filterMap (·.frame) → B.get? b = some o) ∧ (∀ q ∈ news, B.get? q.1 = some q.2 ∧ G.get? q.1 = none) ∧ FlyD B l e d cls .none h
theorem RaisedSD.sub {base G h : Heap} {l : List Env} {e d : Addr} {cls : Value} {news news' : Al} (R : RaisedSD base G l e d cls news h) (hsub : ∀ p ∈ news', p ∈ news) : RaisedSD base G l e d cls news' h := by
  obtain ⟨B, h1, h2, h3, h4⟩ := R
  exact ⟨B, h1, h2, fun q hq => h3 q (hsub q hq), h4⟩
theorem plainI_at {l : List Nat} {i : Nat} (hi : i < l.length) (h : 127 < l.getD i 0) (hb : ∀ j, j < i → l.getD j 0 < 128) : plainI l = (i : Int) := by
  have e : l.findIdx? (fun c => decide (127 < c)) = some i := by
    rw [List.findIdx?_eq_some_iff_getElem]
    refine ⟨hi, ?_, fun j hj => ?_⟩
    · rw [List.getD_eq_getElem?_getD, List.getElem?_eq_getElem hi] at h
      simpa using h
    · have := hb j hj
      rw [List.getD_eq_getElem?_getD, List.getElem?_eq_getElem (by omega)] at this
      simp at this ⊢
      omega
  unfold plainI
  rw [e]
theorem plainI_none {l : List Nat} (h : ∀ c ∈ l, c < 128) : plainI l = -1 := by
  have e : l.findIdx? (fun c => decide (127 < c)) = none := by
    rw [List.findIdx?_eq_none_iff]
    intro c hc
    have := h c hc
    simp
    omega
  unfold plainI
  rw [e]
section
variable {M : Model} {A : Around} {E : Value → Shared → Prop} {s' : Shared} {base g : Heap} {outer : List Env} {L a e d : Addr} {m : Str → Option Value} {name : Str} {scope : Scope} {cd : Value} {Q : Unit → Shared → Prop} {news : Al}
theorem leave_newD {cls : Value} {vs : Array Value} {sl : Array (Option Value)} (K : Below A base outer g) (F : Fr g L s'.heap m) (N : News g L s'.heap ((e, ⟨cls, some d, .fields vs, sl⟩) :: news)) (h1 : vs[1]? = some .none) (ne : ∀ p ∈ news, p.1 ≠ e)
    (hk : scope.kind = .function) (hQ : ∀ h', RaisedSD base g outer e d cls news h' → g.UpToSlots h' → Q () { s' with heap := h' }) :
    wpAny M (A.deeper (envOf name scope L a cd)) (leaving (envOf name scope L a cd) (.ref e)) Q E s' := by
  have K' := K.push (name := name) (a := a) (cd := cd) F hk
  have hE := N _ (.head _)
  have hin : ∀ env ∈ (envOf name scope L a cd :: outer), ∀ b, env.frame = some b → b ∈ e :: (envOf name scope L a cd :: outer).filterMap (·.frame) := fun env he b hb => .tail _ (List.mem_filterMap.mpr ⟨env, he, hb⟩)
  have hfr : ∀ b, b ∈ (envOf name scope L a cd :: outer).filterMap (·.frame) → b = L ∨ b ∈ outer.filterMap (·.frame) := fun b hb => kts_mem hb
  refine leave_first (base := hideAll s'.heap (e :: (envOf name scope L a cd :: outer).filterMap (·.frame))) K'.stack (funFrames_hide K'.frames hin) rfl ⟨vs, sl, hE.1, h1⟩ (fun b o q => of_hideAll _ q) (hideAll_none _ (.head _)) fun h' x u => ?_
  refine hQ h' ⟨_, fun b o q => ?_, fun b o q nm => ?_, fun q hq => ⟨?_, (N q (.tail _ hq)).2.2⟩, x⟩ ((Heap.UpToSlots.of_keeps F.keep).trans u)
  · refine hideAll_get _ (K'.stays b o q) fun hm => ?_
    rcases List.mem_cons.mp hm with z | hm
    · have := K.stays b o q
      rw [z, hE.2.2] at this
      cases this
    · rw [(K'.frames.mem hm).1] at q
      cases q
  · refine hideAll_get _ (F.keep b o q) fun hm => ?_
    rcases List.mem_cons.mp hm with z | hm
    · rw [z, hE.2.2] at q
      cases q
    · rcases hfr b hm with z | z
      · rw [z, kts_self F] at q
        cases q
      · exact nm z
  · refine hideAll_get _ (N q (.tail _ hq)).1 fun hm => ?_
    rcases List.mem_cons.mp hm with z | hm
    · exact ne q hq z
    · rcases hfr _ hm with z | z
      · exact (N q (.tail _ hq)).2.1 z
      · obtain ⟨o, ho, _⟩ := (K.frames.mem z).2
        rw [(N q (.tail _ hq)).2.2] at ho
        cases ho
end
section
variable {M : Model} {A : Around} {E : Value → Shared → Prop} {env : Env} {C N : Addr} {nm q : Str} {bs bm : List Value} {hdct : Bool} {sn : List Str} {sub : List Value} {ab : Bool} {col : Option Bool} {dd : Option Addr} {k0 k1 k2 k3 k5 : Option Value} {newId : String}
theorem raise_made {s : Shared} {x : Sem Value} {Q : Flow → Shared → Prop} (hbase : bm.contains (.type "BaseException") = true) (hh : A.handled = none)
    (h : wpAny M A x (fun v s₁ => ∃ e d vs sl, v = .ref e ∧ s₁.heap.get? C = some (excClassObj nm q C N bs bm hdct sn sub ab col dd k0 k1 k2 k3 k5 newId) ∧
      s₁.heap.get? e = some ⟨.ref C, some d, .fields vs, sl⟩ ∧ vs[1]? = some .none ∧ E (.ref e) s₁) E s) :
    wpAny M A (raiseStmt env (some x) none) Q E s := by
  have hcB : (Value.ref C :: bm).contains (.type "BaseException") = true := by rw [List.contains_cons, hbase, Bool.or_true]
  unfold raiseStmt
  refine wpAny_bind (wpAny_mono h (fun v s₁ h₁ => ?_) fun _ _ x => x)
  obtain ⟨e, d, vs, sl, rfl, hC, he, hv, hE⟩ := h₁
  obtain ⟨hp, g, dr, tk, os⟩ := s₁
  repeat (first | with_reducible refine wpAny_loadPart_at he ?_ | with_reducible refine wpAny_loadPart_at hC ?_ | (with_reducible refine wpAny_isSubtype_exc hC ?_; rw [hcB]) | wp_step)
  rw [hv]
  refine wpAny_pure ?_
  rw [if_neg (by decide)]
  exact wpAny_pure (wpAny_raiseNew_none hh hE)
end
section
variable {prog : Program} {w : World} {A : Around} {E : Value → Shared → Prop} {s : Shared} {h₀ : Heap} {env : Env} {x : Str} {body : List Stmt} {Q : Flow → Shared → Prop}
theorem iter_rangeI {r : Addr} {a₀ b₀ : Int} {t₀ u₀ v₀ : Tok} {n : Nat} {m₀ : Str → Option Value} {news : Al} (J : Nat → (Str → Option Value) → Al → Prop)
    (hh : A.handled = none) (hr : IsRange s.heap r a₀ b₀ 1 t₀ u₀ v₀) (hsmall : Builtin.Range.small a₀ b₀ 1 = true) (hn : Builtin.Range.rangeSize a₀ b₀ 1 = (n : Int)) (F : Fr h₀ env.locals s.heap m₀) (N : News h₀ env.locals s.heap news) (hj : J 0 m₀ news)
    (turn : ∀ (i : Nat) t m₁ nx h tk own, i < n → nx.map (·.1) = news.map (·.1) → OwnOff own (news.map (·.1)) → J i m₁ nx → Fr h₀ env.locals h (fun y => if y = x then some (.int (a₀ + (i : Int)) t) else m₁ y) → News h₀ env.locals h (nx ++ own) →
      wpAny (model prog w) A (execs body env) (InvPostN h₀ env.locals (J (i + 1)) own (news.map (·.1)) { s with heap := h, toks := tk } Q) E { s with heap := h, toks := tk })
    (done : ∀ m₁ nx h tk, J n m₁ nx → Fr h₀ env.locals h m₁ → News h₀ env.locals h nx → Q .next { s with heap := h, toks := tk }) :
    wpAny (model prog w) A (pyIter (.ref r)) (fun it s₂ => LoopAtV prog w A h₀ env x body Q E it s₂) E s := by
  refine wpAny_pyIter_range hr hsmall ?_
  have W : Walks prog w A s.heap.objs.size [s.heap.objs.size] [s.heap.objs.size] n (fun i v => i < n ∧ ∃ t, v = .int (a₀ + i * 1) t)
      (fun i h => IsRangeIter h s.heap.objs.size (a₀ + (i : Nat) * 1) ((n : Int) - (i : Nat)) 1) := (Walks.range hh _ a₀ 1 n).bound
  refine loop_invN J W ?_ ?_ ?_ ?_ (by show IsRangeIter _ _ _ _ _; rw [hn]; simpa using Heap.get?_push_size _ rfl) (F.push _) (fun p hp => ⟨Heap.get?_push_of_some _ (N p hp).1, (N p hp).2⟩) hj ?_ ?_
  · intro hm
    exact absurd F.ns.lt ((List.mem_singleton.mp hm) ▸ Nat.lt_irrefl _)
  · intro b hb
    rw [List.mem_singleton.mp hb]
    exact next_is_new F
  · intro p hp hI
    exact absurd (Heap.lt_size (N p hp).1) ((List.mem_singleton.mp hI) ▸ Nat.lt_irrefl _)
  · intro p hp hI
    exact absurd (Heap.lt_size (N p hp).1) ((List.mem_singleton.mp hI) ▸ Nat.lt_irrefl _)
  · rintro i v m₁ nx h tk own hi ⟨_, t, rfl⟩ ha ho hJ F' N'
    rw [Int.mul_one] at F'
    exact turn i t m₁ nx h tk own hi ha ho hJ F' N'
  · intro m₁ nx h tk hJ F' N'
    exact done m₁ nx h tk hJ F' N'
theorem iter_rangeP {r : Addr} {b₀ : Int} {t₀ u₀ v₀ : Tok} {n : Nat} {m₀ : Str → Option Value} {news : Al} (P : Nat → Prop)
    (hh : A.handled = none) (hr : IsRange s.heap r 0 b₀ 1 t₀ u₀ v₀) (hsmall : Builtin.Range.small 0 b₀ 1 = true) (hn : Builtin.Range.rangeSize 0 b₀ 1 = (n : Int)) (F : Fr h₀ env.locals s.heap m₀) (N : News h₀ env.locals s.heap news) (h0 : P 0)
    (turn : ∀ (i : Nat) t h tk own, i < n → OwnOff own (news.map (·.1)) → P i → Fr h₀ env.locals h (fun y => if y = x then some (.int (i : Int) t) else m₀ y) → News h₀ env.locals h (news ++ own) →
      wpAny (model prog w) A (execs body env) (InvPostN h₀ env.locals (fun m nx => nx = news ∧ P (i + 1) ∧ ∀ z, z ≠ x → m z = m₀ z) own (news.map (·.1)) { s with heap := h, toks := tk } Q) E { s with heap := h, toks := tk })
    (done : ∀ (m₁ : Str → Option Value) h tk, P n → Fr h₀ env.locals h (fun z => if z = x then m₁ z else m₀ z) → News h₀ env.locals h news → Q .next { s with heap := h, toks := tk }) :
    wpAny (model prog w) A (pyIter (.ref r)) (fun it s₂ => LoopAtV prog w A h₀ env x body Q E it s₂) E s := by
  refine iter_rangeI (fun i m nx => nx = news ∧ P i ∧ ∀ z, z ≠ x → m z = m₀ z) hh hr hsmall hn F N ⟨rfl, h0, fun _ _ => rfl⟩ ?_ ?_
  · rintro i t m₁ nx h tk own hi _ ho ⟨rfl, hP, hm⟩ F' N'
    rw [Int.zero_add, map_none hm] at F'
    exact turn i t h tk own hi ho hP F' N'
  · rintro m₁ nx h tk ⟨rfl, hP, hm⟩ F' N'
    refine done m₁ h tk hP ?_ N'
    rw [done_none hm]
    exact F'
end
end Nz

/-! part NzE5 -/
namespace Nz
local macro_rules | `(tactic| walk_at "call builtin:len") => `(tactic| (k_here; first | (refine len_bO (by assumption) ?_; intro t' k') | (refine len_sO (by assumption) ?_; intro t' k')))
local macro_rules | `(tactic| walk_at "subscriptTail") => `(tactic| (k_here; (with_reducible show wpAny _ _ (subscriptTail _ _ (Value.bytes (bOf _) _) (Value.int (Nat.cast _) _)) _ _ _); (with_unfolding_all refine item_bO (by assumption) (by assumption) (by omega) ?_); intro t' k'))
local macro_rules | `(tactic| walk_at "exec For Name Call cons nil") => `(tactic| (k_here; (rename Fr _ _ _ _ => lF'); (with_unfolding_all refine' For_invVF lF' ?k1 ?k2 ?_; (case k1 => exact rfl); (case k2 => exact rfl); k_whole)))
local macro_rules | `(tactic| walk_at "eval ListComp") => `(tactic| (k_here; k_dflt (refine ListComp_W (by k_asm) (by with_unfolding_all rfl) (by decide) (by rfl) (by decide) (by rfl) ?_)))
local macro_rules | `(tactic| walk_at "pyIter ref") => `(tactic| (k_here; refine Hold.out ?_))
local macro_rules | `(tactic| walk_at "exec Raise some none") => `(tactic| (k_here; refine Hold.out ?_))
local macro_rules | `(tactic| walk_at "InvEndN") => `(tactic| (refine Hold.out ?_))
local macro_rules | `(tactic| walk_at "call ref") => `(tactic| (k_here; (with_reducible show wpAny _ _ (call (Value.ref 59) _) _ _ _); refine Hold.out ?_))
set_option maxHeartbeats 8000000 in
theorem ct_ascii (w : World) (mean : ExcName → Option Value) (mg mb : Str → Option Value) (l : List Nat) (t : Tok) (news : Al) (hs : Small l) (hb : l.length ≤ 1000) :
  ∀ (dp un : Nat) (gd : Option (List Code)) (cn : Str) (cs : Scope) (a : Addr) (ccd : Value) (cl : List (Str × Addr)) (outer : List Env) (A₀ : Around) (base h₀ : Heap) (L : Addr) (m : Str → Option Value) (s : Shared) (Q E : Value → Shared → Prop),
    Below A₀ base outer h₀ → Fr h₀ L s.heap m → (hd.heap_39 w.params).In h₀ → News h₀ L s.heap news → Top hd.view_39 (looseW hd.view_39 [Str.ofString "PostError", Str.ofString "_law_signs"]) mean mg mb h₀ → cs.kind = .function →
    dp + 8 < recursionLimit → un + 800 < cLine →
    ((∀ c ∈ l, c < 128) → ∀ t' h' tk', Fr h₀ L h' m → News h₀ L h' news → Q (.str (sOf l) t') { s with heap := h', toks := tk' }) →
    ((¬ ∀ c ∈ l, c < 128) → ∀ e d g dob h' tk', Fr h₀ L g m → Below (ktrTop dp un gd cn cs L a ccd cl outer) base (envX cn cs L a ccd cl :: outer) g → RaisedSD base g (envX cn cs L a ccd cl :: outer) e d (.ref 59) ((d, dob) :: news) h' → g.UpToSlots h' → (∃ t, lookIn "at" dob = some (some (.int (plainI l) t))) →
      E (.ref e) { s with heap := h', toks := tk' }) →
    wpAny (model PySem.Challenge.rw_nz0266_01.row.prog w) (ktrTop dp un gd cn cs L a ccd cl outer) (call (.ref 95) [.bytes (bOf l) t]) Q E s := by
  w_top off
  k_fill
  intro dp un gd cn cs a ccd cl outer A₀ base h₀ L m s Q E B F X N T hk hdp hun hret hexc
  refine wpAny_call ?_
  k_dflt cell_enter
  k_steps
  unfold Hold
  rename Frag.In _ _ => X'
  rename Below _ _ _ _ => B'
  rename Top _ _ _ _ _ _ => T'
  rename IsRange _ _ _ _ _ _ _ _ => hr9
  have e0 : ((l.length : Int) - 0).toNat = l.length := by omega
  refine iter_rangeP (fun i => ∀ j, j < i → l.getD j 0 < 128) (by rfl) hr9 (by exact small_one (by kcf_bnd) (by kcf_bnd) (by kcf_bnd) (by kcf_bnd)) (n := l.length) (by rw [rangeSize_nat, e0]) (by assumption) (by assumption) (by omega) ?_ ?_
  · intro i ti hx tkx own hi ho hP Fx Nx
    k_steps
    · unfold Hold
      rw [arm_exec_Raise]
      have Xh := X'.keeps Fx.keep
      obtain ⟨nm, q, N', bs, sn, sub, ab, col, dd, k0, k1, k2, k3, k5, hC⟩ := exc_cls (C := 59) (bm := [.ref 46, .type "Exception", .type "BaseException", .type "object"]) (newId := "Exception.__new__") (K := hd.heap_39 w.params) (by kernel_rfl)
      refine wpAny_bind (wpAny_standAt (raise_made (C := 59) (nm := nm) (q := q) (N := N') (bs := bs) (bm := [.ref 46, .type "Exception", .type "BaseException", .type "object"]) (hdct := true) (sn := sn) (sub := sub) (ab := ab) (col := col) (dd := dd) (k0 := k0) (k1 := k1) (k2 := k2) (k3 := k3) (k5 := k5) (newId := "Exception.__new__") (by decide) rfl (wpAny_bind ?_)))
      k_steps
      unfold Hold
      refine make59 w mean mg mb B' Fx X' Nx T' rfl (by ktr_room) (by ktr_room) ?_
      intro e d vs sl dob h9 tk9 F9 N9 hv hne hat
      refine wpAny_bind (wpAny_standAt (wpAny_pure ⟨e, d, vs, sl, rfl, (X'.keeps F9.keep) _ _ hC, (N9 _ (.head _)).1, hv, ?_⟩))
      show wpAny _ _ (leaving _ _) _ _ _
      refine leave_newD B' F9 N9 hv hne rfl fun h8 R8 u8 => ?_
      have h127 : 127 < l.getD i 0 := by omega
      refine hexc (fun q => ?_) e d _ dob h8 _ (by assumption) B' (R8.sub fun p hp => ?_) u8 (by rw [plainI_at hi h127 hP]; exact hat)
      · have := q (l.getD i 0) (by rw [List.getD_eq_getElem?_getD, List.getElem?_eq_getElem hi]; exact List.getElem_mem hi)
        omega
      · rcases List.mem_cons.mp hp with rfl | hp
        · exact .head _
        · exact .tail _ (List.mem_append_left _ hp)
    · unfold Hold
      refine InvEndN.intro Fx Nx ⟨rfl, fun j hj => ?_, fun z hz => if_neg hz⟩ rfl (fun p hp => List.mem_append_left _ hp) (fun p hp => List.mem_append_right _ hp)
      rcases Nat.lt_succ_iff_lt_or_eq.mp hj with q | rfl
      · exact hP j q
      · omega
  · intro m1 hx tkx hP Fx Nx
    k_steps
    refine it_bytes_strs (fun c => (⟨#[c]⟩ : Str)) (news := news) (by rfl) (by k_asm) (by k_asm) hb hs ?_ ?_
    · intro c u I oI C oC D m₂ ys h tk E' hc hlt hC hx F9 N9 off ne
      k_steps
      exact LCg.CompEnd.intro (by k_asm) (by k_asm) news (fun _ hp => hp) off trivial ⟨rfl, _, rfl⟩
    · intro g ys hy
      k_steps
      refine text_of (ks := l) (News.isList (by k_asm) (by k_mem)) hy hb ?_
      intro t9 k9
      k_steps
      rename News h₀ L _ _ => kN9
      refine hret (fun c hc => ?_) _ _ _ (by k_asm) fun p hp => kN9 p (List.mem_cons_of_mem _ hp)
      obtain ⟨j, hj, rfl⟩ := List.mem_iff_getElem.mp hc
      have := hP j hj
      rwa [List.getD_eq_getElem?_getD, List.getElem?_eq_getElem hj] at this
end Nz

/-! part NzE6 -/
namespace Nz
local macro_rules | `(tactic| walk_at "nz none") => `(tactic| skip)
local macro_rules | `(tactic| walk_at "call builtin:len") => `(tactic| (k_here; first | (refine len_bO (by assumption) ?_; intro t' k') | (refine len_sO (by assumption) ?_; intro t' k')))
local macro_rules | `(tactic| walk_at "subscriptTail Name Name str int") => `(tactic| (k_here; (with_reducible show wpAny _ _ (subscriptTail _ _ (Value.str (sOf _) _) (Value.int (Nat.cast _) _)) _ _ _); (with_unfolding_all refine item_sO (by assumption) (by omega) ?_); intro t' k'))
local macro_rules | `(tactic| walk_at "exec For Name Call cons nil") => `(tactic| (k_here; (rename Fr _ _ _ _ => lF'); (with_unfolding_all refine' For_invVF lF' ?k1 ?k2 ?_; (case k1 => exact rfl); (case k2 => exact rfl); k_whole)))
local macro_rules | `(tactic| walk_at "eval ListComp") => `(tactic| (k_here; k_dflt (refine ListComp_W (by k_asm) (by with_unfolding_all rfl) (by decide) (by rfl) (by decide) (by rfl) ?_)))
local macro_rules | `(tactic| walk_at "pyIter ref") => `(tactic| (k_here; refine Hold.out ?_))
local macro_rules | `(tactic| walk_at "exec Raise some none") => `(tactic| (k_here; refine Hold.out ?_))
local macro_rules | `(tactic| walk_at "InvEndN") => `(tactic| (refine Hold.out ?_))
local macro_rules | `(tactic| walk_at "call ref") => `(tactic| (k_here; (with_reducible show wpAny _ _ (call (Value.ref 59) _) _ _ _); refine Hold.out ?_))
set_option maxHeartbeats 8000000 in
theorem ct_octets (w : World) (mean : ExcName → Option Value) (mg mb : Str → Option Value) (l : List Nat) (t : Tok) (news : Al) (hs : Small l) (hb : l.length ≤ 1000) :
  ∀ (dp un : Nat) (gd : Option (List Code)) (cn : Str) (cs : Scope) (a : Addr) (ccd : Value) (cl : List (Str × Addr)) (outer : List Env) (A₀ : Around) (base h₀ : Heap) (L : Addr) (m : Str → Option Value) (s : Shared) (Q E : Value → Shared → Prop),
    Below A₀ base outer h₀ → Fr h₀ L s.heap m → (hd.heap_39 w.params).In h₀ → News h₀ L s.heap news → Top hd.view_39 (looseW hd.view_39 [Str.ofString "PostError", Str.ofString "_law_signs"]) mean mg mb h₀ → cs.kind = .function →
    dp + 8 < recursionLimit → un + 800 < cLine →
    ((∀ c ∈ l, c < 128) → ∀ t' h' tk', Fr h₀ L h' m → News h₀ L h' news → Q (.bytes (bOf l) t') { s with heap := h', toks := tk' }) →
    ((¬ ∀ c ∈ l, c < 128) → ∀ e d g dob h' tk', Fr h₀ L g m → Below (ktrTop dp un gd cn cs L a ccd cl outer) base (envX cn cs L a ccd cl :: outer) g → RaisedSD base g (envX cn cs L a ccd cl :: outer) e d (.ref 59) ((d, dob) :: news) h' → g.UpToSlots h' → (∃ t, lookIn "at" dob = some (some (.int (plainI l) t))) →
      E (.ref e) { s with heap := h', toks := tk' }) →
    wpAny (model PySem.Challenge.rw_nz0266_01.row.prog w) (ktrTop dp un gd cn cs L a ccd cl outer) (call (.ref 100) [.str (sOf l) t]) Q E s := by
  w_top off
  k_fill
  intro dp un gd cn cs a ccd cl outer A₀ base h₀ L m s Q E B F X N T hk hdp hun hret hexc
  refine wpAny_call ?_
  k_dflt cell_enter
  k_steps
  unfold Hold
  rename Frag.In _ _ => X'
  rename Below _ _ _ _ => B'
  rename Top _ _ _ _ _ _ => T'
  rename IsRange _ _ _ _ _ _ _ _ => hr9
  have e0 : ((l.length : Int) - 0).toNat = l.length := by omega
  refine iter_rangeP (fun i => ∀ j, j < i → l.getD j 0 < 128) (by rfl) hr9 (by exact small_one (by kcf_bnd) (by kcf_bnd) (by kcf_bnd) (by kcf_bnd)) (n := l.length) (by rw [rangeSize_nat, e0]) (by assumption) (by assumption) (by omega) ?_ ?_
  · intro i ti hx tkx own hi ho hP Fx Nx
    k_steps
    · unfold Hold
      rw [arm_exec_Raise]
      have Xh := X'.keeps Fx.keep
      obtain ⟨nm, q, N', bs, sn, sub, ab, col, dd, k0, k1, k2, k3, k5, hC⟩ := exc_cls (C := 59) (bm := [.ref 46, .type "Exception", .type "BaseException", .type "object"]) (newId := "Exception.__new__") (K := hd.heap_39 w.params) (by kernel_rfl)
      refine wpAny_bind (wpAny_standAt (raise_made (C := 59) (nm := nm) (q := q) (N := N') (bs := bs) (bm := [.ref 46, .type "Exception", .type "BaseException", .type "object"]) (hdct := true) (sn := sn) (sub := sub) (ab := ab) (col := col) (dd := dd) (k0 := k0) (k1 := k1) (k2 := k2) (k3 := k3) (k5 := k5) (newId := "Exception.__new__") (by decide) rfl (wpAny_bind ?_)))
      k_steps
      unfold Hold
      refine make59 w mean mg mb B' Fx X' Nx T' rfl (by ktr_room) (by ktr_room) ?_
      intro e d vs sl dob h9 tk9 F9 N9 hv hne hat
      refine wpAny_bind (wpAny_standAt (wpAny_pure ⟨e, d, vs, sl, rfl, (X'.keeps F9.keep) _ _ hC, (N9 _ (.head _)).1, hv, ?_⟩))
      show wpAny _ _ (leaving _ _) _ _ _
      refine leave_newD B' F9 N9 hv hne rfl fun h8 R8 u8 => ?_
      have h127 : 127 < l.getD i 0 := by omega
      refine hexc (fun q => ?_) e d _ dob h8 _ (by assumption) B' (R8.sub fun p hp => ?_) u8 (by rw [plainI_at hi h127 hP]; exact hat)
      · have := q (l.getD i 0) (by rw [List.getD_eq_getElem?_getD, List.getElem?_eq_getElem hi]; exact List.getElem_mem hi)
        omega
      · rcases List.mem_cons.mp hp with rfl | hp
        · exact .head _
        · exact .tail _ (List.mem_append_left _ hp)
    · unfold Hold
      refine InvEndN.intro Fx Nx ⟨rfl, fun j hj => ?_, fun z hz => if_neg hz⟩ rfl (fun p hp => List.mem_append_left _ hp) (fun p hp => List.mem_append_right _ hp)
      rcases Nat.lt_succ_iff_lt_or_eq.mp hj with q | rfl
      · exact hP j q
      · omega
  · intro m1 hx tkx hP Fx Nx
    k_steps
    refine it_str_ints (fun c => ((c : Nat) : Int)) (news := news) (by rfl) (by k_asm) (by k_asm) hb hs ?_ ?_
    · intro c u I oI C oC D m₂ ys h tk E' hc hlt hC hx F9 N9 off ne
      k_steps
      exact LCg.CompEnd.intro (by k_asm) (by k_asm) news (fun _ hp => hp) off trivial ⟨rfl, _, rfl⟩
    · intro g ys hy
      k_steps
      refine bytes_of (ks := l) (by k_asm) (by k_asm) (News.isList (by k_asm) (by k_mem)) hy hs hb (by rfl) ?_
      intro h9 t9 k9 F9 N9
      k_steps
      rename News h₀ L _ _ => kN9
      refine hret (fun c hc => ?_) _ _ _ (by k_asm) fun p hp => kN9 p (List.mem_cons_of_mem _ hp)
      obtain ⟨j, hj, rfl⟩ := List.mem_iff_getElem.mp hc
      have := hP j hj
      rwa [List.getD_eq_getElem?_getD, List.getElem?_eq_getElem hj] at this
end Nz

/-! part NzE7 -/
namespace Nz
section
variable {prog : Program} {w : World} {A₀ : Around} {E : Value → Shared → Prop} {s' : Shared} {base g G : Heap} {outer : List Env} {L a e d C : Addr} {m : Str → Option Value} {name : Str} {scope : Scope} {cd : Value}
  {n : Str} {b₀ : Stmt} {suite : List Stmt} {pos np : Pos} {rest : List ExceptHandler} {Q : Flow → Shared → Prop} {news : Al} {KF : Frag}
  {p : Program} {loose : List Str} {mean : ExcName → Option Value} {mg mb : Str → Option Value} {x : Str}
theorem caught_D (R : RaisedSD base G (envOf name scope L a cd :: outer) e d (.ref C) news s'.heap) (F : Fr g L G m) (K : Below A₀ base outer g) (hsm : G.UpToSlots s'.heap) (XB : KF.In base) (TB : Top p loose mean mg mb base)
    (ex : nsIn KF mainGlobals x = some (some (.ref C))) (q : ktsIn KF C "BaseException" = true)
    (k : ∀ h' g' vs sl tk, KtsTurn (outer.filterMap (·.frame)) g g' → Fr g' L h' (fun y => if y = n then some (.ref e) else m y) → News g' L h' ((e, ⟨.ref C, some d, .fields vs, sl⟩) :: news) → Below A₀ base outer g' → KF.In g' → Top p loose mean mg mb g' →
      wpAny (model prog w) ((A₀.deeper (envOf name scope L a cd)).mark (some (.ref e))) (execs (b₀ :: suite) (envOf name scope L a cd))
        (fun f s₄ => wpAny (model prog w) (A₀.deeper (envOf name scope L a cd)) (do bindName (envOf name scope L a cd) n .none; unbindBehindTheSuite (envOf name scope L a cd) n pos) (fun _ s₅ => Q f s₅) E s₄)
        (AsSuiteRaised (model prog w) ((A₀.deeper (envOf name scope L a cd)).mark (some (.ref e))) (envOf name scope L a cd) n pos (notedBy (model prog w) ((A₀.deeper (envOf name scope L a cd)).mark (some (.ref e))) (envOf name scope L a cd) (cameBackBy (model prog w) (A₀.deeper (envOf name scope L a cd)) (envOf name scope L a cd) E)))
        { s' with heap := h', toks := tk })
    (hk : scope.kind = .function := by rfl) (hlo : (envOf name scope L a cd).kindOf n = some .local := by rfl) (hx : (envOf name scope L a cd).kindOf x = some .globalImplicit := by rfl) (hd : (x == ("__debug__" : Str)) = false := by decide) :
    wpAny (model prog w) (A₀.deeper (envOf name scope L a cd)) (noteFrame (.ref e) (envOf name scope L a cd))
      (fun _ s₂ => wpAny (model prog w) (A₀.deeper (envOf name scope L a cd)) (setFlight (.ref e) none) (fun _ s₃ =>
        wpAny (model prog w) (A₀.deeper (envOf name scope L a cd)) (handleBy (.ref e) (envOf name scope L a cd) (.ExceptHandler (some (.Name x np)) (some n) (b₀ :: suite) pos :: rest)) Q E s₃) E s₂) E s' := by
  obtain ⟨B, hB, hBG, hl, hfl⟩ := R
  have hL : B.get? L = none := by
    obtain ⟨_, ⟨L', _, hf, hn', _⟩, _⟩ := hfl.frames
    obtain rfl : L = L' := Option.some.inj hf
    exact hn'
  refine note_next (Around.frames_deeper K.stack) rfl hfl fun h₄ f4 u4 => ?_
  refine flightD f4 fun h₅ f5 u5 => ?_
  have hsm₅ := u4.trans u5
  obtain ⟨g₅, T₅, F₅, K₅⟩ := kts_ground K F hBG f5.stays (hsm.trans hsm₅)
  have X₅ : KF.In g₅ := XB.keeps K₅.stays
  have P₅ : TopRead p loose mg mb g₅ := topRead_of (TB.keeps K₅.stays)
  obtain ⟨vs5, sl5, hob⟩ := flyD_look f5
  obtain ⟨nm, q', N, bs, bm, hdct, sn, sub, ab, col, dd, k0, k1, k2, k3, k5, newId, hC, hbase, hbT⟩ := kts_cls X₅ q
  have hC₅ := F₅.keep _ _ hC
  refine wpAny_handleBy_cons (codeAny_handlers_test (name_K F₅ X₅ P₅ ex ?_ hk hx hd)) (by intro q; cases q)
  refine wpAny_excMatches_sub_self hC₅ hob rfl hbase (codeAny_handlers_suite_as ?_)
  refine flightD f5 fun h₆ f6 hsm₆ => ?_
  obtain ⟨g₆, T₆, F₆, K₆⟩ := kts_ground K F hBG f6.stays ((hsm.trans hsm₅).trans hsm₆)
  obtain ⟨ws, sl6, hoe⟩ := flyD_look f6
  have ne₆ : g₆.get? e = none := T₆.none_ _ (kts_fresh F hBG f6.new fun o ho m => by
    obtain ⟨_, o', ho', hd⟩ := K.frames.mem m
    rw [ho] at ho'
    cases ho'
    obtain ⟨sl, hs⟩ := ((hsm.trans hsm₅).trans hsm₆) _ _ (F.keep _ _ ho) hd
    rw [hoe] at hs
    cases o
    cases hs
    exact hd _ rfl)
  have N₆ : News g₆ L h₆ ((e, ⟨.ref C, some d, .fields ws, sl6⟩) :: news) := fun q hq => by
    rcases List.mem_cons.mp hq with rfl | hq
    · refine ⟨hoe, fun z => ?_, ne₆⟩
      obtain ⟨oL, es, ep, hoL, hdL, _⟩ := F₆.ns
      dsimp only at z
      rw [← z, hoe] at hoL
      cases hoL
      cases hdL
    · exact ⟨f6.stays _ _ (hl q hq).1, (fun z => by have := (hl q hq).1; rw [z, hL] at this; cases this), T₆.none_ _ (kts_none F.keep (hl q hq).2)⟩
  have X₆ : KF.In g₆ := XB.keeps K₆.stays
  have P₆ : Top p loose mean mg mb g₆ := TB.keeps K₆.stays
  refine stN F₆ N₆ (fun h₇ F₇ N₇ => ?_) hk hlo
  exact k h₇ g₆ _ _ _ T₆ F₇ N₇ K₆ X₆ P₆

variable {A : Around} {s : Shared} {h₀ : Heap} {env : Env} {K : Frag} {R : Result → Shared → Prop} {qual : Str} {params : Arguments} {body : List Stmt} {dV kV doc pm cdv ct oc : Value} {an od : Option Addr} {osl : Array (Option Value)} {f : Addr} {args : Args} {binds : List (Str × Value)}
theorem code_defSX (B : Below A₀ base [] h₀) (F : Fr h₀ L s.heap m) (X₀ : K.In h₀) (N : News h₀ L s.heap news) (T : Top p loose mean mg mb h₀) (hA : A.frames = some [env]) (hf : env.frame = some L) (hke : env.scope.kind = .function)
    (ho : K.lookup f = some ⟨oc, od, .func (fnOf name qual params body scope dV kV doc pm an cdv ct), osl⟩) (hcd : codeIn K cdv qual = true) (hroom : A.depth < recursionLimit)
    (hbind : BindsTo s (fnOf name qual params body scope dV kV doc pm an cdv ct) args binds) (hloc : ∀ y ∈ binds, scope.names.lookup y.1 = some .local)
    (h : ∀ g L' h₁, Fr h₀ L g m → Fr g L' h₁ (fun y => binds.reverse.lookup y) → News g L' h₁ news → Below A base [env] g → K.In g → Top p loose mean mg mb g →
      wpAny (model prog w) (A.deeper (envOf qual scope L' f cdv)) (execs body (envOf qual scope L' f cdv))
        (fun fl s' => LeaveS0 ([env].filterMap (·.frame)) h₀ L m g R (match fl with | .ret v => v | _ => .none) s')
        (fun e s' => wpAny (model prog w) (A.deeper (envOf qual scope L' f cdv)) (leaving (envOf qual scope L' f cdv) e) (fun _ s'' => R (.error e) s'') (fun e' s'' => R (.error e') s'') s')
        { s with heap := h₁, toks := s.toks + binds.length })
    (hco : scope.isCoroutine = false) (hgen : scope.isGenerator = false) (hk : scope.kind = .function)
    (hcell : ∀ x ∈ scope.names, x.2 ≠ .cell) : codeAny (model prog w) A (.call (.ref f) args) R s := by
  have X := X₀.keeps F.keep
  obtain ⟨FG, BG, st, _⟩ := groundX (R := R) B F N hA hf hke
  refine codeAny_call_def (fd := fnOf name qual params body scope dV kV doc pm an cdv ct) (body := body) (binds := binds) hroom (X _ _ ho) rfl (T.nolimit.keeps F.keep) (codeRec_of X hcd) rfl hbind hcell hloc (fun h₁ hns hk₁ => ?_) hco hgen hk
  obtain ⟨oL, es, ep, hLg, hLd, hLk, hLf⟩ := FG.ns
  refine wpAny_mono (h _ s.heap.objs.size h₁ FG ⟨hns, fun b o e => hk₁ b o (of_hideAll _ e), Nat.le_of_eq (hideAll_size _ _)⟩
    (fun p hp => ⟨hk₁ _ _ (N p hp).1, Nat.ne_of_lt (Heap.lt_size (N p hp).1), hideAll_none _ (List.mem_map_of_mem hp)⟩) BG (X₀.keeps st) (T.keeps st)) (fun fl s' hl => ?_) fun _ _ y => y
  obtain ⟨g', L', m', news', T', F', N', k⟩ := hl
  have nL₀ : h₀.get? L = none := kts_self F
  have hfs : ∀ b, b ∈ [env].filterMap (·.frame) → b = L := fun b hb => by
    obtain ⟨env', he, hf'⟩ := List.mem_filterMap.mp hb
    obtain rfl := List.mem_singleton.mp he
    exact Option.some.inj (hf'.symm.trans hf)
  obtain ⟨sl, hs⟩ := T'.up hLg
  refine k ⟨⟨_, es, ep, F'.keep _ _ hs, hLd, hLk, hLf⟩, fun b o e => F'.keep b o (T'.other b o (st b o e) (fun q => by
    rw [hfs b q, nL₀] at e
    cases e)), F.above⟩ fun p hp => ⟨(N' p hp).1, fun q => ?_, ?_⟩
  · have := (N' p hp).2.2; rw [q, hs] at this; cases this
  · cases q : h₀.get? p.1 with
    | none => rfl
    | some o =>
      obtain ⟨sl', hs'⟩ := T'.up (st _ _ q)
      have := (N' p hp).2.2
      rw [hs'] at this
      cases this
end
end Nz

/-! part NzE7b -/
namespace Nz
section
variable {prog : Program} {w : World} {A : Around} {E : Value → Shared → Prop} {s : Shared} {K : Frag} {x C : Addr} {ox : Obj} {od : Option Obj} {name : Str} {v : Value} {Q : Value → Shared → Prop}
theorem exc_get (X : K.In s.heap) (I : InstAt s.heap x ox C od) (hga : findIn K (.ref C) "__getattribute__" = some (some (.builtin "BaseException.__getattribute__"))) (hk : findIn K (.ref C) "__getattr__" = some none)
    (hm : mroIn K C (.type "BaseException") = some true) (hf : findObj K C od name = some (.value v)) (hh : handedIn v = true) (h : Q v { s with toks := s.toks + 1 }) : wpAny (model prog w) A (getAttr (.ref x) name true) Q E s := by
  obtain ⟨hp, g, d, t, os⟩ := s
  have L0 := I.type (M := model prog w)
  have L1 := looks_findIn (M := model prog w) X hga
  have L2 := looks_findIn (M := model prog w) X hk
  have L3 := looks_find (M := model prog w) X I hf
  have f3 := (PySem.F.attr_Exception).ga.bind (.ref x)
  have hx2 : (Value.builtin "BaseException.__getattribute__" == Value.builtin "object.__getattribute__") = false := by decide +kernel
  have hx1 : (onTheHeap (Value.ref C) && Value.builtin "BaseException.__getattribute__" == Value.builtin "object.__getattribute__") = false := by rw [hx2]; rfl
  unfold getAttr getAttrBy
  refine wpAny_bind (wpAny_mkText (wpAny_holding (wpAny_bind (L0.at (wpAny_bind (L1.at ?_))))))
  dsimp only
  rw [hx1, if_neg (by decide)]
  unfold getAttrByItsOwn hookBefore
  rw [if_pos (show onTheHeap (Value.ref C) = true from rfl)]
  refine wpAny_bind (L2.at ?_)
  refine wpAny_bind (wpAny_attempt (wpAny_holding ?_))
  unfold callGetattribute boundAndCalled
  rw [show (true && onTheHeap (Value.builtin "BaseException.__getattribute__")) = false from rfl, if_neg (by decide), f3]
  refine wpAny_bind (wpAny_pure (wpAny_call (codeAny_call_builtin (PySem.F.attr_Exception).ga.plain PySem.F.entry_bexc_ga ?_)))
  have hi : Looks (model prog w) hp (isInstance (.ref x) (.type "BaseException")) true := L0.andThen (looks_mroIn X hm)
  show wpAny (model prog w) _ (checkBuiltinCall "BaseException.__getattribute__" ⟨[.ref x, .str name t], []⟩) _ _ _
  have hkind : builtinKind "BaseException.__getattribute__" = some .slot := by decide +kernel
  have hsplit : splitId "BaseException.__getattribute__" = some ("BaseException", "__getattribute__") := by decide +kernel
  refine @check_slot (model prog w) _ _ ⟨hp, g, d, t + 1, os⟩ "BaseException.__getattribute__" "BaseException" "__getattribute__" (.ref x) [.str name t] [] _ hkind hsplit hi (PySem.F.args_bexc_ga (.ref x) (.str name t)) ?_
  unfold Builtin.«object.__getattribute__»
  repeat (first | with_reducible refine L0.at ?_ | with_reducible refine L3.at ?_ | wp_step)
  show wpAny _ _ (handedOut v) _ _ _
  rw [handedOut_of hh]
  exact wpAny_pure h
end
end Nz

/-! part NzE8 -/
namespace Nz
/-- a def that may refuse its word -/
def Deed (w : World) (mean : ExcName → Option Value) (mg mb : Str → Option Value) (f : Addr) (worth : Value) (l : List Nat) (news : Al) : Prop :=
  ∀ (dp un : Nat) (gd : Option (List Code)) (cn : Str) (cs : Scope) (a : Addr) (ccd : Value) (cl : List (Str × Addr)) (outer : List Env) (A₀ : Around) (base h₀ : Heap) (L : Addr) (m : Str → Option Value) (s : Shared) (Q E : Value → Shared → Prop),
    Below A₀ base outer h₀ → Fr h₀ L s.heap m → (hd.heap_39 w.params).In h₀ → News h₀ L s.heap news → Top hd.view_39 (looseW hd.view_39 [Str.ofString "PostError", Str.ofString "_law_signs"]) mean mg mb h₀ → cs.kind = .function →
    dp + 8 < recursionLimit → un + 800 < cLine →
    ((∀ c ∈ l, c < 128) → ∀ v h' tk', Fr h₀ L h' m → News h₀ L h' news → Q v { s with heap := h', toks := tk' }) →
    ((¬ ∀ c ∈ l, c < 128) → ∀ e d g dob h' tk', Fr h₀ L g m → Below (ktrTop dp un gd cn cs L a ccd cl outer) base (envX cn cs L a ccd cl :: outer) g → RaisedSD base g (envX cn cs L a ccd cl :: outer) e d (.ref 59) ((d, dob) :: news) h' → g.UpToSlots h' → (∃ t, lookIn "at" dob = some (some (.int (plainI l) t))) →
      E (.ref e) { s with heap := h', toks := tk' }) →
    wpAny (model PySem.Challenge.rw_nz0266_01.row.prog w) (ktrTop dp un gd cn cs L a ccd cl outer) (call (.ref f) [worth]) Q E s
local macro_rules | `(tactic| walk_at "call ref") => `(tactic| (k_here; refine Hold.out ?_))
local macro_rules | `(tactic| walk_at "eval Attribute") => `(tactic| (k_here; refine Hold.out ?_))
set_option maxHeartbeats 8000000 in
theorem ct_refused_95 (w : World) (mean : ExcName → Option Value) (mg mb : Str → Option Value) (worth : Value) (l : List Nat) (news : Al) (D : Deed w mean mg mb 95 worth l news) :
  ∀ (dp un : Nat) (gd : Option (List Code)) (cn : Str) (cs : Scope) (a : Addr) (ccd : Value) (cl : List (Str × Addr)) (A₀ : Around) (h₀ : Heap) (L : Addr) (m : Str → Option Value) (s : Shared) (Q E : Value → Shared → Prop),
    Below A₀ h₀ [] h₀ → Fr h₀ L s.heap m → (hd.heap_39 w.params).In h₀ → News h₀ L s.heap news → Top hd.view_39 (looseW hd.view_39 [Str.ofString "PostError", Str.ofString "_law_signs"]) mean mg mb h₀ → cs.kind = .function →
    dp + 12 < recursionLimit → un + 1200 < cLine →
    (∀ t' h' tk', Fr h₀ L h' m → News h₀ L h' news → Q (.int (plainI l) t') { s with heap := h', toks := tk' }) →
    wpAny (model PySem.Challenge.rw_nz0266_01.row.prog w) (ktrTop dp un gd cn cs L a ccd cl []) (call (.ref 142) [.ref 95, worth]) Q E s := by
  w_top off
  k_fill
  intro dp un gd cn cs a ccd cl A₀ h₀ L m s Q E B F X N T hk hdp hun hret
  refine wpAny_call ?_
  k_dflt (refine' code_defSX (env := envX cn cs L a ccd cl) ?k1 ?k2 ?k3 ?k4 ?k5 ?kA ?kF ?kK ?k6 ?k7 ?k8 ?k9 ?kB ?_ ?c2 ?c3 ?c4 ?c5; (case kA => exact rfl); (case kF => exact rfl); (case kK => assumption); (case k2 => k_asm); (case k1 => k_asm); (case k3 => k_asm); (case k4 => k_asm); (case k5 => k_asm); (case k6 => k_is); (case k7 => k_is); (case k8 => ktr_room); (case k9 => exact BindsTo.of_eq rfl); (case kB => exact locs rfl); (case c2 => exact rfl); (case c3 => exact rfl); (case c4 => exact rfl); (case c5 => decide); k_whole)
  intro g' L' h' FG' F' N' B' X' T'
  (try dsimp only); (try k_fold)
  k_steps
  unfold Hold
  refine D _ _ _ _ _ _ _ _ _ _ _ _ _ _ _ _ _ B' F' X' N' T' rfl (by ktr_room) (by ktr_room) ?_ ?_
  · intro hall v h9 tk9 F9 N9
    k_steps
    rw [plainI_none hall] at hret
    exact hret _ _ _ (by assumption) (by assumption)
  · intro hn e d g2 dob h9 tk9 F9 B9 R9 u9 hat
    refine caught_D R9 F9 B' u9 X T (by k_is) (by kernel_rfl) ?_
    intro h8 g8 vs sl tk8 T8 F8 N8 B8 X8 T8'
    k_steps
    obtain ⟨ta, hat⟩ := hat
    have I8 : InstAt h8 e ⟨.ref 59, some d, .fields vs, sl⟩ 59 (some dob) := ⟨(N8 _ (.head _)).1, rfl, rfl, (N8 _ (.tail _ (.head _))).1⟩
    refine exc_get (X8.keeps F8.keep) I8 (by k_is) (by k_is) (by k_is) (findObj_own (attr := none) (by k_is) (by k_is) (by k_is) hat) rfl ?_
    k_steps
    rename News h₀ L _ _ => kN9
    exact hret ta _ _ (by assumption) (fun p hp => kN9 p (.tail _ (.tail _ hp)))
set_option maxHeartbeats 8000000 in
theorem ct_refused_100 (w : World) (mean : ExcName → Option Value) (mg mb : Str → Option Value) (worth : Value) (l : List Nat) (news : Al) (D : Deed w mean mg mb 100 worth l news) :
  ∀ (dp un : Nat) (gd : Option (List Code)) (cn : Str) (cs : Scope) (a : Addr) (ccd : Value) (cl : List (Str × Addr)) (A₀ : Around) (h₀ : Heap) (L : Addr) (m : Str → Option Value) (s : Shared) (Q E : Value → Shared → Prop),
    Below A₀ h₀ [] h₀ → Fr h₀ L s.heap m → (hd.heap_39 w.params).In h₀ → News h₀ L s.heap news → Top hd.view_39 (looseW hd.view_39 [Str.ofString "PostError", Str.ofString "_law_signs"]) mean mg mb h₀ → cs.kind = .function →
    dp + 12 < recursionLimit → un + 1200 < cLine →
    (∀ t' h' tk', Fr h₀ L h' m → News h₀ L h' news → Q (.int (plainI l) t') { s with heap := h', toks := tk' }) →
    wpAny (model PySem.Challenge.rw_nz0266_01.row.prog w) (ktrTop dp un gd cn cs L a ccd cl []) (call (.ref 142) [.ref 100, worth]) Q E s := by
  w_top off
  k_fill
  intro dp un gd cn cs a ccd cl A₀ h₀ L m s Q E B F X N T hk hdp hun hret
  refine wpAny_call ?_
  k_dflt (refine' code_defSX (env := envX cn cs L a ccd cl) ?k1 ?k2 ?k3 ?k4 ?k5 ?kA ?kF ?kK ?k6 ?k7 ?k8 ?k9 ?kB ?_ ?c2 ?c3 ?c4 ?c5; (case kA => exact rfl); (case kF => exact rfl); (case kK => assumption); (case k2 => k_asm); (case k1 => k_asm); (case k3 => k_asm); (case k4 => k_asm); (case k5 => k_asm); (case k6 => k_is); (case k7 => k_is); (case k8 => ktr_room); (case k9 => exact BindsTo.of_eq rfl); (case kB => exact locs rfl); (case c2 => exact rfl); (case c3 => exact rfl); (case c4 => exact rfl); (case c5 => decide); k_whole)
  intro g' L' h' FG' F' N' B' X' T'
  (try dsimp only); (try k_fold)
  k_steps
  unfold Hold
  refine D _ _ _ _ _ _ _ _ _ _ _ _ _ _ _ _ _ B' F' X' N' T' rfl (by ktr_room) (by ktr_room) ?_ ?_
  · intro hall v h9 tk9 F9 N9
    k_steps
    rw [plainI_none hall] at hret
    exact hret _ _ _ (by assumption) (by assumption)
  · intro hn e d g2 dob h9 tk9 F9 B9 R9 u9 hat
    refine caught_D R9 F9 B' u9 X T (by k_is) (by kernel_rfl) ?_
    intro h8 g8 vs sl tk8 T8 F8 N8 B8 X8 T8'
    k_steps
    obtain ⟨ta, hat⟩ := hat
    have I8 : InstAt h8 e ⟨.ref 59, some d, .fields vs, sl⟩ 59 (some dob) := ⟨(N8 _ (.head _)).1, rfl, rfl, (N8 _ (.tail _ (.head _))).1⟩
    refine exc_get (X8.keeps F8.keep) I8 (by k_is) (by k_is) (by k_is) (findObj_own (attr := none) (by k_is) (by k_is) (by k_is) hat) rfl ?_
    k_steps
    rename News h₀ L _ _ => kN9
    exact hret ta _ _ (by assumption) (fun p hp => kN9 p (.tail _ (.tail _ hp)))
theorem deed_ascii (w : World) (mean : ExcName → Option Value) (mg mb : Str → Option Value) (l : List Nat) (t : Tok) (news : Al) (hs : Small l) (hb : l.length ≤ 1000) : Deed w mean mg mb 95 (.bytes (bOf l) t) l news :=
  fun _ _ _ _ _ _ _ _ _ _ _ _ _ _ _ _ _ B F X N T hk hd hu h1 h2 => ct_ascii w mean mg mb l t news hs hb _ _ _ _ _ _ _ _ _ _ _ _ _ _ _ _ _ B F X N T hk hd hu (fun q t' => h1 q _) h2
theorem deed_octets (w : World) (mean : ExcName → Option Value) (mg mb : Str → Option Value) (l : List Nat) (t : Tok) (news : Al) (hs : Small l) (hb : l.length ≤ 1000) : Deed w mean mg mb 100 (.str (sOf l) t) l news :=
  fun _ _ _ _ _ _ _ _ _ _ _ _ _ _ _ _ _ B F X N T hk hd hu h1 h2 => ct_octets w mean mg mb l t news hs hb _ _ _ _ _ _ _ _ _ _ _ _ _ _ _ _ _ B F X N T hk hd hu (fun q t' => h1 q _) h2
end Nz

/-! part NzF1 -/
namespace Nz
section
variable {prog : Program} {w : World} {A : Around} {E : Value → Shared → Prop} {s : Shared}
theorem eqGives_bytes (x y : Array UInt8) (t u : Tok) : MeetsSeq.EqGives (.bytes x t) (.bytes y u) (x.toList == y.toList) := by
  intro prog w A E s Q h
  unfold eqBool
  refine wpAny_holding ?_
  refine wpAny_ite_split (fun hab => ?_) (fun hab => ?_)
  · have e : x = y := by have := eq_of_beq hab; injection this
    subst e
    exact wpAny_bind (wpAny_rule (wpAny_pure (by simpa using h)))
  · exact wpAny_bind (richCompare_gives (typeIs_bytes s x t) (typeIs_bytes s y u) FB.slot_bytes_eq FB.entry_bytes_eq (FB.args_bytes_eq_2 _ _) (gives_bytes_eq x y t u) (fun e => nomatch e) (wpAny_truthy_bool h))

theorem extend_bytes {R : Result → Shared → Prop} (hh : A.handled = none) (x : Array UInt8) (t : Tok) (S : Addr) (res : Value) (c₀ : Nat) (hS : s.heap.get? S = some { cls := .type "list", data := .seq #[] c₀ })
    (hR : ∀ h' tk acc' c', (∀ b o, b ≠ S → s.heap.get? b = some o → h'.get? b = some o) → h'.get? S = some { cls := .type "list", dict := none, data := .seq acc' c', slots := #[] } →
      ItemsOf (fun i v => ∃ c u, x[i]? = some c ∧ v = .int (c.toNat : Int) u) acc' x.size → R (.ok (.ret res)) { s with heap := h', toks := tk }) (hn : x.size ≤ sizeLine) :
    wpAny (model prog w) A.in1 (Builtin.List.listExtendWith (.ref S) (.bytes x t) res)
      (fun fin s' => match fin with | .done f => R (.ok f) s' | .again c' => c'.quiet = true ∧ codeAny (model prog w) A c' R s') (fun e s' => R (.error e) s') s := by
  have hSI : S ≠ s.heap.objs.size := Nat.ne_of_lt (Heap.lt_size hS)
  have hSf : S ∉ [s.heap.objs.size] := fun hm => hSI (List.mem_singleton.mp hm)
  unfold Builtin.List.listExtendWith
  refine wpAny_bind (wpAny_typeOf (T := "bytes") (v := .bytes x t) (typeIs_bytes s x t) ?_)
  have h1 : Builtin.List.listSameRef (.ref S) (.bytes x t) = false := rfl
  have h2 : (Value.type "bytes" == Value.type "list") = false := by decide
  have h3 : (Value.type "bytes" == Value.type "tuple") = false := by decide
  simp only [h1, h2, h3, Bool.or_false, Bool.false_eq_true, if_false]
  refine wpAny_bind (KBw.pyIter_bytes ?_)
  refine wpAny_bind (wpAny_holding ?_)
  unfold Builtin.List.listLengthHint
  refine wpAny_bind (wpAny_specialOf (T := "bytes") (v := .bytes x t) (typeIs_bytes _ x t) FB.slot_bytes_len.lookup ?_)
  wp_delta
  refine wpAny_bind (wpAny_isInstance (T := "bytes") (v := .bytes x t) (b := true) (typeIs_bytes _ x t) (by rw [isSubtype_type]; kernel_rfl) ?_)
  show wpAny _ _ (typeOf (Value.bytes x t) >>= _) _ _ _
  refine wpAny_bind (wpAny_typeOf (T := "bytes") (v := .bytes x t) (typeIs_bytes _ x t) ?_)
  refine wpAny_pure ?_
  rw [if_neg (by decide)]
  have W := fun A' (hh' : Around.handled A' = none) => KBw.walks (prog := prog) (w := w) (A := A') hh' s.heap.objs.size x t
  refine wpAny_pure ⟨plainId_quiet F.plain_extend_loop _, codeAny_extend_loopS (W A.in1 hh).toS hn _ hSf _ x.size 0 _ _ _ rfl (Nat.zero_le _) ⟨_, Heap.get?_push_size _ rfl, rfl, rfl⟩ (Heap.get?_push_of_some _ hS) (ItemsOf.nil _) fun s' acc' c' hm hS' hacc => ?_⟩
  rw [Moved.eq_with hm]
  refine hR s'.heap s'.toks acc' c' (fun b ob hb e => hm.heap b ob (fun hmem => ?_) (Heap.get?_push_of_some _ e)) hS' hacc
  rcases List.mem_cons.mp hmem with e' | hmem
  · exact hb e'
  · exact absurd (Heap.lt_size e) (by rw [List.mem_singleton.mp hmem]; exact Nat.lt_irrefl _)

theorem list_bytes {Q : Value → Shared → Prop} (hh : A.handled = none) (x : Array UInt8) (t : Tok)
    (hQ : ∀ h' tk acc' c', (∀ b o, s.heap.get? b = some o → h'.get? b = some o) →
      h'.get? s.heap.objs.size = some { cls := .type "list", dict := none, data := .seq acc' c', slots := #[] } → ItemsOf (fun i v => ∃ c u, x[i]? = some c ∧ v = .int (c.toNat : Int) u) acc' x.size → Q (.ref s.heap.objs.size) { s with heap := h', toks := tk }) (hn : x.size ≤ sizeLine) :
    wpAny (model prog w) A (call (.type "list") [.bytes x t]) Q E s := by
  refine callType_codes (Q₁ := fun obj s₁ => obj = .ref s.heap.objs.size ∧ s₁ = { s with heap := s.heap.push { cls := .type "list", data := .seq #[] } }) F.called_list (F.typeCall_list_1 _) F.entry_list_init
    (code_list_new _ ⟨rfl, rfl⟩) fun obj s₁ h₁ => ?_
  obtain ⟨rfl, rfl⟩ := h₁
  have hS : (s.heap.push { cls := .type "list", data := .seq #[] }).get? s.heap.objs.size = some { cls := .type "list", data := .seq #[] } := Heap.get?_push_size _ rfl
  refine ⟨⟨_, hS, rfl⟩, F.args_list_init_2 _ _, ?_⟩
  show wpAny _ _ (do let old ← Builtin.List.listItems (.ref s.heap.objs.size); Builtin.List.listUpdate (.ref s.heap.objs.size) (fun _ => #[]); letGo old.toList.reverse; Builtin.List.listExtendWith (.ref s.heap.objs.size) (.bytes x t) .none) _ _ _
  refine wpAny_bind ?_
  unfold Builtin.List.listItems
  refine wpAny_bind (wpAny_seqItems hS rfl (wpAny_pure ?_))
  show wpAny _ _ (updateSeq s.heap.objs.size (fun _ => #[]) >>= fun _ => letGo (#[] : Array Value).toList.reverse >>= fun _ => Builtin.List.listExtendWith (.ref s.heap.objs.size) (.bytes x t) .none) _ _ _
  refine wpAny_bind (wpAny_updateSeq hS rfl ?_)
  have hS₂ := Heap.get?_update_self (Obj.mapSeq (fun _ => (#[] : Array Value))) hS rfl
  have oth : ∀ b o, b ≠ s.heap.objs.size → (s.heap.push { cls := .type "list", data := .seq #[] }).get? b = some o → ((s.heap.push { cls := .type "list", data := .seq #[] }).update s.heap.objs.size (Obj.mapSeq (fun _ => (#[] : Array Value)))).get? b = some o :=
    fun b o hb e => (Heap.get?_update_other _ _ (Ne.symm hb)).trans e
  refine wpAny_bind (wpAny_letGo ?_)
  refine extend_bytes (A := A.in1) (hn := hn) hh x t _ .none _ hS₂ fun h' tk acc' c' hk hS' hacc => ?_
  exact ⟨rfl, hQ h' tk acc' c' (fun b o e => hk b o (Nat.ne_of_lt (Heap.lt_size e)) (oth b o (Nat.ne_of_lt (Heap.lt_size e)) (Heap.get?_push_of_some _ e))) hS' hacc⟩
end
end Nz

/-! part NzF2 -/
namespace Nz
section
variable {prog : Program} {w : World} {A : Around} {E : Value → Shared → Prop} {s : Shared} {h₀ : Heap} {L : Addr} {m : Str → Option Value} {news : Al}
theorem list_bO {Q : Value → Shared → Prop} {l : List Nat} {t : Tok} (hh : A.handled = none) (F : Fr h₀ L s.heap m) (N : News h₀ L s.heap news) (hs : Small l) (hb : l.length ≤ 1000)
    (h : ∀ D us n h' tk, Fr h₀ L h' m → News h₀ L h' ((D, listOf us.toArray n) :: news) → (∀ p ∈ news, p.1 < D) → IntsAre us (l.map fun c => ((c : Nat) : Int)) → Q (.ref D) { s with heap := h', toks := tk }) :
    wpAny (model prog w) A (call (.type "list") [.bytes (bOf l) t]) Q E s := by
  refine list_bytes hh _ _ (fun h' tk acc' c' hk hS hacc => ?_) (by rw [bOf_size, PySem.sizeLine_eq]; omega)
  refine h s.heap.objs.size acc'.toList c' h' tk (F.after hk) (fun p hp => ?_) (fun p hp => Heap.lt_size (N p hp).1) ?_
  · rcases List.mem_cons.mp hp with rfl | hp
    · exact ⟨hS, Nat.ne_of_gt F.ns.lt, next_is_new F⟩
    · exact ⟨hk _ _ (N p hp).1, (N p hp).2⟩
  · refine ints_of (fun c => ((c : Nat) : Int)) (by simpa [bOf_size] using hacc.1) fun j y hj => ?_
    obtain ⟨c, u, hc, rfl⟩ := hacc.2 j y (by simpa using hj)
    obtain ⟨k, hk', e, _⟩ := bOf_get hs hc
    exact ⟨k, u, hk', by rw [e]⟩
end
/-- the end of a turn; the ledger may have grown -/
def InvEndG (h₀ : Heap) (L I : Addr) (wo : Addr × Obj) (own : Al) (J : (Str → Option Value) → Al → Prop) (s₁ s₂ : Shared) : Prop :=
  ∃ h' tk m' nx, s₂ = { s₁ with heap := h', toks := tk } ∧ Fr h₀ L h' m' ∧ News h₀ L h' (nx ++ own) ∧ (∀ p ∈ nx, p.1 ≠ I) ∧ wo ∈ nx ∧ J m' nx
def InvPostG (h₀ : Heap) (L I : Addr) (wo : Addr × Obj) (own : Al) (J : (Str → Option Value) → Al → Prop) (s₁ : Shared) (Q : Flow → Shared → Prop) (f : Flow) (s₂ : Shared) : Prop :=
  match f with
  | .ret v => Q (.ret v) s₂
  | .brk => Q .next s₂
  | _ => InvEndG h₀ L I wo own J s₁ s₂
section
variable {prog : Program} {w : World} {A : Around} {E : Value → Shared → Prop} {s : Shared} {env : Env} {h₀ : Heap} {x : Str} {body : List Stmt} {Q : Flow → Shared → Prop}
theorem iter_listG {l : Addr} {vs : List Value} {nn : Nat} {m₀ : Str → Option Value} {news : Al} (J : Nat → (Str → Option Value) → Al → Prop)
    (hh : A.handled = none) (hl : (l, listOf vs.toArray nn) ∈ news) (F : Fr h₀ env.locals s.heap m₀) (N : News h₀ env.locals s.heap news) (hj : J 0 m₀ news)
    (turn : ∀ I i v m₁ nx h tk own, vs[i]? = some v → (∀ p ∈ nx, p.1 ≠ I) → (∀ p ∈ own, p.1 = I) → own ≠ [] → (l, listOf vs.toArray nn) ∈ nx → J i m₁ nx → Fr h₀ env.locals h (fun y => if y = x then some v else m₁ y) → News h₀ env.locals h (nx ++ own) →
      wpAny (model prog w) A (execs body env) (InvPostG h₀ env.locals I (l, listOf vs.toArray nn) own (J (i + 1)) { s with heap := h, toks := tk } Q) E { s with heap := h, toks := tk })
    (done : ∀ m₁ nx h tk, J vs.length m₁ nx → Fr h₀ env.locals h m₁ → News h₀ env.locals h nx → (l, listOf vs.toArray nn) ∈ nx → Q .next { s with heap := h, toks := tk }) :
    wpAny (model prog w) A (pyIter (.ref l)) (fun it s₂ => LoopAtV prog w A h₀ env x body Q E it s₂) E s := by
  have hol : s.heap.get? l = some (listOf vs.toArray nn) := (N _ hl).1
  have hls : s.heap.IsList l vs.toArray := ⟨_, hol, rfl, nn, rfl⟩
  have hne : l ≠ s.heap.objs.size := Nat.ne_of_lt (Heap.lt_size hol)
  refine wpAny_pyIter_list hls ?_
  have W := Walks.list (prog := prog) (w := w) hh s.heap.objs.size l hne vs.toArray
  have hlen : vs.toArray.size = vs.length := by simp
  rw [hlen] at W
  refine ⟨_, _, _, vs.length, _, _, m₀, news, (fun i m nx => (l, listOf vs.toArray nn) ∈ nx ∧ J i m nx), rfl, W, ?_, ?_, ?_, ⟨⟨_, Heap.get?_push_size _ rfl, rfl, rfl⟩, hls.at fun o e => Heap.get?_push_of_some _ e⟩, F.push _, (fun p hp => ⟨Heap.get?_push_of_some _ (N p hp).1, (N p hp).2⟩), ⟨hl, hj⟩, ?_, ?_⟩
  · intro hm
    rcases List.mem_cons.mp hm with e | hm
    · exact absurd F.ns.lt (e ▸ Nat.lt_irrefl _)
    · exact (N _ hl).2.1 ((List.mem_singleton.mp hm).symm)
  · intro b hb
    rw [List.mem_singleton.mp hb]
    exact next_is_new F
  · intro p hp hI
    exact absurd (Heap.lt_size (N p hp).1) ((List.mem_singleton.mp hI) ▸ Nat.lt_irrefl _)
  · rintro i v m₁ news₁ s₁ own ⟨hh', tk', rfl⟩ hin hP ⟨hl₁, hJ⟩ hoff hown hget hfp hst F₁ N₁
    have hP' : vs[i]? = some v := by simpa using hP
    have hlo : hh'.get? l = some (listOf vs.toArray nn) := (N₁ _ (List.mem_append.mpr (.inr hl₁))).1
    have N₂ : News h₀ env.locals hh' (news₁ ++ own.filter fun p => decide (p.1 = s.heap.objs.size)) := fun p hp => N₁ p ((List.mem_append.mp hp).elim (fun h => List.mem_append.mpr (.inr h)) fun h => List.mem_append.mpr (.inl ((List.mem_filter.mp h).1)))
    have hnx : ∀ p ∈ news₁, p.1 ≠ s.heap.objs.size := fun p hp e => hoff p hp (List.mem_singleton.mpr e)
    have hne' : own.filter (fun p => decide (p.1 = s.heap.objs.size)) ≠ [] := by
      obtain ⟨⟨o, ho, _⟩, _⟩ := hst
      have := hfp s.heap.objs.size (.head _) (next_is_new F) o ho
      exact List.ne_nil_of_mem (List.mem_filter.mpr ⟨this, by simp⟩)
    refine wpAny_mono (turn s.heap.objs.size i v m₁ news₁ hh' tk' _ hP' hnx (fun p hp => by simpa using (List.mem_filter.mp hp).2) hne' hl₁ hJ F₁ N₂) (fun f s₂ p => ?_) fun _ _ e => e
    have fin : InvEndG h₀ env.locals s.heap.objs.size (l, listOf vs.toArray nn) (own.filter fun p => decide (p.1 = s.heap.objs.size)) (J (i + 1)) { s with heap := hh', toks := tk' } s₂ →
        LoopStepU h₀ env.locals [s.heap.objs.size] own (fun m nx => (l, listOf vs.toArray nn) ∈ nx ∧ J (i + 1) m nx) { s with heap := hh', toks := tk' } .next s₂ := by
      rintro ⟨h', tk, m', nx, e, F', N', hI', hw, hm⟩
      refine ⟨rfl, h', tk, m', nx, e, F', fun p hp => ?_, fun p hp hI => hI' p hp (List.mem_singleton.mp hI), hw, hm⟩
      rcases List.mem_append.mp hp with h | h
      · by_cases hI : p.1 = s.heap.objs.size
        · exact N' p (List.mem_append_right _ (List.mem_filter.mpr ⟨h, by simpa using hI⟩))
        · have h1 : p.1 = l := by
            rcases List.mem_cons.mp (hown p h) with h2 | h2
            · exact absurd h2 hI
            · exact List.mem_singleton.mp h2
          have h2 : hh'.get? p.1 = some p.2 := hget p h
          rw [h1, hlo] at h2
          have h3 : p = (l, listOf vs.toArray nn) := Prod.ext h1 (Option.some.inj h2).symm
          rw [h3]
          exact N' _ (List.mem_append_left _ hw)
      · exact N' p (List.mem_append_left _ h)
    cases f with
    | ret v => exact .ret p
    | brk => exact .brk p
    | next => exact .next (fin p)
    | cont => exact .cont (fin p)
  · rintro h' tk m' news' F' N' _ ⟨hl', hJ⟩
    exact done m' news' h' tk hJ F' N' hl'

/-- names that a turn may bind -/
theorem iter_listP {l : Addr} {vs : List Value} {nn : Nat} {m₀ : Str → Option Value} {news : Al} (ns : List Str) (P : Nat → Al → Prop)
    (hh : A.handled = none) (hl : (l, listOf vs.toArray nn) ∈ news) (F : Fr h₀ env.locals s.heap m₀) (N : News h₀ env.locals s.heap news) (hj : P 0 news)
    (turn : ∀ I i v (m₁ : Str → Option Value) nx h tk own, vs[i]? = some v → (∀ p ∈ nx, p.1 ≠ I) → (∀ p ∈ own, p.1 = I) → own ≠ [] → (l, listOf vs.toArray nn) ∈ nx → P i nx → (∀ z, z ≠ x → z ∉ ns → m₁ z = m₀ z) → Fr h₀ env.locals h (fun y => if y = x then some v else m₁ y) → News h₀ env.locals h (nx ++ own) →
      wpAny (model prog w) A (execs body env) (InvPostG h₀ env.locals I (l, listOf vs.toArray nn) own (fun m nx => P (i + 1) nx ∧ ∀ z, z ≠ x → z ∉ ns → m z = m₀ z) { s with heap := h, toks := tk } Q) E { s with heap := h, toks := tk })
    (done : ∀ (m₁ : Str → Option Value) nx h tk, P vs.length nx → (∀ z, z ≠ x → z ∉ ns → m₁ z = m₀ z) → Fr h₀ env.locals h m₁ → News h₀ env.locals h nx → (l, listOf vs.toArray nn) ∈ nx → Q .next { s with heap := h, toks := tk }) :
    wpAny (model prog w) A (pyIter (.ref l)) (fun it s₂ => LoopAtV prog w A h₀ env x body Q E it s₂) E s :=
  iter_listG (fun i m nx => P i nx ∧ ∀ z, z ≠ x → z ∉ ns → m z = m₀ z) hh hl F N ⟨hj, fun _ _ _ => rfl⟩
    (fun I i v m₁ nx h tk own hv h1 h2 h2' h3 h4 F' N' => turn I i v m₁ nx h tk own hv h1 h2 h2' h3 h4.1 h4.2 F' N')
    (fun m₁ nx h tk h4 F' N' h3 => done m₁ nx h tk h4.1 h4.2 F' N' h3)
theorem InvEndG.intro {h₀ : Heap} {L I : Addr} {wo : Addr × Obj} {own nx : Al} {J : (Str → Option Value) → Al → Prop} {s₁ : Shared} {h' : Heap} {tk : Nat} {m' : Str → Option Value} (F : Fr h₀ L h' m') (N : News h₀ L h' (nx ++ own)) (hI : ∀ p ∈ nx, p.1 ≠ I) (hw : wo ∈ nx) (hj : J m' nx) :
    InvEndG h₀ L I wo own J s₁ { s₁ with heap := h', toks := tk } := ⟨h', tk, m', nx, rfl, F, N, hI, hw, hj⟩
end
section
variable {x a b c : Str} {m₁ m₀ : Str → Option Value} {v : Value}
theorem ov3 (hm : ∀ z, z ≠ x → z ∉ [a, b, c] → m₁ z = m₀ z) : (fun y => if y = x then some v else m₁ y) = fun y => if y = x then some v else if y = a then m₁ a else if y = b then m₁ b else if y = c then m₁ c else m₀ y := by
  funext y
  by_cases h0 : y = x
  · simp [h0]
  by_cases h1 : y = a
  · simp [h0, h1]
  by_cases h2 : y = b
  · subst h2; simp [h0, h1]
  by_cases h3 : y = c
  · subst h3; simp [h0, h1, h2]
  simp only [if_neg h0, if_neg h1, if_neg h2, if_neg h3]
  exact hm y h0 (by simp [h1, h2, h3])
theorem dn3 (hm : ∀ z, z ≠ x → z ∉ [a, b, c] → m₁ z = m₀ z) : m₁ = fun y => if y = x then m₁ x else if y = a then m₁ a else if y = b then m₁ b else if y = c then m₁ c else m₀ y := by
  funext y
  by_cases h0 : y = x
  · simp [h0]
  by_cases h1 : y = a
  · subst h1; simp [h0]
  by_cases h2 : y = b
  · subst h2; simp [h0, h1]
  by_cases h3 : y = c
  · subst h3; simp [h0, h1, h2]
  simp only [if_neg h0, if_neg h1, if_neg h2, if_neg h3]
  exact hm y h0 (by simp [h1, h2, h3])
theorem ov2 (hm : ∀ z, z ≠ x → z ∉ [a, b] → m₁ z = m₀ z) : (fun y => if y = x then some v else m₁ y) = fun y => if y = x then some v else if y = a then m₁ a else if y = b then m₁ b else m₀ y := by
  funext y
  by_cases h0 : y = x
  · simp [h0]
  by_cases h1 : y = a
  · simp [h0, h1]
  by_cases h2 : y = b
  · subst h2; simp [h0, h1]
  simp only [if_neg h0, if_neg h1, if_neg h2]
  exact hm y h0 (by simp [h1, h2])
theorem dn2 (hm : ∀ z, z ≠ x → z ∉ [a, b] → m₁ z = m₀ z) : m₁ = fun y => if y = x then m₁ x else if y = a then m₁ a else if y = b then m₁ b else m₀ y := by
  funext y
  by_cases h0 : y = x
  · simp [h0]
  by_cases h1 : y = a
  · subst h1; simp [h0]
  by_cases h2 : y = b
  · subst h2; simp [h0, h1]
  simp only [if_neg h0, if_neg h1, if_neg h2]
  exact hm y h0 (by simp [h1, h2])
theorem ov0 (hm : ∀ z, z ≠ x → z ∉ [] → m₁ z = m₀ z) : (fun y => if y = x then some v else m₁ y) = fun y => if y = x then some v else m₀ y := by
  funext y
  by_cases h0 : y = x
  · simp [h0]
  simp only [if_neg h0]
  exact hm y h0 (by simp)
theorem dn0 (hm : ∀ z, z ≠ x → z ∉ [] → m₁ z = m₀ z) : m₁ = fun y => if y = x then m₁ x else m₀ y := by
  funext y
  by_cases h0 : y = x
  · simp [h0]
  simp only [if_neg h0]
  exact hm y h0 (by simp)
end
end Nz

/-! part NzF3 -/
namespace Nz
/-- octets each -/
inductive BytesAre : List Value → List (List Nat) → Prop
  | nil : BytesAre [] []
  | cons (l : List Nat) (t : Tok) {vs : List Value} {ls : List (List Nat)} (h : BytesAre vs ls) : BytesAre (.bytes (bOf l) t :: vs) (l :: ls)
theorem BytesAre.append {vs us : List Value} {ls ks : List (List Nat)} (h : BytesAre vs ls) (g : BytesAre us ks) : BytesAre (vs ++ us) (ls ++ ks) := by
  induction h with
  | nil => exact g
  | cons l t _ ih => exact .cons l t ih
theorem BytesAre.length {vs : List Value} {ls : List (List Nat)} (h : BytesAre vs ls) : vs.length = ls.length := by
  induction h with
  | nil => rfl
  | cons l t _ ih => simp [ih]
theorem BytesAre.at {vs : List Value} {ls : List (List Nat)} (h : BytesAre vs ls) : ∀ {i : Nat} {v : Value}, vs[i]? = some v → ∃ l t, ls[i]? = some l ∧ v = .bytes (bOf l) t := by
  induction h with
  | nil => intro i v h; simp at h
  | cons l t _ ih =>
    intro i v h
    cases i with
    | zero => exact ⟨l, t, rfl, by simpa using h.symm⟩
    | succ i => exact ih (by simpa using h)
/-- the word tested in a list of words -/
def isB (k : List Nat) : Value → Bool
  | .bytes b _ => b.toList == (bOf k).toList
  | _ => false
theorem any_isB {k : List Nat} (hk : Small k) {vs : List Value} {ls : List (List Nat)} (h : BytesAre vs ls) (hs : ∀ l ∈ ls, Small l) : vs.any (isB k) = decide (k ∈ ls) := by
  induction h with
  | nil => simp
  | cons l t h ih =>
    rw [List.any_cons, ih fun l' hl' => hs l' (List.mem_cons_of_mem _ hl')]
    show ((bOf l).toList == (bOf k).toList || _) = _
    rw [bOf_eq (hs l List.mem_cons_self) hk]
    by_cases e : l = k
    · simp [e]
    · have e' : ¬ k = l := fun q => e q.symm
      simp [e, e']
theorem in_bytes {prog : Program} {w : World} {A : Around} {E : Value → Shared → Prop} {s : Shared} {a : Addr} {vs : List Value} {ls : List (List Nat)} {k : List Nat} {t : Tok} {Q : Value → Shared → Prop} (hl : s.heap.IsList a vs.toArray) (hi : BytesAre vs ls) (hk : Small k) (hs : ∀ l ∈ ls, Small l)
    (h : Q (.bool (decide (k ∈ ls))) s) : wpAny (model prog w) A (compareOp .In (.bytes (bOf k) t) (.ref a)) Q E s := by
  refine SeqInW.in_listW (isB k) (fun y hy => ?_) hl (by rw [← Array.any_toList, show vs.toArray.toList = vs from rfl, any_isB hk hi hs]; exact h)
  obtain ⟨i, hi', e⟩ := List.mem_iff_getElem.mp (show y ∈ vs by simpa using hy)
  obtain ⟨l, t', _, rfl⟩ := hi.at (i := i) (by rw [List.getElem?_eq_getElem hi', e])
  exact eqGives_bytes _ _ _ _

/-- a row of the table: key, address, values, epoch -/
structure Row where
  k : List Nat
  a : Addr
  us : List Value
  n : Nat
def kvOf (tb : List Row) : List (Str × Value) := tb.map fun e => (sOf e.k, .ref e.a)
def lsOf (tb : List Row) : Al := tb.map fun e => (e.a, listOf e.us.toArray e.n)
structure TbOk (tb : List Row) (done : List (List Nat)) : Prop where
  keys : (tb.map (·.k)).Nodup
  adrs : (tb.map (·.a)).Nodup
  rows : ∀ e ∈ tb, BytesAre e.us (done.filter fun l => l.map low = e.k)
  all : ∀ l ∈ done, ∃ e ∈ tb, e.k = l.map low
  len : tb.length ≤ done.length
theorem TbOk.nil : TbOk [] [] := ⟨by simp, by simp, fun _ h => (nomatch h), fun _ h => (nomatch h), Nat.le_refl _⟩
theorem valueAt_kv {tb : List Row} {k : List Nat} : valueAt (kvOf tb) (sOf k) = (tb.find? fun e => e.k = k).map fun e => .ref e.a := by
  unfold valueAt kvOf
  induction tb with
  | nil => rfl
  | cons e r ih =>
    rw [List.map_cons, List.find?_cons, List.find?_cons]
    by_cases h : e.k = k
    · simp [h]
    · have h' : ¬ sOf e.k = sOf k := fun q => h (sOf_inj q)
      simp only [h, h', decide_false]
      exact ih
theorem find_row {tb : List Row} {k : List Nat} {e : Row} (h : tb.find? (fun e => e.k = k) = some e) : e ∈ tb ∧ e.k = k := ⟨List.mem_of_find?_eq_some h, by simpa using List.find?_some h⟩
theorem find_of {tb : List Row} (hn : (tb.map (·.k)).Nodup) {e : Row} (he : e ∈ tb) : tb.find? (fun f => f.k = e.k) = some e := by
  induction tb with
  | nil => exact nomatch he
  | cons f r ih =>
    rw [List.find?_cons]
    rw [List.map_cons, List.nodup_cons] at hn
    rcases List.mem_cons.mp he with rfl | he
    · simp
    · have h : ¬ f.k = e.k := fun q => hn.1 (q ▸ List.mem_map_of_mem he)
      simp only [h, decide_false]
      exact ih hn.2 he
/-- a word is put under its key -/
def putRow (tb : List Row) (k : List Nat) (v : Value) (n : Nat) : List Row := tb.map fun e => if e.k = k then { e with us := e.us ++ [v], n := n } else e
theorem putRow_kv (tb : List Row) (k : List Nat) (v : Value) (n : Nat) : kvOf (putRow tb k v n) = kvOf tb := by
  unfold kvOf putRow
  rw [List.map_map]
  refine List.map_congr_left fun e _ => ?_
  show (_, _) = _
  by_cases h : e.k = k <;> simp [h]
theorem putRow_ok {tb : List Row} {done : List (List Nat)} {l : List Nat} {t : Tok} {n : Nat} {e : Row} (T : TbOk tb done) (he : e ∈ tb) (hk : e.k = l.map low) : TbOk (putRow tb (l.map low) (.bytes (bOf l) t) n) (done ++ [l]) := by
  have hks : (putRow tb (l.map low) (.bytes (bOf l) t) n).map (·.k) = tb.map (·.k) := by
    unfold putRow
    rw [List.map_map]
    refine List.map_congr_left fun e _ => ?_
    show Row.k (if _ then _ else _) = _
    by_cases h : e.k = l.map low <;> simp [h]
  have has : (putRow tb (l.map low) (.bytes (bOf l) t) n).map (·.a) = tb.map (·.a) := by
    unfold putRow
    rw [List.map_map]
    refine List.map_congr_left fun e _ => ?_
    show Row.a (if _ then _ else _) = _
    by_cases h : e.k = l.map low <;> simp [h]
  refine ⟨hks ▸ T.keys, has ▸ T.adrs, fun f hf => ?_, fun l' hl' => ?_, ?_⟩
  · obtain ⟨g, hg, rfl⟩ := List.mem_map.mp hf
    by_cases h : g.k = l.map low
    · simp only [h, if_true]
      rw [List.filter_append]
      have h1 : ([l] : List (List Nat)).filter (fun x => x.map low = l.map low) = [l] := by simp
      rw [h1]
      exact (h ▸ T.rows g hg).append (.cons l t .nil)
    · simp only [h, if_false]
      rw [List.filter_append]
      have h1 : ([l] : List (List Nat)).filter (fun x => x.map low = g.k) = [] := by
        have : ¬ l.map low = g.k := fun q => h q.symm
        simp [this]
      rw [h1, List.append_nil]
      exact T.rows g hg
  · rcases List.mem_append.mp hl' with h | h
    · obtain ⟨g, hg, e1⟩ := T.all l' h
      have : g.k ∈ (putRow tb (l.map low) (.bytes (bOf l) t) n).map (·.k) := by rw [hks]; exact List.mem_map_of_mem hg
      obtain ⟨f, hf, e2⟩ := List.mem_map.mp this
      exact ⟨f, hf, e2.trans e1⟩
    · rw [List.mem_singleton.mp h]
      have : e.k ∈ (putRow tb (l.map low) (.bytes (bOf l) t) n).map (·.k) := by rw [hks]; exact List.mem_map_of_mem he
      obtain ⟨f, hf, e2⟩ := List.mem_map.mp this
      exact ⟨f, hf, e2.trans hk⟩
  · have h1 := T.len
    have h2 : (putRow tb (l.map low) (.bytes (bOf l) t) n).length = tb.length := by simp [putRow]
    rw [h2, List.length_append]
    omega
/-- a new key -/
theorem newRow_ok {tb : List Row} {done : List (List Nat)} {l : List Nat} {t : Tok} {n : Nat} {a : Addr} (T : TbOk tb done) (hk : tb.find? (fun e => e.k = l.map low) = none) (ha : ∀ e ∈ tb, e.a ≠ a) : TbOk (tb ++ [⟨l.map low, a, [.bytes (bOf l) t], n⟩]) (done ++ [l]) := by
  have hno : ∀ e ∈ tb, ¬ e.k = l.map low := fun e he => by simpa using (List.find?_eq_none.mp hk) e he
  have hdone : done.filter (fun x => x.map low = l.map low) = [] := by
    rw [List.filter_eq_nil_iff]
    intro x hx
    obtain ⟨e, he, e1⟩ := T.all x hx
    have := hno e he
    rw [e1] at this
    simpa using this
  refine ⟨?_, ?_, fun f hf => ?_, fun l' hl' => ?_, ?_⟩
  · rw [List.map_append, List.nodup_append]
    refine ⟨T.keys, by simp, fun x hx y hy => ?_⟩
    obtain ⟨e, he, rfl⟩ := List.mem_map.mp hx
    simp only [List.map_cons, List.map_nil, List.mem_singleton] at hy
    rw [hy]
    exact hno e he
  · rw [List.map_append, List.nodup_append]
    refine ⟨T.adrs, by simp, fun x hx y hy => ?_⟩
    obtain ⟨e, he, rfl⟩ := List.mem_map.mp hx
    simp only [List.map_cons, List.map_nil, List.mem_singleton] at hy
    rw [hy]
    exact ha e he
  · rcases List.mem_append.mp hf with h | h
    · rw [List.filter_append]
      have h1 : ([l] : List (List Nat)).filter (fun x => x.map low = f.k) = [] := by
        have : ¬ l.map low = f.k := fun q => hno f h q.symm
        simp [this]
      rw [h1, List.append_nil]
      exact T.rows f h
    · rw [List.mem_singleton.mp h]
      rw [List.filter_append, hdone]
      have h1 : ([l] : List (List Nat)).filter (fun x => x.map low = l.map low) = [l] := by simp
      show BytesAre _ ([] ++ List.filter (fun x => x.map low = l.map low) [l])
      rw [h1]
      exact .cons l t .nil
  · rcases List.mem_append.mp hl' with h | h
    · obtain ⟨e, he, e1⟩ := T.all l' h
      exact ⟨e, List.mem_append_left _ he, e1⟩
    · rw [List.mem_singleton.mp h]
      exact ⟨_, List.mem_append_right _ (.head _), rfl⟩
  · have h1 := T.len
    rw [List.length_append, List.length_append]
    simp only [List.length_cons, List.length_nil]
    omega
theorem stored_kv {tb : List Row} {k : List Nat} {a : Addr} {us : List Value} {n : Nat} (h : tb.find? (fun e => e.k = k) = none) : stored (kvOf tb) (sOf k) (.ref a) = kvOf (tb ++ [⟨k, a, us, n⟩]) := by
  unfold stored
  have hno : ∀ e ∈ tb, ¬ e.k = k := fun e he => by simpa using (List.find?_eq_none.mp h) e he
  rw [if_neg]
  · unfold kvOf
    rw [List.map_append]
    rfl
  · rw [List.any_eq_true]
    rintro ⟨kv, hm, hk⟩
    obtain ⟨e, he, rfl⟩ := List.mem_map.mp hm
    exact hno e he (sOf_inj (by simpa using hk))
end Nz

/-! part NzF3b -/
namespace Nz
section
variable {prog : Program} {w : World} {A : Around} {E : Value → Shared → Prop} {s : Shared} {Q : Value → Shared → Prop} {l k : List Nat} {t u : Tok}
theorem ne_bO_f (e : l = k) (hl : Small l) (h : Q (.bool false) s) : wpAny (model prog w) A (compareOp .NotEq (.bytes (bOf l) t) (.bytes (bOf k) u)) Q E s := by
  subst e
  refine ne_bO hl hl ?_
  simpa using h
theorem ne_sO_f (e : l = k) (h : Q (.bool false) s) : wpAny (model prog w) A (compareOp .NotEq (.str (sOf l) t) (.str (sOf k) u)) Q E s := by
  subst e
  refine PyProof.Rows.ne_str ?_
  simpa using h
theorem ne_int_f {a b : Int} (e : a = b) (h : Q (.bool false) s) : wpAny (model prog w) A (compareOp .NotEq (.int a t) (.int b u)) Q E s := by
  subst e
  refine PyProof.Rows.ne_int ?_
  simpa using h
theorem ne_ints_f {a b : Addr} {vs us : List Value} {ns ms : List Int} (e : ns = ms) (hl : s.heap.IsList a vs.toArray) (hi : IntsAre vs ns) (hl' : s.heap.IsList b us.toArray) (hi' : IntsAre us ms) (hu : A.units + 64 < cLine)
    (h : Q (.bool false) s) : wpAny (model prog w) A (compareOp .NotEq (.ref a) (.ref b)) Q E s := by
  subst e
  refine ne_intsK hl hi hl' hi' hu ?_
  simpa using h
theorem ne_bool_f {a b : Bool} (e : a = b) (h : Q (.bool false) s) : wpAny (model prog w) A (compareOp .NotEq (.bool a) (.bool b)) Q E s := by
  subst e
  refine PyProof.Rows.ne_bool ?_
  simpa using h
end
theorem ct_same_bytes_t (w : World) (mean : ExcName → Option Value) (mg mb : Str → Option Value) (l k : List Nat) (t u : Tok) (news : Al) (e : l.map low = k.map low) (hl : Small l) (hk' : Small k) (hb : l.length ≤ 1000) (hb' : k.length ≤ 1000) :
    Ct w mean mg mb 90 3 [.bytes (bOf l) t, .bytes (bOf k) u] news (Pu news fun _ => .bool true) := by
  have h := ct_same_bytes w mean mg mb l k t u news hl hk' hb hb'
  rw [e] at h
  simpa using h
theorem ct_same_text_t (w : World) (mean : ExcName → Option Value) (mg mb : Str → Option Value) (l k : List Nat) (t u : Tok) (news : Al) (e : l.map low = k.map low) (hl : Small l) (hk' : Small k) (hb : l.length ≤ 1000) (hb' : k.length ≤ 1000) :
    Ct w mean mg mb 90 3 [.str (sOf l) t, .str (sOf k) u] news (Pu news fun _ => .bool true) := by
  have h := ct_same_text w mean mg mb l k t u news hl hk' hb hb'
  rw [e] at h
  simpa using h
theorem low_sm {l : List Nat} (h : ∀ c ∈ l, c ∈ signsL) : l.map low = l.map sm := by
  refine List.map_congr_left fun c hc => ?_
  have := h c hc
  simp only [signsL, List.mem_cons, List.not_mem_nil, or_false] at this
  unfold low sm
  rcases this with rfl | rfl | rfl | rfl | rfl | rfl | rfl | rfl | rfl | rfl | rfl | rfl <;> rfl
theorem low_up (l : List Nat) : (l.map up).map low = l.map low := by
  rw [List.map_map]
  refine List.map_congr_left fun c _ => ?_
  show low (up c) = low c
  unfold low up
  split <;> split <;> (try split) <;> omega
theorem up_low (l : List Nat) : (l.map low).map up = l.map up := by
  rw [List.map_map]
  refine List.map_congr_left fun c _ => ?_
  show up (low c) = up c
  unfold low up
  split <;> split <;> (try split) <;> omega
theorem low_low (l : List Nat) : (l.map low).map low = l.map low := by
  rw [List.map_map]
  refine List.map_congr_left fun c _ => ?_
  show low (low c) = low c
  unfold low
  split <;> (try split) <;> omega
theorem small_signs {l : List Nat} (h : ∀ c ∈ l, c ∈ signsL) : Small l := fun c hc => signs_small (h c hc)
end Nz

/-! part NzF3c -/
namespace Nz
section
variable {prog : Program} {w : World} {A : Around} {E : Value → Shared → Prop} {s : Shared} {env : Env} {h₀ : Heap} {x : Str} {body : List Stmt} {Q : Flow → Shared → Prop}
/-- the loop that fills the table -/
theorem iter_words {d W : Addr} {o : Obj} {ys : List Value} {wl : List (List Nat)} {m₀ : Str → Option Value} {more : Al} (ns : List Str) (hh : A.handled = none) (hwl : BytesAre ys wl)
    (F : Fr h₀ env.locals s.heap m₀) (N : News h₀ env.locals s.heap ((d, o) :: (W, LCg.lst ys) :: more)) (hd : o.IsDictOf (PySem.strKind prog w) ([] : List (Str × Value)))
    (turn : ∀ I l t (m₁ : Str → Option Value) od tb dn h tk own, l ∈ wl → TbOk tb dn → tb.length ≤ wl.length → dn.length ≤ wl.length → od.IsDictOf (PySem.strKind prog w) (kvOf tb) → (∀ e ∈ tb, e.a ≠ d ∧ e.a ≠ W) → (∀ p ∈ (d, od) :: (W, LCg.lst ys) :: lsOf tb, p.1 ≠ I) → (∀ p ∈ own, p.1 = I) → own ≠ [] →
      (∀ z, z ≠ x → z ∉ ns → m₁ z = m₀ z) → Fr h₀ env.locals h (fun y => if y = x then some (.bytes (bOf l) t) else m₁ y) → News h₀ env.locals h ((d, od) :: (W, LCg.lst ys) :: (lsOf tb ++ own)) →
      wpAny (model prog w) A (execs body env) (InvPostG h₀ env.locals I (W, LCg.lst ys) own (fun m nx => (∃ od' tb', nx = (d, od') :: (W, LCg.lst ys) :: lsOf tb' ∧ od'.IsDictOf (PySem.strKind prog w) (kvOf tb') ∧ TbOk tb' (dn ++ [l]) ∧ ∀ e ∈ tb', e.a ≠ d ∧ e.a ≠ W) ∧ ∀ z, z ≠ x → z ∉ ns → m z = m₀ z) { s with heap := h, toks := tk } Q) E { s with heap := h, toks := tk })
    (done : ∀ (m₁ : Str → Option Value) od tb h tk, TbOk tb wl → od.IsDictOf (PySem.strKind prog w) (kvOf tb) → (∀ z, z ≠ x → z ∉ ns → m₁ z = m₀ z) → Fr h₀ env.locals h m₁ → News h₀ env.locals h ((d, od) :: (W, LCg.lst ys) :: lsOf tb) → Q .next { s with heap := h, toks := tk }) :
    wpAny (model prog w) A (pyIter (.ref W)) (fun it s₂ => LoopAtV prog w A h₀ env x body Q E it s₂) E s := by
  refine iter_listP (vs := ys) (nn := ys.length) ns (fun i nx => ∃ od tb, nx = (d, od) :: (W, LCg.lst ys) :: lsOf tb ∧ od.IsDictOf (PySem.strKind prog w) (kvOf tb) ∧ TbOk tb (wl.take i) ∧ (∀ e ∈ tb, e.a ≠ d ∧ e.a ≠ W)) hh (news := [(d, o), (W, LCg.lst ys)]) (.tail _ (.head _)) F (fun p hp => N p (by
        simp only [List.mem_cons, List.not_mem_nil, or_false] at hp ⊢
        rcases hp with h | h
        · exact .inl h
        · exact .inr (.inl h))) ⟨o, [], rfl, hd, by simpa using TbOk.nil, fun _ h => (nomatch h)⟩ ?_ ?_
  · rintro I i v m₁ nx h9 tk9 own hv hI hown hne hW ⟨od, tb, rfl, hod, T, hadr⟩ hm Fx Nx
    obtain ⟨l, tl, hl, rfl⟩ := hwl.at hv
    have e : wl.take (i + 1) = wl.take i ++ [l] := by rw [List.take_add_one, hl]; rfl
    rw [e]
    refine turn I l tl m₁ od tb _ h9 tk9 own (List.mem_of_getElem? hl) T (Nat.le_trans T.len (by rw [List.length_take]; exact Nat.min_le_right _ _)) (by rw [List.length_take]; exact Nat.min_le_right _ _) hod hadr hI hown hne hm Fx ?_
    exact Nx
  · rintro m₁ nx h tk ⟨od, tb, rfl, hod, T, hadr⟩ hm F' N' hW
    rw [hwl.length, List.take_length] at T
    exact done m₁ od tb h tk T hod hm F' N'
end
theorem putRow_new {tb : List Row} {k : List Nat} {a : Addr} {v : Value} {n n' : Nat} (h : tb.find? (fun e => e.k = k) = none) : putRow (tb ++ [⟨k, a, [], n⟩]) k v n' = tb ++ [⟨k, a, [v], n'⟩] := by
  have hno : ∀ e ∈ tb, ¬ e.k = k := fun e he => by simpa using (List.find?_eq_none.mp h) e he
  unfold putRow
  rw [List.map_append]
  congr 1
  · conv => rhs; rw [← List.map_id tb]
    refine List.map_congr_left fun e he => ?_
    simp [hno e he]
  · simp
section
variable {prog : Program} {w : World} {A : Around} {E : Value → Shared → Prop} {s : Shared} {h₀ : Heap} {L d W I : Addr} {m : Str → Option Value} {Q : Value → Shared → Prop} {od ow : Obj} {tb : List Row} {own : Al} {e : Row} {v : Value}
theorem append_row (F : Fr h₀ L s.heap m) (N : News h₀ L s.heap ((d, od) :: (W, ow) :: (lsOf tb ++ own))) (he : e ∈ tb) (hk : (tb.map (·.k)).Nodup) (ha : (tb.map (·.a)).Nodup) (hadr : ∀ e ∈ tb, e.a ≠ d ∧ e.a ≠ W) (hown : ∀ p ∈ own, p.1 ≠ e.a) (hsz : e.us.length ≤ sizeLine)
    (h : ∀ h', Fr h₀ L h' m → News h₀ L h' ((d, od) :: (W, ow) :: (lsOf (putRow tb e.k v (e.n + 1)) ++ own)) → Q .none { s with heap := h' }) : wpAny (model prog w) A (call (.builtin "list.append") [.ref e.a, v]) Q E s := by
  have z := N (e.a, listOf e.us.toArray e.n) (.tail _ (.tail _ (List.mem_append_left _ (List.mem_map_of_mem (f := fun e : Row => (e.a, listOf e.us.toArray e.n)) he))))
  refine append_at (hsz := by simpa using hsz) z.1 fun h' hs ho' => h h' (F.change hs z.2.1 z.2.2) fun p hp => ?_
  have other : ∀ q ∈ ((d, od) :: (W, ow) :: (lsOf tb ++ own)), q.1 ≠ e.a → h'.get? q.1 = some q.2 ∧ q.1 ≠ L ∧ h₀.get? q.1 = none := fun q hq hne => ⟨(hs.2 _ hne).trans (N q hq).1, (N q hq).2⟩
  rcases List.mem_cons.mp hp with rfl | hp
  · exact other _ (.head _) (Ne.symm (hadr e he).1)
  rcases List.mem_cons.mp hp with rfl | hp
  · exact other _ (.tail _ (.head _)) (Ne.symm (hadr e he).2)
  rcases List.mem_append.mp hp with hp | hp
  · obtain ⟨f, hf, rfl⟩ := List.mem_map.mp hp
    obtain ⟨g, hg, rfl⟩ := List.mem_map.mp hf
    by_cases hgk : g.k = e.k
    · have hge : g = e := by
        have h1 := find_of hk hg
        have h2 := find_of hk he
        rw [hgk] at h1
        rw [h1] at h2
        exact Option.some.inj h2
      subst hge
      simp only [if_true]
      refine ⟨?_, z.2⟩
      rw [ho']
      simp
    · simp only [hgk, if_false]
      refine other _ (.tail _ (.tail _ (List.mem_append_left _ (List.mem_map_of_mem (f := fun e : Row => (e.a, listOf e.us.toArray e.n)) hg)))) fun q => hgk ?_
      have q' : g.a = e.a := q
      have : g = e := by
        have inj : ∀ {tb : List Row}, (tb.map (·.a)).Nodup → ∀ {g e : Row}, g ∈ tb → e ∈ tb → g.a = e.a → g = e := by
          intro tb
          induction tb with
          | nil => intro _ g e hg; exact nomatch hg
          | cons f r ih =>
            intro hn g e hg he q
            rw [List.map_cons, List.nodup_cons] at hn
            rcases List.mem_cons.mp hg with g1 | g1
            · rcases List.mem_cons.mp he with e1 | e1
              · rw [g1, e1]
              · subst g1
                exact absurd (q ▸ List.mem_map_of_mem e1) hn.1
            · rcases List.mem_cons.mp he with e1 | e1
              · subst e1
                exact absurd (q ▸ List.mem_map_of_mem g1) hn.1
              · exact ih hn.2 g1 e1 q
        exact inj ha hg he q'
      rw [this]
  · exact other p (.tail _ (.tail _ (List.mem_append_right _ hp))) (hown p hp)
end
end Nz

/-! part NzF3d -/
namespace Nz
section
variable {prog : Program} {w : World} {K : Type} [DecidableEq K] {knd : KeyKind prog w K} {A : Around} {E : Value → Shared → Prop} {s : Shared} {h₀ : Heap} {L d : Addr} {m : Str → Option Value} {rest : Al} {o : Obj} {kvs : List (K × Value)} {k : K} {key dflt : Value}
theorem setdef_new {Q : Value → Shared → Prop} (F : Fr h₀ L s.heap m) (N : News h₀ L s.heap ((d, o) :: rest)) (hap : ∀ p ∈ rest, p.1 ≠ d) (hd : o.IsDictOf knd kvs) (lo : (d == sysModules) = false) (hkey : knd.is k key = true)
    (hargs : argsOk "dict.setdefault" ⟨[.ref d, key, dflt], []⟩) (hl : valueAt kvs k = none) (hsz : kvs.length ≤ sizeLine)
    (h : ∀ h' o', Fr h₀ L h' m → News h₀ L h' ((d, o') :: rest) → o'.IsDictOf knd (stored kvs k dflt) → Q dflt { s with heap := h', toks := s.toks + 1 }) :
    wpAny (model prog w) A (call (.builtin "dict.setdefault") [.ref d, key, dflt]) Q E s := by
  have hm := N (d, o) (.head _)
  have hD : s.heap.DictOf knd d kvs := Heap.dictOf_iff.mpr ⟨o, hm.1, hd⟩
  refine call_meetsIn PySem.F.slot_dict_setdefault hD.typeIs PySem.F.entry_dict_setdefault hargs (kt_meets_setdefault knd d hkey lo dflt) ⟨kvs, hD, hsz, (fun v hv' => by rw [hl] at hv'; cases hv'), fun _ h' hmm hs => ?_⟩
  obtain ⟨o', ho', hd'⟩ := Heap.dictOf_iff.mp hmm
  exact h h' o' (F.change hs hm.2.1 hm.2.2) (N.setHead hap hs ho') hd'
end
section
variable {h₀ h : Heap} {L : Addr} {a b c e f : Addr × Obj} {rest : Al}
theorem drop4 (N : News h₀ L h (a :: b :: c :: e :: rest)) : News h₀ L h rest := fun p hp => N p (.tail _ (.tail _ (.tail _ (.tail _ hp))))
theorem swap5 (N : News h₀ L h (a :: b :: c :: e :: f :: rest)) : News h₀ L h (f :: a :: rest) := fun p hp => by
  rcases List.mem_cons.mp hp with rfl | hp
  · exact N _ (.tail _ (.tail _ (.tail _ (.tail _ (.head _)))))
  rcases List.mem_cons.mp hp with rfl | hp
  · exact N _ (.head _)
  · exact N p (.tail _ (.tail _ (.tail _ (.tail _ (.tail _ hp)))))
theorem into_rows {tb : List Row} {own : Al} {k : List Nat} {A0 : Addr} {n : Nat} (N : News h₀ L h (a :: (A0, listOf #[] n) :: b :: (lsOf tb ++ own))) : News h₀ L h (a :: b :: (lsOf (tb ++ [⟨k, A0, [], n⟩]) ++ own)) := fun p hp => by
  rcases List.mem_cons.mp hp with rfl | hp
  · exact N _ (.head _)
  rcases List.mem_cons.mp hp with rfl | hp
  · exact N _ (.tail _ (.tail _ (.head _)))
  · refine N p (.tail _ ?_)
    unfold lsOf at hp ⊢
    rw [List.map_append] at hp
    rcases List.mem_append.mp hp with hp | hp
    · rcases List.mem_append.mp hp with hp | hp
      · exact .tail _ (.tail _ (List.mem_append_left _ hp))
      · rw [List.mem_singleton.mp hp]
        exact .head _
    · exact .tail _ (.tail _ (List.mem_append_right _ hp))
end
theorem lsOf_mem {tb : List Row} {p : Addr × Obj} (h : p ∈ lsOf tb) : ∃ e ∈ tb, p.1 = e.a := by
  obtain ⟨e, he, rfl⟩ := List.mem_map.mp h
  exact ⟨e, he, rfl⟩
theorem mem_lsOf {tb : List Row} {e : Row} (h : e ∈ tb) : (e.a, listOf e.us.toArray e.n) ∈ lsOf tb := List.mem_map_of_mem (f := fun e : Row => (e.a, listOf e.us.toArray e.n)) h
theorem putRow_mem {tb : List Row} {k : List Nat} {v : Value} {n : Nat} {e : Row} (h : e ∈ putRow tb k v n) : ∃ g ∈ tb, e.a = g.a := by
  obtain ⟨g, hg, rfl⟩ := List.mem_map.mp h
  refine ⟨g, hg, ?_⟩
  split <;> rfl
theorem len_filter_row {tb : List Row} {dn : List (List Nat)} (T : TbOk tb dn) {e : Row} (he : e ∈ tb) : e.us.length ≤ dn.length := by
  rw [(T.rows e he).length]
  exact List.length_filter_le _ _
theorem plain_lt {l : List Nat} (h : plainI l < 0) : ∀ c ∈ l, c < 128 := by
  intro c hc
  unfold plainI at h
  split at h
  · omega
  · rename_i e
    rw [List.findIdx?_eq_none_iff] at e
    have : c ≤ 127 := by simpa using e c hc
    omega
end Nz

/-! part NzF3e -/
namespace Nz
section
variable {prog : Program} {w : World} {A : Around} {E : Value → Shared → Prop} {s : Shared} {env : Env} {h₀ : Heap} {x : Str} {body : List Stmt} {Q : Flow → Shared → Prop}
/-- a loop over the words that leaves the ledger -/
theorem iter_ro {W : Addr} {ys : List Value} {wl : List (List Nat)} {m₀ : Str → Option Value} {news : Al} (ns : List Str) (hh : A.handled = none) (hl : (W, LCg.lst ys) ∈ news) (hwl : BytesAre ys wl)
    (F : Fr h₀ env.locals s.heap m₀) (N : News h₀ env.locals s.heap news)
    (turn : ∀ I l t (m₁ : Str → Option Value) h tk own, l ∈ wl → (∀ p ∈ news, p.1 ≠ I) → (∀ z, z ≠ x → z ∉ ns → m₁ z = m₀ z) → Fr h₀ env.locals h (fun y => if y = x then some (.bytes (bOf l) t) else m₁ y) → News h₀ env.locals h (news ++ own) →
      wpAny (model prog w) A (execs body env) (InvPostG h₀ env.locals I (W, LCg.lst ys) own (fun m nx => nx = news ∧ ∀ z, z ≠ x → z ∉ ns → m z = m₀ z) { s with heap := h, toks := tk } Q) E { s with heap := h, toks := tk })
    (done : ∀ (m₁ : Str → Option Value) h tk, (∀ z, z ≠ x → z ∉ ns → m₁ z = m₀ z) → Fr h₀ env.locals h m₁ → News h₀ env.locals h news → Q .next { s with heap := h, toks := tk }) :
    wpAny (model prog w) A (pyIter (.ref W)) (fun it s₂ => LoopAtV prog w A h₀ env x body Q E it s₂) E s := by
  refine iter_listP (vs := ys) (nn := ys.length) ns (fun i nx => nx = news) hh hl F N rfl ?_ ?_
  · rintro I i v m₁ nx h9 tk9 own hv hI hown hne hW rfl hm Fx Nx
    obtain ⟨l, tl, hl, rfl⟩ := hwl.at hv
    exact turn I l tl m₁ h9 tk9 own (List.mem_of_getElem? hl) hI hm Fx Nx
  · rintro m₁ nx h tk rfl hm F' N' hW
    exact done m₁ h tk hm F' N'
end
theorem in_found {wl : List (List Nat)} {a b : List Nat} (hb : b ∈ wl) : decide (a.map low = b.map low) = decide (b ∈ wl.filter fun l => l.map low = a.map low) := by
  rw [decide_eq_decide, List.mem_filter]
  simp only [decide_eq_true_eq]
  exact ⟨fun e => ⟨hb, e.symm⟩, fun e => e.2.symm⟩
theorem sym_low (a b : List Nat) : decide (a.map low = b.map low) = decide (b.map low = a.map low) := by
  rw [decide_eq_decide]
  exact ⟨fun e => e.symm, fun e => e.symm⟩
theorem row_of {tb : List Row} {wl : List (List Nat)} (T : TbOk tb wl) {l : List Nat} (h : l ∈ wl) : ∃ e ∈ tb, e.k = l.map low ∧ valueAt (kvOf tb) (sOf (l.map low)) = some (.ref e.a) ∧ BytesAre e.us (wl.filter fun x => x.map low = l.map low) := by
  obtain ⟨e, he, hk⟩ := T.all l h
  refine ⟨e, he, hk, ?_, ?_⟩
  · rw [valueAt_kv, ← hk, find_of T.keys he]
    rfl
  · have := T.rows e he
    rw [hk] at this
    exact this
end Nz

/-! part NzF3f -/
namespace Nz
section
variable {prog : Program} {w : World} {A : Around} {E : Value → Shared → Prop} {s : Shared} {h₀ : Heap} {L : Addr} {m : Str → Option Value} {env : Env}
theorem it_range {elt : Expr} {x : Str} {scope : Scope} {cl : List (Str × Addr)} {Fin : Shared → List Value → Al → Prop} {r : Addr} {b : Int} {t u v : Tok} {n : Nat} {news : Al}
    (hh : A.handled = none) (F : Fr h₀ L s.heap m) (N : News h₀ L s.heap news) (hr : IsRange s.heap r 0 b 1 t u v) (hsm : Builtin.Range.small 0 b 1 = true) (hn : Builtin.Range.rangeSize 0 b 1 = ((n : Nat) : Int)) (hsz : n ≤ sizeLine)
    (R : ∀ g, LCg.CompRest prog w A h₀ L m env elt x scope cl { s with heap := g } (fun _ => True) (fun i v => ∃ t, v = .int (0 + (i : Int)) t) (Fin { s with heap := g }) n 0 [] news) :
    wpAny (model prog w) A (pyIter (.ref r)) (ItAt prog w A h₀ L m env elt x scope cl Fin) E s := by
  refine wpAny_pyIter_range hr hsm ?_
  refine ⟨s.heap.objs.size, n, _, _, news, rfl, LCg.range_walks hh 0 n, hsz, fun i h st => ⟨_, st⟩, (by show IsRangeIter _ _ _ _ _; rw [hn]; simpa using Heap.get?_push_size _ rfl), ?_, F.push _,
    fun p hp => ⟨Heap.get?_push_of_some _ (N p hp).1, (N p hp).2⟩, Nat.ne_of_lt F.ns.lt, next_is_new F, fun p hp => Nat.ne_of_lt (Heap.lt_size (N p hp).1), R _⟩
  show _ < (s.heap.push _).objs.size
  rw [Heap.size_push]
  exact Nat.lt_succ_self _
end
theorem adr_new {tb : List Row} {d W A0 : Addr} {k : List Nat} (hadr : ∀ e ∈ tb, e.a ≠ d ∧ e.a ≠ W) (h1 : d < A0) (h2 : W < A0) (v : List Value) (n : Nat) : ∀ e ∈ tb ++ [⟨k, A0, v, n⟩], e.a ≠ d ∧ e.a ≠ W := fun e he => by
  rcases List.mem_append.mp he with h | h
  · exact hadr e h
  · rw [List.mem_singleton.mp h]
    exact ⟨Nat.ne_of_gt h1, Nat.ne_of_gt h2⟩
theorem end_rows {d W I : Addr} {od od2 ow : Obj} {tb tb2 : List Row} (hI : ∀ p ∈ (d, od) :: (W, ow) :: lsOf tb, p.1 ≠ I) (hI2 : ∀ e ∈ tb2, e.a ≠ I) : ∀ p ∈ (d, od2) :: (W, ow) :: lsOf tb2, p.1 ≠ I := fun p hp => by
  rcases List.mem_cons.mp hp with rfl | hp
  · exact hI (d, od) (.head _)
  rcases List.mem_cons.mp hp with rfl | hp
  · exact hI (W, ow) (.tail _ (.head _))
  · obtain ⟨e, he, q⟩ := lsOf_mem hp
    rw [q]
    exact hI2 e he
theorem ints_256 {ys : List Value} (hl : ys.length = 256) (hy : ∀ (i : Nat) (v : Value), ys[i]? = some v → ∃ t, v = Value.int ((low i : Nat) : Int) t) : IntsAre ys ((List.range 256).map fun i => ((low i : Nat) : Int)) := by
  refine ints_ofI (by rw [hl, List.length_map, List.length_range]) fun i v h => ?_
  obtain ⟨t, e⟩ := hy i v h
  have hi : i < 256 := by
    have := (List.getElem?_eq_some_iff.mp h).1
    omega
  exact ⟨_, t, by rw [List.getElem?_map, List.getElem?_range hi]; rfl, e⟩
theorem pack {prog : Program} {w : World} {h₀ h : Heap} {L d W I : Addr} {od ow : Obj} {tb : List Row} {own : Al} {dn : List (List Nat)} (N : News h₀ L h ((d, od) :: (W, ow) :: (lsOf tb ++ own))) (T : TbOk tb dn) (hod : od.IsDictOf (PySem.strKind prog w) (kvOf tb))
    (hadr : ∀ e ∈ tb, e.a ≠ d ∧ e.a ≠ W) (hI : ∀ e ∈ tb, e.a ≠ I) : ∃ tb2, News h₀ L h ((d, od) :: (W, ow) :: (lsOf tb2 ++ own)) ∧ TbOk tb2 dn ∧ od.IsDictOf (PySem.strKind prog w) (kvOf tb2) ∧ (∀ e ∈ tb2, e.a ≠ d ∧ e.a ≠ W) ∧ (∀ e ∈ tb2, e.a ≠ I) := ⟨tb, N, T, hod, hadr, hI⟩
end Nz

/-! part NzF6 -/
namespace Nz
local macro_rules | `(tactic| walk_at "exec Assign cons ListComp") => `(tactic| (k_here; k_dflt (refine LCg.Assign_ListComp_U (F₀ := by k_asm) (by rfl) (by with_unfolding_all rfl) (by with_unfolding_all rfl) (by decide) (by rfl) (by decide) (by rfl) (by rfl) (by rfl) ?_)))
local macro_rules | `(tactic| walk_at "CompSrc") => `(tactic| (k_here; k_dflt (refine LCg.CompSrc.range (by rfl) (by k_asm) (by k_asm) (by assumption) (by exact small_one (by kcf_bnd) (by kcf_bnd) (by kcf_bnd) (by kcf_bnd)) (by exact rangeSize_nat _ _) (by rw [PySem.sizeLine_eq]; omega) ?_); intro g'; refine Hold.out ?_))
local macro_rules | `(tactic| walk_at "call ref") => `(tactic| (k_here; (with_reducible show wpAny _ _ (call (Value.ref 68) _) _ _ _); k_dflt (refine' Ct.pure (ct_lower_nat _ _ _ _ _ _ _) ?z1 ?z2 ?z3 ?z4 ?z5 ?z6 ?z7 ?z8 ?_; (case z1 => k_asm); (case z2 => k_asm); (case z3 => k_asm); (case z4 => k_asm); (case z5 => k_asm); (case z6 => first | exact rfl | assumption); (case z7 => first | omega | ktr_room); (case z8 => first | omega | ktr_units)); intro t' h' tk' F' N'))
local macro_rules | `(tactic| walk_at "call ref") => `(tactic| (k_here; (with_reducible show wpAny _ _ (call (Value.ref 73) _) _ _ _); k_dflt (refine' Ct.pure (ct_lower _ _ _ _ _ _ _ (by assumption) (by assumption)) ?z1 ?z2 ?z3 ?z4 ?z5 ?z6 ?z7 ?z8 ?_; (case z1 => k_asm); (case z2 => k_asm); (case z3 => k_asm); (case z4 => k_asm); (case z5 => k_asm); (case z6 => first | exact rfl | assumption); (case z7 => first | omega | ktr_room); (case z8 => first | omega | ktr_units)); intro t' h' tk' F' N'))
local macro_rules | `(tactic| walk_at "call ref") => `(tactic| (k_here; (with_reducible show wpAny _ _ (call (Value.ref 78) _) _ _ _); k_dflt (refine' Ct.pure (ct_lower_text _ _ _ _ _ _ _ (by assumption) (by assumption)) ?z1 ?z2 ?z3 ?z4 ?z5 ?z6 ?z7 ?z8 ?_; (case z1 => k_asm); (case z2 => k_asm); (case z3 => k_asm); (case z4 => k_asm); (case z5 => k_asm); (case z6 => first | exact rfl | assumption); (case z7 => first | omega | ktr_room); (case z8 => first | omega | ktr_units)); intro t' h' tk' F' N'))
local macro_rules | `(tactic| walk_at "call ref") => `(tactic| (k_here; (with_reducible show wpAny _ _ (call (Value.ref 83) _) _ _ _); k_dflt (refine' Ct.pure (ct_upper_text _ _ _ _ _ _ _ (by assumption) (by assumption)) ?z1 ?z2 ?z3 ?z4 ?z5 ?z6 ?z7 ?z8 ?_; (case z1 => k_asm); (case z2 => k_asm); (case z3 => k_asm); (case z4 => k_asm); (case z5 => k_asm); (case z6 => first | exact rfl | assumption); (case z7 => first | omega | ktr_room); (case z8 => first | omega | ktr_units)); intro t' h' tk' F' N'))
local macro_rules | `(tactic| walk_at "call ref") => `(tactic| (k_here; (with_reducible show wpAny _ _ (call (Value.ref 123) _) _ _ _); k_dflt (refine' Ct.pure (ct_text _ _ _ _ _ _ _ (by assumption) (by assumption)) ?z1 ?z2 ?z3 ?z4 ?z5 ?z6 ?z7 ?z8 ?_; (case z1 => k_asm); (case z2 => k_asm); (case z3 => k_asm); (case z4 => k_asm); (case z5 => k_asm); (case z6 => first | exact rfl | assumption); (case z7 => first | omega | ktr_room); (case z8 => first | omega | ktr_units)); intro t' h' tk' F' N'))
local macro_rules | `(tactic| walk_at "call ref") => `(tactic| (k_here; (with_reducible show wpAny _ _ (call (Value.ref 130) _) _ _ _); k_dflt (refine' Ct.pure (ct_small _ _ _ _ _ _ _) ?z1 ?z2 ?z3 ?z4 ?z5 ?z6 ?z7 ?z8 ?_; (case z1 => k_asm); (case z2 => k_asm); (case z3 => k_asm); (case z4 => k_asm); (case z5 => k_asm); (case z6 => first | exact rfl | assumption); (case z7 => first | omega | ktr_room); (case z8 => first | omega | ktr_units)); intro t' h' tk' F' N'))
local macro_rules | `(tactic| walk_at "call ref") => `(tactic| (k_here; (with_reducible show wpAny _ _ (call (Value.ref 135) _) _ _ _); k_dflt (refine' Ct.pure (ct_plain _ _ _ _ _ _ _ (by assumption) (by assumption)) ?z1 ?z2 ?z3 ?z4 ?z5 ?z6 ?z7 ?z8 ?_; (case z1 => k_asm); (case z2 => k_asm); (case z3 => k_asm); (case z4 => k_asm); (case z5 => k_asm); (case z6 => first | exact rfl | assumption); (case z7 => first | omega | ktr_room); (case z8 => first | omega | ktr_units)); intro t' h' tk' F' N'))
local macro_rules | `(tactic| walk_at "call ref") => `(tactic| (k_here; (with_reducible show wpAny _ _ (call (Value.ref 90) [Value.bytes _ _, Value.bytes _ _]) _ _ _); k_dflt (refine' Ct.pure (ct_same_bytes _ _ _ _ _ _ _ _ _ (by assumption) (by assumption) (by assumption) (by assumption)) ?z1 ?z2 ?z3 ?z4 ?z5 ?z6 ?z7 ?z8 ?_; (case z1 => k_asm); (case z2 => k_asm); (case z3 => k_asm); (case z4 => k_asm); (case z5 => k_asm); (case z6 => first | exact rfl | assumption); (case z7 => first | omega | ktr_room); (case z8 => first | omega | ktr_units)); intro t' h' tk' F' N'))
local macro_rules | `(tactic| walk_at "call ref") => `(tactic| (k_here; (with_reducible show wpAny _ _ (call (Value.ref 90) [Value.str _ _, Value.str _ _]) _ _ _); k_dflt (refine' Ct.pure (ct_same_text _ _ _ _ _ _ _ _ _ (by assumption) (by assumption) (by assumption) (by assumption)) ?z1 ?z2 ?z3 ?z4 ?z5 ?z6 ?z7 ?z8 ?_; (case z1 => k_asm); (case z2 => k_asm); (case z3 => k_asm); (case z4 => k_asm); (case z5 => k_asm); (case z6 => first | exact rfl | assumption); (case z7 => first | omega | ktr_room); (case z8 => first | omega | ktr_units)); intro t' h' tk' F' N'))
local macro_rules | `(tactic| walk_at "call ref") => `(tactic| (k_here; (with_reducible show wpAny _ _ (call (Value.ref 90) [Value.bytes _ _, Value.bytes _ _]) _ _ _); k_dflt (refine' Ct.pure (ct_same_bytes_t _ _ _ _ _ _ _ _ _ (by first | exact rfl | assumption) (by assumption) (by assumption) (by assumption) (by assumption)) ?z1 ?z2 ?z3 ?z4 ?z5 ?z6 ?z7 ?z8 ?_; (case z1 => k_asm); (case z2 => k_asm); (case z3 => k_asm); (case z4 => k_asm); (case z5 => k_asm); (case z6 => first | exact rfl | assumption); (case z7 => first | omega | ktr_room); (case z8 => first | omega | ktr_units)); intro t' h' tk' F' N'))
local macro_rules | `(tactic| walk_at "call ref") => `(tactic| (k_here; (with_reducible show wpAny _ _ (call (Value.ref 90) [Value.str _ _, Value.str _ _]) _ _ _); k_dflt (refine' Ct.pure (ct_same_text_t _ _ _ _ _ _ _ _ _ (by first | exact rfl | assumption) (by assumption) (by assumption) (by assumption) (by assumption)) ?z1 ?z2 ?z3 ?z4 ?z5 ?z6 ?z7 ?z8 ?_; (case z1 => k_asm); (case z2 => k_asm); (case z3 => k_asm); (case z4 => k_asm); (case z5 => k_asm); (case z6 => first | exact rfl | assumption); (case z7 => first | omega | ktr_room); (case z8 => first | omega | ktr_units)); intro t' h' tk' F' N'))
local macro_rules | `(tactic| walk_at "call ref") => `(tactic| (k_here; (with_reducible show wpAny _ _ (call (Value.ref 105) _) _ _ _); refine Hold.out ?_))
local macro_rules | `(tactic| walk_at "call ref") => `(tactic| (k_here; (with_reducible show wpAny _ _ (call (Value.ref 112) _) _ _ _); refine Hold.out ?_))
local macro_rules | `(tactic| walk_at "call ref") => `(tactic| (k_here; (with_reducible show wpAny _ _ (call (Value.ref 118) _) _ _ _); refine Hold.out ?_))
local macro_rules | `(tactic| walk_at "call ref") => `(tactic| (k_here; (with_reducible show wpAny _ _ (call (Value.ref 142) _) _ _ _); refine Hold.out ?_))
local macro_rules | `(tactic| walk_at "call ref") => `(tactic| (k_here; (with_reducible show wpAny _ _ (call (Value.ref 95) _) _ _ _); refine Hold.out ?_))
local macro_rules | `(tactic| walk_at "call ref") => `(tactic| (k_here; (with_reducible show wpAny _ _ (call (Value.ref 100) _) _ _ _); refine Hold.out ?_))
local macro_rules | `(tactic| walk_at "eval ListComp") => `(tactic| (k_here; k_dflt (refine ListComp_W (by k_asm) (by with_unfolding_all rfl) (by decide) (by rfl) (by decide) (by rfl) ?_)))
local macro_rules | `(tactic| walk_at "call builtin:len") => `(tactic| (k_here; first | (refine len_bO (by assumption) ?_; intro t' k') | (refine len_sO (by assumption) ?_; intro t' k')))
local macro_rules | `(tactic| walk_at "compareOp NotEq bytes bytes") => `(tactic| (k_here; refine ne_bO_f (by first | exact rfl | assumption) (by assumption) ?_))
local macro_rules | `(tactic| walk_at "compareOp NotEq str str") => `(tactic| (k_here; refine ne_sO_f (by first | exact rfl | assumption) ?_))
local macro_rules | `(tactic| walk_at "compareOp NotEq int int") => `(tactic| (k_here; refine ne_int_f (by first | exact rfl | assumption | (simp only [List.length_map])) ?_))
local macro_rules | `(tactic| walk_at "compareOp NotEq bool bool") => `(tactic| (k_here; refine ne_bool_f (by first | exact rfl | assumption) ?_))
local macro_rules | `(tactic| walk_at "pyIter ref") => `(tactic| (k_here; refine Hold.out ?_))
local macro_rules | `(tactic| walk_at "call type:list") => `(tactic| (k_here; (with_reducible show wpAny _ _ (call (Value.type "list") [Value.bytes (bOf _) _]) _ _ _); refine Hold.out ?_))
local macro_rules | `(tactic| walk_at "compareOp NotEq ref ref") => `(tactic| (k_here; refine Hold.out ?_))
local macro_rules | `(tactic| walk_at "call builtin:dict.setdefault") => `(tactic| (k_here; refine Hold.out ?_))
local macro_rules | `(tactic| walk_at "getMethod ref") => `(tactic| (k_here; (with_reducible show wpAny _ _ (getMethod (Value.ref _) (PySem.Str.ofString "append") _) _ _ _); refine Hold.out ?_))
local macro_rules | `(tactic| walk_at "call builtin:list.append") => `(tactic| (k_here; refine Hold.out ?_))
local macro_rules | `(tactic| walk_at "compareOp Eq ref ref") => `(tactic| (k_here; refine Hold.out ?_))
local macro_rules | `(tactic| walk_at "InvPostG") => `(tactic| (refine Hold.out ?_))
local macro_rules | `(tactic| walk_at "subscriptTail") => `(tactic| (k_here; (with_reducible show wpAny _ _ (subscriptTail _ _ (Value.ref _) (Value.str (sOf _) _)) _ _ _); refine Hold.out ?_))
local macro_rules | `(tactic| walk_at "compareOp In") => `(tactic| (k_here; (with_reducible show wpAny _ _ (compareOp CmpOp.In (Value.bytes _ _) (Value.ref _)) _ _ _); refine Hold.out ?_))
local macro_rules | `(tactic| walk_at "compareOp Eq bytes bytes") => `(tactic| (k_here; refine eq_bO (by assumption) (by assumption) ?_))
set_option maxHeartbeats 8000000 in
theorem law_holds : PySem.Challenge.rw_nz0266_01.Holds := by
  w_top off
  refine Nz.hd ?_
  k_go0
  (all_goals try k_fold)
  k_steps
  unfold Hold
  rename IntsAre _ _ => hI
  rename Fr _ _ _ _ => F0
  rename News _ _ _ _ => N0
  rename Below _ _ _ _ => K0
  rename Frag.In _ _ => X0
  rename Top _ _ _ _ _ _ => T0
  refine ct_pen _ _ _ _ _ _ _ _ hI ?l1 ?l2 _ _ _ _ _ _ _ _ [] callerA _ _ _ _ _ _ _ K0 F0 N0 T0 ?l3 ?l4 ?l5 ?l6 ?l7 X0
  case l1 => assumption
  case l2 => omega
  case l3 => exact rfl
  case l4 => ktr_room
  case l5 => ktr_units
  case l6 => assumption
  case l7 =>
    intro P C g st t1 t2 t3 n nC ks ms h1 tk1 hPC hoff hks hks48 g0 g1 s0 s1 F1 N1
    k_steps
    unfold Hold
    rename News _ _ _ _ => N2
    rename Fr _ _ _ _ => F2
    rename Obj => oc
    have hoff2 : ∀ p ∈ [(T0.heap.objs.size + 1, oc)], p.1 ≠ P := fun p hp => by
      rw [List.mem_singleton.mp hp]
      exact (hoff _ (.head _)).2
    refine Ct.use (ct_draw _ _ _ _ P C g st 0 t1 t2 t3 n nC ks ms 4 _ [(T0.heap.objs.size + 1, oc)] hPC hoff2 hks hks48 ⟨g0, g1, s0, s1, by decide, by decide⟩ (by decide) (by decide)) K0 F2 ?_ N2 T0 rfl ?_ ?_ ?_
    · assumption
    · ktr_room
    · ktr_units
    rintro v nx h3 tk3 ⟨r, t9, g9, st9, t91, t92, t93, n9, rfl, r0, r1, g90, g91, s90, s91, rfl⟩ F3 N3
    k_steps
    unfold Hold
    refine comp_inv (fun i ys nx => ∃ g' st' pl' t1' t2' t3' n', ∃ wl : List (List Nat), nx = (P, penObj C g' st' pl' t1' t2' t3' n') :: (C, listOf ks.toArray nC) :: [(T0.heap.objs.size + 1, oc)] ∧ PenOk g' st' pl' ∧ pl' ≤ 1 + 6 * (i : Int) ∧ BytesAre ys wl ∧ wl.length = i ∧ ∀ l ∈ wl, l.length ≤ 5 ∧ ∀ c ∈ l, c ∈ signsL) ?_ ?_ ?_
    · exact ⟨g9, st9, 0 + 1, t91, t92, t93, n9, [], rfl, ⟨g90, g91, s90, s91, by decide, by decide⟩, by decide, .nil, rfl, fun _ h => (nomatch h)⟩
    · rintro i v nx I oI Cc oC D m₂ ys h8 tk8 E8 hi8 hys hv ⟨g8, st8, pl8, t81, t82, t83, n8, wl, rfl, hpen, hpl, hwl, hlen, hall⟩ hC hx F8 N8 off ne
      k_steps
      unfold Hold
      have hoff3 : ∀ p ∈ (I, oI) :: (Cc, oC) :: (D, LCg.lst ys) :: [(T0.heap.objs.size + 1, oc)], p.1 ≠ P := fun p hp => by
        have q := off.1
        simp only [List.mem_cons] at hp
        rcases hp with rfl | rfl | rfl | hp
        · exact Ne.symm q.1
        · exact Ne.symm q.2.1
        · exact Ne.symm q.2.2
        · exact hoff2 p (List.mem_cons.mpr hp)
      have N7 : News T0.heap T0.heap.objs.size h8 ((P, penObj C g8 st8 pl8 t81 t82 t83 n8) :: (C, listOf ks.toArray nC) :: (I, oI) :: (Cc, oC) :: (D, LCg.lst ys) :: [(T0.heap.objs.size + 1, oc)]) := fun p hp => by
        refine N8 p ?_
        simp only [List.mem_cons] at hp ⊢
        rcases hp with h | h | h | h | h | h
        · exact .inr (.inr (.inr (.inl h)))
        · exact .inr (.inr (.inr (.inr (.inl h))))
        · exact .inl h
        · exact .inr (.inl h)
        · exact .inr (.inr (.inl h))
        · exact .inr (.inr (.inr (.inr (.inr h))))
      refine Ct.use (ct_word _ _ _ _ P C g8 st8 pl8 t81 t82 t83 n8 nC ks ms ((I, oI) :: (Cc, oC) :: (D, LCg.lst ys) :: [(T0.heap.objs.size + 1, oc)]) hPC hoff3 hks hks48 hpen ?_) K0 F8 ?_ N7 T0 rfl ?_ ?_ ?_
      · omega
      · assumption
      · ktr_room
      · ktr_units
      rintro v7 nx7 h7 tk7 ⟨wd, t7, g7, st7, pl7, t71, t72, t73, n7, rfl, hwd5, hwds, hpen7, hpl7, rfl⟩ F7 N7'
      k_steps
      refine LCg.CompEnd.intro F7 N7' ((P, penObj C g7 st7 pl7 t71 t72 t73 n7) :: (C, listOf ks.toArray nC) :: [(T0.heap.objs.size + 1, oc)]) (fun p hp => ?_) off trivial ⟨g7, st7, pl7, t71, t72, t73, n7, wl ++ [wd], rfl, hpen7, ?_, hwl.append (.cons wd t7 .nil), ?_, ?_⟩
      · simp only [List.mem_cons] at hp ⊢
        rcases hp with h | h | h | h | h | h
        · exact .inr (.inr (.inl h))
        · exact .inr (.inr (.inr (.inl h)))
        · exact .inr (.inr (.inr (.inr (.inl h))))
        · exact .inl h
        · exact .inr (.inl h)
        · exact .inr (.inr (.inr (.inr (.inr h))))
      · omega
      · rw [List.length_append, hlen]; rfl
      · intro l hl
        rcases List.mem_append.mp hl with h | h
        · exact hall l h
        · rw [List.mem_singleton.mp h]
          exact ⟨hwd5, hwds⟩
    · rintro ys nx hys ⟨g8, st8, pl8, t81, t82, t83, n8, wl, rfl, hpen, hpl, hwl, hlen, hall⟩
      k_steps
      unfold Hold
      rename (_ == sysModules) = false => lo1
      rename Obj.IsDictOf (PySem.strKind _ _) _ _ => hsd
      rename News _ _ _ _ => N3
      rename Fr _ _ _ _ => F3
      rename _ ∧ _ ∧ _ ∧ _ => l1
      refine iter_words ["small", "text", "at"] (by rfl) hwl F3 N3 hsd ?_ ?_
      · rintro I l tl m₁ od tb dn h9 tk9 own hlm T htl hdn hod hadr hI hown hne hm Fx Nx
        have hsg := (hall l hlm).2
        have z1 : Small l := small_signs hsg
        have y1 : l.length ≤ 1000 := by have := (hall l hlm).1; omega
        have z2 : Small (l.map low) := z1.low
        have y2 : (l.map low).length ≤ 1000 := by rw [List.length_map]; exact y1
        have z3 : Small (l.map sm) := z1.sm
        have y3 : (l.map sm).length ≤ 1000 := by rw [List.length_map]; exact y1
        have z4 : Small (l.map up) := z1.up
        have y4 : (l.map up).length ≤ 1000 := by rw [List.length_map]; exact y1
        have e1 : l.map low = l.map sm := low_sm hsg
        have e2 : (l.map up).map low = l.map sm := (low_up l).trans e1
        have e3 : (l.map low).map up = l.map up := up_low l
        have e4 : l.map low = (l.map sm).map low := by rw [← e1, low_low]
        have e5 : l.map low = (l.map up).map low := (low_up l).symm
        rw [ov3 hm] at Fx
        k_steps
        refine it_bytes_ints (fun c => ((sm c : Nat) : Int)) (by rfl) Fx Nx y1 z1 ?_ ?_
        · intro c u I2 oI C2 oC D2 m₂ ys2 h tk E' hc hlt hC hx F9 N9 off ne
          k_steps
          exact LCg.CompEnd.intro (by k_asm) (by k_asm) _ (fun _ hp => hp) off trivial ⟨rfl, _, rfl⟩
        intro g2 ys2 hy2
        k_steps
        refine bytes_of (ks := l.map sm) (by k_asm) (by k_asm) (News.isList (by k_asm) (by k_mem)) (by rw [List.map_map]; exact hy2) z3 y3 (by rfl) ?_
        intro h10 t10 k10 F10 N10
        k_steps
        refine it_bytes_ints (fun c => ((low c : Nat) : Int)) (by rfl) (by k_asm) (by k_asm) y1 z1 ?_ ?_
        · intro c u I2 oI C2 oC D2 m₂ ys2 h tk E' hc hlt hC hx F9 N9 off ne
          k_steps
          exact LCg.CompEnd.intro (by k_asm) (by k_asm) _ (fun _ hp => hp) off trivial ⟨rfl, _, rfl⟩
        intro g3 ys3 hy3
        k_steps
        unfold Hold
        refine list_bO (by rfl) (by k_asm) (by k_asm) z3 y3 ?_
        intro D4 us4 n4 h11 tk11 F11 N11 l11 hus4
        k_steps
        unfold Hold
        refine ne_ints_f ?_ (News.isList N11 (.tail _ (.head _))) hy3 (News.isList N11 (.head _)) hus4 ?_ ?_
        · rw [← e1, List.map_map]; rfl
        · ktr_units
        k_steps
        unfold Hold
        rename News _ _ _ _ => N12
        rename Fr _ _ _ _ => F12
        rename _ ∧ _ ∧ _ ∧ _ ∧ _ ∧ AllLt _ _ => l12
        have hI9 : ∀ e ∈ tb, e.a ≠ I := fun e he => hI _ (.tail _ (.tail _ (List.mem_map_of_mem (f := fun e : Row => (e.a, listOf e.us.toArray e.n)) he)))
        have hw4 : wl.length ≤ 4 := by omega
        have hW9 : ∀ q ∈ [((_ : Addr), LCg.lst ys)], (q : Addr × Obj).1 ≠ I := fun q hq => by
          rw [List.mem_singleton.mp hq]
          exact hI (_, LCg.lst ys) (.tail _ (.head _))
        cases hf : tb.find? (fun e => e.k = l.map low) with
        | some e =>
          obtain ⟨he, hek⟩ := find_row hf
          refine kob_setdef_there (knd := PySem.strKind _ _) N12 (.tail _ (.tail _ (.tail _ (.tail _ (.head _))))) hod lo1 (strKind_is _ _ _ _) (PySem.F.args_dict_setdefault_3 _ _ _) (v := .ref e.a) (by rw [valueAt_kv, hf]; rfl) (by rw [PySem.sizeLine_eq]; simp only [kvOf, List.length_map]; omega) ?_
          k_steps
          unfold Hold
          refine listMethod_K (drop4 N12) (.tail _ (.tail _ (List.mem_append_left _ (mem_lsOf he)))) PySem.F.slot_list_append PySem.F.type_list_append ?_
          k_steps
          unfold Hold
          refine append_row (v := .bytes (bOf l) tl) F12 (drop4 N12) he T.keys T.adrs hadr (fun p hp => by rw [hown p hp]; exact (hI9 e he).symm) ?_ ?_
          · have h1 := len_filter_row T he
            have h2 : dn.length ≤ 1000 := by omega
            rw [PySem.sizeLine_eq]
            omega
          intro h16 F16 N16
          rw [hek] at N16
          obtain ⟨tb2, N17, T2, hod2, hadr2, hI2⟩ := pack (I := I) N16 (putRow_ok T he hek) (by rw [putRow_kv]; exact hod) (fun e he => by obtain ⟨g, hg, q⟩ := putRow_mem he; rw [q]; exact hadr g hg) (fun e he => by obtain ⟨g, hg, q⟩ := putRow_mem he; rw [q]; exact hI9 g hg)
          clear N16
          k_steps
          unfold Hold
          rename News _ _ _ _ => N18
          rename Fr _ _ _ _ => F18
          refine ct_refused_95 _ _ _ _ (.bytes (bOf l) tl) l _ (deed_ascii _ _ _ _ l tl _ z1 y1) _ _ _ _ _ _ _ _ callerA _ _ _ _ _ _ K0 F18 (by assumption) N18 T0 rfl ?_ ?_ ?_
          · ktr_room
          · ktr_units
          intro t19 h19 tk19 F19 N19
          k_steps
          unfold Hold
          rename News _ _ _ _ => N20
          rename Fr _ _ _ _ => F20
          refine ct_refused_100 _ _ _ _ (.str (sOf l) _) l _ (deed_octets _ _ _ _ l _ _ z1 y1) _ _ _ _ _ _ _ _ callerA _ _ _ _ _ _ K0 F20 (by assumption) N20 T0 rfl ?_ ?_ ?_
          · ktr_room
          · ktr_units
          intro t21 h21 tk21 F21 N21
          k_steps
          · unfold Hold
            rename News _ _ _ _ => N22
            rename Fr _ _ _ _ => F22
            rename plainI l < 0 => hneg
            refine ct_ascii _ _ _ _ l tl _ z1 y1 _ _ _ _ _ _ _ _ [] callerA _ _ _ _ _ _ _ K0 F22 (by assumption) N22 T0 rfl ?_ ?_ ?_ ?_
            · ktr_room
            · ktr_units
            · intro _ t23 h23 tk23 F23 N23
              k_steps
              unfold Hold
              rename News _ _ _ _ => N24
              rename Fr _ _ _ _ => F24
              refine ct_octets _ _ _ _ l _ _ z1 y1 _ _ _ _ _ _ _ _ [] callerA _ _ _ _ _ _ _ K0 F24 (by assumption) N24 T0 rfl ?_ ?_ ?_ ?_
              · ktr_room
              · ktr_units
              · intro _ t25 h25 tk25 F25 N25
                k_steps
                unfold Hold
                dsimp only [InvPostG]
                rename News _ _ _ _ => N30
                rename Fr _ _ _ _ => F30
                refine InvEndG.intro F30 (show News _ _ _ (((_, _) :: (_, LCg.lst ys) :: lsOf tb2) ++ own) from N30) (end_rows hI hI2) (.tail _ (.head _)) ⟨⟨_, tb2, rfl, hod2, T2, hadr2⟩, fun z q1 q2 => ?_⟩
                · simp only [List.mem_cons, List.not_mem_nil, or_false, not_or] at q2
                  obtain ⟨a1, a2, a3⟩ := q2
                  simp [q1, a1, a2, a3]
              · intro hn
                exact absurd (plain_lt hneg) hn
            · intro hn
              exact absurd (plain_lt hneg) hn
          · unfold Hold
            dsimp only [InvPostG]
            rename News _ _ _ _ => N30
            rename Fr _ _ _ _ => F30
            refine InvEndG.intro F30 (show News _ _ _ (((_, _) :: (_, LCg.lst ys) :: lsOf tb2) ++ own) from N30) (end_rows hI hI2) (.tail _ (.head _)) ⟨⟨_, tb2, rfl, hod2, T2, hadr2⟩, fun z q1 q2 => ?_⟩
            · simp only [List.mem_cons, List.not_mem_nil, or_false, not_or] at q2
              obtain ⟨a1, a2, a3⟩ := q2
              simp [q1, a1, a2, a3]
        | none =>
          have hlt := l12.2.2.2.2.2
          have hA1 : ∀ e ∈ tb, e.a ≠ _ := fun e he => lt_mem hlt _ (List.mem_append_left _ (mem_lsOf he))
          have T' := newRow_ok (t := tl) (n := 0 + 1) T hf hA1
          refine setdef_new (knd := PySem.strKind _ _) F12 (swap5 N12) (fun p hp => ?_) hod lo1 (strKind_is _ _ _ _) (PySem.F.args_dict_setdefault_3 _ _ _) (by rw [valueAt_kv, hf]; rfl) (by rw [PySem.sizeLine_eq]; simp only [kvOf, List.length_map]; omega) ?_
          · rcases List.mem_cons.mp hp with rfl | hp
            · exact Nat.ne_of_gt l12.2.2.2.1
            rcases List.mem_cons.mp hp with rfl | hp
            · exact Nat.ne_of_lt l1.1
            rcases List.mem_append.mp hp with hp | hp
            · obtain ⟨e, he, q⟩ := lsOf_mem hp
              rw [q]
              exact (hadr e he).1
            · rw [hown p hp]
              exact Ne.symm (hI (_, od) (.head _))
          intro h13 od3 F13 N13 hod13
          rw [stored_kv (us := [.bytes (bOf l) tl]) (n := 0 + 1) hf] at hod13
          k_steps
          unfold Hold
          refine listMethod_K N13 (.tail _ (.head _)) PySem.F.slot_list_append PySem.F.type_list_append ?_
          k_steps
          unfold Hold
          have hadr1 := adr_new (k := l.map low) hadr l12.2.2.2.1 l12.2.2.2.2.1
          refine append_row (v := .bytes (bOf l) tl) F13 (into_rows (k := l.map low) N13) (List.mem_append_right _ (.head _)) (by have := T'.keys; simpa [List.map_append] using this) (by have := T'.adrs; simpa [List.map_append] using this) (hadr1 [] 0) (fun p hp => lt_mem hlt _ (List.mem_append_right _ hp)) (Nat.zero_le _) ?_
          intro h16 F16 N16
          dsimp only at N16
          rw [putRow_new hf] at N16
          obtain ⟨tb2, N17, T2, hod2, hadr2, hI2⟩ := pack (I := I) N16 T' hod13 (hadr1 _ _) (fun e he => (List.mem_append.mp he).elim (hI9 e) fun q => by
            rw [List.mem_singleton.mp q]
            obtain ⟨q2, hq2⟩ := List.exists_mem_of_ne_nil own hne
            have := lt_mem hlt _ (List.mem_append_right _ hq2)
            rw [hown q2 hq2] at this
            exact Ne.symm this)
          clear N16
          k_steps
          unfold Hold
          rename News _ _ _ _ => N18
          rename Fr _ _ _ _ => F18
          refine ct_refused_95 _ _ _ _ (.bytes (bOf l) tl) l _ (deed_ascii _ _ _ _ l tl _ z1 y1) _ _ _ _ _ _ _ _ callerA _ _ _ _ _ _ K0 F18 (by assumption) N18 T0 rfl ?_ ?_ ?_
          · ktr_room
          · ktr_units
          intro t19 h19 tk19 F19 N19
          k_steps
          unfold Hold
          rename News _ _ _ _ => N20
          rename Fr _ _ _ _ => F20
          refine ct_refused_100 _ _ _ _ (.str (sOf l) _) l _ (deed_octets _ _ _ _ l _ _ z1 y1) _ _ _ _ _ _ _ _ callerA _ _ _ _ _ _ K0 F20 (by assumption) N20 T0 rfl ?_ ?_ ?_
          · ktr_room
          · ktr_units
          intro t21 h21 tk21 F21 N21
          k_steps
          · unfold Hold
            rename News _ _ _ _ => N22
            rename Fr _ _ _ _ => F22
            rename plainI l < 0 => hneg
            refine ct_ascii _ _ _ _ l tl _ z1 y1 _ _ _ _ _ _ _ _ [] callerA _ _ _ _ _ _ _ K0 F22 (by assumption) N22 T0 rfl ?_ ?_ ?_ ?_
            · ktr_room
            · ktr_units
            · intro _ t23 h23 tk23 F23 N23
              k_steps
              unfold Hold
              rename News _ _ _ _ => N24
              rename Fr _ _ _ _ => F24
              refine ct_octets _ _ _ _ l _ _ z1 y1 _ _ _ _ _ _ _ _ [] callerA _ _ _ _ _ _ _ K0 F24 (by assumption) N24 T0 rfl ?_ ?_ ?_ ?_
              · ktr_room
              · ktr_units
              · intro _ t25 h25 tk25 F25 N25
                k_steps
                unfold Hold
                dsimp only [InvPostG]
                rename News _ _ _ _ => N30
                rename Fr _ _ _ _ => F30
                refine InvEndG.intro F30 (show News _ _ _ (((_, _) :: (_, LCg.lst ys) :: lsOf tb2) ++ own) from N30) (end_rows hI hI2) (.tail _ (.head _)) ⟨⟨_, tb2, rfl, hod2, T2, hadr2⟩, fun z q1 q2 => ?_⟩
                · simp only [List.mem_cons, List.not_mem_nil, or_false, not_or] at q2
                  obtain ⟨a1, a2, a3⟩ := q2
                  simp [q1, a1, a2, a3]
              · intro hn
                exact absurd (plain_lt hneg) hn
            · intro hn
              exact absurd (plain_lt hneg) hn
          · unfold Hold
            dsimp only [InvPostG]
            rename News _ _ _ _ => N30
            rename Fr _ _ _ _ => F30
            refine InvEndG.intro F30 (show News _ _ _ (((_, _) :: (_, LCg.lst ys) :: lsOf tb2) ++ own) from N30) (end_rows hI hI2) (.tail _ (.head _)) ⟨⟨_, tb2, rfl, hod2, T2, hadr2⟩, fun z q1 q2 => ?_⟩
            · simp only [List.mem_cons, List.not_mem_nil, or_false, not_or] at q2
              obtain ⟨a1, a2, a3⟩ := q2
              simp [q1, a1, a2, a3]
      intro m₁ od tb h4 tk4 T hod hm F4 N4
      rw [dn3 hm] at F4
      k_steps
      unfold Hold
      rename News _ _ _ _ => N4
      rename Fr _ _ _ _ => F4
      refine iter_ro ["other", "is_same", "third"] (by rfl) (.tail _ (.head _)) hwl F4 N4 ?_ ?_
      · intro I1 a t1 m₂ h5 tk5 own1 ha hI1 hm2 F5 N5
        have za : Small a := small_signs (hall a ha).2
        have ya : a.length ≤ 1000 := by have := (hall a ha).1; omega
        have za2 : Small (a.map low) := za.low
        have ya2 : (a.map low).length ≤ 1000 := by rw [List.length_map]; exact ya
        rw [ov3 hm2] at F5
        k_steps
        unfold Hold
        rename News _ _ _ _ => N5
        rename Fr _ _ _ _ => F5
        refine iter_ro ["is_same", "third"] (by rfl) (List.mem_append_left _ (.tail _ (.head _))) hwl F5 N5 ?_ ?_
        · intro I2 b t2 m₃ h6 tk6 own2 hb hI2 hm3 F6 N6
          have zb : Small b := small_signs (hall b hb).2
          have yb : b.length ≤ 1000 := by have := (hall b hb).1; omega
          have zb2 : Small (b.map low) := zb.low
          have yb2 : (b.map low).length ≤ 1000 := by rw [List.length_map]; exact yb
          have c1 := sym_low a b
          have c2 := in_found (a := a) hb
          rw [ov2 hm3] at F6
          k_steps
          unfold Hold
          rename News _ _ _ _ => N7
          rename Fr _ _ _ _ => F7
          obtain ⟨e, he, hek, hval, hrows⟩ := row_of T ha
          refine kda_item (knd := PySem.strKind _ _) N7 (List.mem_append_left _ (List.mem_append_left _ (.head _))) hod (strKind_is _ _ _ _) hval ?_
          k_steps
          unfold Hold
          refine in_bytes (News.isList N7 (List.mem_append_left _ (List.mem_append_left _ (.tail _ (.tail _ (mem_lsOf he)))))) hrows zb (fun l hl => small_signs (hall l (List.mem_filter.mp hl).1).2) ?_
          k_steps
          unfold Hold
          rename News _ _ _ _ => N8
          rename Fr _ _ _ _ => F8
          refine iter_ro [] (by rfl) (List.mem_append_left _ (List.mem_append_left _ (.tail _ (.head _)))) hwl F8 N8 ?_ ?_
          · intro I3 c t3 m₄ h9 tk9 own3 hc hI3 hm4 F9 N9
            have zc : Small c := small_signs (hall c hc).2
            have yc : c.length ≤ 1000 := by have := (hall c hc).1; omega
            rw [ov0 hm4] at F9
            k_steps
            all_goals first
            | (rename List.map low a = List.map low b => q1
               rename List.map low b = List.map low c => q2
               rename ¬ List.map low a = List.map low c => q3
               exact absurd (q1.trans q2) q3)
            | (unfold Hold
               dsimp only [InvPostG]
               rename News _ _ _ _ => N40
               rename Fr _ _ _ _ => F40
               refine InvEndG.intro F40 N40 hI3 (List.mem_append_left _ (List.mem_append_left _ (.tail _ (.head _)))) ⟨rfl, fun z q1 q2 => ?_⟩
               simp only [List.mem_cons, List.not_mem_nil, or_false, not_or] at q2
               simp [q1, q2])
          · intro m₄ h9 tk9 hm4 F9 N9
            rw [dn0 hm4] at F9
            k_steps
            unfold Hold
            dsimp only [InvPostG]
            rename News _ _ _ _ => N40
            rename Fr _ _ _ _ => F40
            refine InvEndG.intro F40 N40 hI2 (List.mem_append_left _ (.tail _ (.head _))) ⟨rfl, fun z q1 q2 => ?_⟩
            simp only [List.mem_cons, List.not_mem_nil, or_false, not_or] at q2
            simp [q1, q2]
        · intro m₃ h6 tk6 hm3 F6 N6
          rw [dn2 hm3] at F6
          k_steps
          unfold Hold
          dsimp only [InvPostG]
          rename News _ _ _ _ => N40
          rename Fr _ _ _ _ => F40
          refine InvEndG.intro F40 N40 hI1 (.tail _ (.head _)) ⟨rfl, fun z q1 q2 => ?_⟩
          simp only [List.mem_cons, List.not_mem_nil, or_false, not_or] at q2
          simp [q1, q2]
      · intro m₂ h5 tk5 hm2 F5 N5
        rw [dn3 hm2] at F5
        k_steps
        unfold Hold
        rename IsRange _ _ _ _ _ _ _ _ => hr1
        refine it_range (n := 256) (by rfl) (by k_asm) (by k_asm) hr1 (by exact small_one (by kcf_bnd) (by kcf_bnd) (by kcf_bnd) (by kcf_bnd)) (by rw [rangeSize_nat]; rfl) (by rw [PySem.sizeLine_eq]; omega) ?_
        intro g1
        refine comp_map (fun i y => ∃ t, y = .int ((low i : Nat) : Int) t) ?_ ?_
        · rintro i v I2 oI C2 oC D2 m₂ ys2 h tk E' hi ⟨t, rfl⟩ hC hx F9 N9 off ne
          rw [Int.zero_add] at hx
          k_steps
          exact LCg.CompEnd.intro (by k_asm) (by k_asm) _ (fun _ hp => hp) off trivial ⟨rfl, _, rfl⟩
        intro ys2 hl2 hy2
        k_steps
        unfold Hold
        rename IsRange _ _ _ _ _ _ _ _ => hr2
        refine it_range (n := 256) (by rfl) (by k_asm) (by k_asm) hr2 (by exact small_one (by kcf_bnd) (by kcf_bnd) (by kcf_bnd) (by kcf_bnd)) (by rw [rangeSize_nat]; rfl) (by rw [PySem.sizeLine_eq]; omega) ?_
        intro g3
        refine comp_map (fun i y => ∃ t, y = .int ((low i : Nat) : Int) t) ?_ ?_
        · rintro i v I2 oI C2 oC D2 m₂ ys2 h tk E' hi ⟨t, rfl⟩ hC hx F9 N9 off ne
          rw [Int.zero_add] at hx
          k_steps
          all_goals exact LCg.CompEnd.intro (by k_asm) (by k_asm) _ (fun _ hp => hp) off trivial ⟨rfl, ktn_int (by unfold low; split <;> omega)⟩
        intro ys3 hl3 hy3
        k_steps
        unfold Hold
        rename News _ _ _ _ => N50
        refine eq_intsK (News.isList N50 (.tail _ (.head _))) (ints_256 hl2 hy2) (News.isList N50 (.head _)) (ints_256 hl3 hy3) ?_ ?_
        · ktr_units
        rw [decide_eq_true rfl]
        k_steps
end Nz

set_option maxHeartbeats 8000000 in
theorem PySem.Challenge.cw_nz0266_01_holds : PySem.Challenge.rw_nz0266_01.Holds := by
  exact Nz.law_holds
