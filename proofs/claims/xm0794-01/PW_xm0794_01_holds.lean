import PyProof.Rows.All
import Wide.All
import OpenK.AllK
import Wide.FinOn
import PySem.Challenge.RW_xm0794_01
open PySem PySem.W PySem.Spec PySem.Calls PyProof.Rows
set_option Elab.async false
namespace Mine
set_option maxRecDepth 100000 in
set_option maxHeartbeats 8000000 in
open_top hd for PySem.Challenge.rw_xm0794_01
abbrev prg : Program := PySem.Challenge.rw_xm0794_01.row.prog
noncomputable abbrev KK (w : World) : Frag := Mine.hd.heap_39 w.params
abbrev Led := List (Addr × Obj)
/-- a mill: two ints, none below nought, the second one small -/
abbrev millOf (x y : Int) (tx ty n : Nat) : Obj := listOf [Value.int x tx, Value.int y ty].toArray n

def CMill (w : World) (K : Frag) (p : Program) (loose : List Str) (mean : ExcName → Option Value) (mg mb : Str → Option Value) (f : Addr) : Prop :=
  ∀ (dp un : Nat) (gd : Option (List Code)) (cn : Str) (cs : Scope) (a : Addr) (ccd : Value) (cl : List (Str × Addr)) (outer : List Env) (A₀ : Around) (base h₀ : Heap) (L : Addr) (m : Str → Option Value) (s : Shared) (Q E : Value → Shared → Prop)
    (l : Addr) (vs : List Value) (ns : List Int),
    Below A₀ base outer h₀ → Fr h₀ L s.heap m → K.In h₀ → News h₀ L s.heap [] → Top p loose mean mg mb h₀ → cs.kind = .function →
    base.IsList l vs.toArray → IntsAre vs ns → ns.length < 2 ^ 62 → dp + 1 < recursionLimit → un + 8 < cLine →
    (∀ (d : Addr) (x y : Int) (tx ty n tk' : Nat) (h' : Heap), Fr h₀ L h' m → News h₀ L h' [(d, millOf x y tx ty n)] → 0 ≤ x → 0 ≤ y → y < 66000 → Q (.ref d) { s with heap := h', toks := tk' }) →
    wpAny (model prg w) (ktrTop dp un gd cn cs L a ccd cl outer) (call (.ref f) [.ref l]) Q E s

/-- the lots that interval_spans tells -/
def spanN (many interval : Int) : Nat := (Builtin.Range.rangeSize 0 many interval).toNat
def spanD (many interval : Int) (i : Nat) : Dat := .tuple [.int (0 + (i : Int) * interval), .int (if many - (0 + (i : Int) * interval) < interval then many - (0 + (i : Int) * interval) else interval)]
def spansD (many interval : Int) : List Dat := if interval = 0 ∨ many = 0 then [.tuple [.int 0, .int many]] else (List.range (spanN many interval)).map (spanD many interval)

theorem span_is {many interval : Int} (hm : 0 < many) (hi : 1 ≤ interval) : Builtin.Range.rangeSize 0 many interval = (many - 1) / interval + 1 := by
  unfold Builtin.Range.rangeSize
  rw [if_pos (by omega), if_pos hm]
  simp
theorem span_le {many interval : Int} (hm : 0 < many) (hi : 1 ≤ interval) : 0 ≤ (many - 1) / interval ∧ (many - 1) / interval ≤ many - 1 :=
  ⟨Int.ediv_nonneg (by omega) (by omega), Int.ediv_le_self _ (by omega)⟩
theorem span_size {many interval : Int} (hm : 0 < many) (hi : 1 ≤ interval) : Builtin.Range.rangeSize 0 many interval = ((spanN many interval : Nat) : Int) := by
  unfold spanN
  rw [span_is hm hi]
  have := (span_le hm hi).1
  omega
theorem span_n {many interval : Int} (hm : 0 < many) (hi : 1 ≤ interval) : (spanN many interval : Int) = (many - 1) / interval + 1 := by
  rw [← span_size hm hi, span_is hm hi]
theorem span_line {many interval : Int} (hm : 0 < many) (hm1 : many < 1000) (hi : 1 ≤ interval) : spanN many interval ≤ sizeLine := by
  have h1 := span_n hm hi
  have h2 := span_le hm hi
  rw [sizeLine_eq]
  omega
theorem span_small {many interval : Int} (hm : 0 < many) (hm1 : many < 1000) (hi : 1 ≤ interval) (hi1 : interval ≤ 65535) : Builtin.Range.small 0 many interval = true := by
  have h2 := span_le hm hi
  unfold Builtin.Range.small
  rw [span_is hm hi]
  simp only [Builtin.Range.rangeFitsLong, Bool.and_eq_true, Bool.or_eq_true, decide_eq_true_eq, beq_iff_eq]
  refine ⟨⟨⟨⟨?_, ?_⟩, ?_⟩, ?_⟩, .inr ?_⟩
  · omega
  · omega
  · omega
  · omega
  · rw [if_pos (by omega)]
    simp only [Bool.and_eq_true, decide_eq_true_eq]
    omega

theorem spansD_len {many interval : Int} (h0 : 0 ≤ many) (hm1 : many < 1000) (hi : 0 ≤ interval) : (spansD many interval).length ≤ sizeLine := by
  unfold spansD
  split
  · rw [sizeLine_eq]; exact Nat.le_of_ble_eq_true rfl
  · rename_i h
    rw [List.length_map, List.length_range]
    exact span_line (by omega) hm1 (by omega)
theorem spansD_all {many interval : Int} {d : Dat} (h : d ∈ spansD many interval) : ∃ x y : Int, d = .tuple [.int x, .int y] := by
  unfold spansD at h
  split at h
  · exact ⟨_, _, List.mem_singleton.mp h⟩
  · obtain ⟨i, _, rfl⟩ := List.mem_map.mp h
    exact ⟨_, _, rfl⟩

def CSpans (w : World) (K : Frag) (p : Program) (loose : List Str) (mean : ExcName → Option Value) (mg mb : Str → Option Value) (f : Addr) : Prop :=
  ∀ (dp un : Nat) (gd : Option (List Code)) (cn : Str) (cs : Scope) (a : Addr) (ccd : Value) (cl : List (Str × Addr)) (outer : List Env) (A₀ : Around) (base h₀ : Heap) (L : Addr) (m : Str → Option Value) (s : Shared) (Q E : Value → Shared → Prop)
    (many interval : Int) (t1 t2 : Nat),
    Below A₀ base outer h₀ → Fr h₀ L s.heap m → K.In h₀ → News h₀ L s.heap [] → Top p loose mean mg mb h₀ → cs.kind = .function →
    0 ≤ many → many < 1000 → 0 ≤ interval → interval ≤ 65535 → dp + 3 < recursionLimit → un + 40 < cLine →
    (∀ (d : Addr) (vs : List Value) (n tk' : Nat) (tl : Led) (h' : Heap), Fr h₀ L h' m → News h₀ L h' tl → (d, listOf vs.toArray n) ∈ tl → DatAll tl vs (spansD many interval) → Q (.ref d) { s with heap := h', toks := tk' }) →
    wpAny (model prg w) (ktrTop dp un gd cn cs L a ccd cl outer) (call (.ref f) [.int many t1, .int interval t2]) Q E s

def CToldIn (w : World) (K : Frag) (p : Program) (loose : List Str) (mean : ExcName → Option Value) (mg mb : Str → Option Value) (f : Addr) : Prop :=
  ∀ (dp un : Nat) (gd : Option (List Code)) (cn : Str) (cs : Scope) (a : Addr) (ccd : Value) (cl : List (Str × Addr)) (outer : List Env) (A₀ : Around) (base h₀ : Heap) (L : Addr) (m : Str → Option Value) (s : Shared) (Q E : Value → Shared → Prop)
    (many interval : Int) (t1 t2 : Nat) (news : Led),
    Below A₀ base outer h₀ → Fr h₀ L s.heap m → K.In h₀ → News h₀ L s.heap news → Top p loose mean mg mb h₀ → cs.kind = .function →
    0 ≤ many → many < 1000 → 0 ≤ interval → interval ≤ 65535 → dp + 5 < recursionLimit → un + 60 < cLine →
    (∀ (d : Addr) (vs : List Value) (n tk' : Nat) (tl : Led) (h' : Heap), Fr h₀ L h' m → News h₀ L h' (tl ++ news) → (d, listOf vs.toArray n) ∈ tl → DatAll tl vs (spansD many interval) → Q (.ref d) { s with heap := h', toks := tk' }) →
    wpAny (model prg w) (ktrTop dp un gd cn cs L a ccd cl outer) (call (.ref f) [.int many t1, .int interval t2]) Q E s

/-- the lots into which the law deals i units -/
def lotsAt (interval : Int) : Nat → List (List Int)
  | 0 => []
  | i + 1 => if lotsAt interval i = [] ∨ (0 < interval ∧ (i : Int).fmod interval = 0) then lotsAt interval i ++ [[(i : Int)]] else (lotsAt interval i).dropLast ++ [(lotsAt interval i).getLastD [] ++ [(i : Int)]]
theorem lots_new {interval : Int} {i : Nat} (h : lotsAt interval i = [] ∨ (0 < interval ∧ (i : Int).fmod interval = 0)) : lotsAt interval (i + 1) = lotsAt interval i ++ [[(i : Int)]] := by
  rw [lotsAt, if_pos h]
theorem lots_old {interval : Int} {i : Nat} {ds : List (List Int)} {cur : List Int} (e : lotsAt interval i = ds ++ [cur]) (h : ¬ (0 < interval ∧ (i : Int).fmod interval = 0)) : lotsAt interval (i + 1) = ds ++ [cur ++ [(i : Int)]] := by
  rw [lotsAt, if_neg (by rw [e]; simpa using h), e]
  simp
theorem lots_len (interval : Int) : ∀ i : Nat, (lotsAt interval i).length ≤ i ∧ ∀ c ∈ lotsAt interval i, c.length ≤ i ∧ c ≠ []
  | 0 => ⟨Nat.le_refl _, fun _ h => nomatch h⟩
  | i + 1 => by
    obtain ⟨h1, h2⟩ := lots_len interval i
    rw [lotsAt]
    split
    · refine ⟨by rw [List.length_append, List.length_singleton]; omega, fun c hc => ?_⟩
      rcases List.mem_append.mp hc with hc | hc
      · have := h2 c hc; exact ⟨by omega, this.2⟩
      · rw [List.mem_singleton.mp hc]; exact ⟨by simp, by simp⟩
    · rename_i hne
      refine ⟨?_, fun c hc => ?_⟩
      · rw [List.length_append, List.length_singleton, List.length_dropLast]
        have : lotsAt interval i ≠ [] := fun z => hne (.inl z)
        have := List.length_pos_iff.mpr this
        omega
      · rcases List.mem_append.mp hc with hc | hc
        · have := h2 c (List.dropLast_subset _ hc); exact ⟨by omega, this.2⟩
        · rw [List.mem_singleton.mp hc]
          refine ⟨?_, by simp⟩
          rw [List.length_append, List.length_singleton]
          have hl : lotsAt interval i ≠ [] := fun z => hne (.inl z)
          have hm : (lotsAt interval i).getLastD [] ∈ lotsAt interval i := by
            rw [List.getLastD_eq_getLast?, List.getLast?_eq_some_getLast hl]
            exact List.getLast_mem hl
          have := (h2 _ hm).1
          omega
def lotD (c : List Int) : Dat := .list (c.map Dat.int)
def pairD (c : List Int) : Dat := .tuple [.int (c.headD 0), .int c.length]
def dueD (many interval : Int) : List Dat := if many = 0 then [.tuple [.int 0, .int 0]] else (lotsAt interval many.toNat).map pairD

def CDueIn (w : World) (K : Frag) (p : Program) (loose : List Str) (mean : ExcName → Option Value) (mg mb : Str → Option Value) (f : Addr) : Prop :=
  ∀ (dp un : Nat) (gd : Option (List Code)) (cn : Str) (cs : Scope) (a : Addr) (ccd : Value) (cl : List (Str × Addr)) (outer : List Env) (A₀ : Around) (base h₀ : Heap) (L : Addr) (m : Str → Option Value) (s : Shared) (Q E : Value → Shared → Prop)
    (many interval : Int) (t1 t2 : Nat) (news : Led),
    Below A₀ base outer h₀ → Fr h₀ L s.heap m → K.In h₀ → News h₀ L s.heap news → Top p loose mean mg mb h₀ → cs.kind = .function →
    0 ≤ many → many < 1000 → 0 ≤ interval → interval ≤ 65535 → dp + 5 < recursionLimit → un + 90 < cLine →
    (∀ (d : Addr) (vs : List Value) (n tk' : Nat) (tl : Led) (h' : Heap), Fr h₀ L h' m → News h₀ L h' (tl ++ news) → (d, listOf vs.toArray n) ∈ tl → DatAll tl vs (dueD many interval) → Q (.ref d) { s with heap := h', toks := tk' }) →
    wpAny (model prg w) (ktrTop dp un gd cn cs L a ccd cl outer) (call (.ref f) [.int many t1, .int interval t2]) Q E s
def COut (w : World) (K : Frag) (p : Program) (loose : List Str) (mean : ExcName → Option Value) (mg mb : Str → Option Value) (f : Addr) : Prop :=
  ∀ (dp un : Nat) (gd : Option (List Code)) (cn : Str) (cs : Scope) (a : Addr) (ccd : Value) (cl : List (Str × Addr)) (outer : List Env) (A₀ : Around) (base h₀ : Heap) (L : Addr) (m : Str → Option Value) (s : Shared) (Q E : Value → Shared → Prop)
    (many interval : Int) (t1 t2 : Nat) (news : Led),
    Below A₀ base outer h₀ → Fr h₀ L s.heap m → K.In h₀ → News h₀ L s.heap news → Top p loose mean mg mb h₀ → cs.kind = .function →
    (interval < 0 ∨ 65535 < interval) → dp + 5 < recursionLimit → un + 90 < cLine →
    (∀ (t tk' : Nat) (h' : Heap), Fr h₀ L h' m → News h₀ L h' news → Q (.str (Str.ofString "refused") t) { s with heap := h', toks := tk' }) →
    wpAny (model prg w) (ktrTop dp un gd cn cs L a ccd cl outer) (call (.ref f) [.int many t1, .int interval t2]) Q E s

/-- an object of the class ScanError -/
abbrev scanOf (dd : Option Addr) (t : Addr) : Obj := { cls := .ref 44, dict := dd, data := .fields #[.ref t, .none, .none, .none, .bool false, .none] }
def CInit (w : World) (K : Frag) (p : Program) (loose : List Str) (mean : ExcName → Option Value) (mg mb : Str → Option Value) (f : Addr) : Prop :=
  ∀ (dp un : Nat) (gd : Option (List Code)) (cn : Str) (cs : Scope) (a : Addr) (ccd : Value) (cl : List (Str × Addr)) (outer : List Env) (A₀ : Around) (base h₀ : Heap) (L : Addr) (m : Str → Option Value) (s : Shared) (Q E : Value → Shared → Prop)
    (e t0 : Addr) (x : Str) (t1 : Nat) (vs : List Value),
    Below A₀ base outer h₀ → Fr h₀ L s.heap m → K.In h₀ → News h₀ L s.heap [(e, scanOf none t0), (t0, { cls := .type "tuple", data := .seq vs.toArray })] → Top p loose mean mg mb h₀ → cs.kind = .function →
    dp + 5 < recursionLimit → un + 90 < cLine →
    (∀ (tk' : Nat) (h' : Heap) (dd : Option Addr) (t2 : Addr), Fr h₀ L h' m → News h₀ L h' [(e, scanOf dd t2)] → (∀ b o, b ≠ e → b ≠ t0 → s.heap.get? b = some o → h'.get? b = some o) → Q .none { s with heap := h', toks := tk' }) →
    wpAny (model prg w) (ktrTop dp un gd cn cs L a ccd cl outer) (call (.ref f) [.ref e, .str x t1]) Q E s
section
section
variable {prog : Program} {w : World} {A : Around} {E : Value → Shared → Prop} {s : Shared} {h₀ : Heap} {L : Addr} {m : Str → Option Value} {env : Env}
/-- the iterable of a comprehension is a range by any step -/
def SrcStep (prog : Program) (w : World) (A : Around) (h₀ : Heap) (L : Addr) (m : Str → Option Value) (env : Env) (elt : Expr) (x : Str) (scope : Scope) (cl : List (Str × Addr)) (Fin : Shared → List Value → List (Addr × Obj) → Prop) (xv : Value) (s₁ : Shared) : Prop :=
  ∃ r a b c t u v n news, xv = .ref r ∧ A.handled = none ∧ Fr h₀ L s₁.heap m ∧ News h₀ L s₁.heap news ∧ IsRange s₁.heap r a b c t u v ∧ Builtin.Range.small a b c = true ∧ Builtin.Range.rangeSize a b c = ((n : Nat) : Int) ∧ n ≤ sizeLine ∧
    ∀ g, LCg.CompRest prog w A h₀ L m env elt x scope cl { s₁ with heap := g } (fun _ => True) (fun i v => ∃ t, v = .int (a + (i : Int) * c) t) (Fin { s₁ with heap := g }) n 0 [] news

theorem comp_step {elt iter : Expr} {x : Str} {px : Pos} {scope : Scope} {cl : List (Str × Addr)} {pos : Pos} {Q : Value → Shared → Prop} (_F₀ : Fr h₀ L s.heap m)
    (hclos : closureFor scope env = pure cl) (hcell : ∀ y ∈ scope.names, y.2 ≠ .cell) (hkind : scope.kind = .function)
    (hnames : ∀ y ∈ scope.names, y.2 = .local → scope.names.lookup y.1 = some .local) (hx : scope.names.lookup x = some .local)
    (h : wpAny (model prog w) A (eval iter env) (SrcStep prog w A h₀ L m env elt x scope cl (fun s₂ => LCg.FinE h₀ L m s₂ Q)) E s)
    (hs : ∀ x, foldedSetIterable iter env x = pure x := by intro _; rfl) :
    wpAny (model prog w) A (eval (.ListComp elt [⟨.Name x px, iter, [], 0⟩] scope pos) env) Q E s := by
  rw [eval_ListComp]
  refine wpAny_comprehension_free (use := none) rfl hs hclos hkind hnames (wpAny_mono h (fun xv s₁ h₁ => ?_) fun _ _ e => e)
  obtain ⟨r, a, b, c, t, u, v, n, news, rfl, hh, F, N, hr, hsm, hn, hsz, R⟩ := h₁
  refine wpAny_pyIter_range hr hsm ?_
  refine LCg.block_U (St := fun i h => IsRangeIter h s₁.heap.objs.size (a + (i : Nat) * c) ((n : Int) - (i : Nat)) c) (P := fun i v => ∃ t, v = .int (a + (i : Int) * c) t) (S := fun _ => True)
    (Walks.range hh s₁.heap.objs.size a c n) hsz (fun i h st => ⟨_, st⟩) ?_ hcell hkind hx (by show IsRangeIter _ _ _ _ _; rw [hn]; simpa using Heap.get?_push_size _ rfl) (fun b hb => ?_)
    (F.keeps fun _ _ e => Heap.get?_push_of_some _ e) (N.grown fun _ _ e => Heap.get?_push_of_some _ e) (Nat.ne_of_lt F.ns.lt) (next_is_new F) (fun p hp => Nat.ne_of_lt (Heap.lt_size (N p hp).1)) trivial (R _) ?_
  · intro i h h' o nw st e e' _ _ _
    have st' : h.get? s₁.heap.objs.size = some _ := st
    show h'.get? s₁.heap.objs.size = some _
    rw [e', ← e]; exact st'
  · rw [List.mem_singleton.mp hb]
    show s₁.heap.objs.size < (s₁.heap.push _).objs.size
    rw [Heap.size_push]; exact Nat.lt_succ_self _
  · intro D C h tk m' ys news' F' N' o1 hn hC₀ hD₀ hCL hDL hCD offC fin
    refine ⟨m', hn, fun h'' hs'' => fin D h'' tk (F'.change hs'' hCL hC₀) (fun p hp => ?_) o1⟩
    refine ⟨hs''.extBut _ _ ?_ (N' p hp).1, (N' p hp).2⟩
    rcases List.mem_cons.mp hp with rfl | hp
    · exact Ne.symm hCD
    · exact offC p hp

/-- one element of a comprehension: it is read as d, by objects that the turn adds to the ledger -/
def EltIs (tl news : List (Addr × Obj)) (d : Dat) (y : Value) (news' : List (Addr × Obj)) : Prop := ∃ add, news' = add ++ (tl ++ news) ∧ DatIn (add ++ (tl ++ news)) y d

theorem comp_turns {elt : Expr} {x : Str} {scope : Scope} {cl : List (Str × Addr)} {S : List (Addr × Obj) → Prop} {P : Nat → Value → Prop} {Fin : List Value → List (Addr × Obj) → Prop} {news : List (Addr × Obj)} {n : Nat} (g : Nat → Dat)
    (turn : ∀ i v I oI C oC D m₂ ys tl h tk (E' : Value → Shared → Prop), i < n → P i v → LCg.NsObj oC m₂ → m₂ x = some v → Fr h₀ L h m → News h₀ L h ((I, oI) :: (C, oC) :: (D, LCg.lst ys) :: (tl ++ news)) → LCg.Off3 I C D (tl ++ news) → ((@Ne Nat I C) ∧ (@Ne Nat I D) ∧ (@Ne Nat C D)) → DatAll (tl ++ news) ys ((List.range i).map g) →
      wpAny (model prog w) A (eval elt (compEnvC scope cl C env)) (LCg.CompEnd h₀ L m { s with heap := h, toks := tk } I oI C oC D (LCg.lst ys) S (fun y news' => EltIs tl news (g i) y news')) E' { s with heap := h, toks := tk })
    (fin : ∀ ys tl, DatAll (tl ++ news) ys ((List.range n).map g) → Fin ys (tl ++ news)) : LCg.CompRest prog w A h₀ L m env elt x scope cl s S P Fin n 0 [] news := by
  have key : ∀ (j i : Nat) (ys : List Value) (tl : List (Addr × Obj)), i + j = n → DatAll (tl ++ news) ys ((List.range i).map g) → LCg.CompRest prog w A h₀ L m env elt x scope cl s S P Fin j i ys (tl ++ news) := by
    intro j
    induction j with
    | zero =>
      intro i ys tl hi hy
      have e : i = n := by omega
      subst e
      exact LCg.CompRest.zero (fin ys tl hy)
    | succ j ih =>
      intro i ys tl hi hy
      refine LCg.CompRest.succ ?_
      intro v I oI C oC D m₂ h tk E' hv hC hx F N off ne
      refine wpAny_mono (turn i v I oI C oC D m₂ ys tl h tk E' (by omega) hv hC hx F N off ne hy) (fun y s₂ hq => ?_) fun _ _ e => e
      obtain ⟨h', tk', nw, e, F', N', off', hS, add, hn, hd⟩ := hq
      subst hn
      refine ⟨h', tk', add ++ (tl ++ news), e, F', N', off', hS, ?_⟩
      have hh := ih (i + 1) (ys ++ [y]) (add ++ tl) (by omega) (by
        rw [List.range_succ, List.map_append, List.append_assoc]
        exact DatAll.append (hy.mono fun p hp => List.mem_append.mpr (.inr hp)) (.one hd))
      rw [List.append_assoc] at hh
      exact hh
  have := key n 0 [] [] (by omega) (by simp only [List.range_zero, List.map_nil]; exact .nil)
  simpa using this

theorem comp_list {elt iter : Expr} {x : Str} {px : Pos} {scope : Scope} {cl : List (Str × Addr)} {pos : Pos} {Q : Value → Shared → Prop} (F₀ : Fr h₀ L s.heap m)
    (hclos : closureFor scope env = pure cl) (hcell : ∀ y ∈ scope.names, y.2 ≠ .cell) (hkind : scope.kind = .function)
    (hnames : ∀ y ∈ scope.names, y.2 = .local → scope.names.lookup y.1 = some .local) (hx : scope.names.lookup x = some .local)
    (h : wpAny (model prog w) A (eval iter env) (LCg.SrcL prog w A h₀ L m env elt x scope cl (fun s₂ => LCg.FinE h₀ L m s₂ Q)) E s)
    (hs : ∀ x, foldedSetIterable iter env x = pure x := by intro _; rfl) :
    wpAny (model prog w) A (eval (.ListComp elt [⟨.Name x px, iter, [], 0⟩] scope pos) env) Q E s :=
  LCg.ListComp_U F₀ hclos hcell hkind hnames hx (wpAny_mono h (fun _ _ y => .inl y) fun _ _ y => y) hs
/-- the iterable is a made list whose items are read as data -/
theorem src_list {elt : Expr} {x : Str} {scope : Scope} {cl : List (Str × Addr)} {Fin : Shared → List Value → List (Addr × Obj) → Prop} {ax : Addr} {vs : List Value} {k : Nat} {news : List (Addr × Obj)} {s₁ : Shared} {ds : List Dat} (f : Dat → Dat)
    (hh : A.handled = none) (F : Fr h₀ L s₁.heap m) (N : News h₀ L s₁.heap news) (hm : (ax, listOf vs.toArray k) ∈ news) (hd : DatAll news vs ds) (hsz : ds.length ≤ sizeLine)
    (turn : ∀ d v I oI C oC D m₂ ys tl h tk (E' : Value → Shared → Prop), d ∈ ds → DatIn news v d → LCg.NsObj oC m₂ → m₂ x = some v → Fr h₀ L h m → News h₀ L h ((I, oI) :: (C, oC) :: (D, LCg.lst ys) :: (tl ++ news)) → LCg.Off3 I C D (tl ++ news) → ((@Ne Nat I C) ∧ (@Ne Nat I D) ∧ (@Ne Nat C D)) →
      wpAny (model prog w) A (eval elt (compEnvC scope cl C env)) (LCg.CompEnd h₀ L m { s₁ with heap := h, toks := tk } I oI C oC D (LCg.lst ys) (LCg.SrcAt h₀ ax vs.toArray) (fun y news' => EltIs tl news (f d) y news')) E' { s₁ with heap := h, toks := tk })
    (fin : ∀ g ys tl, DatAll (tl ++ news) ys (ds.map f) → Fin { s₁ with heap := g } ys (tl ++ news)) :
    LCg.SrcL prog w A h₀ L m env elt x scope cl Fin (.ref ax) s₁ := by
  have hl : vs.length = ds.length := hd.length
  refine ⟨ax, vs.toArray, news, rfl, hh, F, N, .inr ⟨_, hm, rfl, _, rfl⟩, by rw [List.size_toArray, hl]; exact hsz, fun s₂ ⟨g, e⟩ => ?_⟩
  subst e
  have hsize : vs.toArray.size = ds.length := by rw [List.size_toArray, hl]
  rw [hsize]
  have hmap : ∀ i, i ≤ ds.length → (List.range i).map (fun j => f (ds.getD j .none)) = (ds.take i).map f := by
    intro i hi
    apply List.ext_getElem
    · simp; omega
    · intro j h1 h2
      simp only [List.length_map, List.length_range] at h1
      have hj : j < ds.length := by omega
      simp [List.getD, hj]
  refine comp_turns (fun j => f (ds.getD j .none)) ?_ ?_
  · intro i v I oI C oC D m₂ ys tl h tk E' hi hv hC hx F' N' off ne _
    obtain ⟨v', hv', hdv⟩ := hd.get hi
    have ev : v = v' := by
      have q : vs[i]? = some v := by simpa using hv
      rw [hv'] at q
      exact (Option.some.inj q).symm
    subst ev
    have eg : ds.getD i .none = ds[i] := by simp [List.getD, hi]
    show wpAny _ _ _ _ _ _
    rw [eg]
    exact turn _ v I oI C oC D m₂ ys tl h tk E' (List.getElem_mem hi) hdv hC hx F' N' off ne
  · intro ys tl hy
    rw [hmap _ (Nat.le_refl _), List.take_length] at hy
    exact fin g ys tl hy
end
end
section
/-- a draw from the mill, with other objects beside it in the ledger -/
def CGristN (w : World) (K : Frag) (p : Program) (loose : List Str) (mean : ExcName → Option Value) (mg mb : Str → Option Value) (f : Addr) : Prop :=
  ∀ (dp un : Nat) (gd : Option (List Code)) (cn : Str) (cs : Scope) (a : Addr) (ccd : Value) (cl : List (Str × Addr)) (outer : List Env) (A₀ : Around) (base h₀ : Heap) (L : Addr) (m : Str → Option Value) (s : Shared) (Q E : Value → Shared → Prop)
    (l : Addr) (x y k : Int) (tx ty tk n : Nat) (pre : Led),
    Below A₀ base outer h₀ → Fr h₀ L s.heap m → K.In h₀ → News h₀ L s.heap (pre ++ [(l, millOf x y tx ty n)]) → (∀ q ∈ pre, l ≠ q.1) → Top p loose mean mg mb h₀ → cs.kind = .function →
    0 ≤ x → 0 ≤ y → y < 66000 → 0 < k → k < 100 → dp + 1 < recursionLimit → un + 8 < cLine →
    (∀ (r x' y' : Int) (tr tx' ty' n' tk' : Nat) (h' : Heap), Fr h₀ L h' m → News h₀ L h' (pre ++ [(l, millOf x' y' tx' ty' n')]) → 0 ≤ r → r < k → 0 ≤ x' → 0 ≤ y' → y' < 66000 → Q (.int r tr) { s with heap := h', toks := tk' }) →
    wpAny (model prg w) (ktrTop dp un gd cn cs L a ccd cl outer) (call (.ref f) [.ref l, .int k tk]) Q E s
theorem news_beside {g h h' : Heap} {L l : Addr} {o o' : Obj} {pre : Led} (N : News g L h (pre ++ [(l, o)])) (hp : ∀ q ∈ pre, l ≠ q.1) (hk : ∀ b o, b ≠ l → h.get? b = some o → h'.get? b = some o) (N' : News g L h' [(l, o')]) : News g L h' (pre ++ [(l, o')]) := fun q hq => by
  rcases List.mem_append.mp hq with hq | hq
  · exact ⟨hk _ _ (Ne.symm (hp q hq)) (N q (List.mem_append_left _ hq)).1, (N q (List.mem_append_left _ hq)).2⟩
  · exact N' q hq
local macro_rules | `(tactic| k_room) => `(tactic| ktr_room)
set_option maxRecDepth 100000 in
set_option maxHeartbeats 8000000 in
theorem gristN (w : World) (p : Program) (loose : List Str) (mean : ExcName → Option Value) (mg mb : Str → Option Value) : CGristN w (KK w) p loose mean mg mb 72 := by
  unfold CGristN
  unfold prg KK
  k_fill
  intro dp un gd cn cs a ccd cl outer A₀ base h₀ L m s Q E l x y k tx ty tk n pre B F X N₀ hpre T hk hx hy hy2 hk0 hk1 hd hu hret
  have N : News h₀ L s.heap [(l, millOf x y tx ty n)] := fun q hq => N₀ q (List.mem_append_right _ hq)
  have hret' : ∀ (r x' y' : Int) (tr tx' ty' n' tk' : Nat) (h' : Heap), Fr h₀ L h' m → News h₀ L h' [(l, millOf x' y' tx' ty' n')] → (∀ b o, b ≠ l → s.heap.get? b = some o → h'.get? b = some o) → 0 ≤ r → r < k → 0 ≤ x' → 0 ≤ y' → y' < 66000 → Q (.int r tr) { s with heap := h', toks := tk' } :=
    fun r x' y' tr tx' ty' n' tk' h' F' N' hk' => hret r x' y' tr tx' ty' n' tk' h' F' (news_beside N₀ hpre hk' N')
  clear hret hpre N₀
  w_on
  refine wpAny_call ?_
  k_dflt (refine' code_defG ?k1 ?k2 ?k3 ?k4 ?k5 ?kA ?kF ?kK ?k6 ?k7 ?k8 ?k9 ?kB ?_ ?c2 ?c3 ?c4 ?c5; (case kA => exact rfl); (case kF => exact rfl); (case kK => assumption); (case k1 => k_asm); (case k2 => k_asm); (case k3 => k_asm); (case k4 => k_asm); (case k5 => k_asm); (case k6 => k_is); (case k7 => k_is); (case k8 => ktr_room); (case k9 => exact BindsTo.of_eq rfl); (case c5 => decide); (case kB => exact locs rfl); (case c2 => exact rfl); (case c3 => exact rfl); (case c4 => exact rfl); k_whole; intro g' L' h' FG' F' N' B' X' T' kG'; (try dsimp only); (try k_lift B'); (try k_fold))
  k_steps
  · rename Fr g' _ _ _ => kF9
    refine hret' _ _ _ _ _ _ _ _ _ (by assumption) (by assumption) (fun b o hb hh => kF9.keep b o (kG' b o hh (by simp [hb]))) ?_ ?_ ?_ ?_ ?_
    · exact Int.fmod_nonneg_of_pos _ hk0
    · exact Int.fmod_lt_of_pos _ hk0
    · exact Int.fdiv_nonneg hx (by omega)
    · exact hy
    · exact hy2
  · rename Fr g' _ _ _ => kF9
    refine hret' _ _ _ _ _ _ _ _ _ (by assumption) (by assumption) (fun b o hb hh => kF9.keep b o (kG' b o hh (by simp [hb]))) ?_ ?_ ?_ ?_ ?_
    · exact Int.fmod_nonneg_of_pos _ hk0
    · exact Int.fmod_lt_of_pos _ hk0
    · exact hx
    · exact Int.fmod_nonneg_of_pos _ (by decide)
    · exact Int.lt_trans (Int.fmod_lt_of_pos _ (by decide)) (by decide)
end
section
theorem y_lo (a : Int) : 0 ≤ a.fmod 65267 + 83 := by
  have := Int.fmod_nonneg_of_pos a (b := 65267) (by decide)
  omega
theorem ten_lo {x : Int} (h : (10 : Int) ^ Int.toNat 15 ≤ x) : 0 ≤ x := Int.le_trans (by decide) h
theorem y_hi (a : Int) : a.fmod 65267 + 83 < 66000 := by
  have := Int.fmod_lt_of_pos a (b := 65267) (by decide)
  omega
set_option maxRecDepth 100000 in
set_option maxHeartbeats 8000000 in
theorem mill (w : World) (p : Program) (loose : List Str) (mean : ExcName → Option Value) (mg mb : Str → Option Value) : CMill w (KK w) p loose mean mg mb 65 := by
  unfold CMill
  unfold prg KK
  k_fill
  intro dp un gd cn cs a ccd cl outer A₀ base h₀ L m s Q E l vs ns B F X N T hk hl hi hns hd hu hret
  w_on
  refine wpAny_call ?_
  k_dflt cell_enter
  k_steps
  all_goals refine hret _ _ _ _ _ _ _ _ (by assumption) (by assumption) ?_ ?_ ?_
  all_goals first
    | exact y_lo _
    | exact y_hi _
    | exact Int.le_refl _
    | exact ten_lo (by assumption)
end
section
local macro_rules | `(tactic| k_room) => `(tactic| ktr_room)
local macro_rules | `(tactic| walk_at "eval ListComp") => `(tactic| (k_here; k_dflt (refine comp_step (_F₀ := by k_asm) (by with_unfolding_all rfl) (by decide) (by rfl) (by decide) (by rfl) ?_)))
theorem sub_in {h₀ h : Heap} {L : Addr} {a b c e f : Addr × Obj} {tl : Led} (N : News h₀ L h (a :: b :: c :: (tl ++ [e, f]))) : News h₀ L h (e :: f :: a :: b :: c :: tl) := fun q hq => N q (by
  simp only [List.mem_cons, List.mem_append, List.not_mem_nil, or_false] at hq ⊢
  rcases hq with h | h | h | h | h | h <;> simp [h])
theorem sub_out {a b c d e f : Addr × Obj} {tl : Led} : ∀ q ∈ a :: b :: c :: ([d] ++ (tl ++ [e, f])), q ∈ d :: e :: f :: a :: b :: c :: tl := fun q hq => by
  simp only [List.mem_cons, List.mem_append, List.not_mem_nil, or_false] at hq ⊢
  rcases hq with h | h | h | h | h | h | h <;> simp [h]
set_option maxRecDepth 100000 in
set_option maxHeartbeats 1000000 in
theorem spans (w : World) (p : Program) (loose : List Str) (mean : ExcName → Option Value) (mg mb : Str → Option Value) : CSpans w (KK w) p loose mean mg mb 58 := by
  unfold CSpans
  unfold prg KK
  k_fill
  intro dp un gd cn cs a ccd cl outer A₀ base h₀ L m s Q E many interval t1 t2 B F X N T hk hm0 hm1 hi0 hi1 hd hu hret
  w_on
  refine wpAny_call ?_
  k_dflt (refine' code_defC ?k1 ?k2 ?k3 ?k4 ?k5 ?kA ?kF ?kK ?k6 ?k7 ?k8 ?k9 ?kB ?kD ?_ ?c2 ?c3 ?c4; (case kA => exact rfl); (case kF => exact rfl); (case kK => assumption); (case k1 => k_asm); (case k2 => k_asm); (case k3 => k_asm); (case k4 => k_asm); (case k5 => k_asm); (case k6 => k_is); (case k7 => k_is); (case k8 => ktr_room); (case k9 => exact BindsTo.of_eq rfl); (case kB => exact rfl); (case kD => decide +kernel); (case c2 => exact rfl); (case c3 => exact rfl); (case c4 => exact rfl); k_whole; intro g' L' h' tk' cells' FG' F' N' Y' B' X' T' l1; (try k_lt l1); k_cells Y'; (try simp only [List.cons_append, List.nil_append] at N'); (try dsimp only); (try k_lift B'); (try k_fold))
  k_steps
  · subst_vars
    refine hret _ _ _ _ _ _ (by assumption) (by assumption) (.head _) ?_
    rw [spansD, if_pos (.inl rfl)]
    exact .cons (.tuple (.tail _ (.head _)) (.cons (.int _ _) (.cons (.int _ _) .nil))) .nil
  · subst_vars
    refine hret _ _ _ _ _ _ (by assumption) (by assumption) (.head _) ?_
    rw [spansD, if_pos (.inr rfl)]
    exact .cons (.tuple (.tail _ (.head _)) (.cons (.int _ _) (.cons (.int _ _) .nil))) .nil
  · have hi2 : 1 ≤ interval := by omega
    have hm2 : 0 < many := by omega
    refine ⟨_, _, _, _, _, _, _, spanN many interval, _, rfl, rfl, by assumption, by assumption, by assumption, span_small hm2 hm1 hi2 hi1, span_size hm2 hi2, span_line hm2 hm1 hi2, fun g => comp_turns (spanD many interval) ?_ ?_⟩
    · intro i v I oI C oC D m₂ ys tl h tk E' hin hv hC hx F9 N9 off ne hy
      obtain ⟨t, rfl⟩ := hv
      have N10 := sub_in N9
      clear N9
      (try k_fold)
      k_steps
      rename_i D9 h9 F9 N9 l9
      obtain ⟨-, -, l3, l4, l5, -⟩ := l9
      exact LCg.CompEnd.intro F9 N9 _ sub_out ⟨⟨Nat.ne_of_gt l3, Nat.ne_of_gt l4, Nat.ne_of_gt l5⟩, off⟩ trivial ⟨[(D9, _)], rfl, .tuple (.head _) (.cons (.int _ _) (.cons (.int _ _) .nil))⟩
    · intro ys tl hd D h tk F9 N9 off
      (try k_fold)
      k_steps
      refine hret _ _ _ _ _ _ (by assumption) (by assumption) (.head _) ?_
      rw [spansD, if_neg (by omega)]
      exact hd.mono fun q hq => .tail _ hq
end
section
local macro_rules | `(tactic| k_room) => `(tactic| ktr_room)
local macro_rules | `(tactic| walk_at "call ref") => `(tactic| (k_here; (with_reducible show wpAny _ _ (call (Value.ref 58) _) _ _ _); k_dflt (refine' spans _ _ _ _ _ _ _ _ _ _ _ _ _ _ _ _ _ _ _ _ _ _ _ _ _ _ _ ?k1 ?k2 ?k3 News.nil ?k5 ?k6 ?k7 ?k8 ?k9 ?k10 ?k11 ?k12 ?_; (case k1 => k_asm); (case k2 => k_asm); (case k3 => k_asm); (case k5 => k_asm); (case k6 => first | exact rfl | assumption); (case k7 => assumption); (case k8 => assumption); (case k9 => assumption); (case k10 => assumption); (case k11 => ktr_room); (case k12 => ktr_units); intro d9 vs9 n9 tk9 tl9 h9 F9 N9 hd9 hv9; (try dsimp only); (try k_fold))))
local macro_rules | `(tactic| walk_at "eval ListComp") => `(tactic| (k_here; k_dflt (refine comp_list (F₀ := by k_asm) (by with_unfolding_all rfl) (by decide) (by rfl) (by decide) (by rfl) ?_)))
set_option maxRecDepth 100000 in
set_option maxHeartbeats 1000000 in
theorem toldIn (w : World) (p : Program) (loose : List Str) (mean : ExcName → Option Value) (mg mb : Str → Option Value) : CToldIn w (KK w) p loose mean mg mb 77 := by
  unfold CToldIn
  unfold prg KK
  k_fill
  intro dp un gd cn cs a ccd cl outer A₀ base h₀ L m s Q E many interval t1 t2 news B F X N T hk hm0 hm1 hi0 hi1 hd hu hret
  w_on
  refine wpAny_call ?_
  k_dflt (refine' code_defG ?k1 ?k2 ?k3 News.nil ?k5 ?kA ?kF ?kK ?k6 ?k7 ?k8 ?k9 ?kB ?_ ?c2 ?c3 ?c4 ?c5; (case kA => exact rfl); (case kF => exact rfl); (case kK => assumption); (case k1 => k_asm); (case k2 => k_asm); (case k3 => k_asm); (case k5 => k_asm); (case k6 => k_is); (case k7 => k_is); (case k8 => ktr_room); (case k9 => exact BindsTo.of_eq rfl); (case c5 => decide); (case kB => exact locs rfl); (case c2 => exact rfl); (case c3 => exact rfl); (case c4 => exact rfl); k_whole; intro g' L' h' FG' F' N' B' X' T' kG'; (try dsimp only); (try k_lift B'); (try k_fold))
  have hN : ∀ q ∈ news, s.heap.get? q.1 = some q.2 ∧ q.1 ≠ L ∧ h₀.get? q.1 = none := N
  clear N
  k_steps
  refine src_list (fun d => d) rfl (by assumption) (by assumption) (by assumption) (by assumption) (spansD_len hm0 hm1 hi0) ?_ ?_
  · intro d v I oI C oC D m₂ ys tl h tk E' hd hv hC hx F9 N9 off ne
    obtain ⟨x, y, rfl⟩ := spansD_all hd
    cases hv with
    | tuple hm hr =>
      have hT := News.isTup N9 (List.mem_cons_of_mem _ (List.mem_cons_of_mem _ (List.mem_cons_of_mem _ (List.mem_append_right _ hm))))
      (try k_fold)
      k_steps
      exact LCg.CompEnd.intro F9 N9 _ (fun _ hq => hq) off (.inr ⟨_, List.mem_append_right _ (by assumption), rfl, _, rfl⟩) ⟨[], rfl, DatIn.mono (fun q hq => List.mem_append_right _ (List.mem_append_right _ hq)) (.tuple hm hr)⟩
  · intro g ys tl hd D h tk F9 N9 off
    (try k_fold)
    k_steps
    rw [List.map_id'] at hd
    rename News h₀ L _ _ => hK
    exact hret _ _ _ _ _ _ (by assumption) (fun q hq => (List.mem_append.mp hq).elim (hK q) fun hq => ⟨F9.keep _ _ (kG' _ _ (hN q hq).1 (List.not_mem_nil)), (hN q hq).2⟩) (.head _) (hd.mono fun q hq => .tail _ hq)
end
section
set_option maxRecDepth 100000 in
set_option maxHeartbeats 1000000 in
theorem dueOut (w : World) (p : Program) (loose : List Str) (mean : ExcName → Option Value) (mg mb : Str → Option Value) : COut w (KK w) p loose mean mg mb 82 := by
  unfold COut
  unfold prg KK
  k_fill
  intro dp un gd cn cs a ccd cl outer A₀ base h₀ L m s Q E many interval t1 t2 news B F X N T hk hi hd hu hret
  w_on
  refine wpAny_call ?_
  k_dflt cell_enter
  rcases hi with hi | hi
  · k_steps
    all_goals exact hret _ _ _ (by assumption) (by assumption)
  · k_steps
    all_goals exact hret _ _ _ (by assumption) (by assumption)
end
section
section
variable {prog : Program} {w : World} {A : Around} {E : Value → Shared → Prop} {s : Shared} {env : Env} {h₀ : Heap} {x : Str} {body : List Stmt} {Q : Flow → Shared → Prop}
/-- a loop over a range by ones, by an invariant over the frame's names and the ledger, which may grow -/
theorem range_loop {r : Addr} {a₀ b₀ : Int} {t₀ u₀ v₀ : Tok} {n : Nat} {m₀ : Str → Option Value} {news : List (Addr × Obj)} (J : Nat → (Str → Option Value) → List (Addr × Obj) → Prop)
    (hh : A.handled = none) (hr : IsRange s.heap r a₀ b₀ 1 t₀ u₀ v₀) (hsmall : Builtin.Range.small a₀ b₀ 1 = true) (hsz : Builtin.Range.rangeSize a₀ b₀ 1 = (n : Int)) (F : Fr h₀ env.locals s.heap m₀) (N : News h₀ env.locals s.heap news) (hj : J 0 m₀ news)
    (turn : ∀ (i : Nat) t m₁ nx h tk own, i < n → OwnOff own (nx.map (·.1)) → J i m₁ nx → Fr h₀ env.locals h (fun y => if y = x then some (.int (a₀ + (i : Int)) t) else m₁ y) → News h₀ env.locals h (nx ++ own) →
      wpAny (model prog w) A (execs body env) (InvPostG h₀ env.locals (J (i + 1)) own { s with heap := h, toks := tk } Q) E { s with heap := h, toks := tk })
    (done : ∀ m₁ nx h tk, J n m₁ nx → Fr h₀ env.locals h m₁ → News h₀ env.locals h nx → Q .next { s with heap := h, toks := tk }) :
    wpAny (model prog w) A (pyIter (.ref r)) (fun it s₂ => LoopAtV prog w A h₀ env x body Q E it s₂) E s := by
  refine wpAny_pyIter_range hr hsmall ?_
  have W : Walks prog w A s.heap.objs.size [s.heap.objs.size] [s.heap.objs.size] n (fun i v => i < n ∧ ∃ t, v = .int (a₀ + i * 1) t)
      (fun i h => IsRangeIter h s.heap.objs.size (a₀ + (i : Nat) * 1) ((n : Int) - (i : Nat)) 1) := (Walks.range hh _ a₀ 1 n).bound
  refine kdr_loop J W (fun _ h => h) (fun _ h => h) ?_ ?_ ?_ ?_ (by show IsRangeIter _ _ _ _ _; rw [hsz]; simpa using Heap.get?_push_size _ rfl) (F.push _) (fun p hp => ⟨Heap.get?_push_of_some _ (N p hp).1, (N p hp).2⟩) hj ?_ ?_
  · intro i h hi b hb
    rw [List.mem_singleton.mp hb]
    exact ⟨_, hi⟩
  · intro hm
    exact absurd F.ns.lt ((List.mem_singleton.mp hm) ▸ Nat.lt_irrefl _)
  · intro b hb
    rw [List.mem_singleton.mp hb]
    exact next_is_new F
  · intro p hp hI
    exact absurd (Heap.lt_size (N p hp).1) ((List.mem_singleton.mp hI) ▸ Nat.lt_irrefl _)
  · rintro i v m₁ nx h tk own hi ⟨_, t, rfl⟩ hoff hJ F₁ N₁
    have e1 : a₀ + (i : Int) * 1 = a₀ + (i : Int) := by omega
    rw [e1] at F₁
    exact turn i t m₁ nx h tk own hi hoff hJ F₁ N₁
  · exact done
end
section
variable {prog : Program} {w : World} {A : Around} {E : Value → Shared → Prop} {s : Shared} {h₀ : Heap} {L : Addr} {m : Str → Option Value} {news : List (Addr × Obj)}
theorem len_empty {xs : List Value} {ds : List Dat} (Da : DatAll news xs ds) {b : Bool} (hb : b = true ↔ xs = []) : b = true ↔ ds = [] := by
  rw [hb]
  have := Da.length
  cases xs <;> cases ds <;> simp_all
/-- a list against an empty one -/
theorem eq_empty {a b : Addr} {xs : List Value} {ka kb : Nat} {ds : List Dat} {Q : Value → Shared → Prop} (N : News h₀ L s.heap news) (ma : (a, listOf xs.toArray ka) ∈ news) (Da : DatAll news xs ds) (ok : ∀ d ∈ ds, kqdOk 8 d = true)
    (mb : (b, listOf ([] : List Value).toArray kb) ∈ news) (hu : A.units + 64 < cLine) (t : Bool) (ht : t = true ↔ xs = []) (h : Q (.bool t) s) : wpAny (model prog w) A (compareOp .Eq (.ref a) (.ref b)) Q E s := by
  refine kqd_eq N ma rfl rfl Da (fun _ h => h) mb rfl rfl (DatAll.nil (news := news)) (fun _ h => h) ok (List.forall_mem_nil _) hu ?_
  have e := len_empty Da ht
  cases t with
  | true => rw [decide_eq_true (e.mp rfl)]; exact h
  | false => rw [decide_eq_false (fun z => Bool.false_ne_true (e.mpr z))]; exact h
theorem ne_empty {a b : Addr} {xs : List Value} {ka kb : Nat} {ds : List Dat} {Q : Value → Shared → Prop} (N : News h₀ L s.heap news) (ma : (a, listOf xs.toArray ka) ∈ news) (Da : DatAll news xs ds) (ok : ∀ d ∈ ds, kqdOk 8 d = true)
    (mb : (b, listOf ([] : List Value).toArray kb) ∈ news) (hu : A.units + 64 < cLine) (t : Bool) (ht : t = true ↔ xs = []) (h : Q (.bool (!t)) s) : wpAny (model prog w) A (compareOp .NotEq (.ref a) (.ref b)) Q E s := by
  refine kqd_ne N ma rfl rfl Da (fun _ h => h) mb rfl rfl (DatAll.nil (news := news)) (fun _ h => h) ok (List.forall_mem_nil _) hu ?_
  have e := len_empty Da ht
  cases t with
  | true => rw [decide_eq_true (e.mp rfl)]; exact h
  | false => rw [decide_eq_false (fun z => Bool.false_ne_true (e.mpr z))]; exact h
/-- the last item of a list -/
theorem item_last {value slice : PySem.Expr} {a : Addr} {xs : List Value} {v : Value} {k : Nat} {u : Tok} {Q : Value → Shared → Prop} (N : News h₀ L s.heap news) (ma : (a, listOf (xs ++ [v]).toArray k) ∈ news) (h : Q v s)
    (hs : subscripted slice false (.ref a) (.int (-1) u) = operate [.ref a, .int (-1) u] (getItem (.ref a) (.int (-1) u)) := by with_unfolding_all rfl) :
    wpAny (model prog w) A (subscriptTail value slice (.ref a) (.int (-1) u)) Q E s := by
  have hl : s.heap.IsList a (xs ++ [v]).toArray := ⟨_, N.get ma, rfl, k, rfl⟩
  refine tail_any hl.typeIs slot_list_getitem.lookup (wpAny_getItem_list_neg hl (by decide) ?_ (by decide) ?_ h) hs
  · rw [List.size_toArray, List.length_append, List.length_singleton]; omega
  · rw [List.size_toArray, List.length_append, List.length_singleton]
    have e : ((-1 : Int) + ((xs.length + 1 : Nat) : Int)).toNat = xs.length := by omega
    rw [e]
    simp
end
end
section
section
variable {prog : Program} {w : World} {A : Around} {E : Value → Shared → Prop} {s : Shared} {h₀ : Heap} {L : Addr} {m : Str → Option Value} {news news' : List (Addr × Obj)}
theorem app_L {D : Addr} {vs : List Value} {n : Nat} {x : Value} {Q : Value → Shared → Prop} (F : Fr h₀ L s.heap m) (N : News h₀ L s.heap news) (U : Upd D (listOf vs.toArray n) (listOf (vs ++ [x]).toArray (n + 1)) news news') (hsz : vs.length ≤ sizeLine)
    (h : ∀ h', Fr h₀ L h' m → News h₀ L h' news' → Q .none { s with heap := h' }) : wpAny (model prog w) A (call (.builtin "list.append") [.ref D, x]) Q E s := by
  have e : vs.toArray.push x = (vs ++ [x]).toArray := by simp
  refine append_K F N (its := vs.toArray) (by rw [e]; exact U) h (hsz := by rw [List.size_toArray]; exact hsz)
end
theorem same_map {x : Str} {v : Value} {m₀ m₁ : Str → Option Value} (h : ∀ z, z ≠ x → m₁ z = m₀ z) : (fun y => if y = x then some v else m₁ y) = fun y => if y = x then some v else m₀ y := by
  funext y
  by_cases hy : y = x
  · rw [if_pos hy, if_pos hy]
  · rw [if_neg hy, if_neg hy]; exact h y hy
theorem ints_dat {news : Led} : ∀ {ws : List Value} {cur : List Int}, IntsAre ws cur → DatAll news ws (cur.map Dat.int)
  | _, _, .nil => .nil
  | _, _, .cons i t h => .cons (.int i t) (ints_dat h)
theorem dat_ints {news : Led} : ∀ {ws : List Value} {cur : List Int}, DatAll news ws (cur.map Dat.int) → IntsAre ws cur
  | _, [], h => by cases h; exact .nil
  | _, i :: r, h => by
    cases h with
    | cons h1 h2 =>
      cases h1 with
      | int _ t => exact .cons i t (dat_ints h2)
theorem lot_ok (c : List Int) : kqdOk 8 (lotD c) = true := by
  simp only [lotD, kqdOk, List.all_map, List.all_eq_true]
  intro x _
  rfl
theorem lots_ok (ls : List (List Int)) : ∀ d ∈ ls.map lotD, kqdOk 8 d = true := by
  intro d hd
  obtain ⟨c, _, rfl⟩ := List.mem_map.mp hd
  exact lot_ok c

/-- the law's lots in the ledger, behind at least one unit -/
def LotsMid (l : Addr) (interval : Int) (i : Nat) (nx : Led) : Prop :=
  ∃ vs n b ws k tl ds cur, nx = (l, listOf (vs ++ [Value.ref b]).toArray n) :: (b, listOf ws.toArray k) :: tl ∧ (@Ne Nat l b) ∧ OwnOff tl [l, b] ∧ IntsAre ws cur ∧ DatAll tl vs (ds.map lotD) ∧ lotsAt interval i = ds ++ [cur]
def LotsJ (l : Addr) (m₀ : Str → Option Value) (interval : Int) (i : Nat) (m : Str → Option Value) (nx : Led) : Prop :=
  (∀ z, z ≠ Str.ofString "unit" → m z = m₀ z) ∧ ((i = 0 ∧ ∃ n, nx = [(l, listOf ([] : List Value).toArray n)]) ∨ LotsMid l interval i nx)
theorem mid_dat {b : Addr} {vs ws : List Value} {k : Nat} {tl : Led} {ds : List (List Int)} {cur : List Int} (hi : IntsAre ws cur) (hd : DatAll tl vs (ds.map lotD)) :
    DatAll ((b, listOf ws.toArray k) :: tl) (vs ++ [Value.ref b]) ((ds ++ [cur]).map lotD) := by
  rw [List.map_append]
  exact DatAll.append (hd.mono fun q hq => .tail _ hq) (.one (.list (.head _) (ints_dat hi)))
theorem mid_new {l x : Addr} {interval : Int} {i : Nat} {vs : List Value} {n k t : Nat} {tl : Led} {ls : List (List Int)} (hlx : @Ne Nat l x) (off : OwnOff tl [l, x]) (hd : DatAll tl vs (ls.map lotD)) (e : lotsAt interval i = ls)
    (h : ls = [] ∨ (0 < interval ∧ (i : Int).fmod interval = 0)) : LotsMid l interval (i + 1) ((l, listOf (vs ++ [Value.ref x]).toArray n) :: (x, listOf [Value.int (i : Int) t].toArray k) :: tl) :=
  ⟨vs, n, x, _, k, tl, ls, [(i : Int)], rfl, hlx, off, .cons _ _ .nil, hd, by rw [lots_new (by rw [e]; exact h), e]⟩
theorem mid_old {l b : Addr} {interval : Int} {i : Nat} {vs ws : List Value} {n k t : Nat} {tl : Led} {ds : List (List Int)} {cur : List Int} (hlb : @Ne Nat l b) (off : OwnOff tl [l, b]) (hi : IntsAre ws cur) (hd : DatAll tl vs (ds.map lotD)) (e : lotsAt interval i = ds ++ [cur])
    (h : ¬ (0 < interval ∧ (i : Int).fmod interval = 0)) : LotsMid l interval (i + 1) ((l, listOf (vs ++ [Value.ref b]).toArray n) :: (b, listOf (ws ++ [Value.int (i : Int) t]).toArray k) :: tl) :=
  ⟨vs, n, b, _, k, tl, ds, cur ++ [(i : Int)], rfl, hlb, off, IntsAre.append hi (.cons _ _ .nil), hd, lots_old e h⟩
theorem mid_sizes {interval : Int} {i : Nat} {vs ws : List Value} {b : Addr} {tl : Led} {ds : List (List Int)} {cur : List Int} (hi : IntsAre ws cur) (hd : DatAll tl vs (ds.map lotD)) (e : lotsAt interval i = ds ++ [cur]) (h : i < 1000) :
    (vs ++ [Value.ref b]).length ≤ sizeLine ∧ ws.length ≤ sizeLine := by
  obtain ⟨h1, h2⟩ := lots_len interval i
  rw [e] at h1 h2
  have h3 := h2 cur (by simp)
  have h4 := hd.length
  have h5 := hi.length
  rw [List.length_map] at h4
  rw [List.length_append, List.length_singleton] at h1
  rw [List.length_append, List.length_singleton, sizeLine_eq]
  omega

theorem LotsJ.mid {l : Addr} {m₀ m : Str → Option Value} {interval : Int} {i : Nat} {nx : Led} (h1 : ∀ z, z ≠ Str.ofString "unit" → m z = m₀ z) (h2 : LotsMid l interval i nx) : LotsJ l m₀ interval i m nx := ⟨h1, .inr h2⟩
theorem own_two {own : Led} {l x : Addr} (h : OwnOff own [l]) (k : AllLt x own) : OwnOff own [l, x] := fun p hp b hb => by
  rcases List.mem_cons.mp hb with rfl | hb
  · exact h p hp _ (.head _)
  · rw [List.mem_singleton.mp hb]; exact Nat.ne_of_lt (ktn_ltOf k p hp)
theorem own_mid {own tl : Led} {l b x : Addr} (h : OwnOff own (l :: b :: tl.map (·.1))) (k : AllLt x (tl ++ own)) : OwnOff own (l :: x :: b :: tl.map (·.1)) := fun p hp c hc => by
  rcases List.mem_cons.mp hc with rfl | hc
  · exact h p hp _ (.head _)
  · rcases List.mem_cons.mp hc with rfl | hc
    · exact Nat.ne_of_lt (ktn_ltOf k p (List.mem_append_right _ hp))
    · exact h p hp c (.tail _ hc)
theorem off_rest {own tl : Led} {l b : Addr} (h : OwnOff own (l :: b :: tl.map (·.1))) (k : OwnOff tl [l, b]) : OwnOff (tl ++ own) [l, b] := fun p hp c hc => by
  rcases List.mem_append.mp hp with hp | hp
  · exact k p hp c hc
  · refine h p hp c ?_
    rcases List.mem_cons.mp hc with rfl | hc
    · exact .head _
    · rw [List.mem_singleton.mp hc]; exact .tail _ (.head _)
theorem off_new {own tl : Led} {l b x : Addr} {o : Obj} (hlb : @Ne Nat l b) (hbx : @LT.lt Nat _ b x) (k : OwnOff tl [l, b]) (q : AllLt x (tl ++ own)) : OwnOff ((b, o) :: tl) [l, x] := fun p hp c hc => by
  rcases List.mem_cons.mp hp with rfl | hp
  · rcases List.mem_cons.mp hc with rfl | hc
    · exact fun e => hlb e.symm
    · rw [List.mem_singleton.mp hc]; exact Nat.ne_of_lt hbx
  · rcases List.mem_cons.mp hc with rfl | hc
    · exact k p hp _ (.head _)
    · rw [List.mem_singleton.mp hc]; exact Nat.ne_of_lt (ktn_ltOf q p (List.mem_append_left _ hp))
theorem sub_0 {a b c : Addr × Obj} {own : Led} : ∀ p ∈ [c, a], p ∈ a :: b :: c :: own := fun p hp => by
  simp only [List.mem_cons, List.not_mem_nil, or_false] at hp ⊢
  rcases hp with h | h <;> simp [h]
theorem sub_new {a y c d : Addr × Obj} {tl own : Led} : ∀ p ∈ c :: a :: d :: tl, p ∈ a :: y :: c :: d :: (tl ++ own) := fun p hp => by
  simp only [List.mem_cons, List.mem_append] at hp ⊢
  rcases hp with h | h | h | h <;> simp [h]
theorem sub_old {y c d : Addr × Obj} {tl own : Led} : ∀ p ∈ c :: d :: tl, p ∈ y :: c :: d :: (tl ++ own) := fun p hp => by
  simp only [List.mem_cons, List.mem_append] at hp ⊢
  rcases hp with h | h | h <;> simp [h]
theorem mid_all {h₀ h : Heap} {L l b : Addr} {vs ws : List Value} {n k : Nat} {tl own : Led} {ds : List (List Int)} {cur : List Int} (_N : News h₀ L h (((l, listOf (vs ++ [Value.ref b]).toArray n) :: (b, listOf ws.toArray k) :: tl) ++ own)) (hi : IntsAre ws cur) (hd : DatAll tl vs (ds.map lotD)) :
    DatAll ((l, listOf (vs ++ [Value.ref b]).toArray n) :: (b, listOf ws.toArray k) :: (tl ++ own)) (vs ++ [Value.ref b]) ((ds ++ [cur]).map lotD) :=
  (mid_dat (b := b) (k := k) hi hd).mono fun q hq => .tail _ (by
    rcases List.mem_cons.mp hq with rfl | hq
    · exact .head _
    · exact .tail _ (List.mem_append_left _ hq))
theorem out_map {x : Str} {m₀ m₁ : Str → Option Value} (h : ∀ z, z ≠ x → m₁ z = m₀ z) : m₁ = fun y => if y = x then m₁ y else m₀ y := by
  funext y
  by_cases hy : y = x
  · rw [if_pos hy]
  · rw [if_neg hy]; exact h y hy
theorem mid_in {h₀ h : Heap} {L l b : Addr} {vs ws : List Value} {n k : Nat} {tl : Led} {ds : List (List Int)} {cur : List Int} (_N : News h₀ L h ((l, listOf (vs ++ [Value.ref b]).toArray n) :: (b, listOf ws.toArray k) :: tl)) (hi : IntsAre ws cur) (hd : DatAll tl vs (ds.map lotD)) :
    DatAll ((l, listOf (vs ++ [Value.ref b]).toArray n) :: (b, listOf ws.toArray k) :: tl) (vs ++ [Value.ref b]) ((ds ++ [cur]).map lotD) :=
  (mid_dat (b := b) (k := k) hi hd).mono fun q hq => .tail _ hq
/-- a lot's pair -/
def pairOf : Dat → Dat
  | .list ds => .tuple [ds.headD .none, .int ds.length]
  | d => d
theorem pairs_of {ls : List (List Int)} (h : ∀ c ∈ ls, c ≠ []) : (ls.map lotD).map pairOf = ls.map pairD := by
  rw [List.map_map]
  apply List.map_congr_left
  intro c hc
  cases c with
  | nil => exact absurd rfl (h _ hc)
  | cons x r => simp [lotD, pairOf, pairD]
theorem lots_line {interval many : Int} {i : Nat} (h : i < 1000) : ((lotsAt interval i).map lotD).length ≤ sizeLine := by
  have := (lots_len interval i).1
  rw [List.length_map, sizeLine_eq]
  omega
theorem dat_int {news : Led} {a b : Int} {t : Nat} (h : a = b) : DatIn news (Value.int a t) (.int b) := h ▸ .int a t
theorem sub_pair {a b c d : Addr × Obj} {tl : Led} : ∀ p ∈ a :: b :: c :: ([d] ++ tl), p ∈ d :: a :: b :: c :: tl := fun p hp => by
  simp only [List.mem_cons, List.mem_append, List.not_mem_nil, or_false] at hp ⊢
  rcases hp with h | h | h | h | h <;> simp [h]
end
section
def Halt (P : Prop) : Prop := P
theorem Halt.out {P : Prop} (h : Halt P) : P := h
local macro_rules | `(tactic| k_room) => `(tactic| ktr_room)
local macro_rules | `(tactic| walk_at "pyIter ref") => `(tactic| (k_here; (with_reducible show wpAny _ _ (pyIter (Value.ref _)) (fun it s₂ => LoopAtV _ _ _ _ _ _ _ _ _ it s₂) _ _); refine Halt.out ?_))
local macro_rules | `(tactic| walk_at "exec For Name Call cons nil") => `(tactic| (k_here; (rename Fr _ _ _ _ => lF'); (with_unfolding_all refine' For_invVF lF' ?k1 ?k2 ?_; (case k1 => exact rfl); (case k2 => exact rfl); k_whole)))
local macro_rules | `(tactic| walk_at "compareOp Eq ref ref") => `(tactic| (k_here; (with_reducible show wpAny _ _ (compareOp CmpOp.Eq (Value.ref _) (Value.ref _)) _ _ _); k_dflt (first
  | (refine' eq_empty ?N ?a DatAll.nil (List.forall_mem_nil _) ?b ?u true ?t ?_; (case N => k_asm); (case a => k_mem); (case b => k_mem); (case u => first | ke_room | ktr_units); (case t => simp); k_whole)
  | (refine' eq_empty ?N ?a ?D ?ok ?b ?u false ?t ?_; (case N => k_asm); (case a => k_mem); (case D => exact DatAll.mono (fun q hq => List.Mem.tail _ hq) (by assumption)); (case ok => exact lots_ok _); (case b => k_mem); (case u => first | ke_room | ktr_units); (case t => simp); k_whole))))
local macro_rules | `(tactic| walk_at "compareOp NotEq ref ref") => `(tactic| (k_here; (with_reducible show wpAny _ _ (compareOp CmpOp.NotEq (Value.ref _) (Value.ref _)) _ _ _); k_dflt (first
  | (refine' ne_empty ?N ?a DatAll.nil (List.forall_mem_nil _) ?b ?u true ?t ?_; (case N => k_asm); (case a => k_mem); (case b => k_mem); (case u => first | ke_room | ktr_units); (case t => simp); k_whole)
  | (refine' ne_empty ?N ?a ?D ?ok ?b ?u false ?t ?_; (case N => k_asm); (case a => k_mem); (case D => exact DatAll.mono (fun q hq => List.Mem.tail _ hq) (by assumption)); (case ok => exact lots_ok _); (case b => k_mem); (case u => first | ke_room | ktr_units); (case t => simp); k_whole))))
local macro_rules | `(tactic| walk_at "eval ListComp") => `(tactic| (k_here; k_dflt (refine comp_list (F₀ := by k_asm) (by with_unfolding_all rfl) (by decide) (by rfl) (by decide) (by rfl) ?_)))
local macro_rules | `(tactic| walk_at "subscriptTail") => `(tactic| (k_here; k_dflt (refine' item_last ?N ?m ?_ ?s; (case N => k_asm); (case m => k_mem); (case s => with_unfolding_all rfl); k_whole)))
local macro_rules | `(tactic| walk_at "call builtin:list.append") => `(tactic| (k_here; (try dsimp only [List.cons_append, List.nil_append]); (with_reducible show wpAny _ _ (call (Value.builtin _) [Value.ref _, _]) _ _ _); k_dflt (refine' app_L ?k1 ?k2 ?k3 ?z ?_; (case k1 => k_asm); (case k2 => k_asm); (case k3 => k_upd); (case z => first | assumption | exact Nat.zero_le _); k_whole); intro h' F' N'; (try k_sweep)))
set_option maxRecDepth 100000 in
set_option maxHeartbeats 1000000 in
theorem dueIn (w : World) (p : Program) (loose : List Str) (mean : ExcName → Option Value) (mg mb : Str → Option Value) : CDueIn w (KK w) p loose mean mg mb 82 := by
  unfold CDueIn
  unfold prg KK
  k_fill
  intro dp un gd cn cs a ccd cl outer A₀ base h₀ L m s Q E many interval t1 t2 news B F X N T hk hm0 hm1 hi0 hi1 hd hu hret
  w_on
  refine wpAny_call ?_
  k_dflt (refine' code_defG ?k1 ?k2 ?k3 News.nil ?k5 ?kA ?kF ?kK ?k6 ?k7 ?k8 ?k9 ?kB ?_ ?c2 ?c3 ?c4 ?c5; (case kA => exact rfl); (case kF => exact rfl); (case kK => assumption); (case k1 => k_asm); (case k2 => k_asm); (case k3 => k_asm); (case k5 => k_asm); (case k6 => k_is); (case k7 => k_is); (case k8 => ktr_room); (case k9 => exact BindsTo.of_eq rfl); (case c5 => decide); (case kB => exact locs rfl); (case c2 => exact rfl); (case c3 => exact rfl); (case c4 => exact rfl); k_whole; intro g' L' h' FG' F' N' B' X' T' kG'; (try dsimp only); (try k_lift B'); (try k_fold))
  have hN : ∀ q ∈ news, s.heap.get? q.1 = some q.2 ∧ q.1 ≠ L ∧ h₀.get? q.1 = none := N
  clear N
  k_steps
  unfold Halt
  rename IsRange _ _ _ _ _ _ _ _ => hr
  have hsz : Builtin.Range.rangeSize 0 many 1 = ((many.toNat : Nat) : Int) := by
    unfold Builtin.Range.rangeSize
    rw [if_pos (by decide)]
    split <;> omega
  refine range_loop (LotsJ _ _ interval) rfl hr (small_one (by decide) (by decide) (by omega) (by omega)) hsz (by assumption) (by assumption) ⟨fun _ _ => rfl, .inl ⟨rfl, _, rfl⟩⟩ ?_ ?_
  · intro i t m₁ nx h tk own hin hoff hJ F9 N9
    obtain ⟨hm, hJ⟩ := hJ
    rw [same_map hm] at F9
    have hii : (0 : Int) + (i : Int) = (i : Int) := by omega
    rw [hii] at F9
    have F9 : Fr g' L' h _ := F9
    have N9 : News g' L' h (nx ++ own) := N9
    rcases hJ with ⟨rfl, n, rfl⟩ | ⟨vs, n, b, ws, k, tl, ds, cur, rfl, hlb, htl, hws, hds, he⟩
    · have hoff : OwnOff own [_] := hoff
      (try simp only [List.cons_append, List.nil_append] at N9)
      (try k_fold)
      k_steps
      rename Fr g' _ _ _ => F10
      rename News g' _ _ _ => N10
      rename _ ∧ _ ∧ AllLt _ own => l10
      refine InvEndG.intro (nx := [_, _]) F10 N10 ?_ ?_ sub_0 (fun p hp => .tail _ (.tail _ (.tail _ hp)))
      · exact LotsJ.mid (fun z hz => if_neg hz) (mid_new (vs := []) (tl := []) (ls := []) (Nat.ne_of_lt l10.2.1) (fun _ h => nomatch h) .nil rfl (.inl rfl))
      · exact own_two hoff l10.2.2
    · have hoff : OwnOff own (_ :: b :: tl.map (·.1)) := hoff
      have hrest := off_rest hoff htl
      have hdat := mid_all N9 hws hds
      obtain ⟨hz1, hz2⟩ := mid_sizes (b := b) hws hds he (by omega)
      (try simp only [List.cons_append, List.nil_append] at N9)
      (try k_fold)
      k_steps
      all_goals rename Fr g' _ _ _ => F10
      all_goals rename News g' _ _ _ => N10
      · rename _ ∧ _ ∧ _ ∧ AllLt _ _ => l10
        refine InvEndG.intro (nx := _ :: _ :: _ :: tl) F10 N10 ?_ ?_ sub_new (fun p hp => .tail _ (.tail _ (.tail _ (.tail _ (List.mem_append_right _ hp)))))
        · exact LotsJ.mid (fun z hz => if_neg hz) (mid_new (ls := ds ++ [cur]) (Nat.ne_of_lt l10.2.1) (off_new hlb l10.2.2.1 htl l10.2.2.2) (mid_dat hws hds) he (.inr ⟨by assumption, by assumption⟩))
        · exact own_mid hoff l10.2.2.2
      all_goals (
        refine InvEndG.intro (nx := _ :: _ :: tl) F10 N10 ?_ ?_ sub_old (fun p hp => .tail _ (.tail _ (.tail _ (List.mem_append_right _ hp))))
        · exact LotsJ.mid (fun z hz => if_neg hz) (mid_old hlb htl hws hds he (by omega))
        · exact hoff)
  · intro m₁ nx h tk hJ F9 N9
    obtain ⟨hm, hJ⟩ := hJ
    rw [out_map hm] at F9
    have F9 : Fr g' L' h _ := F9
    have N9 : News g' L' h nx := N9
    clear hm
    rcases hJ with ⟨h0, n, rfl⟩ | ⟨vs, n, b, ws, k, tl, ds, cur, rfl, hlb, htl, hws, hds, he⟩
    · (try k_fold)
      k_steps
      rename News h₀ L _ _ => hK
      rename Fr g' _ _ _ => F10
      refine hret _ _ _ _ [_, _, _, _] _ (by assumption) (fun q hq => (List.mem_append.mp hq).elim (hK q) fun hq => ⟨F10.keep _ _ (kG' _ _ (hN q hq).1 (List.not_mem_nil)), (hN q hq).2⟩) (.head _) ?_
      rw [dueD, if_pos (by omega)]
      exact .cons (.tuple (.tail _ (.head _)) (.cons (.int _ _) (.cons (.int _ _) .nil))) .nil
    · have hdat := mid_in N9 hws hds
      rw [← he] at hdat
      (try k_fold)
      k_steps
      have hin : many.toNat < 1000 := by omega
      rename DatAll _ _ _ => hdat
      rename News g' _ _ _ => N10
      refine src_list pairOf rfl (by assumption) N10 (.tail _ (.head _)) (hdat.mono fun q hq => .tail _ hq) (lots_line (many := many) hin) ?_ ?_
      · intro d v I oI C oC D m₂ ys tl h tk E' hd hv hC hx F9 N9 off ne
        obtain ⟨c, hc, rfl⟩ := List.mem_map.mp hd
        have hne := ((lots_len interval many.toNat).2 c hc).2
        have hcl := ((lots_len interval many.toNat).2 c hc).1
        cases hv with
        | list hm hr =>
          have hr2 := dat_ints hr
          clear hr
          cases hr2 with
          | nil => exact absurd rfl hne
          | cons x t hr2 =>
            have hL := News.isList N9 (List.mem_cons_of_mem _ (List.mem_cons_of_mem _ (List.mem_cons_of_mem _ (List.mem_append_right _ hm))))
            (try k_fold)
            k_steps
            k_dflt (refine len_list hL ?_ ?_)
            · have := hr2.length
              simp only [List.size_toArray, List.length_cons] at hcl ⊢
              omega
            (try k_fold)
            k_steps
            rename News g' _ _ _ => N11
            rename Fr g' _ _ _ => F11
            rename _ ∧ _ ∧ _ ∧ AllLt _ _ => l11
            refine LCg.CompEnd.intro F11 N11 _ sub_pair ⟨⟨Nat.ne_of_gt l11.1, Nat.ne_of_gt l11.2.1, Nat.ne_of_gt l11.2.2.1⟩, off⟩ (.inr ⟨listOf (vs ++ [Value.ref b]).toArray n, .tail _ (List.mem_append_right [] (List.mem_append_right tl (.tail _ (.head _)))), rfl, n, rfl⟩) ⟨[_], rfl, .tuple (.head _) (.cons (dat_int ?_) (.cons (dat_int ?_) .nil))⟩
            · rfl
            · have := hr2.length
              simp only [List.size_toArray, List.length_cons, List.length_map]
              omega
      · intro g ys tl hd D h tk F9 N9 off
        (try k_fold)
        k_steps
        rename News h₀ L _ _ => hK
        refine hret _ _ _ _ _ _ (by assumption) (fun q hq => (List.mem_append.mp hq).elim (hK q) fun hq => ⟨F9.keep _ _ (kG' _ _ (hN q hq).1 (List.not_mem_nil)), (hN q hq).2⟩) (.head _) ?_
        have hz : many ≠ 0 := by
          intro z
          subst z
          have he : ([] : List (List Int)) = ds ++ [cur] := he
          simp at he
        rw [dueD, if_neg hz]
        rw [pairs_of fun c hc => ((lots_len interval many.toNat).2 c hc).2] at hd
        exact hd.mono fun q hq => .tail _ hq
end
section
theorem fmod0 {i q k : Int} (hk : 0 < k) (h1 : q * k < i) (h2 : i ≤ (q + 1) * k) : i.fmod k = 0 ↔ i = (q + 1) * k := by
  rw [Int.fmod_eq_emod_of_nonneg _ (Int.le_of_lt hk)]
  constructor
  · intro h
    obtain ⟨c, rfl⟩ := Int.dvd_of_emod_eq_zero h
    rw [Int.mul_comm k c] at h1 h2 ⊢
    have a := Int.lt_of_mul_lt_mul_right h1 (Int.le_of_lt hk)
    have b := Int.le_of_mul_le_mul_right h2 hk
    have : c = q + 1 := by omega
    rw [this]
  · intro h
    rw [h]
    exact Int.mul_emod_left _ _
theorem q_is {m q k : Int} (hk : 0 < k) (h1 : q * k < m) (h2 : m ≤ (q + 1) * k) : (m - 1) / k = q := by
  have a : q ≤ (m - 1) / k := (Int.le_ediv_iff_mul_le hk).mpr (by omega)
  have b : (m - 1) / k < q + 1 := (Int.ediv_lt_iff_lt_mul hk).mpr (by omega)
  omega
/-- the lots by their pairs -/
theorem lots_pairs {k : Int} (hk : 0 < k) : ∀ i : Nat, 0 < i → ∃ (ds : List (List Int)) (cur : List Int) (q : Nat), lotsAt k i = ds ++ [cur] ∧ ds.map pairD = (List.range q).map (fun j : Nat => Dat.tuple [.int ((j : Int) * k), .int k]) ∧
    cur.headD 0 = (q : Int) * k ∧ cur ≠ [] ∧ (cur.length : Int) = (i : Int) - (q : Int) * k ∧ (q : Int) * k < i ∧ (i : Int) ≤ ((q : Int) + 1) * k := by
  intro i
  induction i with
  | zero => intro h; exact absurd h (Nat.lt_irrefl _)
  | succ i ih =>
    intro _
    by_cases h0 : i = 0
    · subst h0
      refine ⟨[], [0], 0, ?_, rfl, by simp, by simp, by simp, by simp, by simp; omega⟩
      rw [lots_new (.inl rfl)]
      rfl
    · obtain ⟨ds, cur, q, e, hp, hh, hn, hl, h1, h2⟩ := ih (by omega)
      by_cases hc : (i : Int).fmod k = 0
      · have hi := (fmod0 hk h1 h2).mp hc
        refine ⟨ds ++ [cur], [(i : Int)], q + 1, ?_, ?_, ?_, by simp, ?_, ?_, ?_⟩
        · rw [lots_new (.inr ⟨hk, hc⟩), e]
        · rw [List.map_append, hp, List.range_succ, List.map_append]
          congr 1
          have e2 : (cur.length : Int) = k := by
            rw [hl, hi, Int.add_mul, Int.one_mul]
            omega
          simp only [List.map_cons, List.map_nil, pairD, hh, e2]
        · simp only [List.headD_cons]
          rw [hi]
          push_cast
          rfl
        · rw [List.length_singleton]
          push_cast
          omega
        · push_cast
          omega
        · push_cast
          rw [Int.add_mul (_ + 1) 1 k]
          omega
      · have hi : (i : Int) ≠ ((q : Int) + 1) * k := fun z => hc ((fmod0 hk h1 h2).mpr z)
        refine ⟨ds, cur ++ [(i : Int)], q, lots_old e (fun z => hc z.2), hp, ?_, by simp, ?_, by push_cast; omega, by push_cast; omega⟩
        · cases cur with
          | nil => exact absurd rfl hn
          | cons x r => simpa using hh
        · rw [List.length_append, List.length_singleton]
          push_cast
          omega
theorem lots_zero : ∀ i : Nat, ∃ cur : List Int, lotsAt 0 (i + 1) = [cur] ∧ cur.headD 0 = 0 ∧ cur ≠ [] ∧ cur.length = i + 1
  | 0 => ⟨[0], by rw [lots_new (.inl rfl)]; rfl, rfl, by simp, rfl⟩
  | i + 1 => by
    obtain ⟨cur, e, h, hn, hl⟩ := lots_zero i
    refine ⟨cur ++ [((i + 1 : Nat) : Int)], lots_old (ds := []) e (fun z => absurd z.1 (by decide)), ?_, by simp, by rw [List.length_append, List.length_singleton, hl]⟩
    cases cur with
    | nil => exact absurd rfl hn
    | cons x r => simpa using h
/-- THE PLAIN LAW: what interval_spans tells is what the law deals -/
theorem spans_due {many interval : Int} (hm : 0 ≤ many) (hi : 0 ≤ interval) : spansD many interval = dueD many interval := by
  unfold spansD dueD
  by_cases h0 : many = 0
  · subst h0
    rw [if_pos (.inr rfl), if_pos rfl]
  · rw [if_neg h0]
    by_cases h1 : interval = 0
    · subst h1
      rw [if_pos (.inl rfl)]
      obtain ⟨cur, e, h, _, hl⟩ := lots_zero (many.toNat - 1)
      have e1 : many.toNat - 1 + 1 = many.toNat := by omega
      rw [e1] at e hl
      rw [e]
      simp only [List.map_cons, List.map_nil, pairD, h, hl]
      have e2 : ((many.toNat : Nat) : Int) = many := by omega
      rw [e2]
    · have hk : 0 < interval := by omega
      rw [if_neg (by omega)]
      obtain ⟨ds, cur, q, e, hp, hh, _, hl, h2, h3⟩ := lots_pairs hk many.toNat (by omega)
      have e2 : ((many.toNat : Nat) : Int) = many := by omega
      rw [e2] at hl h2 h3
      have hn : spanN many interval = q + 1 := by
        have := span_n (many := many) (interval := interval) (by omega) (by omega)
        rw [q_is hk h2 h3] at this
        omega
      rw [hn, e, List.map_append, hp, List.range_succ, List.map_append]
      congr 1
      · apply List.map_congr_left
        intro j hj
        have hjq : j < q := List.mem_range.mp hj
        have hle : ((j : Int) + 1) * interval ≤ (q : Int) * interval := Int.mul_le_mul_of_nonneg_right (by omega) (Int.le_of_lt hk)
        rw [Int.add_mul, Int.one_mul] at hle
        unfold spanD
        rw [Int.zero_add, if_neg (by omega)]
      · simp only [List.map_cons, List.map_nil, pairD, spanD, hh, hl]
        rw [Int.add_mul, Int.one_mul] at h3
        rw [Int.zero_add]
        have e3 : (if many - (q : Int) * interval < interval then many - (q : Int) * interval else interval) = many - (q : Int) * interval := by split <;> omega
        rw [e3]
end
section
open Sem (wp)
/-- what making an object of a class of exceptions asks of the bases along the order -/
structure BaseOk (B : String) (bm : List Value) : Prop where
  hasB : bm.contains (.type B) = true
  hasBase : bm.contains (.type "BaseException") = true
  noAttr : bm.contains (.type "AttributeError") = false
  noName : bm.contains (.type "NameError") = false
section
variable {prog : Program} {w : World} {A : Around} {E : Value → Shared → Prop} {h : Heap} {g : Array GenState} {d : Drawn} {t : Nat} {os : OsState}
variable {nm q : Str} {C N : Addr} {bs bm bmB : List Value} {hdct : Bool} {sn : List Str} {sub : List Value} {ab : Bool} {col : Option Bool} {dd : Option Addr} {k0 k1 k2 k3 k5 : Option Value} {B newId initId : String}
set_option maxRecDepth 100000

theorem check_new {M : Model} (F : ExcBaseFacts B newId initId bmB) (G : BaseOk B bm) {rest : List Value} {Q : Unit → Shared → Prop} (hC : h.get? C = some (excClassObj nm q C N bs bm hdct sn sub ab col dd k0 k1 k2 k3 k5 newId))
    (hq : Q () ⟨h, g, d, t, os⟩) : wpAny M A (checkBuiltinCall newId ⟨.ref C :: rest, []⟩) Q E ⟨h, g, d, t, os⟩ := by
  have hcont : (Value.ref C :: bm).contains (.type B) = true := by rw [List.contains_cons, G.hasB, Bool.or_true]
  have hstar := F.noStar
  simp only [checkBuiltinCall, F.newKind, F.newSplit, F.newRow]
  repeat (first | refine wpAny_loadPart_at hC ?_ | (refine wpAny_isSubtype_exc hC ?_; rw [hcont]) | refine wpAny_staticBase_exc hC ?_ | refine wpAny_madeBy_exc hC ?_ | simp only [bne_self_eq_false, Bool.false_eq_true, if_false] | wp_step)
  exact hq

theorem code_new (F : ExcBaseFacts B newId initId bmB) (G : BaseOk B bm) {R : Result → Shared → Prop} {rest : List Value} (hC : h.get? C = some (excClassObj nm q C N bs bm hdct sn sub ab col dd k0 k1 k2 k3 k5 newId))
    (hq : R (.ok (.ret (.ref (h.objs.size + 1)))) ⟨(h.push { cls := .type "tuple", data := .seq rest.toArray }).push
      { cls := .ref C, data := .fields #[.ref h.objs.size, .none, .none, .none, .bool false, .none] }, g, d, t, os⟩) (hrest : rest.length ≤ sizeLine) :
    codeAny (model prog w) A (.builtin newId ⟨.ref C :: rest, []⟩) R ⟨h, g, d, t, os⟩ := by
  have hends := F.ends
  have hcB : (Value.ref C :: bm).contains (.type B) = true := by rw [List.contains_cons, G.hasB, Bool.or_true]
  have hcA : (Value.ref C :: bm).contains (.type "AttributeError") = false := by rw [List.contains_cons, G.noAttr]; rfl
  have hcN : (Value.ref C :: bm).contains (.type "NameError") = false := by rw [List.contains_cons, G.noName]; rfl
  refine codeAny_builtinAt F.entry ?_
  unfold Builtin.«BaseException.__new__»
  refine PySem.wpAt_bind ?_
  show PySem.wpAt _ _ _ (stack >>= _) _ _ _
  refine PySem.wpAt_bind (PySem.wpAt_stack fun p below => PySem.wpAt_of_wpAny ?_)
  wp_walk
  refine PySem.wpAt_of_wpAny ?_
  rw [F.owner]
  repeat (first | with_reducible refine wpAny_madeHere_exc F.canon hC ?_ | with_reducible refine wpAny_loadPart_at hC ?_ | (with_reducible refine wpAny_isSubtype_exc hC ?_; first | rw [hcB] | rw [hcA] | rw [hcN]) | wp_step)
  show R _ _
  rw [Heap.size_push]
  exact hq

/-- the __init__ is found in the class's first base -/
theorem look_init {M : Model} {P : Addr} {c0 : Value} {ddP : Option Addr} {cdP : ClassData} {slP : Array (Option Value)} {mN mP : Str → Option Value} {v : Value} {Q : Option Value → Shared → Prop}
    (hC : h.get? C = some (excClassObj nm q C N bs (.ref P :: bm) hdct sn sub ab col dd k0 k1 k2 k3 k5 newId)) (hn : h.Ns N mN) (hni : mN "__init__" = none)
    (hP : h.get? P = some { cls := c0, dict := ddP, data := .cls cdP, slots := slP }) (hnP : h.Ns cdP.ns mP) (hi : mP "__init__" = some v) (hq : Q (some v) ⟨h, g, d, t, os⟩) :
    wpAny M A (typeLookup (.ref C) "__init__") Q E ⟨h, g, d, t, os⟩ := by
  rw [typeLookup_eq]
  refine wpAny_bind (wpAny_mroOf_exc hC ?_)
  rw [lookupAlong_cons]
  refine wpAny_bind (wpAny_classOwn_exc hC hn ?_)
  rw [hni]
  show wpAny _ _ (lookupAlong (.ref P :: bm) _) _ _ _
  rw [lookupAlong_cons]
  refine wpAny_bind (wpAny_classOwn_cls hP hnP ?_)
  rw [hi]
  exact wpAny_pure hq

theorem type_call (F : ExcBaseFacts B newId initId bmB) {P : Addr} (G : BaseOk B (.ref P :: bm)) {c0 : Value} {ddP : Option Addr} {cdP : ClassData} {slP : Array (Option Value)} {mN mP : Str → Option Value} {rest : List Value} {fI : Addr} {oI : Obj} {Q : Fin → Shared → Prop}
    (hC : h.get? C = some (excClassObj nm q C N bs (.ref P :: bm) hdct sn sub ab col dd k0 k1 k2 k3 k5 newId)) (hn : h.Ns N mN) (hni : mN "__init__" = none)
    (hP : h.get? P = some { cls := c0, dict := ddP, data := .cls cdP, slots := slP }) (hnP : h.Ns cdP.ns mP) (hi : mP "__init__" = some (.ref fI)) (hfI : h.get? fI = some oI) (hfc : oI.cls = .type "function")
    (hq : ∀ h' e, Heap.MadeExcOf h h' e (.ref C) rest →
      wpAny (model prog w) A (call (.ref fI) (.ref e :: rest)) (fun r s' => r = .none ∧ Q (.done (.ret (.ref e))) s') E ⟨h', g, d, t, os⟩) (hrest : rest.length ≤ sizeLine) :
    wpAny (model prog w) A (Builtin.«type.__call__» ⟨.ref C :: rest, []⟩) Q E ⟨h, g, d, t, os⟩ := by
  repeat (first | with_reducible refine wpAny_loadPart_at hC ?_ | with_reducible refine wpAny_madeBy_exc hC ?_ | wp_step)
  refine codeAny_call_builtin_code (Code.quiet_builtin _ F.quiet) (check_new F G hC ?_)
  refine code_new F G hC ?_ hrest
  show wpAny _ _ _ _ _ _
  have up : ∀ b o, h.get? b = some o → ((h.push { cls := .type "tuple", data := .seq rest.toArray }).push { cls := .ref C, data := .fields #[.ref h.objs.size, .none, .none, .none, .bool false, .none] }).get? b = some o :=
    fun b o e => Heap.get?_push_of_some _ (Heap.get?_push_of_some _ e)
  have hC₁ := up _ _ hC
  have hP₁ := up _ _ hP
  have hfI₁ := up _ _ hfI
  have hn₁ := hn.keeps up
  have hnP₁ := hnP.keeps up
  have hget : ((h.push { cls := .type "tuple", data := .seq rest.toArray }).push
      { cls := .ref C, data := .fields #[.ref h.objs.size, .none, .none, .none, .bool false, .none] }).get? (h.objs.size + 1) = some
      { cls := .ref C, data := .fields #[.ref h.objs.size, .none, .none, .none, .bool false, .none] } := by heap_get
  have hcC : (Value.ref C :: .ref P :: bm).contains (.ref C) = true := by simp
  unfold isInstance
  repeat (first | with_reducible refine wpAny_loadPart_at hget ?_ | (with_reducible refine wpAny_isSubtype_exc hC₁ ?_; rw [hcC]) | wp_step)
  show wpAny _ _ (typeLookup (.ref C) _) _ _ _
  refine look_init hC₁ hn₁ hni hP₁ hnP₁ hi ?_
  refine wpAny_holding (wpAny_bind ?_)
  unfold bindSpecial
  refine wpAny_bind (wpAny_typeOf (T := "function") ⟨_, hfI₁, hfc⟩ ?_)
  rw [if_pos (by decide)]
  refine wpAny_pure (wpAny_bind (wpAny_mono (hq _ (h.objs.size + 1) ⟨up, Heap.get?_none_of_le (Nat.le_succ _), h.objs.size, hget, Heap.get?_none_of_le (Nat.le_refl _), ?_⟩) (fun r s' hr => ?_) fun _ _ x => x))
  · exact Heap.get?_push_of_some _ (Heap.get?_push_at rfl rfl)
  · obtain ⟨rfl, hQ⟩ := hr
    wp_walk
    exact hQ

theorem make_exc (F : ExcBaseFacts B newId initId bmB) {P : Addr} (G : BaseOk B (.ref P :: bm)) {c0 : Value} {ddP : Option Addr} {cdP : ClassData} {slP : Array (Option Value)} {mN mP : Str → Option Value} {rest : List Value} {fI : Addr} {oI : Obj} {Q : Value → Shared → Prop}
    (hC : h.get? C = some (excClassObj nm q C N bs (.ref P :: bm) hdct sn sub ab col dd k0 k1 k2 k3 k5 newId)) (hn : h.Ns N mN) (hni : mN "__init__" = none)
    (hP : h.get? P = some { cls := c0, dict := ddP, data := .cls cdP, slots := slP }) (hnP : h.Ns cdP.ns mP) (hi : mP "__init__" = some (.ref fI)) (hfI : h.get? fI = some oI) (hfc : oI.cls = .type "function")
    (hq : ∀ h' e, Heap.MadeExcOf h h' e (.ref C) rest →
      wpAny (model prog w) (A.under (.builtin "type.__call__" ⟨.ref C :: rest, []⟩)) (call (.ref fI) (.ref e :: rest)) (fun r s' => r = .none ∧ Q (.ref e) s') E ⟨h', g, d, t, os⟩) (hrest : rest.length ≤ sizeLine) :
    wpAny (model prog w) A (call (.ref C) rest) Q E ⟨h, g, d, t, os⟩ := by
  have f1 := tc_lookup
  have f2 := tc_bind (.ref C)
  have hT : (⟨h, g, d, t, os⟩ : Shared).TypeIs (.ref C) "type" := ⟨_, hC, rfl⟩
  refine wpAny_call (codeAny_of_tree ?_)
  show wpAny _ _ (callAny (.ref C) _) _ _ _
  repeat (any_goals (first | assumption | with_reducible refine wpAny_loadPart_at hC ?_ | wp_step))
  refine ⟨rfl, ?_⟩
  refine codeAny_call_builtin_at (Code.quiet_builtin _ (by decide +kernel)) entry_typeCall (wpAny_check_type_call_sub hC (type_call F G hC hn hni hP hnP hi hfI hfc (fun h' e hm => ?_) hrest))
  exact hq h' e hm
end
end
section
open Sem (wp)
open Builtin Builtin.ObjectAttr
/-- an object of an own class of exceptions, fresh from its making, perhaps with a dict -/
abbrev instOf (C : Addr) (dd : Option Addr) (t : Addr) : Obj := { cls := .ref C, dict := dd, data := .fields #[.ref t, .none, .none, .none, .bool false, .none] }
section
variable {prog : Program} {w : World} {A : Around} {E : Value → Shared → Prop} {h : Heap} {g : Array GenState} {d : Drawn} {t : Nat} {os : OsState}
variable {nm q : Str} {C N : Addr} {bs bm bmB : List Value} {hdct : Bool} {sn : List Str} {sub : List Value} {ab : Bool} {col : Option Bool} {dd : Option Addr} {k0 k1 k2 k3 k5 : Option Value} {B newId initId clsNew : String}
set_option maxRecDepth 100000

theorem check_init (F : ExcBaseFacts B newId initId bmB) (G : BaseOk B bm) {M : Model} {e : Addr} {oe : Obj} {rest : List Value} {Q : Unit → Shared → Prop}
    (hC : h.get? C = some (excClassObj nm q C N bs bm hdct sn sub ab col dd k0 k1 k2 k3 k5 clsNew)) (he : h.get? e = some oe) (hcls : oe.cls = .ref C) (hq : Q () ⟨h, g, d, t, os⟩) :
    wpAny M A (checkBuiltinCall initId ⟨.ref e :: rest, []⟩) Q E ⟨h, g, d, t, os⟩ := by
  have hcB : (Value.ref C :: bm).contains (.type B) = true := by rw [List.contains_cons, G.hasB, Bool.or_true]
  have hshort := F.noStar
  simp only [checkBuiltinCall, F.initKind, F.initSplit, F.initRow]
  repeat (first | (with_reducible refine wpAny_loadPart_at he ?_; rw [hcls]) | with_reducible refine wpAny_loadPart_at hC ?_ | (with_reducible refine wpAny_isSubtype_exc hC ?_; rw [hcB]) | wp_step)
  refine wpAny_onRaise ?_
  rw [show ∀ (a b : String) (n : Nat), Bind.check ⟨.positional, "*", B, .self, [⟨"args", .varPos, false⟩]⟩ a b n (List.map (fun x => x.fst) ({ pos := Value.ref e :: rest } : Args).kw) = pure () from
    fun a b n => check_star_args _ _ _ _ _ _]
  exact wpAny_pure hq

/-- the base's own __init__, called by its class upon an object of an own class -/
theorem base_init (F : ExcBaseFacts B newId initId bmB) (G : BaseOk B bm) {e t0 : Addr} {rest : List Value} {Q : Value → Shared → Prop}
    (hC : h.get? C = some (excClassObj nm q C N bs bm hdct sn sub ab col dd k0 k1 k2 k3 k5 clsNew)) (he : h.get? e = some (instOf C none t0))
    (hq : ∀ h' t2, h'.get? e = some (instOf C none t2) → (∀ b o, b ≠ e → h.get? b = some o → h'.get? b = some o) → Q .none ⟨h', g, d, t, os⟩) (hrest : rest.length ≤ sizeLine) :
    wpAny (model prog w) A (call (.builtin initId) (.ref e :: rest)) Q E ⟨h, g, d, t, os⟩ := by
  refine wpAny_call (codeAny_call_builtin F.init.plain F.initEntry (check_init F G hC he rfl ?_))
  wp_walk
  refine hq _ h.objs.size ?_ ?_
  · rw [Heap.get?_update_self _ (Heap.get?_push_of_some _ he) rfl]
    rfl
  · intro b o hb ho
    rw [Heap.get?_update_other _ _ (Ne.symm hb)]
    exact Heap.get?_push_of_some _ ho
end

section
variable {prog : Program} {w : World} {A : Around} {E : Value → Shared → Prop} {s : Shared} {K : Frag} {x C P : Addr} {name : Str} {v : Value} {cd : ClassData} {t0 : Addr}
set_option maxRecDepth 100000
/-- self.name = v, the first one, upon an object of an own class whose first base is own and whose built-in base is Exception -/
theorem set_fresh {Q : Unit → Shared → Prop} (X : K.In s.heap) (hx : s.heap.get? x = some (instOf C none t0)) (hc : clsIn K C = some cd)
    (hm : cd.mro = [.ref C, .ref P, .type "Exception", .type "BaseException", .type "object"]) (hdict : cd.hasDict = true)
    (hs : findIn K (.ref C) "__setattr__" = some (some (.builtin "object.__setattr__"))) (ht : takerIn K C name = some none)
    (h : ∀ h' tk' dx, h'.get? x = some (instOf C dx t0) → (∀ b o, b ≠ x → s.heap.get? b = some o → h'.get? b = some o) → Q () { s with heap := h', toks := tk' }) :
    wpAny (model prog w) A (setAttr (.ref x) name v) Q E s := by
  obtain ⟨hp, g, dr, tk, os⟩ := s
  dsimp only at hx X h
  have I : InstAt hp x (instOf C none t0) C none := ⟨hx, rfl, rfl, trivial⟩
  refine set_plain X I hs ?_
  have SF := PySem.F.store_Exception
  have ne : cd.mro.isEmpty = false := by rw [hm]; rfl
  have sub : Looks (model prog w) hp (isInstance (.ref x) (.type "object")) true := I.type.andThen (looks_mroIn X (by unfold mroIn; rw [hc, Option.bind_some, if_neg (by rw [ne]; decide), hm]; rfl))
  refine codeAny_call_builtin SF.slot.plain SF.entry (@check_slot (model prog w) _ _ _ "object.__setattr__" "object" "__setattr__" (.ref x) [.str name tk, v] [] _ SF.kind SF.split sub (SF.args (.ref x) (.str name tk) v) ?_)
  obtain ⟨attr, ha, hr⟩ := Option.bind_eq_some_iff.mp ht
  have hM : Looks (model prog w) hp (mroOf (.ref C)) cd.mro := (looks_clsIn X hc).andThen .now
  have L3 : Looks (model prog w) hp (storeTaker? attr) none := by
    cases attr with
    | none => cases hr; exact .now
    | some a =>
      obtain ⟨b, hb, he⟩ := Option.map_eq_some_iff.mp hr
      refine (looks_takesIn X hb).andThen ?_
      cases b
      · exact .now
      · cases he
  rw [osa_eq, refuse_eq]
  refine wpAny_bind (wpAny_bind (I.type.here (wpAny_bind (hM.here ?_))))
  rw [hm, refuseLoop_ref, refuseLoop_ref, SF.passes]
  refine wpAny_pure (wpAny_bind (I.type.here (wpAny_bind ((looks_findIn X ha).here (wpAny_bind (L3.here ?_))))))
  dsimp only
  refine wpAny_bind (wpAny_pure (wpAny_bind (wpAny_bind (wpAny_loadPart hx (wpAny_bind ((looks_clsIn X hc).here ?_))))))
  rw [hdict]
  have hx₁ : (hp.push { cls := .type "dict", data := .dict #[] }).get? x = some (instOf C none t0) := Heap.get?_push_of_some _ hx
  have hxs : x ≠ hp.objs.size := Nat.ne_of_lt (Heap.lt_size hx)
  refine wpAny_bind (wpAny_alloc' ?_)
  refine wpAny_bind (wpAny_update' hx₁ ?_)
  refine wpAny_pure ?_
  have hgd : ((hp.push { cls := .type "dict", data := .dict #[] }).update x fun o => { cls := o.cls, dict := some hp.objs.size, data := o.data, slots := o.slots }).get? hp.objs.size
      = some { cls := .type "dict", data := .dict #[] } :=
    (Heap.get?_update_ne _ _ _ _ hxs.symm).trans (Heap.get?_push_at rfl rfl)
  have hnd : ((hp.push { cls := .type "dict", data := .dict #[] }).update x fun o => { cls := o.cls, dict := some hp.objs.size, data := o.data, slots := o.slots }).Ns hp.objs.size (fun _ => none) :=
    ⟨_, #[], _, hgd, rfl, fun e he => absurd he (by simp), fun _ => rfl⟩
  show wpAny _ _ (storeInDict hp.objs.size (.str name tk) name v) _ _ _
  unfold storeInDict newKeyGuard
  refine wpAny_bind (wpAny_pure (wpAny_bind (wpAny_nsSet1 (Heap.Ns1.of_empty hnd) fun h' hn' hs' => ?_)))
  obtain ⟨oD, esD, epD, hoD, hdD, hcD⟩ := hn'.count (Within.cons name v Within.nil)
  refine wpAny_bind (wpAny_lookBehind hoD (by rw [hdD]; exact pastItsLine_dict (Nat.le_trans hcD (by rw [List.length_cons, List.length_nil, sizeLine_eq]; omega))) ?_)
  wp_walk
  refine h h' _ (some hp.objs.size) ?_ ?_
  · refine (hs'.2 x hxs).trans ((Heap.get?_update_self _ hx₁ rfl).trans ?_)
    rfl
  · intro b o hb ho
    exact (hs'.2 b (Nat.ne_of_lt (Heap.lt_size ho))).trans ((Heap.get?_update_ne _ _ _ _ hb).trans (Heap.get?_push_of_some _ ho))
end

section
variable {M : Model} {A : Around} {E : Value → Shared → Prop} {s : Shared} {env : Env}
/-- what a raise statement asks of the exception that was made -/
def RaisableI (C : Addr) (E : Value → Shared → Prop) (v : Value) (s₁ : Shared) : Prop :=
  ∃ (e t : Addr) (de : Option Addr) (nm q : Str) (N : Addr) (bs bm : List Value) (hdct : Bool) (sn : List Str) (sub : List Value) (ab : Bool) (col : Option Bool) (dd : Option Addr) (k0 k1 k2 k3 k5 : Option Value) (newId : String),
    bm.contains (.type "BaseException") = true ∧ v = .ref e ∧ s₁.heap.get? C = some (excClassObj nm q C N bs bm hdct sn sub ab col dd k0 k1 k2 k3 k5 newId) ∧ s₁.heap.get? e = some (instOf C de t) ∧ E (.ref e) s₁

theorem raise_inst {C : Addr} {x : Sem Value} {Q : Flow → Shared → Prop} (hh : A.handled = none) (h : wpAny M A x (RaisableI C E) E s) : wpAny M A (raiseStmt env (some x) none) Q E s := by
  unfold raiseStmt
  refine wpAny_bind (wpAny_mono h (fun v s₁ h₁ => ?_) fun _ _ x => x)
  obtain ⟨e, t, de, nm, q, N, bs, bm, hdct, sn, sub, ab, col, dd, k0, k1, k2, k3, k5, newId, hbase, rfl, hC, he, hE⟩ := h₁
  have hcB : (Value.ref C :: bm).contains (.type "BaseException") = true := by rw [List.contains_cons, hbase, Bool.or_true]
  obtain ⟨hp, g, d, tk, os⟩ := s₁
  repeat (first | with_reducible refine wpAny_loadPart_at he ?_ | with_reducible refine wpAny_loadPart_at hC ?_ | (with_reducible refine wpAny_isSubtype_exc hC ?_; rw [hcB]) | wp_step)
  exact wpAny_raiseNew_none hh hE

theorem Raise_inst {C : Addr} {ex : Expr} {pos : Pos} {Q : Flow → Shared → Prop} (hh : A.handled = none)
    (h : wpAny M A (eval ex env) (RaisableI C E) E s) : wpAny M A (exec (.Raise (some ex) none pos) env) Q E s := by
  show wpAny M A (do standAt pos; raiseStmt env (some (do let v ← eval ex env; standAt pos; pure v)) none) Q E s
  exact wpAny_bind (wpAny_standAt (raise_inst hh (wpAny_bind (wpAny_mono h (fun v s₁ h₁ => wpAny_bind (wpAny_standAt (wpAny_pure h₁))) fun _ _ x => x))))
end

section
variable {M : Model} {A : Around} {E : Value → Shared → Prop} {s' : Shared} {base g h : Heap} {outer : List Env} {L a e t : Addr} {m : Str → Option Value} {name : Str} {scope : Scope} {cd : Value} {Q : Unit → Shared → Prop} {news : List (Addr × Obj)} {C : Addr} {de : Option Addr}
/-- the first frame is left by a new object of an own class that may bear a dict -/
theorem leave_inst (K : Below A base outer g) (hk : ∀ b o, h.get? b = some o → s'.heap.get? b = some o) (hnew : h.get? e = none) (he : s'.heap.get? e = some (instOf C de t)) (F : Fr g L h m) (N : News g L h news)
    (hQ : ∀ h', RaisedSN base g outer e (.ref C) news h' → g.UpToSlots h' → Q () { s' with heap := h' }) (hf : scope.kind = .function := by rfl) :
    wpAny M (A.deeper (envOf name scope L a cd)) (leaving (envOf name scope L a cd) (.ref e)) Q E s' := by
  have K' := K.push (name := name) (a := a) (cd := cd) F hf
  let l := envOf name scope L a cd :: outer
  have st : base.StaysIn (hideAll h (l.filterMap (·.frame))) := fun b o q => hideAll_get _ (K'.stays b o q) fun hm => by
    rw [(K'.frames.mem hm).1] at q; cases q
  refine wpAny_leaving_firstW (base := hideAll h (l.filterMap (·.frame))) (a0 := .ref t) K'.stack ((funFrames_hide K'.frames fun env he b hb => List.mem_filterMap.mpr ⟨env, he, hb⟩).of_keeps fun b o hb _ => ⟨o, hk b o hb, rfl⟩) rfl he
    (fun b o hb => hk b o (of_hideAll _ hb)) ?_ rfl rfl rfl fun h' hL => ?_
  · cases q : (hideAll h (l.filterMap (·.frame))).get? e with
    | none => rfl
    | some o => have := of_hideAll _ q; rw [hnew] at this; cases this
  · obtain ⟨k1, ⟨_, _, k2⟩, k3, k4⟩ := hL
    refine hQ h' ⟨_, .ref t, st, fun b o q nm => hideAll_get _ (F.keep b o q) fun hm => ?_, fun q hq => ⟨hideAll_get _ (N q hq).1 fun hm => ?_, (N q hq).2.2, fresh_of_stays K.stays (N q hq).2.2⟩, k1, ?_, k2, k3⟩
      (((Heap.UpToSlots.of_keeps F.keep).trans (Heap.UpToSlots.of_keeps hk)).trans k4)
    · rcases kts_mem hm with z | z
      · rw [z, kts_self F] at q; cases q
      · exact nm z
    · rcases kts_mem hm with z | z
      · exact (N q hq).2.1 z
      · obtain ⟨o, ho, _⟩ := (K.frames.mem z).2
        rw [(N q hq).2.2] at ho; cases ho
    · cases q : (hideAll h (l.filterMap (·.frame))).get? e with
      | none => rfl
      | some o => have := of_hideAll _ q; rw [hnew] at this; cases this
end
end
section
local macro_rules | `(tactic| k_room) => `(tactic| ktr_room)
theorem meta_exc : typeOf (.type "Exception") = pure (.type "type") := by kernel_rfl
local macro_rules | `(tactic| walk_at "getMethod type:Exception") => `(tactic| (k_here; refine' method_type ?F ?X meta_exc (by decide +kernel) ?e ?h ?_; (case F => k_asm); (case X => k_asm); (case e => k_dflt k_is); (case h => k_handed)))
theorem fr_but {g h h' : Heap} {L e : Addr} {o : Obj} {m : Str → Option Value} {rest : List (Addr × Obj)} (F : Fr g L h m) (N : News g L h ((e, o) :: rest)) (hk : ∀ b o, b ≠ e → h.get? b = some o → h'.get? b = some o) : Fr g L h' m := by
  have D := N (e, o) (.head _)
  obtain ⟨oL, es, ep, hL, r⟩ := F.ns
  refine ⟨⟨oL, es, ep, hk _ _ (Ne.symm D.2.1) hL, r⟩, fun b x q => hk b x (fun z => ?_) (F.keep b x q), F.above⟩
  have := D.2.2
  rw [← z, q] at this
  cases this
theorem news_but {g h h' : Heap} {L e : Addr} {o o' : Obj} {rest : List (Addr × Obj)} (N : News g L h ((e, o) :: rest)) (he : h'.get? e = some o') : News g L h' [(e, o')] := fun q hq => by
  cases List.mem_singleton.mp hq
  exact ⟨he, (N (e, o) (.head _)).2⟩
theorem base_ok : BaseOk "Exception" [.ref 31, .type "Exception", .type "BaseException", .type "object"] := ⟨by decide, by decide, by decide, by decide⟩
set_option maxRecDepth 100000 in
set_option maxHeartbeats 1000000 in
theorem init (w : World) (p : Program) (loose : List Str) (mean : ExcName → Option Value) (mg mb : Str → Option Value) : CInit w (KK w) p loose mean mg mb 28 := by
  unfold CInit
  unfold prg KK
  k_fill
  intro dp un gd cn cs a ccd cl outer A₀ base h₀ L m s Q E e t0 x t1 vs B F X N T hk hd hu hret
  w_on
  refine wpAny_call ?_
  k_dflt (refine' code_defG ?k1 ?k2 ?k3 ?k4 ?k5 ?kA ?kF ?kK ?k6 ?k7 ?k8 ?k9 ?kB ?_ ?c2 ?c3 ?c4 ?c5; (case kA => exact rfl); (case kF => exact rfl); (case kK => assumption); (case k1 => k_asm); (case k2 => k_asm); (case k3 => k_asm); (case k4 => k_asm); (case k5 => k_asm); (case k6 => k_is); (case k7 => k_is); (case k8 => ktr_room); (case k9 => exact BindsTo.of_eq rfl); (case c5 => decide); (case kB => exact locs rfl); (case c2 => exact rfl); (case c3 => exact rfl); (case c4 => exact rfl); k_whole; intro g' L' h' FG' F' N' B' X' T' kG'; (try dsimp only); (try k_lift B'); (try k_fold))
  k_steps
  have hC := (X'.keeps F'.keep) 44 _ (by k_is)
  refine base_init PySem.F.excBase_Exception base_ok hC (N' _ (.head _)).1 (fun h2 t2 he2 hk2 => ?_) (by size_fits)
  have F2 := fr_but F' N' hk2
  have N2 := news_but N' he2
  dsimp only
  k_steps
  refine set_fresh ((X'.keeps F2.keep)) he2 (by k_is) rfl rfl (by k_is) (by k_is) (fun h3 tk3 dx he3 hk3 => ?_)
  have F3 := fr_but F2 N2 hk3
  have N3 := news_but N2 he3
  clear hk2 F2 N2 F' hC
  dsimp only
  k_steps
  exact hret _ _ dx t2 (by assumption) (by assumption) (fun b o hb ht hh => F3.keep b o (kG' b o hh (by simp [hb, ht])))
end
section
theorem ns_some {K : Frag} {h : Heap} {N : Addr} {n : Str} {v : Value} {mg : Str → Option Value} (X : K.In h) (G : h.Ns N mg) (e : nsIn K N n = some (some v)) : mg n = some v := by
  obtain ⟨o, es, ep, ho, hd, _, hf⟩ := G
  unfold nsIn at e
  split at e
  · rename_i c d es' n' sl q
    have := X _ _ q
    rw [ho] at this
    cases this
    cases hd
    split at e
    · rename_i en he
      cases e
      rw [← hf]
      unfold nsFind findBy
      rw [← Array.find?_toList, he]
      rfl
    · split at e <;> cases e
  · cases e
local macro_rules | `(tactic| k_room) => `(tactic| ktr_room)
set_option maxRecDepth 100000 in
set_option maxHeartbeats 1000000 in
theorem make_scan (w : World) (p : Program) (loose : List Str) (mean : ExcName → Option Value) (mg mb : Str → Option Value)
    {dp un : Nat} {gd : Option (List Code)} {cn : Str} {cs : Scope} {a : Addr} {ccd : Value} {cl : List (Str × Addr)} {outer : List Env} {A₀ : Around} {base h₀ : Heap} {L : Addr} {m : Str → Option Value} {s : Shared} {Q E : Value → Shared → Prop}
    {x : Str} {t1 : Nat} (B : Below A₀ base outer h₀) (F : Fr h₀ L s.heap m) (X : (KK w).In h₀) (T : Top p loose mean mg mb h₀) (hk : cs.kind = .function) (hd : dp + 7 < recursionLimit) (hu : un + 95 < cLine)
    (hq : ∀ (e t : Addr) (dd : Option Addr) (h' : Heap) (tk' : Nat), (∀ b o, s.heap.get? b = some o → h'.get? b = some o) → s.heap.get? e = none → h'.get? e = some (instOf 44 dd t) → Q (.ref e) { s with heap := h', toks := tk' }) :
    wpAny (model prg w) (ktrTop dp un gd cn cs L a ccd cl outer) (call (.ref 44) [.str x t1]) Q E s := by
  have I := init w p loose mean mg mb
  unfold CInit at I
  revert I
  unfold prg KK at *
  k_fill
  intro I
  obtain ⟨h, g, d, t, os⟩ := s
  have Y := X.keeps F.keep
  dsimp only at F Y hq
  have o1 : h.isNs 43 = true := by
    unfold Heap.isNs
    rw [Y 43 _ (by k_is)]
    first | with_unfolding_all rfl | simp
  have o2 : h.isNs 30 = true := by
    unfold Heap.isNs
    rw [Y 30 _ (by k_is)]
    first | with_unfolding_all rfl | simp
  refine make_exc PySem.F.excBase_Exception base_ok (Y 44 _ (by k_is)) (.of_isNs o1) (ns_none_of Y (.of_isNs o1) (by k_is)) (Y 31 _ (by k_is)) (.of_isNs o2) (ns_some Y (.of_isNs o2) (by k_is)) (Y 28 _ (by k_is)) rfl (fun h' e hm => ?_) (by size_fits)
  obtain ⟨hkp, hnew, t0, he, htn, ht⟩ := hm
  have F1 := Fr.keeps F hkp
  have n0 : h₀.get? e = none := by
    cases q : h₀.get? e with
    | none => rfl
    | some o => have := F.keep _ _ q; rw [hnew] at this; cases this
  have n1 : h₀.get? t0 = none := by
    cases q : h₀.get? t0 with
    | none => rfl
    | some o => have := F.keep _ _ q; rw [htn] at this; cases this
  have N1 : News h₀ L h' [(e, scanOf none t0), (t0, { cls := .type "tuple", data := .seq [Value.str x t1].toArray })] :=
    News.more F1 (News.more F1 News.nil ht (fun _ _ q => by cases q) n1) he (fun _ _ q => by cases q) n0
  refine I _ _ _ _ _ _ _ _ _ _ _ _ _ _ ⟨h', g, d, t, os⟩ _ _ e t0 x t1 _ B F1 X N1 T hk ?_ ?_ (fun tk' h2 dd t2 F2 N2 hk2 => ⟨rfl, ?_⟩)
  · show dp + _ + 5 < recursionLimit
    have : (Code.builtin "type.__call__" ⟨[Value.ref 44, .str x t1], []⟩).weight ≤ 2 := by first | exact Nat.le_of_ble_eq_true rfl | decide
    omega
  · show un + _ + 90 < cLine
    have : (Code.builtin "type.__call__" ⟨[Value.ref 44, .str x t1], []⟩).cUnits ≤ 5 := by first | exact Nat.le_of_ble_eq_true rfl | decide
    omega
  · refine hq e t2 dd h2 tk' (fun b o hb => hk2 b o (fun z => ?_) (fun z => ?_) (hkp b o hb)) hnew (N2 _ (.head _)).1
    · rw [z, hnew] at hb; cases hb
    · rw [z, htn] at hb; cases hb
end
section
/-- as COut, in a frame that stands right on the ground -/
def COutLow (w : World) (K : Frag) (p : Program) (loose : List Str) (mean : ExcName → Option Value) (mg mb : Str → Option Value) (f : Addr) : Prop :=
  ∀ (dp un : Nat) (gd : Option (List Code)) (cn : Str) (cs : Scope) (a : Addr) (ccd : Value) (cl : List (Str × Addr)) (A₀ : Around) (h₀ : Heap) (L : Addr) (m : Str → Option Value) (s : Shared) (Q E : Value → Shared → Prop)
    (many interval : Int) (t1 t2 : Nat) (news : Led),
    Below A₀ h₀ [] h₀ → Fr h₀ L s.heap m → K.In h₀ → News h₀ L s.heap news → Top p loose mean mg mb h₀ → cs.kind = .function → cl = [] →
    (interval < 0 ∨ 65535 < interval) → dp + 12 < recursionLimit → un + 120 < cLine →
    (∀ (t tk' : Nat) (h' : Heap), Fr h₀ L h' m → News h₀ L h' news → Q (.str (Str.ofString "refused") t) { s with heap := h', toks := tk' }) →
    wpAny (model prg w) (ktrTop dp un gd cn cs L a ccd cl []) (call (.ref f) [.int many t1, .int interval t2]) Q E s

theorem raisable_scan {K : Frag} {E : Value → Shared → Prop} {s₁ : Shared} {e t : Addr} {dd : Option Addr} (X : K.In s₁.heap) {nm q : Str} {N : Addr} {bs bm : List Value} {hdct : Bool} {sn : List Str} {sub : List Value} {ab : Bool} {col : Option Bool} {dd' : Option Addr} {k0 k1 k2 k3 k5 : Option Value} {newId : String}
    (hC : K.lookup 44 = some (excClassObj nm q 44 N bs bm hdct sn sub ab col dd' k0 k1 k2 k3 k5 newId)) (hb : bm.contains (.type "BaseException") = true) (he : s₁.heap.get? e = some (instOf 44 dd t)) (hE : E (.ref e) s₁) : RaisableI 44 E (.ref e) s₁ :=
  ⟨e, t, dd, nm, q, N, bs, bm, hdct, sn, sub, ab, col, dd', k0, k1, k2, k3, k5, newId, hb, rfl, X _ _ hC, he, hE⟩
/-- an exception in flight leaves one more frame, be it one with cells -/
theorem leave_on_any {M : Model} {A : Around} {E : Value → Shared → Prop} {s' : Shared} {base g g₂ : Heap} {env : Env} {outer : List Env} {L e : Addr} {m : Str → Option Value} {Q : Unit → Shared → Prop} {news : List (Addr × Obj)} {cls : Value}
    (hf : env.frame = some L) (hs : (A.deeper env).frames = some (env :: outer)) (F : Fr g L g₂ m) (R : RaisedSN base g₂ (env :: outer) e cls news s'.heap) (hsm : g₂.UpToSlots s'.heap)
    (hQ : ∀ h', RaisedSN base g outer e cls news h' → g.UpToSlots h' → Q () { s' with heap := h' }) : wpAny M (A.deeper env) (leaving env (.ref e)) Q E s' := by
  obtain ⟨B, a0, hB, hBG, hl, hfl⟩ := R
  refine wpAny_leaves_onW hs hf hfl fun h' x1 x2 => hQ h' ⟨B, a0, hB, fun b o q nm => hBG b o (F.keep b o q) fun hm => ?_, fun q hq => ⟨(hl q hq).1, kts_none F.keep (hl q hq).2.1, (hl q hq).2.2⟩, x1⟩
    ((Heap.UpToSlots.of_keeps F.keep).trans (hsm.trans x2))
  rw [List.filterMap_cons_some hf] at hm
  rcases List.mem_cons.mp hm with z | z
  · rw [z, kts_self F] at q; cases q
  · exact nm z
local macro_rules | `(tactic| k_room) => `(tactic| ktr_room)
local macro_rules | `(tactic| walk_at "exec Raise some none") => `(tactic| (k_here; k_dflt (refine Raise_inst (C := 44) rfl ?_)))
set_option maxRecDepth 100000 in
set_option maxHeartbeats 1000000 in
theorem toldOut (w : World) (p : Program) (loose : List Str) (mean : ExcName → Option Value) (mg mb : Str → Option Value) : COutLow w (KK w) p loose mean mg mb 77 := by
  have MS := @make_scan w p loose mean mg mb
  revert MS
  unfold COutLow
  unfold prg KK
  k_fill
  intro MS dp un gd cn cs a ccd cl A₀ h₀ L m s Q E many interval t1 t2 news B F X N T hk hcl hi hd hu hret
  subst hcl
  w_on
  refine wpAny_call ?_
  k_dflt (refine' code_defS0 ?k1 ?k2 ?k3 ?k4 ?k5 ?kA ?k6 ?k7 ?k8 ?k9 ?kB ?_ ?cK ?c2 ?c3 ?c4 ?c5; (case kA => exact rfl); (case k2 => k_asm); (case k1 => k_asm); (case k3 => k_asm); (case k4 => k_asm); (case k5 => k_asm); (case k6 => k_is); (case k7 => k_is); (case k8 => k_room); (case k9 => exact BindsTo.of_eq rfl); (case kB => exact locs rfl); (case cK => assumption); (case c2 => exact rfl); (case c3 => exact rfl); (case c4 => exact rfl); (case c5 => decide); k_whole; intro g' L' h' FG' F' N' B' X' T' D'; (try dsimp only); (try k_lift B'); (try k_fold))
  rcases hi with hi | hi
  · k_steps
    refine MS (by k_asm) (by k_asm) (by k_asm) (by k_asm) rfl (by ktr_room) (by ktr_units) (fun e1 e2 dd1 h1 tk1 kp1 en1 he1 => ?_)
    refine raisable_scan (K := Mine.hd.heap_39 w.params) ?xIn (by k_is) (by decide) he1 ?xE
    case xIn => exact (Frag.In.keeps (Frag.In.keeps (h := _) (by assumption) (Fr.keep (by assumption))) kp1)
    case xE =>
      k_unfold
      try dsimp only
      refine leave_inst (by assumption) kp1 en1 he1 (by assumption) (by assumption) (fun h' R' U' => ?_)
      try dsimp only at R' U' ⊢
      k_steps
      refine leave_on_any rfl rfl (by assumption) R' U' (fun h' R' U' => ?_)
      try dsimp only at R' U' ⊢
      k_steps
      rename News h₀ L _ _ => kN9
      exact hret _ _ _ (by assumption) (fun q hq => kN9 q (.tail _ (.tail _ hq)))
  · k_steps
    refine MS (by k_asm) (by k_asm) (by k_asm) (by k_asm) rfl (by ktr_room) (by ktr_units) (fun e1 e2 dd1 h1 tk1 kp1 en1 he1 => ?_)
    refine raisable_scan (K := Mine.hd.heap_39 w.params) ?xIn (by k_is) (by decide) he1 ?xE
    case xIn => exact (Frag.In.keeps (Frag.In.keeps (h := _) (by assumption) (Fr.keep (by assumption))) kp1)
    case xE =>
      k_unfold
      try dsimp only
      refine leave_inst (by assumption) kp1 en1 he1 (by assumption) (by assumption) (fun h' R' U' => ?_)
      try dsimp only at R' U' ⊢
      k_steps
      refine leave_on_any rfl rfl (by assumption) R' U' (fun h' R' U' => ?_)
      try dsimp only at R' U' ⊢
      k_steps
      rename News h₀ L _ _ => kN9
      exact hret _ _ _ (by assumption) (fun q hq => kN9 q (.tail _ (.tail _ hq)))
end
section
local macro_rules | `(tactic| walk_at "pyIter ref") => `(tactic| (k_here; (with_reducible show wpAny _ _ (pyIter (Value.ref _)) (fun it s₂ => LoopAtV _ _ _ _ _ _ _ _ _ it s₂) _ _); refine Halt.out ?_))
local macro_rules | `(tactic| walk_at "exec For Name Call cons nil") => `(tactic| (k_here; (rename Fr _ _ _ _ => lF'); (with_unfolding_all refine' For_invVF lF' ?k1 ?k2 ?_; (case k1 => exact rfl); (case k2 => exact rfl); k_whole)))
local macro_rules | `(tactic| walk_at "call ref") => `(tactic| (k_here; (with_reducible show wpAny _ _ (call (Value.ref 65) _) _ _ _); k_dflt (refine' mill _ _ _ _ _ _ _ _ _ _ _ _ _ _ _ _ _ _ _ _ _ _ _ _ _ _ ?k1 ?k2 ?k3 ?k4 ?k5 ?k6 ?k7 ?k8 ?k9 ?k10 ?k11 ?_; (case k1 => k_asm); (case k2 => k_asm); (case k3 => k_asm); (case k4 => k_asm); (case k5 => k_asm); (case k6 => exact rfl); (case k7 => assumption); (case k8 => assumption); (case k9 => omega); (case k10 => first | decide | k_room); (case k11 => first | decide | ke_room); intro d9 x9 y9 tx9 ty9 n9 tk9 h9 F9 N9 hx9 hy9 hz9; (try dsimp only); (try k_fold))))
section
variable {w : World} {p : Program} {loose : List Str} {mean : ExcName → Option Value} {mg mb : Str → Option Value} {dp un : Nat} {gd : Option (List Code)} {cn : Str} {cs : Scope} {a : Addr} {ccd : Value} {cl : List (Str × Addr)} {outer : List Env} {A₀ : Around} {base h₀ : Heap} {L : Addr} {m : Str → Option Value} {s : Shared} {Q E : Value → Shared → Prop}
  {l d1 d2 : Addr} {o1 o2 o3 o4 : Obj} {x y k : Int} {tx ty tk n : Nat} {pre : Led}
theorem grist0 (B : Below A₀ base outer h₀) (F : Fr h₀ L s.heap m) (X : (KK w).In h₀) (N : News h₀ L s.heap ((pre ++ [(l, millOf x y tx ty n)]))) (hp : ∀ q ∈ pre, l ≠ q.1) (T : Top p loose mean mg mb h₀) (hk : cs.kind = .function)
    (hx : 0 ≤ x) (hy : 0 ≤ y) (hz : y < 66000) (hk0 : 0 < k) (hk1 : k < 100) (hd : dp + 1 < recursionLimit) (hu : un + 8 < cLine)
    (hret : ∀ (r x' y' : Int) (tr tx' ty' n' tk' : Nat) (h' : Heap), Fr h₀ L h' m → News h₀ L h' ((pre ++ [(l, millOf x' y' tx' ty' n')])) → 0 ≤ r → r < k → 0 ≤ x' → 0 ≤ y' → y' < 66000 → Q (.int r tr) { s with heap := h', toks := tk' }) :
    wpAny (model prg w) (ktrTop dp un gd cn cs L a ccd cl outer) (call (.ref 72) [.ref l, .int k tk]) Q E s := by
  exact gristN w p loose mean mg mb _ _ _ _ _ _ _ _ _ _ _ _ _ _ _ _ _ l x y k tx ty tk n pre B F X N hp T hk hx hy hz hk0 hk1 hd hu hret
theorem grist1 (B : Below A₀ base outer h₀) (F : Fr h₀ L s.heap m) (X : (KK w).In h₀) (N : News h₀ L s.heap ((d1, o1) :: (pre ++ [(l, millOf x y tx ty n)]))) (hp : ∀ q ∈ pre, l ≠ q.1) (l1 : ∀ q ∈ pre ++ [(l, o3)], q.1 < d1) (T : Top p loose mean mg mb h₀) (hk : cs.kind = .function)
    (hx : 0 ≤ x) (hy : 0 ≤ y) (hz : y < 66000) (hk0 : 0 < k) (hk1 : k < 100) (hd : dp + 1 < recursionLimit) (hu : un + 8 < cLine)
    (hret : ∀ (r x' y' : Int) (tr tx' ty' n' tk' : Nat) (h' : Heap), Fr h₀ L h' m → News h₀ L h' ((d1, o1) :: (pre ++ [(l, millOf x' y' tx' ty' n')])) → 0 ≤ r → r < k → 0 ≤ x' → 0 ≤ y' → y' < 66000 → Q (.int r tr) { s with heap := h', toks := tk' }) :
    wpAny (model prg w) (ktrTop dp un gd cn cs L a ccd cl outer) (call (.ref 72) [.ref l, .int k tk]) Q E s := by
  refine gristN w p loose mean mg mb _ _ _ _ _ _ _ _ _ _ _ _ _ _ _ _ _ l x y k tx ty tk n ((d1, o1) :: pre) B F X N (fun q hq => ?_) T hk hx hy hz hk0 hk1 hd hu hret
  rcases List.mem_cons.mp hq with rfl | hq
  · exact Nat.ne_of_lt (l1 _ (List.mem_append_right _ (.head _)))
  · exact hp q hq
theorem grist2 (B : Below A₀ base outer h₀) (F : Fr h₀ L s.heap m) (X : (KK w).In h₀) (N : News h₀ L s.heap ((d2, o2) :: (d1, o1) :: (pre ++ [(l, millOf x y tx ty n)]))) (hp : ∀ q ∈ pre, l ≠ q.1) (l1 : ∀ q ∈ pre ++ [(l, o3)], q.1 < d1) (l2 : d1 < d2 ∧ AllLt d2 (pre ++ [(l, o4)])) (T : Top p loose mean mg mb h₀) (hk : cs.kind = .function)
    (hx : 0 ≤ x) (hy : 0 ≤ y) (hz : y < 66000) (hk0 : 0 < k) (hk1 : k < 100) (hd : dp + 1 < recursionLimit) (hu : un + 8 < cLine)
    (hret : ∀ (r x' y' : Int) (tr tx' ty' n' tk' : Nat) (h' : Heap), Fr h₀ L h' m → News h₀ L h' ((d2, o2) :: (d1, o1) :: (pre ++ [(l, millOf x' y' tx' ty' n')])) → 0 ≤ r → r < k → 0 ≤ x' → 0 ≤ y' → y' < 66000 → Q (.int r tr) { s with heap := h', toks := tk' }) :
    wpAny (model prg w) (ktrTop dp un gd cn cs L a ccd cl outer) (call (.ref 72) [.ref l, .int k tk]) Q E s := by
  refine gristN w p loose mean mg mb _ _ _ _ _ _ _ _ _ _ _ _ _ _ _ _ _ l x y k tx ty tk n ((d2, o2) :: (d1, o1) :: pre) B F X N (fun q hq => ?_) T hk hx hy hz hk0 hk1 hd hu hret
  have l3 : l < d1 := l1 _ (List.mem_append_right _ (.head _))
  rcases List.mem_cons.mp hq with rfl | hq
  · exact Nat.ne_of_lt (Nat.lt_trans l3 l2.1)
  rcases List.mem_cons.mp hq with rfl | hq
  · exact Nat.ne_of_lt l3
  · exact hp q hq
end
local macro_rules | `(tactic| walk_at "call ref") => `(tactic| (k_here; (with_reducible show wpAny _ _ (call (Value.ref 72) _) _ _ _); k_dflt (first | (refine' grist0 ?k1 ?k2 ?k3 ?k4 ?k5 ?k6 ?k7 ?k8 ?k9 ?k10 (by decide) (by decide) ?k11 ?k12 ?_; (case k1 => k_asm); (case k2 => k_asm); (case k3 => k_asm); (case k4 => k_asm); (case k5 => assumption); (case k6 => k_asm); (case k7 => exact rfl); (case k8 => assumption); (case k9 => assumption); (case k10 => assumption); (case k11 => first | decide | k_room); (case k12 => first | decide | ke_room)) | (refine' grist1 ?k1 ?k2 ?k3 ?k4 ?k5 ?l1 ?k6 ?k7 ?k8 ?k9 ?k10 (by decide) (by decide) ?k11 ?k12 ?_; (case k1 => k_asm); (case k2 => k_asm); (case k3 => k_asm); (case k4 => k_asm); (case k5 => assumption); (case l1 => assumption); (case k6 => k_asm); (case k7 => exact rfl); (case k8 => assumption); (case k9 => assumption); (case k10 => assumption); (case k11 => first | decide | k_room); (case k12 => first | decide | ke_room)) | (refine' grist2 ?k1 ?k2 ?k3 ?k4 ?k5 ?l1 ?l2 ?k6 ?k7 ?k8 ?k9 ?k10 (by decide) (by decide) ?k11 ?k12 ?_; (case k1 => k_asm); (case k2 => k_asm); (case k3 => k_asm); (case k4 => k_asm); (case k5 => assumption); (case l1 => assumption); (case l2 => assumption); (case k6 => k_asm); (case k7 => exact rfl); (case k8 => assumption); (case k9 => assumption); (case k10 => assumption); (case k11 => first | decide | k_room); (case k12 => first | decide | ke_room)) | refine Halt.out ?_); (try (intro r9 x9 y9 tr9 tx9 ty9 n9 tk9 h9 F9 N9 hr9 hs9 hx9 hy9 hz9; (try dsimp only); (try k_fold)))))
section
variable {w : World} {p : Program} {loose : List Str} {mean : ExcName → Option Value} {mg mb : Str → Option Value} {dp un : Nat} {gd : Option (List Code)} {cn : Str} {cs : Scope} {a : Addr} {ccd : Value} {A₀ : Around} {h₀ : Heap} {L : Addr} {m : Str → Option Value} {s : Shared} {Q E : Value → Shared → Prop}
  {many interval : Int} {t1 t2 : Nat} {news tl tl2 : Led}
theorem told_any (B : Below A₀ h₀ [] h₀) (F : Fr h₀ L s.heap m) (X : (KK w).In h₀) (N : News h₀ L s.heap news) (T : Top p loose mean mg mb h₀) (hk : cs.kind = .function) (hm0 : 0 ≤ many) (hm1 : many < 1000) (hd : dp + 12 < recursionLimit) (hu : un + 120 < cLine)
    (h1 : 0 ≤ interval → interval ≤ 65535 → ∀ (d : Addr) (vs : List Value) (n tk' : Nat) (tl : Led) (h' : Heap), Fr h₀ L h' m → News h₀ L h' (tl ++ news) → (d, listOf vs.toArray n) ∈ tl → DatAll tl vs (spansD many interval) → Q (.ref d) { s with heap := h', toks := tk' })
    (h2 : interval < 0 ∨ 65535 < interval → ∀ (t tk' : Nat) (h' : Heap), Fr h₀ L h' m → News h₀ L h' news → Q (.str (Str.ofString "refused") t) { s with heap := h', toks := tk' }) :
    wpAny (model prg w) (ktrTop dp un gd cn cs L a ccd [] []) (call (.ref 77) [.int many t1, .int interval t2]) Q E s := by
  by_cases hi : interval < 0 ∨ 65535 < interval
  · exact toldOut w p loose mean mg mb _ _ _ _ _ _ _ _ _ _ _ _ _ _ _ _ _ _ _ _ B F X N T hk rfl hi hd hu (h2 hi)
  · exact toldIn w p loose mean mg mb _ _ _ _ _ _ _ _ _ _ _ _ _ _ _ _ _ _ _ _ _ _ B F X N T hk hm0 hm1 (by omega) (by omega) (by omega) (by omega) (h1 (by omega) (by omega))
theorem due_in (B : Below A₀ h₀ [] h₀) (F : Fr h₀ L s.heap m) (X : (KK w).In h₀) (N : News h₀ L s.heap news) (T : Top p loose mean mg mb h₀) (hk : cs.kind = .function) (hm0 : 0 ≤ many) (hm1 : many < 1000) (hd : dp + 12 < recursionLimit) (hu : un + 120 < cLine) (hi0 : 0 ≤ interval) (hi1 : interval ≤ 65535)
    (h1 : ∀ (d : Addr) (vs : List Value) (n tk' : Nat) (tl : Led) (h' : Heap), Fr h₀ L h' m → News h₀ L h' (tl ++ news) → (d, listOf vs.toArray n) ∈ tl → DatAll tl vs (dueD many interval) → Q (.ref d) { s with heap := h', toks := tk' }) :
    wpAny (model prg w) (ktrTop dp un gd cn cs L a ccd [] []) (call (.ref 82) [.int many t1, .int interval t2]) Q E s :=
  dueIn w p loose mean mg mb _ _ _ _ _ _ _ _ _ _ _ _ _ _ _ _ _ _ _ _ _ _ B F X N T hk hm0 hm1 hi0 hi1 (by omega) (by omega) h1
theorem due_out (B : Below A₀ h₀ [] h₀) (F : Fr h₀ L s.heap m) (X : (KK w).In h₀) (N : News h₀ L s.heap news) (T : Top p loose mean mg mb h₀) (hk : cs.kind = .function) (hd : dp + 12 < recursionLimit) (hu : un + 120 < cLine) (hi : interval < 0 ∨ 65535 < interval)
    (h2 : ∀ (t tk' : Nat) (h' : Heap), Fr h₀ L h' m → News h₀ L h' news → Q (.str (Str.ofString "refused") t) { s with heap := h', toks := tk' }) :
    wpAny (model prg w) (ktrTop dp un gd cn cs L a ccd [] []) (call (.ref 82) [.int many t1, .int interval t2]) Q E s :=
  dueOut w p loose mean mg mb _ _ _ _ _ _ _ _ _ _ _ _ _ _ _ _ _ _ _ _ _ _ B F X N T hk hi (by omega) (by omega) h2
theorem pairs_ok {d : Dat} (h : d ∈ spansD many interval) : kqdOk 8 d = true := by
  obtain ⟨x, y, rfl⟩ := spansD_all h
  rfl
theorem ne_spans {prog : Program} {A : Around} {da db : Addr} {xs ys : List Value} {ka kb : Nat} (N : News h₀ L s.heap (tl2 ++ (tl ++ news))) (ma : (da, listOf xs.toArray ka) ∈ tl) (Da : DatAll tl xs (spansD many interval))
    (mb : (db, listOf ys.toArray kb) ∈ tl2) (Db : DatAll tl2 ys (dueD many interval)) (hm0 : 0 ≤ many) (hi0 : 0 ≤ interval) (hu : A.units + 64 < cLine) (h : Q (.bool false) s) : wpAny (model prog w) A (compareOp .NotEq (.ref da) (.ref db)) Q E s := by
  refine kqd_ne N (List.mem_append_right _ (List.mem_append_left _ ma)) rfl rfl Da (fun _ q => List.mem_append_right _ (List.mem_append_left _ q)) (List.mem_append_left _ mb) rfl rfl Db (fun _ q => List.mem_append_left _ q)
    (fun d hd => pairs_ok hd) (fun d hd => pairs_ok (by rw [spans_due hm0 hi0]; exact hd)) hu ?_
  simp only [spans_due hm0 hi0, eq_self, decide_true, Bool.not_true]
  exact h
theorem pick_lo {a b : Int} {k : Nat} (ha : 0 ≤ a) (hb : 0 ≤ b) : 0 ≤ [a, b].getD k 0 := by
  rcases k with _ | _ | k
  · exact ha
  · exact hb
  · exact Int.le_refl _
theorem pick_hi {a b : Int} {k : Nat} (ha : a < 61) (hb : b < 9) : [a, b].getD k 0 < 1000 := by
  rcases k with _ | _ | k
  · show a < 1000; omega
  · show b < 1000; omega
  · show (0 : Int) < 1000; decide
end
local macro_rules | `(tactic| walk_at "call ref") => `(tactic| (k_here; (with_reducible show wpAny _ _ (call (Value.ref 77) _) _ _ _); k_dflt (refine' told_any ?k1 ?k2 ?k3 ?k4 ?k5 ?k6 ?k7 ?k8 ?k9 ?k10 ?_ ?_; (case k1 => k_asm); (case k2 => k_asm); (case k3 => k_asm); (case k4 => k_asm); (case k5 => k_asm); (case k6 => exact rfl); (case k7 => exact pick_lo (by assumption) (by assumption)); (case k8 => exact pick_hi (by assumption) (by assumption)); (case k9 => first | decide | k_room); (case k10 => first | decide | ke_room)); (first | (intro hi8 hj8 d8 vs8 n8 tk8 tl8 h8 F8 N8 hd8 hv8; (try dsimp only); (try k_fold)) | (intro hi8 t8 tk8 h8 F8 N8; (try dsimp only); (try k_fold)))))
local macro_rules | `(tactic| walk_at "call ref") => `(tactic| (k_here; (with_reducible show wpAny _ _ (call (Value.ref 82) _) _ _ _); k_dflt (first | (refine' due_in ?k1 ?k2 ?k3 ?k4 ?k5 ?k6 ?k7 ?k8 ?k9 ?k10 ?k11 ?k12 ?_; (case k11 => assumption); (case k12 => assumption); (case k1 => k_asm); (case k2 => k_asm); (case k3 => k_asm); (case k4 => k_asm); (case k5 => k_asm); (case k6 => exact rfl); (case k7 => exact pick_lo (by assumption) (by assumption)); (case k8 => exact pick_hi (by assumption) (by assumption)); (case k9 => first | decide | k_room); (case k10 => first | decide | ke_room); intro d8 vs8 n8 tk8 tl8 h8 F8 N8 hd8 hv8; (try dsimp only); (try k_fold)) | (refine' due_out ?k1 ?k2 ?k3 ?k4 ?k5 ?k6 ?k9 ?k10 ?k11 ?_; (case k11 => assumption); (case k1 => k_asm); (case k2 => k_asm); (case k3 => k_asm); (case k4 => k_asm); (case k5 => k_asm); (case k6 => exact rfl); (case k9 => first | decide | k_room); (case k10 => first | decide | ke_room); intro t8 tk8 h8 F8 N8; (try dsimp only); (try k_fold)))))
local macro_rules | `(tactic| walk_at "compareOp NotEq ref ref") => `(tactic| (k_here; (with_reducible show wpAny _ _ (compareOp CmpOp.NotEq (Value.ref _) (Value.ref _)) _ _ _); k_dflt (refine' ne_spans ?k1 ?k2 ?k3 ?k4 ?k5 ?k6 ?k7 ?k8 ?_; (case k1 => k_asm); (case k2 => assumption); (case k3 => assumption); (case k4 => assumption); (case k5 => assumption); (case k6 => exact pick_lo (by assumption) (by assumption)); (case k7 => assumption); (case k8 => first | decide | ke_room); k_whole)))
theorem mid_swap {g h : Heap} {L : Addr} {q : Addr × Obj} {own : Led} (N : News g L h ([q] ++ own)) : News g L h (own ++ [q]) := fun z hz => N z (by
  simp only [List.mem_append, List.mem_singleton] at hz ⊢
  exact hz.symm)
/-- what stands at the start of each turn of the law -/
def TurnJ (l : Addr) (m₀ : Str → Option Value) (m : Str → Option Value) (nx : Led) : Prop :=
  (∃ a b c e : Option Value, m = fun y => if y = Str.ofString "interval" then a else if y = Str.ofString "near" then b else if y = Str.ofString "many" then c else if y = Str.ofString "turn" then e else m₀ y) ∧
    ∃ (x y : Int) (tx ty n : Nat), nx = [(l, millOf x y tx ty n)] ∧ 0 ≤ x ∧ 0 ≤ y ∧ y < 66000
theorem turn_first {l : Addr} {m₀ : Str → Option Value} {x y : Int} {tx ty n : Nat} (hx : 0 ≤ x) (hy : 0 ≤ y) (hz : y < 66000) : TurnJ l m₀ m₀ [(l, millOf x y tx ty n)] :=
  ⟨⟨m₀ (Str.ofString "interval"), m₀ (Str.ofString "near"), m₀ (Str.ofString "many"), m₀ (Str.ofString "turn"), by
    funext y
    split
    · rename_i z; rw [z]
    · split
      · rename_i z; rw [z]
      · split
        · rename_i z; rw [z]
        · split
          · rename_i z; rw [z]
          · rfl⟩, x, y, tx, ty, n, rfl, hx, hy, hz⟩
theorem turn_next {l : Addr} {m₀ : Str → Option Value} {v1 v2 v3 v4 a b c e : Option Value} {x y : Int} {tx ty n : Nat} (hx : 0 ≤ x) (hy : 0 ≤ y) (hz : y < 66000) :
    TurnJ l m₀ (fun y => if y = Str.ofString "interval" then v1 else if y = Str.ofString "near" then v2 else if y = Str.ofString "many" then v3 else if y = Str.ofString "turn" then v4 else
      if y = Str.ofString "interval" then a else if y = Str.ofString "near" then b else if y = Str.ofString "many" then c else if y = Str.ofString "turn" then e else m₀ y) [(l, millOf x y tx ty n)] :=
  ⟨⟨v1, v2, v3, v4, by
    funext y
    by_cases h1 : y = Str.ofString "interval"
    · simp only [if_pos h1]
    · by_cases h2 : y = Str.ofString "near"
      · simp only [if_neg h1, if_pos h2]
      · by_cases h3 : y = Str.ofString "many"
        · simp only [if_neg h1, if_neg h2, if_pos h3]
        · by_cases h4 : y = Str.ofString "turn"
          · simp only [if_neg h1, if_neg h2, if_neg h3, if_pos h4]
          · simp only [if_neg h1, if_neg h2, if_neg h3, if_neg h4]⟩, x, y, tx, ty, n, rfl, hx, hy, hz⟩
theorem end_mill {a b q : Addr × Obj} {own : Led} : ∀ p ∈ [q], p ∈ a :: b :: (own ++ [q]) := fun _ hp => .tail _ (.tail _ (List.mem_append_right _ hp))
theorem end_own {a b q : Addr × Obj} {own : Led} : ∀ p ∈ own, p ∈ a :: b :: (own ++ [q]) := fun _ hp => .tail _ (.tail _ (List.mem_append_left _ hp))
theorem end_mill2 {a b q : Addr × Obj} {own tl tl2 : Led} : ∀ p ∈ [q], p ∈ tl2 ++ (tl ++ (a :: b :: (own ++ [q]))) := fun p hp => List.mem_append_right _ (List.mem_append_right _ (end_mill p hp))
theorem end_own2 {a b q : Addr × Obj} {own tl tl2 : Led} : ∀ p ∈ own, p ∈ tl2 ++ (tl ++ (a :: b :: (own ++ [q]))) := fun p hp => List.mem_append_right _ (List.mem_append_right _ (end_own p hp))
set_option maxRecDepth 100000 in
set_option maxHeartbeats 8000000 in
theorem law_holds : PySem.Challenge.rw_xm0794_01.Holds := hd (by
  k_go0
  all_goals (try k_fold)
  k_steps
  unfold Halt
  rename IsRange _ _ _ _ _ _ _ _ => hr
  refine range_loop (n := 5) (fun _ m nx => TurnJ _ _ m nx) rfl hr (small_one (by decide) (by decide) (by decide) (by decide)) (by decide) (by assumption) (by assumption) (turn_first (by assumption) (by assumption) (by assumption)) ?_ ?_
  · intro i t m₁ nx h tk own hin hoff hJ F9 N9
    obtain ⟨⟨a, b, c, e, rfl⟩, x, y, tx, ty, n, rfl, hx, hy, hz⟩ := hJ
    have hoff := fun q hq => Ne.symm (hoff q hq _ (.head _))
    have N9 := mid_swap N9
    (try k_fold)
    k_steps
    all_goals rename Fr _ _ _ _ => F10
    all_goals rename News _ _ _ _ => N10
    · refine InvEndG.intro (nx := [_]) F10 N10 ?hj (fun p hp b hb => by rw [List.mem_singleton.mp hb]; exact Ne.symm (hoff p hp)) end_mill2 end_own2
      case hj => exact turn_next (by assumption) (by assumption) (by assumption)
    · refine InvEndG.intro (nx := [_]) F10 N10 ?hj (fun p hp b hb => by rw [List.mem_singleton.mp hb]; exact Ne.symm (hoff p hp)) end_mill end_own
      case hj => exact turn_next (by assumption) (by assumption) (by assumption)
  · intro m₁ nx h tk hJ F9 N9
    obtain ⟨⟨a, b, c, e, rfl⟩, x, y, tx, ty, n, rfl, hx, hy, hz⟩ := hJ
    (try k_fold)
    k_steps)
end
end Mine
theorem PySem.Challenge.cw_xm0794_01_holds : PySem.Challenge.rw_xm0794_01.Holds := by
  exact Mine.law_holds
