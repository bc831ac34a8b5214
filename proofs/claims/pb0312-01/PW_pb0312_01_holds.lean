import PyProof.Rows.All
import Wide.All
import OpenK.AllK
import Wide.FinOn
import PySem.Challenge.RW_pb0312_01
open PySem PySem.W PySem.Calls PyProof.Rows
set_option Elab.async false
set_option maxRecDepth 100000
set_option maxHeartbeats 0
set_option linter.unusedVariables false
namespace Mine

-- Hd
open_top hd for PySem.Challenge.rw_pb0312_01

-- C1
/-- what a call of the def at f says of its answer and of the ledger behind it -/
def Says (w : World) (k : Nat) (f : Addr) (Old : Heap → Prop) (vs : List Value) (led : List (Addr × Obj)) (Post : Value → List (Addr × Obj) → Prop) : Prop :=
  ∀ (loose : List Str) (mean : ExcName → Option Value) (mg mb : Str → Option Value)
  (dp un : Nat) (gd : Option (List Code)) (cn : Str) (cs : Scope) (a : Addr) (ccd : Value) (cl : List (Str × Addr)) (outer : List Env) (A₀ : Around) (base h₀ : Heap) (L : Addr) (m : Str → Option Value) (s : Shared) (Q E : Value → Shared → Prop),
  Below A₀ base outer h₀ → Fr h₀ L s.heap m → (hd.heap_39 w.params).In h₀ → News h₀ L s.heap led → Top hd.view_39 loose mean mg mb h₀ → cs.kind = .function →
  Old base → dp + k < recursionLimit → un + (10 * k + 100) < cLine →
  (∀ v h' tk' led', Fr h₀ L h' m → News h₀ L h' led' → Post v led' → Q v { s with heap := h', toks := tk' }) →
  wpAny (model PySem.Challenge.rw_pb0312_01.row.prog w) (ktrTop dp un gd cn cs L a ccd cl outer) (call (.ref f) vs) Q E s

theorem says_use {w : World} {k : Nat} {f : Addr} {Old : Heap → Prop} {vs : List Value} {led led₀ : List (Addr × Obj)} {Post : Value → List (Addr × Obj) → Prop} (C : Says w k f Old vs led Post)
  {loose : List Str} {mean : ExcName → Option Value} {mg mb : Str → Option Value}
  {dp un : Nat} {gd : Option (List Code)} {cn : Str} {cs : Scope} {a : Addr} {ccd : Value} {cl : List (Str × Addr)} {outer : List Env} {A₀ : Around} {base h₀ : Heap} {L : Addr} {m : Str → Option Value} {s : Shared} {Q E : Value → Shared → Prop}
  (B : Below A₀ base outer h₀) (F : Fr h₀ L s.heap m) (X : (hd.heap_39 w.params).In h₀) (N : News h₀ L s.heap led₀) (T : Top hd.view_39 loose mean mg mb h₀) (hk : cs.kind = .function)
  (hs : ∀ p ∈ led, p ∈ led₀) (ho : Old base) (hd : dp + k < recursionLimit) (hu : un + (10 * k + 100) < cLine)
  (ret : ∀ v h' tk' led', Fr h₀ L h' m → News h₀ L h' led' → Post v led' → Q v { s with heap := h', toks := tk' }) :
  wpAny (model PySem.Challenge.rw_pb0312_01.row.prog w) (ktrTop dp un gd cn cs L a ccd cl outer) (call (.ref f) vs) Q E s :=
  C _ _ _ _ _ _ _ _ _ _ _ _ _ _ _ _ _ _ _ _ _ B F X (fun p hp => N p (hs p hp)) T hk ho hd hu ret

theorem says_mono {w : World} {k : Nat} {f : Addr} {Old : Heap → Prop} {vs : List Value} {led : List (Addr × Obj)} {Post Post' : Value → List (Addr × Obj) → Prop} (C : Says w k f Old vs led Post) (h : ∀ v l, Post v l → Post' v l) : Says w k f Old vs led Post' :=
  fun _ _ _ _ _ _ _ _ _ _ _ _ _ _ _ _ _ _ _ _ _ B F X N T hk ho hd hu ret => C _ _ _ _ _ _ _ _ _ _ _ _ _ _ _ _ _ _ _ _ _ B F X N T hk ho hd hu fun v h' tk' led' F' N' p => ret v h' tk' led' F' N' (h v led' p)

theorem intsNil : IntsAre [] [] := .nil

local macro_rules | `(tactic| k_all) => `(tactic| with_reducible assumption)
local macro_rules | `(tactic| walk_at "compareOp NotEq ref ref") => `(tactic| (k_here; (rename News _ _ _ _ => nN9); (rename IntsAre _ _ => iI9); (with_reducible show wpAny _ _ (compareOp CmpOp.NotEq (Value.ref _) (Value.ref _)) _ _ _); (with_unfolding_all refine' ne_intsK (News.isList nN9 (.tail _ (.head _))) iI9 (News.isList nN9 (.head _)) intsNil ?k5 ?_; (case k5 => ktr_units))))

theorem next_says (w : World) (l : Addr) (us : List Value) (ns : List Int) (n : Nat) (rest : List (Addr × Obj)) (hoff : ∀ p ∈ rest, p.1 ≠ l) (hi : IntsAre us ns) (hz : us.length ≤ 1000) :
    Says w 1 120 (fun _ => True) [.ref l] ((l, listOf us.toArray n) :: rest)
      (fun v led => ∃ t us' n', v = .int (ns.getLastD 0) t ∧ IntsAre us' ns.dropLast ∧ led = (l, listOf us'.toArray n') :: rest) := by
  unfold Says
  w_top off
  k_fill
  intro loose mean mg mb dp un gd cn cs a ccd cl outer A₀ base h₀ L m s Q E B F X N T hk ho hdp hun hret
  refine wpAny_call ?_
  k_dflt cell_enter
  k_steps
  · rename decide (ns = []) = true => hE
    have hE' : ns = [] := of_decide_eq_true hE
    subst hE'
    rename Fr h₀ L _ m => kF
    rename News h₀ L _ _ => kN
    rename IntsAre us [] => hi
    exact hret _ _ _ _ kF (fun p hp => kN p (.tail _ hp)) ⟨_, us, n, rfl, hi, rfl⟩
  · rename decide (ns = []) = false => hE
    have hE' : ns ≠ [] := of_decide_eq_false hE
    rename IntsAre us ns => hi
    have hlen := IntsAre.length hi
    have hpos : 0 < us.length := by
      rw [hlen]; exact List.length_pos_iff.mpr hE'
    rename (l < _ ∧ _) => hl1
    rename Fr _ _ _ (fun _ => _) => kF
    rename News _ _ _ (_ :: _ :: rest) => kN
    refine kpa_pop kF kN (Upd.tail (Nat.ne_of_gt hl1.1) (Upd.head hoff)) hi hpos (by rw [PySem.sizeLine_eq]; omega) ?_
    intro h9 t9 F9 N9 I9
    k_steps
    rename Fr h₀ L _ m => kF
    rename News h₀ L _ _ => kN
    exact hret _ _ _ _ kF (fun p hp => kN p (.tail _ hp)) ⟨_, us.dropLast, n + 1, rfl, I9, rfl⟩

/-- a list of the call's own that holds ints of ten bits -/
def Good (us : List Value) (ns : List Int) : Prop := IntsAre us ns ∧ us.length ≤ 1000 ∧ ∀ v ∈ ns, 0 ≤ v ∧ v < 1024

theorem good_last {us us' : List Value} {ns : List Int} (g : Good us ns) (h : IntsAre us' ns.dropLast) : Good us' ns.dropLast :=
  ⟨h, by have h1 := IntsAre.length h; have h2 := IntsAre.length g.1; rw [List.length_dropLast] at h1; have h3 := g.2.1; omega, fun v hv => g.2.2 v (List.dropLast_subset _ hv)⟩
theorem good_val {us : List Value} {ns : List Int} (g : Good us ns) : 0 ≤ ns.getLastD 0 ∧ ns.getLastD 0 < 1024 := by
  cases ns with
  | nil => decide
  | cons a r =>
    rw [List.getLastD_eq_getLast?]
    cases h : (a :: r).getLast? with
    | none => simp at h
    | some x => exact g.2.2 x (List.mem_of_getLast? h)

/-- one draw off the row -/
def Drawn (l : Addr) (rest : List (Addr × Obj)) (v : Value) (led : List (Addr × Obj)) : Prop :=
  ∃ x t us' ns' n', v = .int x t ∧ 0 ≤ x ∧ x < 1024 ∧ Good us' ns' ∧ led = (l, listOf us'.toArray n') :: rest

theorem draw_says (w : World) (l : Addr) (us : List Value) (ns : List Int) (n : Nat) (rest : List (Addr × Obj)) (hoff : ∀ p ∈ rest, p.1 ≠ l) (g : Good us ns) :
    Says w 1 120 (fun _ => True) [.ref l] ((l, listOf us.toArray n) :: rest) (Drawn l rest) :=
  says_mono (next_says w l us ns n rest hoff g.1 g.2.1) fun v led ⟨t, us', n', e, hi, el⟩ => ⟨_, t, us', ns.dropLast, n', e, (good_val g).1, (good_val g).2, good_last g hi, el⟩

-- C2
theorem subSame {p q : Addr × Obj} {r : List (Addr × Obj)} (h : p = q) : ∀ x ∈ p :: r, x ∈ q :: r := by subst h; exact fun _ h => h
theorem subSwap {p q : Addr × Obj} {r : List (Addr × Obj)} : ∀ x ∈ q :: p :: r, x ∈ p :: q :: r := fun x hx => by
  rcases List.mem_cons.mp hx with rfl | hx
  · exact .tail _ (.head _)
  · rcases List.mem_cons.mp hx with rfl | hx
    · exact .head _
    · exact .tail _ (.tail _ hx)
theorem offCons {p : Addr × Obj} {l : Addr} {r : List (Addr × Obj)} (h : p.1 ≠ l) (hr : ∀ q ∈ r, q.1 ≠ l) : ∀ q ∈ p :: r, q.1 ≠ l := fun q hq => by
  rcases List.mem_cons.mp hq with rfl | hq
  · exact h
  · exact hr q hq

section
variable {prog : Program} {w : World} {A : Around} {E : Value → Shared → Prop} {s : Shared} {t u : Tok} {Q : Value → Shared → Prop}
theorem pow_lit {a n r : Int} (hn : 0 ≤ n) (hn2 : n ≤ 1000000) (ha : a.natAbs < 2 ^ 64) (e : a ^ n.toNat = r) (h : Q (.int r s.toks) { s with toks := s.toks + 1 }) :
    wpAny (model prog w) A (binaryOp .Pow (.int a t) (.int n u)) Q E s := pow_int_small hn hn2 ha (by rw [e]; exact h)
theorem pow_11 (h : Q (.int 2048 s.toks) { s with toks := s.toks + 1 }) : wpAny (model prog w) A (binaryOp .Pow (.int 2 t) (.int 11 u)) Q E s := pow_lit (by decide) (by decide) (by decide) (by decide) h
theorem pow_22 (h : Q (.int 4194304 s.toks) { s with toks := s.toks + 1 }) : wpAny (model prog w) A (binaryOp .Pow (.int 2 t) (.int 22 u)) Q E s := pow_lit (by decide) (by decide) (by decide) (by decide) h
theorem pow_31 (h : Q (.int 2147483648 s.toks) { s with toks := s.toks + 1 }) : wpAny (model prog w) A (binaryOp .Pow (.int 2 t) (.int 31 u)) Q E s := pow_lit (by decide) (by decide) (by decide) (by decide) h
theorem pow_32 (h : Q (.int 4294967296 s.toks) { s with toks := s.toks + 1 }) : wpAny (model prog w) A (binaryOp .Pow (.int 2 t) (.int 32 u)) Q E s := pow_lit (by decide) (by decide) (by decide) (by decide) h
end

/-- a word off the row -/
def Worded (l : Addr) (rest : List (Addr × Obj)) (v : Value) (led : List (Addr × Obj)) : Prop :=
  ∃ x t us' ns' n', v = .int x t ∧ 0 ≤ x ∧ x < 4294967296 ∧ Good us' ns' ∧ led = (l, listOf us'.toArray n') :: rest

theorem worded {l : Addr} {rest : List (Addr × Obj)} {x : Int} {t : Tok} {us : List Value} {ns : List Int} {n : Nat} (h0 : 0 ≤ x) (h1 : x < 4294967296) (g : Good us ns) : Worded l rest (.int x t) ((l, listOf us.toArray n) :: rest) :=
  ⟨x, t, us, ns, n, rfl, h0, h1, g, rfl⟩
theorem fmR {x k : Int} (hk : 0 < k) : 0 ≤ Int.fmod x k ∧ Int.fmod x k < k := ⟨Int.fmod_nonneg_of_pos x hk, Int.fmod_lt_of_pos x hk⟩
theorem worded_mod {l : Addr} {rest : List (Addr × Obj)} {e : Int} {t : Tok} {us : List Value} {ns : List Int} {n : Nat} (g : Good us ns) : Worded l rest (.int (Int.fmod e 4294967296) t) ((l, listOf us.toArray n) :: rest) := by
  have h := fmR (x := e) (k := 4294967296) (by decide)
  exact worded h.1 h.2 g
theorem menuR : ∀ j : Nat, j < 8 → 0 ≤ ([0, 1, 2147483648 - 1, 2147483648, 2147483648 + 1, 4294967296 - 1, 65535, 65536] : List Int).getD j 0 ∧ ([0, 1, 2147483648 - 1, 2147483648, 2147483648 + 1, 4294967296 - 1, 65535, 65536] : List Int).getD j 0 < 4294967296 := by decide

local macro_rules | `(tactic| walk_at "call ref") => `(tactic| (k_here; (with_reducible show wpAny _ _ (call (Value.ref 120) [Value.ref _]) _ _ _); k_dflt (refine' says_use (draw_says _ _ _ _ _ _ ?ho ?hg) ?kB ?kF ?kX ?kN ?kT ?kK ?hs trivial ?hd ?hu ?_; (case kB => k_asm); (case kF => k_asm); (case kX => k_asm); (case kN => k_asm); (case kT => k_asm); (case kK => first | exact rfl | assumption); (case hs => first | exact subSame rfl | exact subSwap); (case hg => assumption); (case ho => first | assumption | exact offCons (by (refine neN ?_); (try dsimp only); omega) (by assumption)); (case hd => ktr_room); (case hu => ktr_units)); intro v9 h9 tk9 led9 F9 N9 D9; (obtain ⟨x9, t9, us9, ns9, n9, e9, hx0, hx1, g9, el9⟩ := D9; subst e9; subst el9); (try k_sweep)))

local macro_rules | `(tactic| walk_at "binaryOp Pow int int") => `(tactic| with_reducible first | refine pow_32 ?_ | refine pow_31 ?_ | refine pow_22 ?_ | refine pow_11 ?_)
theorem word_says (w : World) (l : Addr) (us : List Value) (ns : List Int) (n : Nat) (rest : List (Addr × Obj)) (hoff : ∀ p ∈ rest, p.1 ≠ l) (g : Good us ns) :
    Says w 2 127 (fun _ => True) [.ref l] ((l, listOf us.toArray n) :: rest) (Worded l rest) := by
  unfold Says
  w_top off
  k_fill
  intro loose mean mg mb dp un gd cn cs a ccd cl outer A₀ base h₀ L m s Q E B F X N T hk ho hdp hun hret
  refine wpAny_call ?_
  k_dflt cell_enter
  k_steps
  · rename Fr h₀ L _ m => kF
    rename News h₀ L _ _ => kN
    rename Good _ _ => g9
    rename Int => y
    exact hret _ _ _ _ kF kN (worded (fmR (x := y) (k := 40) (by decide)).1 (by have h := (fmR (x := y) (k := 40) (by decide)).2; omega) g9)
  · rename Fr h₀ L _ m => kF
    rename News h₀ L _ _ => kN
    rename Good _ _ => g9
    rename Int => y
    have h := fmR (x := y) (k := 40) (by decide)
    exact hret _ _ _ _ kF kN (worded (by omega) (by omega) g9)
  · rename Fr h₀ L _ m => kF
    rename News h₀ L _ _ => kN
    rename Good _ _ => g9
    rename Int => y
    have h := fmR (x := y) (k := 8) (by decide)
    have h2 := menuR (Int.fmod y 8).toNat (by omega)
    exact hret _ _ _ _ kF (fun p hp => kN p (by rcases List.mem_cons.mp hp with rfl | hp; exact .head _; exact .tail _ (.tail _ hp))) (worded h2.1 h2.2 g9)
  · rename Fr h₀ L _ m => kF
    rename News h₀ L _ _ => kN
    rename Good _ _ => g9
    exact hret _ _ _ _ kF kN (worded_mod g9)

-- C3
/-- the row that the script gives -/
def Rowed (rest : List (Addr × Obj)) (v : Value) (led : List (Addr × Obj)) : Prop :=
  ∃ r us ns n, v = .ref r ∧ Good us ns ∧ led = (r, listOf us.toArray n) :: rest ∧ AllLt r rest

theorem ints_snoc {us : List Value} {ns : List Int} {k : Int} {t : Tok} (h : IntsAre us ns) : IntsAre (us ++ [.int k t]) (ns ++ [k]) := by
  induction h with
  | nil => exact .cons _ _ .nil
  | cons a b r ih => exact .cons a b ih
theorem news_snoc {h₀ h : Heap} {L l : Addr} {p : Addr × Obj} {us : List Value} {ns : List Int} {k : Int} {t : Tok} {n : Nat} {r : List (Addr × Obj)} (N : News h₀ L h (p :: (l, listOf (us.toArray.push (.int k t)) n) :: r)) (hi : IntsAre us ns) :
    ∃ us', IntsAre us' (ns ++ [k]) ∧ News h₀ L h (p :: (l, listOf us'.toArray n) :: r) :=
  ⟨us ++ [.int k t], ints_snoc hi, by rw [← List.push_toArray]; exact N⟩

def Small (ns : List Int) : Prop := ∀ v ∈ ns, 0 ≤ v ∧ v < 1024
theorem small_nil : Small [] := fun _ h => nomatch h
theorem small_snoc {ns : List Int} {k : Int} (h : Small ns) : Small (ns ++ [Int.fmod k 1024]) := fun v hv => by
  rcases List.mem_append.mp hv with hv | hv
  · exact h v hv
  · rw [List.mem_singleton.mp hv]; exact fmR (by decide)

theorem st0 {a : List Int} : a.length ≤ a.length + ([] : List Int).length := Nat.le_refl _
theorem st00 : ([] : List Int).length ≤ 31 * ([] : List Int).length := Nat.le_refl _
theorem st1 {row r0 pre : List Int} {x k : Int} (h : row.length ≤ r0.length + pre.length) : (row ++ [x]).length ≤ r0.length + (pre ++ [k]).length := by simp only [List.length_append, List.length_cons, List.length_nil]; omega
theorem st2 {row r0 pre : List Int} {k : Int} (h : row.length ≤ r0.length + pre.length) : row.length ≤ r0.length + (pre ++ [k]).length := by simp only [List.length_append, List.length_cons, List.length_nil]; omega
theorem st3 {row r0 pre : List Int} {x k : Int} (h : row.length ≤ (r0 ++ [x]).length + (rangeKs 0 (30 - 0 : Int).toNat).length) (h0 : r0.length ≤ 31 * pre.length) : row.length ≤ 31 * (pre ++ [k]).length := by
  simp only [List.length_append, List.length_cons, List.length_nil, rangeKs_length] at *
  omega

theorem good_rev {ws : List Value} {ns : List Int} (h : IntsAre ws (ns.take 160)) (g : Small ns) : Good ws.reverse (ns.take 160).reverse :=
  ⟨IntsAre.reverse h, by
    have h1 := IntsAre.length h
    rw [List.length_take] at h1
    rw [List.length_reverse]
    omega, fun v hv => g v (List.mem_of_mem_take (List.mem_reverse.mp hv))⟩

theorem row_says (w : World) (l : Addr) (us : List Value) (ns : List Int) (rest : List (Addr × Obj)) (hi : IntsAre us ns) (hz : ns.length ≤ 63) :
    Says w 1 113 (fun base => base.IsList l us.toArray) [.ref l] rest (Rowed rest) := by
  unfold Says
  w_top off
  k_fill
  intro loose mean mg mb dp un gd cn cs a ccd cl outer A₀ base h₀ L m s Q E B F X N T hk ho hdp hun hret
  k_with "state" => (first
    | exact ⟨st0, small_snoc (by assumption)⟩
    | exact ⟨st1 (by assumption), small_snoc (by assumption)⟩
    | exact ⟨st2 (by assumption), by assumption⟩
    | exact ⟨st3 (by assumption) (by assumption), by assumption⟩
    | exact ⟨st00, small_nil⟩)
  k_with "pyIter ref" => (k_of "cell" => k_state (fun pre row => row.length ≤ 31 * pre.length ∧ Small row) "row")
  k_with "pyIter ref" => (k_of "lap" => ((rename News _ _ _ _ => nE); (rename IntsAre _ _ => iE); (obtain ⟨us9, i9, n9⟩ := news_snoc nE iE); k_state_given ["row!"] (fun row₀ pre row figure => row.length ≤ row₀.length + pre.length ∧ Small row) "row" "figure"))
  refine wpAny_call ?_
  k_dflt cell_enter
  k_steps
  rename Fr _ _ _ (fun _ => _) => kF
  rename News _ _ _ _ => kN
  rename _ ∧ _ ∧ AllLt _ rest => hl1
  rename IntsAre _ (List.take 160 _) => hI
  rename Small _ => hS
  refine kl_reverse kF kN rfl (Upd.head (fun p hp => Nat.ne_of_lt (kst_ltOf (by exact hl1) p hp))) (by have h1 := IntsAre.length hI; rw [List.length_take] at h1; rw [PySem.sizeLine_eq]; show _ ≤ _; simp only [List.toList_toArray]; omega) ?_
  intro h9 F9 N9
  k_steps
  rename Fr h₀ L _ m => kF
  rename News h₀ L _ _ => kN
  exact hret _ _ _ _ kF (fun p hp => kN p (by rcases List.mem_cons.mp hp with rfl | hp; exact .head _; exact .tail _ (.tail _ (.tail _ hp)))) ⟨_, _, _, _, rfl, good_rev hI hS, rfl, hl1.2.2⟩
  k_with_none

-- C4
section
open AutoSeq1 (wpAny_loadPart')
open MeetsSeq
theorem wpAny_forIn_upto {M : Model} {A : Around} {E : Value → Shared → Prop} {s : Shared} {β : Type} (f : Nat → β → Sem (ForInStep β)) (I : List Nat → β → Shared → Prop) (Q : β → Shared → Prop) (n : Nat) (b : β)
    (turn : ∀ x rest b s, I (x :: rest) b s → wpAny M A (f x b) (fun r s' => match r with | .yield b' => I rest b' s' | .done b' => Q b' s') E s)
    (fin : ∀ b s, I [] b s → Q b s) (h : I (List.range' 0 n) b s) : wpAny M A (forIn ([:n] : Std.Legacy.Range) b f) Q E s := by
  rw [Std.Legacy.Range.forIn_eq_forIn_range']
  simp only [Std.Legacy.Range.size, Nat.sub_zero, Nat.add_sub_cancel, Nat.div_one]
  exact wpAny_forIn_list f I Q turn fin _ b h

/-- what tuple.index gives: the first place at which the items' == says so -/
theorem tuple_index (l : Addr) (items : Array Value) (n : Nat) (x : Value) (e : Value → Bool) (he : ∀ y, y ∈ items → EqGives y x (e y)) (j : Nat) (hj : j < items.size)
    (hit : e items[j] = true) (hno : ∀ m (hm : m < items.size), m < j → e items[m] = false) :
    Meets (Builtin.«tuple.index» ⟨[.ref l, x], []⟩)
      (fun _ R s => s.heap.get? l = some { cls := .type "tuple", dict := none, data := .seq items n, slots := #[] } ∧ R (.ok (.ret (.int j s.toks))) { s with toks := s.toks + 1 }) :=
  .of_wp fun prog w A R s h => by
    obtain ⟨hp, g, d, tk, os⟩ := s; obtain ⟨hl, h⟩ := h
    wp_walk using wpAny_loadPart' hl, wpAny_forIn_upto _ (fun rest b s' => b = (none, ()) ∧ s' = ⟨hp, g, d, tk, os⟩ ∧ ∃ i, i ≤ j ∧ rest = List.range' i (items.size - i)) _ _ _
    case turn =>
      rintro i rest b s' ⟨rfl, rfl, k, hk, hr⟩
      have hlt : k < items.size := Nat.lt_of_le_of_lt hk hj
      obtain ⟨m, hm⟩ : ∃ m, items.size - k = m + 1 := ⟨items.size - k - 1, by omega⟩
      rw [hm, List.range'_succ] at hr
      injection hr with h1 h2
      subst h1
      have hi : items[i]? = some items[i] := by simp [hlt]
      rw [hi]
      refine wpAny_bind (he _ (Array.getElem_mem hlt) prog w _ _ _ _ ?_)
      by_cases hij : i = j
      · subst hij
        rw [hit]
        wp_walk
        exact ⟨_, rfl, h⟩
      · rw [hno i hlt (by omega)]
        wp_walk
        exact ⟨rfl, rfl, i + 1, by omega, by rw [h2]; congr 1; omega⟩
    case fin =>
      rintro b s' ⟨rfl, rfl, k, hk, hr⟩
      have := congrArg List.length hr
      rw [List.length_range'] at this
      simp at this
      omega
    case h =>
      exact ⟨rfl, rfl, 0, Nat.zero_le _, by simp⟩
end

/-- the first place of a text among texts -/
def nameAt (x : Str) : List Str → Option Nat
  | [] => none
  | a :: r => if a == x then some 0 else (nameAt x r).map (· + 1)
def strsOf : List Value → Option (List Str)
  | [] => some []
  | .str a _ :: r => (strsOf r).map (a :: ·)
  | _ :: _ => none
def isText (x : Str) : Value → Bool
  | .str a _ => a == x
  | _ => false
theorem strsOf_all : ∀ {l : List Value} {as : List Str}, strsOf l = some as → ∀ y ∈ l, ∃ a t, y = .str a t
  | [], _, _, _, hy => nomatch hy
  | v :: r, as, h, y, hy => by
    cases v with
    | str a t =>
      unfold strsOf at h
      cases hr : strsOf r with
      | none => rw [hr] at h; cases h
      | some bs =>
        rcases List.mem_cons.mp hy with rfl | hy
        · exact ⟨a, t, rfl⟩
        · exact strsOf_all hr y hy
    | _ => cases h
theorem nameAt_spec {x : Str} : ∀ {l : List Value} {as : List Str} {j : Nat}, strsOf l = some as → nameAt x as = some j →
    ∃ hj : j < l.length, isText x l[j] = true ∧ ∀ m (hm : m < l.length), m < j → isText x l[m] = false
  | [], as, j, h1, h2 => by
    cases h1
    cases h2
  | v :: r, as, j, h1, h2 => by
    cases v with
    | str a t =>
      unfold strsOf at h1
      cases hr : strsOf r with
      | none => rw [hr] at h1; cases h1
      | some bs =>
        rw [hr] at h1
        cases h1
        unfold nameAt at h2
        by_cases ha : (a == x) = true
        · rw [if_pos ha] at h2
          cases h2
          exact ⟨Nat.zero_lt_succ _, ha, fun m _ h => absurd h (Nat.not_lt_zero _)⟩
        · rw [if_neg ha] at h2
          cases hn : nameAt x bs with
          | none => rw [hn] at h2; cases h2
          | some i =>
            rw [hn] at h2
            cases h2
            obtain ⟨k1, k2, k3⟩ := nameAt_spec hr hn
            refine ⟨Nat.succ_lt_succ k1, k2, ?_⟩
            intro m hm hlt
            cases m with
            | zero => exact Bool.eq_false_iff.mpr ha
            | succ m => exact k3 m (Nat.lt_of_succ_lt_succ hm) (Nat.lt_of_succ_lt_succ hlt)
    | _ => cases h1

section
variable {prog : Program} {w : World} {A : Around} {E : Value → Shared → Prop} {s : Shared} {h₀ h : Heap} {L D : Addr} {news : List (Addr × Obj)} {its : Array Value} {n : Nat}
theorem text_eq {x : Str} {t : Tok} {as : List Str} (ha : strsOf its.toList = some as) : ∀ y, y ∈ its → MeetsSeq.EqGives y (.str x t) (isText x y) := fun y hy => by
  obtain ⟨a, u, rfl⟩ := strsOf_all ha y (Array.mem_toList_iff.mpr hy)
  exact eqGives_str a x u t
theorem tup_method {name : Str} {id : String} {pl : Sem Bool} {Q : Value × List Value → Shared → Prop} (N : News h₀ L s.heap news) (hm : (D, ({ cls := .type "tuple", data := .seq its n } : Obj)) ∈ news) (slot : Slot "tuple" name id) (hty : typeOf (.builtin id) = pure (.type "method_descriptor"))
    (h : Q (.builtin id, [.ref D]) s) : wpAny (model prog w) A (getMethod (.ref D) name pl) Q E s :=
  getMethod_builtin ⟨_, (N _ hm).1, rfl⟩ PySem.F.plainAttrs_tuple slot hty (fun a e => by cases e; exact ⟨_, (N _ hm).1, rfl⟩) h
theorem tup_index {x : Str} {t : Tok} {as : List Str} {j : Nat} {Q : Value → Shared → Prop} (N : News h₀ L s.heap news) (hm : (D, ({ cls := .type "tuple", data := .seq its n } : Obj)) ∈ news) (ha : strsOf its.toList = some as) (hx : nameAt x as = some j)
    (h : Q (.int (j : Int) s.toks) { s with toks := s.toks + 1 }) : wpAny (model prog w) A (call (.builtin "tuple.index") [.ref D, .str x t]) Q E s := by
  obtain ⟨a, b, c⟩ := nameAt_spec ha hx
  exact call_meets PySem.F.slot_tuple_index ⟨_, (N _ hm).1, rfl⟩ PySem.F.entry_tuple_index (PySem.F.args_tuple_index_2 _ _)
    (tuple_index D its n (.str x t) (isText x) (text_eq ha) j (by simpa using a) (by simpa using b) (fun i hi hlt => (c i (by simpa using hi) hlt : isText x its.toList[i] = false))) ⟨(N _ hm).1, h⟩
theorem list_indexT {x : Str} {t : Tok} {as : List Str} {j : Nat} {Q : Value → Shared → Prop} (N : News h₀ L s.heap news) (hm : (D, listOf its n) ∈ news) (ha : strsOf its.toList = some as) (hx : nameAt x as = some j) (hz : its.toList.length ≤ sizeLine)
    (h : Q (.int (j : Int) s.toks) { s with toks := s.toks + 1 }) : wpAny (model prog w) A (call (.builtin "list.index") [.ref D, .str x t]) Q E s := by
  obtain ⟨a, b, c⟩ := nameAt_spec ha hx
  have hs : its.toList.length = its.size := Array.length_toList
  rw [sizeLine_eq] at hz
  exact call_meets PySem.F.slot_list_index ⟨_, (N _ hm).1, rfl⟩ PySem.F.entry_list_index (PySem.F.args_list_index_2 _ _)
    (MeetsSeq.list_index D its n (.str x t) (isText x) (text_eq ha) j (by simpa using a) (by omega) (by simpa using b) (fun i hi hlt => (c i (by simpa using hi) hlt : isText x its.toList[i] = false))) ⟨(N _ hm).1, h⟩
end

/-- the sixteen names -/
def NAMES : List Str := [Str.ofString "MI", Str.ofString "EQ", Str.ofString "CS", Str.ofString "VS", Str.ofString "LS", Str.ofString "LT", Str.ofString "LE", Str.ofString "AL", Str.ofString "PL", Str.ofString "NE", Str.ofString "CC", Str.ofString "VC", Str.ofString "HI", Str.ofString "GE", Str.ofString "GT", Str.ofString "NV"]

local macro_rules | `(tactic| walk_at "getMethod ref") => `(tactic| (k_here; (with_reducible show wpAny _ _ (getMethod (Value.ref _) (PySem.Str.ofString "index") _) _ _ _); k_dflt (refine' tup_method ?N ?m PySem.F.slot_tuple_index PySem.F.type_tuple_index ?_; (case N => k_asm); (case m => k_mem))))
local macro_rules | `(tactic| walk_at "call builtin:tuple.index") => `(tactic| (k_here; (with_reducible show wpAny _ _ (call (Value.builtin _) [Value.ref _, Value.str _ _]) _ _ _); k_dflt (refine' tup_index (as := NAMES) ?N ?m ?i ?e ?_; (case N => k_asm); (case m => k_mem); (case i => rfl); (case e => assumption))))

theorem cond_says (w : World) (x : Str) (j : Nat) (t : Tok) (rest : List (Addr × Obj)) (hx : nameAt x NAMES = some j) :
    Says w 1 99 (fun _ => True) [.str x t] rest (fun v led => ∃ t', v = .int (j : Int) t' ∧ led = rest) := by
  unfold Says
  w_top off
  k_fill
  intro loose mean mg mb dp un gd cn cs a ccd cl outer A₀ base h₀ L m s Q E B F X N T hk ho hdp hun hret
  refine wpAny_call ?_
  k_dflt cell_enter
  k_steps
  rename Fr h₀ L _ m => kF
  rename News h₀ L _ _ => kN
  exact hret _ _ _ _ kF (fun p hp => kN p (.tail _ hp)) ⟨_, rfl, rfl⟩

-- C5
theorem subId {r : List (Addr × Obj)} : ∀ x ∈ r, x ∈ r := fun _ h => h
/-- what holds gives of the j-th name and the four flags -/
def holdsV (j : Nat) (n z c v : Int) : Bool :=
  [n, z, c, v, Builtin.bitOr c z, Builtin.bitXor n v, Builtin.bitOr (Builtin.bitXor n v) z, 1].getD (Int.fmod (j : Int) 8).toNat 0 != Int.fdiv (j : Int) 8

local macro_rules | `(tactic| walk_at "call ref") => `(tactic| (k_here; (with_reducible show wpAny _ _ (call (Value.ref 99) [Value.str _ _]) _ _ _); k_dflt (refine' says_use (cond_says _ _ _ _ _ ?hg) ?kB ?kF ?kX ?kN ?kT ?kK ?hs trivial ?hd ?hu ?_; (case kB => k_asm); (case kF => k_asm); (case kX => k_asm); (case kN => k_asm); (case kT => k_asm); (case kK => first | exact rfl | assumption); (case hs => exact subId); (case hg => assumption); (case hd => ktr_room); (case hu => ktr_units)); intro v9 h9 tk9 led9 F9 N9 D9; (obtain ⟨t9, e9, el9⟩ := D9; subst e9; subst el9); (try k_sweep)))

theorem holds_says (w : World) (x : Str) (j : Nat) (t : Tok) (d : Addr) (n z c v : Int) (tn tz tc tv : Tok) (rest : List (Addr × Obj)) (hx : nameAt x NAMES = some j) (hm : (d, ({ cls := .type "tuple", data := .seq #[.int n tn, .int z tz, .int c tc, .int v tv] } : Obj)) ∈ rest) :
    Says w 2 106 (fun _ => True) [.str x t, .ref d] rest (fun r led => r = .bool (holdsV j n z c v) ∧ led = rest) := by
  unfold Says
  w_top off
  k_fill
  intro loose mean mg mb dp un gd cn cs a ccd cl outer A₀ base h₀ L m s Q E B F X N T hk ho hdp hun hret
  refine wpAny_call ?_
  k_dflt cell_enter
  k_steps
  rename Fr h₀ L _ m => kF
  rename News h₀ L _ _ => kN
  exact hret _ _ _ _ kF (fun p hp => kN p (.tail _ hp)) ⟨rfl, rfl⟩

-- C6
/-- a tuple of five ints and None, new on the ledger -/
def Flagged (r n z c v : Int) (rest : List (Addr × Obj)) (a : Value) (led : List (Addr × Obj)) : Prop :=
  ∃ d t1 t2 t3 t4 t5, a = .ref d ∧ led = (d, ({ cls := .type "tuple", data := .seq #[.int r t1, .int n t2, .int z t3, .int c t4, .int v t5, .none] } : Obj)) :: rest ∧ ∀ p ∈ rest, p.1 < d

theorem flaggedI {r n z c v r' n' z' c' v' : Int} {t1 t2 t3 t4 t5 : Tok} {d : Addr} {rest : List (Addr × Obj)} (hr : r' = r) (hn : n' = n) (hz : z' = z) (hc : c' = c) (hv : v' = v) (hlt : ∀ p ∈ rest, p.1 < d) :
    Flagged r n z c v rest (.ref d) ((d, ({ cls := .type "tuple", data := .seq #[.int r' t1, .int n' t2, .int z' t3, .int c' t4, .int v' t5, .none] } : Obj)) :: rest) := by
  subst hr; subst hn; subst hz; subst hc; subst hv
  exact ⟨d, t1, t2, t3, t4, t5, rfl, rfl, hlt⟩
theorem shr31 (a : Int) : Int.fdiv a (2 ^ Int.toNat 31) = Int.fdiv a 2147483648 := congrArg (Int.fdiv a) (by decide)

theorem flagged_says (w : World) (r c v : Int) (tr tc tv : Tok) (rest : List (Addr × Obj)) :
    Says w 1 29 (fun _ => True) [.int r tr, .int c tc, .int v tv] rest (Flagged r (Int.fdiv r 2147483648) (if r = 0 then 1 else 0) c v rest) := by
  unfold Says
  w_top off
  k_fill
  intro loose mean mg mb dp un gd cn cs a ccd cl outer A₀ base h₀ L m s Q E B F X N T hk ho hdp hun hret
  refine wpAny_call ?_
  k_dflt (refine' code_def ?k1 ?k2 ?k3 ?k4 ?k5 ?kA ?kF ?kK ?k6 ?k7 ?k8 ?k9 ?kB ?_ ?c2 ?c3 ?c4 ?c5; (case kA => exact rfl); (case kF => exact rfl); (case kK => assumption); (case k1 => k_asm); (case k2 => k_asm); (case k3 => k_asm); (case k4 => k_asm); (case k5 => k_asm); (case k6 => k_is); (case k7 => k_is); (case k8 => ktr_room); (case k9 => first | exact BindsTo.of_eq rfl | exact binds_K (by k_in) rfl (by k_is) rfl rfl rfl); (case c5 => decide); (case kB => exact locs rfl); (case c2 => exact rfl); (case c3 => exact rfl); (case c4 => exact rfl))
  intro g' L' h' FG' F' N' B' X' T'
  try dsimp only
  try k_fold
  k_steps
  · rename Fr h₀ L _ m => kF
    rename News h₀ L _ _ => kN
    rename r = 0 => hr
    exact hret _ _ _ _ kF kN (flaggedI rfl (shr31 _) (if_pos hr).symm rfl rfl (by assumption))
  · rename Fr h₀ L _ m => kF
    rename News h₀ L _ _ => kN
    rename r ≠ 0 => hr
    exact hret _ _ _ _ kF kN (flaggedI rfl (shr31 _) (if_neg hr).symm rfl rfl (by assumption))

def subR (x y : Int) : Int := Builtin.bitAnd (x - y) 4294967295
def subN (x y : Int) : Int := Int.fdiv (subR x y) 2147483648
def subZ (x y : Int) : Int := if subR x y = 0 then 1 else 0
def subC (x y : Int) : Int := if x < y then 1 else 0
def subV (x y : Int) : Int := Int.fdiv (Builtin.bitAnd (Builtin.bitXor x y) (Builtin.bitXor x (subR x y))) 2147483648

local macro_rules | `(tactic| walk_at "call ref") => `(tactic| (k_here; (with_reducible show wpAny _ _ (call (Value.ref 29) [Value.int _ _, Value.int _ _, Value.int _ _]) _ _ _); k_dflt (refine' says_use (flagged_says _ _ _ _ _ _ _ _) ?kB ?kF ?kX ?kN ?kT ?kK ?hs trivial ?hd ?hu ?_; (case kB => k_asm); (case kF => k_asm); (case kX => k_asm); (case kN => k_asm); (case kT => k_asm); (case kK => first | exact rfl | assumption); (case hs => exact subId); (case hd => ktr_room); (case hu => ktr_units)); intro v9 h9 tk9 led9 F9 N9 D9; (obtain ⟨d9, t91, t92, t93, t94, t95, e9, el9, lt9⟩ := D9; subst e9; subst el9); (try k_sweep)))

theorem sub_says (w : World) (x y : Int) (tx ty : Tok) (rest : List (Addr × Obj)) :
    Says w 2 43 (fun _ => True) [.int x tx, .int y ty] rest (Flagged (subR x y) (subN x y) (subZ x y) (subC x y) (subV x y) rest) := by
  unfold Says
  w_top off
  k_fill
  intro loose mean mg mb dp un gd cn cs a ccd cl outer A₀ base h₀ L m s Q E B F X N T hk ho hdp hun hret
  refine wpAny_call ?_
  k_dflt cell_enter
  k_steps
  · rename Fr h₀ L _ m => kF
    rename News h₀ L _ _ => kN
    rename x < y => hr
    exact hret _ _ _ _ kF kN (flaggedI rfl rfl rfl (if_pos hr).symm (shr31 _) (by assumption))
  · rename Fr h₀ L _ m => kF
    rename News h₀ L _ _ => kN
    rename ¬x < y => hr
    exact hret _ _ _ _ kF kN (flaggedI rfl rfl rfl (if_neg hr).symm (shr31 _) (by assumption))
local macro_rules | `(tactic| walk_at "call ref") => `(tactic| (k_here; (with_reducible show wpAny _ _ (call (Value.ref 43) [Value.int _ _, Value.int _ _]) _ _ _); k_dflt (refine' says_use (sub_says _ _ _ _ _ _) ?kB ?kF ?kX ?kN ?kT ?kK ?hs trivial ?hd ?hu ?_; (case kB => k_asm); (case kF => k_asm); (case kX => k_asm); (case kN => k_asm); (case kT => k_asm); (case kK => first | exact rfl | assumption); (case hs => exact subId); (case hd => ktr_room); (case hu => ktr_units)); intro v9 h9 tk9 led9 F9 N9 D9; (obtain ⟨d9, t91, t92, t93, t94, t95, e9, el9, lt9⟩ := D9; subst e9; subst el9); (try k_sweep)))

theorem operate_says (w : World) (x y : Int) (t tx ty : Tok) (rest : List (Addr × Obj)) :
    Says w 3 92 (fun _ => True) [.str (Str.ofString "SUB") t, .int x tx, .int y ty] rest (Flagged (subR x y) (subN x y) (subZ x y) (subC x y) (subV x y) rest) := by
  unfold Says
  w_top off
  k_fill
  intro loose mean mg mb dp un gd cn cs a ccd cl outer A₀ base h₀ L m s Q E B F X N T hk ho hdp hun hret
  refine wpAny_call ?_
  k_dflt cell_enter
  k_steps
  rename Fr h₀ L _ m => kF
  rename News h₀ L _ _ => kN
  exact hret _ _ _ _ kF kN (flaggedI rfl rfl rfl rfl rfl (by assumption))

-- D1
/-- a long display's pairs, put one by one -/
def PutAll (prog : Program) (w : World) (A : Around) (E : Value → Shared → Prop) (d : Addr) : List (Sem Value × Sem Value) → (Shared → Prop) → Shared → Prop
  | [], Q, s => Q s
  | p :: rest, Q, s => wpAny (model prog w) A p.1 (fun kv s₁ => wpAny (model prog w) A p.2 (fun vv s₂ => wpAny (model prog w) A (dictSet d kv vv) (fun _ s₃ => PutAll prog w A E d rest Q s₃) E s₂) E s₁) E s

section
variable {prog : Program} {w : World} {A : Around} {E : Value → Shared → Prop} {s : Shared} {env : Env} {h₀ : Heap} {L d : Addr} {m : Str → Option Value} {news : List (Addr × Obj)} {g : Obj → List (Addr × Obj)} {o : Obj}

theorem put_forIn (d : Addr) (f : (Sem Value × Sem Value) → PUnit → Sem (ForInStep PUnit))
    (hf : ∀ x u, f x u = (do
      let kv ← x.1
      let vv ← holding [kv] x.2
      holding [kv, vv] (dictSet d kv vv)
      pure (ForInStep.yield PUnit.unit) : Sem (ForInStep PUnit))) :
    ∀ (pairs : List (Sem Value × Sem Value)) (s : Shared) (Q : PUnit → Shared → Prop), PutAll prog w A E d pairs (Q ⟨⟩) s → wpAny (model prog w) A (forIn pairs PUnit.unit f) Q E s
  | [], s, Q, h => by rw [List.forIn_nil]; exact wpAny_pure h
  | p :: rest, s, Q, h => by
    rw [List.forIn_cons, hf]
    refine wpAny_bind (wpAny_bind (wpAny_mono h (fun kv s₁ h₁ => ?_) fun _ _ e => e))
    refine wpAny_bind (wpAny_holding (wpAny_mono h₁ (fun vv s₂ h₂ => ?_) fun _ _ e => e))
    refine wpAny_bind (wpAny_holding (wpAny_mono h₂ (fun _ s₃ h₃ => ?_) fun _ _ e => e))
    exact wpAny_pure (put_forIn d f hf rest s₃ Q h₃)

theorem putAll_mono {d : Addr} {Q Q' : Shared → Prop} (hq : ∀ s, Q s → Q' s) : ∀ (pairs : List (Sem Value × Sem Value)) (s : Shared), PutAll prog w A E d pairs Q s → PutAll prog w A E d pairs Q' s
  | [], s, h => hq s h
  | _ :: rest, _, h => wpAny_mono h (fun _ _ h₁ => wpAny_mono h₁ (fun _ _ h₂ => wpAny_mono h₂ (fun _ s₃ h₃ => putAll_mono hq rest s₃ h₃) fun _ _ e => e) fun _ _ e => e) fun _ _ e => e

theorem subDict_long {pairs : List (Sem Value × Sem Value)} {Q : Addr → Shared → Prop} (hlen : 15 < pairs.length)
    (h : PutAll prog w A E s.heap.objs.size pairs (Q s.heap.objs.size) { s with heap := s.heap.push { cls := .type "dict", data := .dict #[] } }) :
    wpAny (model prog w) A (subDict pairs) Q E s := by
  unfold subDict
  refine wpAny_bind (wpAny_alloc ?_)
  refine wpAny_bind (wpAny_holding ?_)
  rw [if_neg (by omega)]
  refine wpAny_bind (wpAny_rule ?_)
  refine wpAny_bind (put_forIn _ _ (fun _ _ => rfl) pairs _ _ ?_)
  refine putAll_mono (fun s' h' => ?_) pairs _ h
  exact wpAny_pure (wpAny_pure h')

theorem dict_long {keys : List (Option PySem.Expr)} {values : List PySem.Expr} {pos : Pos} {Q : Value → Shared → Prop} (F : Fr h₀ L s.heap m) (N : News h₀ L s.heap news) (hbig : h₀.NoLimit)
    (hall : keys.all (·.isSome) = true) (hl : keys.length = values.length) (h0 : 15 < keys.length) (hlen : keys.length < 17)
    (h : ∀ (d : Addr) h' o, Fr h₀ L h' m → News h₀ L h' ((d, o) :: news) → (∀ p ∈ news, p.1 < d) → (d == sysModules) = false → o.IsDictOf (PySem.strKind prog w) [] →
      PutAll prog w A E d (pairTrees keys values env pos) (fun s₁ => Q (.ref d) s₁) { s with heap := h' }) :
    wpAny (model prog w) A (eval (.Dict keys values pos) env) Q E s := by
  have hn := pairTrees_length keys values env pos hall hl
  have hp0 : pairTrees keys values env pos ≠ [] := by
    intro he
    rw [he, List.length_nil] at hn
    omega
  rw [arm_eval_Dict, zip_pairTrees keys values env pos hall hl, dictDisplay_pairs _ hp0 (by rw [hn]; omega)]
  obtain ⟨o, ho, hd⟩ := Heap.dictOf_iff.mp (Heap.DictOf.new (knd := PySem.strKind prog w) s.heap)
  refine wpAny_bind (wpAny_standAt (wpAny_bind (subDict_long (by rw [hn]; exact h0) ?_)))
  refine putAll_mono (fun s' h' => ?_) _ _ (h _ _ o (F.push _) (news_pushed F N (fun b x e => Heap.get?_push_of_some _ e) ho rfl) (fun p hp => Heap.lt_size (N p hp).1) (F.notModules (modules_low hbig)) hd)
  exact wpAny_pure h'

theorem put_cons {k v : PySem.Expr} {ks : List (Option PySem.Expr)} {vs : List PySem.Expr} {pos : Pos} {Q : Shared → Prop}
    (h : wpAny (model prog w) A (eval k env) (fun kv s₁ => wpAny (model prog w) A (eval v env) (fun vv s₂ => wpAny (model prog w) A (dictSet d kv vv) (fun _ s₃ => PutAll prog w A E d (pairTrees ks vs env pos) Q s₃) E s₂) E s₁) E s) :
    PutAll prog w A E d (pairTrees (some k :: ks) (v :: vs) env pos) Q s :=
  wpAny_mono h (fun _ _ h₁ => wpAny_bind (wpAny_mono h₁ (fun _ _ h₂ => wpAny_bind (wpAny_standAt (wpAny_pure h₂))) fun _ _ e => e)) fun _ _ e => e
theorem put_nil {pos : Pos} {Q : Shared → Prop} (h : Q s) : PutAll prog w A E d (pairTrees [] [] env pos) Q s := h

theorem stored_new {kvs : List (Str × Value)} {k : Str} {v : Value} (h : (kvs.any fun kv => decide (kv.1 = k)) = false) : stored kvs k v = kvs ++ [(k, v)] := by
  unfold stored
  rw [h]
  rfl
theorem put_set {kvs : List (Str × Value)} {x : Str} {t : Tok} {v : Value} {Q : Unit → Shared → Prop} (F : Fr h₀ L s.heap m) (N : News h₀ L s.heap ((d, o) :: news)) (hlt : ∀ p ∈ news, p.1 < d) (hd : o.IsDictOf (PySem.strKind prog w) kvs)
    (hn : (kvs.any fun kv => decide (kv.1 = x)) = false) (hz : kvs.length ≤ 100)
    (h : ∀ h' o', Fr h₀ L h' m → News h₀ L h' ((d, o') :: news) → o'.IsDictOf (PySem.strKind prog w) (kvs ++ [(x, v)]) → Q () { s with heap := h', toks := s.toks + 1 }) :
    wpAny (model prog w) A (dictSet d (.str x t) v) Q E s := by
  have hm := N (d, o) (.head _)
  refine wpAny_dictSet_pairs (strKind_is prog w x t) (Heap.dictOf_iff.mpr ⟨o, hm.1, hd⟩) (fun h' hmm hs => ?_) (by rw [PySem.sizeLine_eq]; omega)
  obtain ⟨o', ho', hd'⟩ := Heap.dictOf_iff.mp hmm
  rw [stored_new hn] at hd'
  exact h h' o' (F.change hs hm.2.1 hm.2.2) (N.setHead (fun p hp => Nat.ne_of_lt (hlt p hp)) hs ho') hd'
/-- an item of such a dict -/
theorem dict_item {value slice : PySem.Expr} {kvs : List (Str × Value)} {x : Str} {t : Tok} {v : Value} {Q : Value → Shared → Prop} (N : News h₀ L s.heap news) (hm : (d, o) ∈ news) (hd : o.IsDictOf (PySem.strKind prog w) kvs) (hv : valueAt kvs x = some v)
    (h : Q v { s with toks := s.toks + 1 })
    (hs : subscripted slice false (.ref d) (.str x t) = operate [.ref d, .str x t] (getItem (.ref d) (.str x t)) := by with_unfolding_all rfl) :
    wpAny (model prog w) A (subscriptTail value slice (.ref d) (.str x t)) Q E s :=
  have hM := (Heap.dictOf_iff.mpr ⟨o, (N _ hm).1, hd⟩ : s.heap.DictOf (PySem.strKind prog w) d kvs).mapOf
  tail_any hM.typeIs slot_dict_getitem.lookup (wpAny_getItem_of (strKind_is prog w x t) hM hv h) hs
end

-- S1
section
variable {prog : Program} {w : World} {A : Around} {E : Value → Shared → Prop} {s : Shared} {h₀ : Heap} {L : Addr} {m : Str → Option Value} {news : List (Addr × Obj)}

theorem sliceApplied_15 {sl : Addr} {u u' : Tok} {Q : Int × Int × Nat → Shared → Prop} (hs : s.heap.IsSliceOf sl (.int 1 u) (.int 5 u') .none) (h : Q (1, 1, 4) s) :
    wpAny (model prog w) A (Builtin.Slice.sliceApplied (.ref sl) (pure (6 : Int))) Q E s := by
  obtain ⟨os, hos, hcs, hds⟩ := id hs
  unfold Builtin.Slice.sliceApplied Builtin.Slice.sliceFields
  refine wpAny_bind (wpAny_bind (wpAny_field hos hds (x := .int 1 u) rfl (wpAny_bind (wpAny_field hos hds (x := .int 5 u') rfl (wpAny_bind (wpAny_field hos hds (x := .none) rfl (wpAny_pure ?_)))))))
  refine wpAny_bind (slicePart_none ?_)
  show wpAny _ _ (if ((1 : Int) == 0) = true then _ else _) _ _ s
  rw [if_neg (by decide)]
  exact wpAny_bind (slicePart_int (wpAny_bind (slicePart_int (wpAny_bind (wpAny_pure (wpAny_pure h))))))

theorem getItem_tuple_15 {t sl : Addr} {a b c d e f : Value} {u u' : Tok} {Q : Value → Shared → Prop} (ht : IsTup s.heap t #[a, b, c, d, e, f]) (hs : s.heap.IsSliceOf sl (.int 1 u) (.int 5 u') .none)
    (h : Q (.ref s.heap.objs.size) { s with heap := s.heap.push { cls := .type "tuple", data := .seq #[b, c, d, e] } }) : wpAny (model prog w) A (getItem (.ref t) (.ref sl)) Q E s := by
  have hok : sizeOk (.seq #[b, c, d, e]) := by
    show (4 : Nat) ≤ sizeLine
    rw [PySem.sizeLine_eq]
    decide
  obtain ⟨os, hos, hcs, hds⟩ := id hs
  have hTs : s.TypeIs (.ref sl) "slice" := ⟨os, hos, hcs⟩
  unfold getItem
  try with_reducible refine wpAny_holding ?_
  first | refine wpAny_bind (wpAny_pure ?_) | skip
  refine wpAny_bind (wpAny_sequenceKey ht.typeIs (by decide) ?_)
  refine wpAny_bind (wpAny_callSpecial?_slot (name := Str.ofString "__getitem__") ht.typeIs slot_tuple_getitem
    (wpAny_call_entry slot_tuple_getitem ht.typeIs entry_tuple_getitem ?_ (args_tuple_getitem _ _)))
  show wpAny _ _ (Builtin.Tuple.tupleItemsOf (.ref t) >>= _) _ _ s
  refine wpAny_bind (tupleItemsOf_ ht ?_)
  refine wpAny_bind (wpAny_typeOf hTs ?_)
  rw [if_pos (by decide)]
  refine wpAny_bind (sliceApplied_15 hs ?_)
  show wpAny _ _ (if ((1 : Int) == 0 && (1 : Int) == 1 && (4 : Nat) == 6) = true then _ else _) _ _ s
  rw [if_neg (by decide)]
  first
    | exact wpAny_bind (m := Builtin.Tuple.tupleExact _) (wpAny_newObj_type (wpAny_pure ⟨_, rfl, wpAny_pure h⟩) hok)
    | exact wpAny_bind (m := Builtin.Tuple.tupleExact _) (wpAny_newObj_type (wpAny_bind (wpAny_pure (wpAny_pure ⟨_, rfl, wpAny_pure h⟩))) hok)
    | exact wpAny_bind (wpAny_bind (m := Builtin.Tuple.tupleExact _) (wpAny_newObj_type (wpAny_pure (wpAny_pure ⟨_, rfl, wpAny_pure h⟩)) hok))
    | exact wpAny_bind (wpAny_bind (m := Builtin.Tuple.tupleExact _) (wpAny_newObj_type (wpAny_pure ⟨_, rfl, wpAny_pure h⟩) hok))

theorem slice_tuple_15 {value slice : PySem.Expr} {t : Addr} {n : Nat} {a b c d e f : Value} {u u' : Tok} {Q : Value → Shared → Prop}
    (F : Fr h₀ L s.heap m) (N : News h₀ L s.heap news) (hm : (t, ({ cls := .type "tuple", data := .seq #[a, b, c, d, e, f] n } : Obj)) ∈ news)
    (h : ∀ D h', Fr h₀ L h' m → News h₀ L h' ((D, ({ cls := .type "tuple", data := .seq #[b, c, d, e] } : Obj)) :: news) → (∀ p ∈ news, p.1 < D) → Q (.ref D) { s with heap := h' })
    (hs : subscripted slice false (.ref t) (.ref s.heap.objs.size) = operate [.ref s.heap.objs.size, .ref t] (getItem (.ref t) (.ref s.heap.objs.size))) :
    wpAny (model prog w) A (subscriptTail value slice (.ref t) (.ref s.heap.objs.size)) Q E { s with heap := s.heap.push { cls := .type "slice", data := .fields #[.int 1 u, .int 5 u', .none] } } := by
  have ht : IsTup s.heap t #[a, b, c, d, e, f] := ⟨_, (N _ hm).1, rfl, n, rfl⟩
  have ht' : IsTup (s.heap.push { cls := .type "slice", data := .fields #[.int 1 u, .int 5 u', .none] }) t #[a, b, c, d, e, f] := ht.keeps fun _ _ e => Heap.get?_push_of_some _ e
  refine tail_any (s := { s with heap := s.heap.push { cls := .type "slice", data := .fields #[.int 1 u, .int 5 u', .none] } }) ht'.typeIs slot_tuple_getitem.lookup
    (getItem_tuple_15 ht' (Heap.IsSliceOf.new ..) ?_) hs
  have N1 := News.push (F.push { cls := .type "slice", data := .fields #[.int 1 u, .int 5 u', .none] }) (N.grown fun _ _ e => Heap.get?_push_of_some _ e) { cls := .type "tuple", data := .seq #[b, c, d, e] }
  rw [Heap.size_push] at N1
  show Q (.ref (s.heap.push _).objs.size) _
  rw [Heap.size_push]
  exact h _ _ ((F.push _).push _) N1 fun p hp => Nat.lt_succ_of_lt (Heap.lt_size (N p hp).1)
end

-- J1
local macro_rules | `(tactic| walk_at "binaryOp Pow int int") => `(tactic| with_reducible first | refine pow_32 ?_ | refine pow_31 ?_ | refine pow_22 ?_ | refine pow_11 ?_)

section
variable {prog : Program} {w : World} {A : Around} {E : Value → Shared → Prop} {s : Shared} {env : Env}
theorem eval_31 {k1 k2 : Tok} {p1 p2 p3 : Pos} {Q : Value → Shared → Prop} (h : ∀ t tk, Q (.int 2147483648 t) { s with toks := tk }) :
    wpAny (model prog w) A (eval (.BinOp (.Constant (.int 2) k1 p1) .Pow (.Constant (.int 31) k2 p2) p3) env) Q E s := by
  repeat' walk1
  exact h _ _
theorem chain_join {k1 k2 : Tok} {p1 p2 p3 pos : Pos} {a b : Int} {ta tb : Tok} {Q : Value → Shared → Prop} (h : ∀ tk, Q (.bool (decide (a ≤ b) && decide (b < 2147483648))) { s with toks := tk }) :
    wpAny (model prog w) A (compareOp .LtE (.int a ta) (.int b tb)) (fun c s₂ => wpAny (model prog w) A (truthy c) (fun t s₃ => if t then wpAny (model prog w) A (compareChain pos (.int b tb) [.Lt] [eval (.BinOp (.Constant (.int 2) k1 p1) .Pow (.Constant (.int 31) k2 p2) p3) env]) Q E s₃ else Q c s₃) E s₂) E s := by
  walk1
  walk1
  cases hc : decide (a ≤ b) with
  | true =>
    rw [if_pos rfl]
    simp only [hc, Bool.true_and] at h
    refine chain_last (eval_31 fun t tk => ?_)
    walk1
    exact h tk
  | false =>
    rw [if_neg Bool.false_ne_true]
    simp only [hc, Bool.false_and] at h
    exact h s.toks
theorem test_join {k1 k2 : Tok} {p1 p2 p3 pos : Pos} {a b : Int} {ta tb : Tok} {Q : Bool → Shared → Prop} (h : ∀ tk, Q (decide (a ≤ b) && decide (b < 2147483648)) { s with toks := tk }) :
    wpAny (model prog w) A (compareOp .LtE (.int a ta) (.int b tb)) (fun c s₂ => wpAny (model prog w) A (truthy c) (fun t s₃ => if t then wpAny (model prog w) A (testChain pos (.int b tb) [.Lt] [eval (.BinOp (.Constant (.int 2) k1 p1) .Pow (.Constant (.int 31) k2 p2) p3) env]) Q E s₃ else Q false s₃) E s₂) E s := by
  walk1
  walk1
  cases hc : decide (a ≤ b) with
  | true =>
    rw [if_pos rfl]
    simp only [hc, Bool.true_and] at h
    refine test_last (eval_31 fun t tk => ?_)
    walk1
    walk1
    exact h tk
  | false =>
    rw [if_neg Bool.false_ne_true]
    simp only [hc, Bool.false_and] at h
    exact h s.toks
end

-- P1
def signed (x : Int) : Int := if 2147483648 ≤ x then x - 4294967296 else x

theorem xor_and_add : ∀ a b : Nat, (a ^^^ b) + 2 * (a &&& b) = a + b := by
  intro a
  induction a using Nat.strongRecOn with
  | _ a ih =>
    intro b
    by_cases h0 : a = 0
    · subst h0; simp
    · have h := ih (a / 2) (by omega) (b / 2)
      have h1 : (a ^^^ b) / 2 = a / 2 ^^^ b / 2 := Nat.xor_div_two
      have h2 : (a &&& b) / 2 = a / 2 &&& b / 2 := Nat.and_div_two
      have h3 : (a ^^^ b) % 2 = 1 ↔ ¬ ((a % 2 = 1) ↔ (b % 2 = 1)) := Nat.xor_mod_two_eq_one
      have h4 : (a &&& b) % 2 = 1 ↔ a % 2 = 1 ∧ b % 2 = 1 := Nat.and_mod_two_eq_one
      rw [← h1, ← h2] at h
      rcases Nat.mod_two_eq_zero_or_one a with ha | ha <;> rcases Nat.mod_two_eq_zero_or_one b with hb | hb <;> rw [ha, hb] at h3 h4 <;> omega

theorem bitAnd_nn {x y : Int} (hx : 0 ≤ x) (hy : 0 ≤ y) : Builtin.bitAnd x y = ((x.toNat &&& y.toNat : Nat) : Int) := by
  unfold Builtin.bitAnd
  rw [decide_eq_true hx, decide_eq_true hy]
theorem bitXor_nn {x y : Int} (hx : 0 ≤ x) (hy : 0 ≤ y) : Builtin.bitXor x y = ((x.toNat ^^^ y.toNat : Nat) : Int) := by
  rw [bitXor_and, bitAnd_nn hx hy]
  have := xor_and_add x.toNat y.toNat
  omega

theorem subR_eq (x y : Int) : subR x y = (x - y) % 4294967296 := by
  unfold subR
  rw [bitAnd_m32]
theorem fdiv31 (a : Int) : Int.fdiv a 2147483648 = a / 2147483648 := Int.fdiv_eq_ediv_of_nonneg a (by decide)

/-- the sign bits' part of the overflow -/
theorem subV_eq {x y : Int} (hx : 0 ≤ x) (hy : 0 ≤ y) : subV x y = (((x.toNat / 2 ^ 31 ^^^ y.toNat / 2 ^ 31) &&& (x.toNat / 2 ^ 31 ^^^ (subR x y).toNat / 2 ^ 31) : Nat) : Int) := by
  have hr : 0 ≤ subR x y := by rw [subR_eq]; omega
  unfold subV
  rw [fdiv31, bitXor_nn hx hy, bitXor_nn hx hr, bitAnd_nn (by omega) (by omega)]
  rw [← Nat.xor_div_two_pow, ← Nat.xor_div_two_pow, ← Nat.and_div_two_pow]
  simp only [Int.toNat_natCast]
  omega

theorem signed_cases (x : Int) : (2147483648 ≤ x ∧ signed x = x - 4294967296) ∨ (x < 2147483648 ∧ signed x = x) := by
  unfold signed
  by_cases h : 2147483648 ≤ x
  · exact .inl ⟨h, if_pos h⟩
  · exact .inr ⟨by omega, if_neg h⟩
theorem subN_cases (x y : Int) : (subN x y = 1 ∧ 2147483648 ≤ (x - y) % 4294967296) ∨ (subN x y = 0 ∧ (x - y) % 4294967296 < 2147483648) := by
  unfold subN
  rw [fdiv31, subR_eq]
  omega
theorem subZ_cases {x y : Int} (hx : 0 ≤ x ∧ x < 4294967296) (hy : 0 ≤ y ∧ y < 4294967296) : (subZ x y = 1 ∧ x = y) ∨ (subZ x y = 0 ∧ x ≠ y) := by
  unfold subZ
  rw [subR_eq]
  by_cases h : (x - y) % 4294967296 = 0
  · rw [if_pos h]; exact .inl ⟨rfl, by omega⟩
  · rw [if_neg h]; exact .inr ⟨rfl, by omega⟩
theorem subC_cases (x y : Int) : (subC x y = 1 ∧ x < y) ∨ (subC x y = 0 ∧ y ≤ x) := by
  unfold subC
  by_cases h : x < y
  · exact .inl ⟨if_pos h, h⟩
  · exact .inr ⟨if_neg h, by omega⟩
theorem bit3 : ∀ a b c : Nat, a < 2 → b < 2 → c < 2 → ((a ^^^ b) &&& (a ^^^ c)) = if a ≠ b ∧ a ≠ c then 1 else 0 := by
  intro a b c ha hb hc
  have h1 : a = 0 ∨ a = 1 := by omega
  have h2 : b = 0 ∨ b = 1 := by omega
  have h3 : c = 0 ∨ c = 1 := by omega
  rcases h1 with rfl | rfl <;> rcases h2 with rfl | rfl <;> rcases h3 with rfl | rfl <;> decide
theorem subV_cases {x y : Int} (hx : 0 ≤ x ∧ x < 4294967296) (hy : 0 ≤ y ∧ y < 4294967296) :
    (subV x y = 1 ∧ ¬ (-2147483648 ≤ signed x - signed y ∧ signed x - signed y < 2147483648)) ∨ (subV x y = 0 ∧ -2147483648 ≤ signed x - signed y ∧ signed x - signed y < 2147483648) := by
  rw [subV_eq hx.1 hy.1, bit3 _ _ _ (by omega) (by omega) (by rw [subR_eq]; omega), subR_eq]
  rcases signed_cases x with ⟨a1, a2⟩ | ⟨a1, a2⟩ <;> rcases signed_cases y with ⟨b1, b2⟩ | ⟨b1, b2⟩ <;> rw [a2, b2] <;> split <;> omega

/-- what the law asks behind the difference -/
def dueV (x y : Int) : Nat → Bool
  | 0 => decide (2147483648 ≤ Int.fmod (x - y) 4294967296)
  | 1 => x == y
  | 2 => decide (x < y)
  | 3 => !(decide (-2147483648 ≤ signed x - signed y) && decide (signed x - signed y < 2147483648))
  | 4 => decide (x ≤ y)
  | 5 => decide (signed x < signed y)
  | 6 => decide (signed x ≤ signed y)
  | 7 => true
  | 8 => decide (Int.fmod (x - y) 4294967296 < 2147483648)
  | 9 => x != y
  | 10 => decide (y ≤ x)
  | 11 => decide (-2147483648 ≤ signed x - signed y) && decide (signed x - signed y < 2147483648)
  | 12 => decide (y < x)
  | 13 => decide (signed y ≤ signed x)
  | 14 => decide (signed y < signed x)
  | _ => false

theorem due_0 {x y : Int} (hx : 0 ≤ x ∧ x < 4294967296) (hy : 0 ≤ y ∧ y < 4294967296) (n z c v : Int) (hn : (n = 1 ∧ 2147483648 ≤ (x - y) % 4294967296) ∨ (n = 0 ∧ (x - y) % 4294967296 < 2147483648)) (hz : (z = 1 ∧ x = y) ∨ (z = 0 ∧ x ≠ y)) (hc : (c = 1 ∧ x < y) ∨ (c = 0 ∧ y ≤ x))
    (hv : (v = 1 ∧ ¬ (-2147483648 ≤ signed x - signed y ∧ signed x - signed y < 2147483648)) ∨ (v = 0 ∧ -2147483648 ≤ signed x - signed y ∧ signed x - signed y < 2147483648)) : holdsV 0 n z c v = dueV x y 0 := by
  show (n != 0) = _
  clear hz hc hv
  have hm : Int.fmod (x - y) 4294967296 = (x - y) % 4294967296 := Int.fmod_eq_emod_of_nonneg _ (by decide)
  rcases hn with ⟨rfl, fn⟩ | ⟨rfl, fn⟩ <;> simp only [dueV, hm] <;> first
    | (rw [show (_ != _) = true from by decide]; symm; simp only [decide_eq_true_eq, Bool.and_eq_true, Bool.not_eq_true', Bool.and_eq_false_iff, decide_eq_false_iff_not, beq_iff_eq, bne_iff_ne]; omega)
    | (rw [show (_ != _) = false from by decide]; symm; simp only [decide_eq_false_iff_not, Bool.and_eq_true, Bool.not_eq_false', Bool.and_eq_false_iff, decide_eq_true_eq, beq_eq_false_iff_ne, bne_eq_false_iff_eq]; omega)
theorem due_1 {x y : Int} (hx : 0 ≤ x ∧ x < 4294967296) (hy : 0 ≤ y ∧ y < 4294967296) (n z c v : Int) (hn : (n = 1 ∧ 2147483648 ≤ (x - y) % 4294967296) ∨ (n = 0 ∧ (x - y) % 4294967296 < 2147483648)) (hz : (z = 1 ∧ x = y) ∨ (z = 0 ∧ x ≠ y)) (hc : (c = 1 ∧ x < y) ∨ (c = 0 ∧ y ≤ x))
    (hv : (v = 1 ∧ ¬ (-2147483648 ≤ signed x - signed y ∧ signed x - signed y < 2147483648)) ∨ (v = 0 ∧ -2147483648 ≤ signed x - signed y ∧ signed x - signed y < 2147483648)) : holdsV 1 n z c v = dueV x y 1 := by
  show (z != 0) = _
  clear hn hc hv
  rcases hz with ⟨rfl, fz⟩ | ⟨rfl, fz⟩ <;> simp only [dueV] <;> first
    | (rw [show (_ != _) = true from by decide]; symm; simp only [decide_eq_true_eq, Bool.and_eq_true, Bool.not_eq_true', Bool.and_eq_false_iff, decide_eq_false_iff_not, beq_iff_eq, bne_iff_ne]; omega)
    | (rw [show (_ != _) = false from by decide]; symm; simp only [decide_eq_false_iff_not, Bool.and_eq_true, Bool.not_eq_false', Bool.and_eq_false_iff, decide_eq_true_eq, beq_eq_false_iff_ne, bne_eq_false_iff_eq]; omega)
theorem due_2 {x y : Int} (hx : 0 ≤ x ∧ x < 4294967296) (hy : 0 ≤ y ∧ y < 4294967296) (n z c v : Int) (hn : (n = 1 ∧ 2147483648 ≤ (x - y) % 4294967296) ∨ (n = 0 ∧ (x - y) % 4294967296 < 2147483648)) (hz : (z = 1 ∧ x = y) ∨ (z = 0 ∧ x ≠ y)) (hc : (c = 1 ∧ x < y) ∨ (c = 0 ∧ y ≤ x))
    (hv : (v = 1 ∧ ¬ (-2147483648 ≤ signed x - signed y ∧ signed x - signed y < 2147483648)) ∨ (v = 0 ∧ -2147483648 ≤ signed x - signed y ∧ signed x - signed y < 2147483648)) : holdsV 2 n z c v = dueV x y 2 := by
  show (c != 0) = _
  clear hn hz hv
  rcases hc with ⟨rfl, fc⟩ | ⟨rfl, fc⟩ <;> simp only [dueV] <;> first
    | (rw [show (_ != _) = true from by decide]; symm; simp only [decide_eq_true_eq, Bool.and_eq_true, Bool.not_eq_true', Bool.and_eq_false_iff, decide_eq_false_iff_not, beq_iff_eq, bne_iff_ne]; omega)
    | (rw [show (_ != _) = false from by decide]; symm; simp only [decide_eq_false_iff_not, Bool.and_eq_true, Bool.not_eq_false', Bool.and_eq_false_iff, decide_eq_true_eq, beq_eq_false_iff_ne, bne_eq_false_iff_eq]; omega)
theorem due_3 {x y : Int} (hx : 0 ≤ x ∧ x < 4294967296) (hy : 0 ≤ y ∧ y < 4294967296) (n z c v : Int) (hn : (n = 1 ∧ 2147483648 ≤ (x - y) % 4294967296) ∨ (n = 0 ∧ (x - y) % 4294967296 < 2147483648)) (hz : (z = 1 ∧ x = y) ∨ (z = 0 ∧ x ≠ y)) (hc : (c = 1 ∧ x < y) ∨ (c = 0 ∧ y ≤ x))
    (hv : (v = 1 ∧ ¬ (-2147483648 ≤ signed x - signed y ∧ signed x - signed y < 2147483648)) ∨ (v = 0 ∧ -2147483648 ≤ signed x - signed y ∧ signed x - signed y < 2147483648)) : holdsV 3 n z c v = dueV x y 3 := by
  show (v != 0) = _
  clear hn hz hc
  rcases hv with ⟨rfl, fv⟩ | ⟨rfl, fv⟩ <;> simp only [dueV] <;> first
    | (rw [show (_ != _) = true from by decide]; symm; simp only [decide_eq_true_eq, Bool.and_eq_true, Bool.not_eq_true', Bool.and_eq_false_iff, decide_eq_false_iff_not, beq_iff_eq, bne_iff_ne]; omega)
    | (rw [show (_ != _) = false from by decide]; symm; simp only [decide_eq_false_iff_not, Bool.and_eq_true, Bool.not_eq_false', Bool.and_eq_false_iff, decide_eq_true_eq, beq_eq_false_iff_ne, bne_eq_false_iff_eq]; omega)
theorem due_4 {x y : Int} (hx : 0 ≤ x ∧ x < 4294967296) (hy : 0 ≤ y ∧ y < 4294967296) (n z c v : Int) (hn : (n = 1 ∧ 2147483648 ≤ (x - y) % 4294967296) ∨ (n = 0 ∧ (x - y) % 4294967296 < 2147483648)) (hz : (z = 1 ∧ x = y) ∨ (z = 0 ∧ x ≠ y)) (hc : (c = 1 ∧ x < y) ∨ (c = 0 ∧ y ≤ x))
    (hv : (v = 1 ∧ ¬ (-2147483648 ≤ signed x - signed y ∧ signed x - signed y < 2147483648)) ∨ (v = 0 ∧ -2147483648 ≤ signed x - signed y ∧ signed x - signed y < 2147483648)) : holdsV 4 n z c v = dueV x y 4 := by
  show (Builtin.bitOr c z != 0) = _
  clear hn hv
  rcases hc with ⟨rfl, fc⟩ | ⟨rfl, fc⟩ <;> rcases hz with ⟨rfl, fz⟩ | ⟨rfl, fz⟩ <;> (try (exfalso; omega)) <;> simp only [dueV] <;> first
    | (rw [show (_ != _) = true from by decide]; symm; simp only [decide_eq_true_eq, Bool.and_eq_true, Bool.not_eq_true', Bool.and_eq_false_iff, decide_eq_false_iff_not, beq_iff_eq, bne_iff_ne]; omega)
    | (rw [show (_ != _) = false from by decide]; symm; simp only [decide_eq_false_iff_not, Bool.and_eq_true, Bool.not_eq_false', Bool.and_eq_false_iff, decide_eq_true_eq, beq_eq_false_iff_ne, bne_eq_false_iff_eq]; omega)
theorem due_5 {x y : Int} (hx : 0 ≤ x ∧ x < 4294967296) (hy : 0 ≤ y ∧ y < 4294967296) (n z c v : Int) (hn : (n = 1 ∧ 2147483648 ≤ (x - y) % 4294967296) ∨ (n = 0 ∧ (x - y) % 4294967296 < 2147483648)) (hz : (z = 1 ∧ x = y) ∨ (z = 0 ∧ x ≠ y)) (hc : (c = 1 ∧ x < y) ∨ (c = 0 ∧ y ≤ x))
    (hv : (v = 1 ∧ ¬ (-2147483648 ≤ signed x - signed y ∧ signed x - signed y < 2147483648)) ∨ (v = 0 ∧ -2147483648 ≤ signed x - signed y ∧ signed x - signed y < 2147483648)) : holdsV 5 n z c v = dueV x y 5 := by
  have sx := signed_cases x
  have sy := signed_cases y
  show (Builtin.bitXor n v != 0) = _
  clear hz hc
  rcases hn with ⟨rfl, fn⟩ | ⟨rfl, fn⟩ <;> rcases hv with ⟨rfl, fv⟩ | ⟨rfl, fv⟩ <;> (try (exfalso; omega)) <;> simp only [dueV] <;> first
    | (rw [show (_ != _) = true from by decide]; symm; simp only [decide_eq_true_eq, Bool.and_eq_true, Bool.not_eq_true', Bool.and_eq_false_iff, decide_eq_false_iff_not, beq_iff_eq, bne_iff_ne]; omega)
    | (rw [show (_ != _) = false from by decide]; symm; simp only [decide_eq_false_iff_not, Bool.and_eq_true, Bool.not_eq_false', Bool.and_eq_false_iff, decide_eq_true_eq, beq_eq_false_iff_ne, bne_eq_false_iff_eq]; omega)
theorem due_6 {x y : Int} (hx : 0 ≤ x ∧ x < 4294967296) (hy : 0 ≤ y ∧ y < 4294967296) (n z c v : Int) (hn : (n = 1 ∧ 2147483648 ≤ (x - y) % 4294967296) ∨ (n = 0 ∧ (x - y) % 4294967296 < 2147483648)) (hz : (z = 1 ∧ x = y) ∨ (z = 0 ∧ x ≠ y)) (hc : (c = 1 ∧ x < y) ∨ (c = 0 ∧ y ≤ x))
    (hv : (v = 1 ∧ ¬ (-2147483648 ≤ signed x - signed y ∧ signed x - signed y < 2147483648)) ∨ (v = 0 ∧ -2147483648 ≤ signed x - signed y ∧ signed x - signed y < 2147483648)) : holdsV 6 n z c v = dueV x y 6 := by
  have sx := signed_cases x
  have sy := signed_cases y
  show (Builtin.bitOr (Builtin.bitXor n v) z != 0) = _
  clear hc
  rcases hn with ⟨rfl, fn⟩ | ⟨rfl, fn⟩ <;> rcases hv with ⟨rfl, fv⟩ | ⟨rfl, fv⟩ <;> rcases hz with ⟨rfl, fz⟩ | ⟨rfl, fz⟩ <;> (try (exfalso; omega)) <;> simp only [dueV] <;> first
    | (rw [show (_ != _) = true from by decide]; symm; simp only [decide_eq_true_eq, Bool.and_eq_true, Bool.not_eq_true', Bool.and_eq_false_iff, decide_eq_false_iff_not, beq_iff_eq, bne_iff_ne]; omega)
    | (rw [show (_ != _) = false from by decide]; symm; simp only [decide_eq_false_iff_not, Bool.and_eq_true, Bool.not_eq_false', Bool.and_eq_false_iff, decide_eq_true_eq, beq_eq_false_iff_ne, bne_eq_false_iff_eq]; omega)
theorem due_7 {x y : Int} (hx : 0 ≤ x ∧ x < 4294967296) (hy : 0 ≤ y ∧ y < 4294967296) (n z c v : Int) (hn : (n = 1 ∧ 2147483648 ≤ (x - y) % 4294967296) ∨ (n = 0 ∧ (x - y) % 4294967296 < 2147483648)) (hz : (z = 1 ∧ x = y) ∨ (z = 0 ∧ x ≠ y)) (hc : (c = 1 ∧ x < y) ∨ (c = 0 ∧ y ≤ x))
    (hv : (v = 1 ∧ ¬ (-2147483648 ≤ signed x - signed y ∧ signed x - signed y < 2147483648)) ∨ (v = 0 ∧ -2147483648 ≤ signed x - signed y ∧ signed x - signed y < 2147483648)) : holdsV 7 n z c v = dueV x y 7 := by
  rfl
theorem due_8 {x y : Int} (hx : 0 ≤ x ∧ x < 4294967296) (hy : 0 ≤ y ∧ y < 4294967296) (n z c v : Int) (hn : (n = 1 ∧ 2147483648 ≤ (x - y) % 4294967296) ∨ (n = 0 ∧ (x - y) % 4294967296 < 2147483648)) (hz : (z = 1 ∧ x = y) ∨ (z = 0 ∧ x ≠ y)) (hc : (c = 1 ∧ x < y) ∨ (c = 0 ∧ y ≤ x))
    (hv : (v = 1 ∧ ¬ (-2147483648 ≤ signed x - signed y ∧ signed x - signed y < 2147483648)) ∨ (v = 0 ∧ -2147483648 ≤ signed x - signed y ∧ signed x - signed y < 2147483648)) : holdsV 8 n z c v = dueV x y 8 := by
  show (n != 1) = _
  clear hz hc hv
  have hm : Int.fmod (x - y) 4294967296 = (x - y) % 4294967296 := Int.fmod_eq_emod_of_nonneg _ (by decide)
  rcases hn with ⟨rfl, fn⟩ | ⟨rfl, fn⟩ <;> simp only [dueV, hm] <;> first
    | (rw [show (_ != _) = true from by decide]; symm; simp only [decide_eq_true_eq, Bool.and_eq_true, Bool.not_eq_true', Bool.and_eq_false_iff, decide_eq_false_iff_not, beq_iff_eq, bne_iff_ne]; omega)
    | (rw [show (_ != _) = false from by decide]; symm; simp only [decide_eq_false_iff_not, Bool.and_eq_true, Bool.not_eq_false', Bool.and_eq_false_iff, decide_eq_true_eq, beq_eq_false_iff_ne, bne_eq_false_iff_eq]; omega)
theorem due_9 {x y : Int} (hx : 0 ≤ x ∧ x < 4294967296) (hy : 0 ≤ y ∧ y < 4294967296) (n z c v : Int) (hn : (n = 1 ∧ 2147483648 ≤ (x - y) % 4294967296) ∨ (n = 0 ∧ (x - y) % 4294967296 < 2147483648)) (hz : (z = 1 ∧ x = y) ∨ (z = 0 ∧ x ≠ y)) (hc : (c = 1 ∧ x < y) ∨ (c = 0 ∧ y ≤ x))
    (hv : (v = 1 ∧ ¬ (-2147483648 ≤ signed x - signed y ∧ signed x - signed y < 2147483648)) ∨ (v = 0 ∧ -2147483648 ≤ signed x - signed y ∧ signed x - signed y < 2147483648)) : holdsV 9 n z c v = dueV x y 9 := by
  show (z != 1) = _
  clear hn hc hv
  rcases hz with ⟨rfl, fz⟩ | ⟨rfl, fz⟩ <;> simp only [dueV] <;> first
    | (rw [show (_ != _) = true from by decide]; symm; simp only [decide_eq_true_eq, Bool.and_eq_true, Bool.not_eq_true', Bool.and_eq_false_iff, decide_eq_false_iff_not, beq_iff_eq, bne_iff_ne]; omega)
    | (rw [show (_ != _) = false from by decide]; symm; simp only [decide_eq_false_iff_not, Bool.and_eq_true, Bool.not_eq_false', Bool.and_eq_false_iff, decide_eq_true_eq, beq_eq_false_iff_ne, bne_eq_false_iff_eq]; omega)
theorem due_10 {x y : Int} (hx : 0 ≤ x ∧ x < 4294967296) (hy : 0 ≤ y ∧ y < 4294967296) (n z c v : Int) (hn : (n = 1 ∧ 2147483648 ≤ (x - y) % 4294967296) ∨ (n = 0 ∧ (x - y) % 4294967296 < 2147483648)) (hz : (z = 1 ∧ x = y) ∨ (z = 0 ∧ x ≠ y)) (hc : (c = 1 ∧ x < y) ∨ (c = 0 ∧ y ≤ x))
    (hv : (v = 1 ∧ ¬ (-2147483648 ≤ signed x - signed y ∧ signed x - signed y < 2147483648)) ∨ (v = 0 ∧ -2147483648 ≤ signed x - signed y ∧ signed x - signed y < 2147483648)) : holdsV 10 n z c v = dueV x y 10 := by
  show (c != 1) = _
  clear hn hz hv
  rcases hc with ⟨rfl, fc⟩ | ⟨rfl, fc⟩ <;> simp only [dueV] <;> first
    | (rw [show (_ != _) = true from by decide]; symm; simp only [decide_eq_true_eq, Bool.and_eq_true, Bool.not_eq_true', Bool.and_eq_false_iff, decide_eq_false_iff_not, beq_iff_eq, bne_iff_ne]; omega)
    | (rw [show (_ != _) = false from by decide]; symm; simp only [decide_eq_false_iff_not, Bool.and_eq_true, Bool.not_eq_false', Bool.and_eq_false_iff, decide_eq_true_eq, beq_eq_false_iff_ne, bne_eq_false_iff_eq]; omega)
theorem due_11 {x y : Int} (hx : 0 ≤ x ∧ x < 4294967296) (hy : 0 ≤ y ∧ y < 4294967296) (n z c v : Int) (hn : (n = 1 ∧ 2147483648 ≤ (x - y) % 4294967296) ∨ (n = 0 ∧ (x - y) % 4294967296 < 2147483648)) (hz : (z = 1 ∧ x = y) ∨ (z = 0 ∧ x ≠ y)) (hc : (c = 1 ∧ x < y) ∨ (c = 0 ∧ y ≤ x))
    (hv : (v = 1 ∧ ¬ (-2147483648 ≤ signed x - signed y ∧ signed x - signed y < 2147483648)) ∨ (v = 0 ∧ -2147483648 ≤ signed x - signed y ∧ signed x - signed y < 2147483648)) : holdsV 11 n z c v = dueV x y 11 := by
  show (v != 1) = _
  clear hn hz hc
  rcases hv with ⟨rfl, fv⟩ | ⟨rfl, fv⟩ <;> simp only [dueV] <;> first
    | (rw [show (_ != _) = true from by decide]; symm; simp only [decide_eq_true_eq, Bool.and_eq_true, Bool.not_eq_true', Bool.and_eq_false_iff, decide_eq_false_iff_not, beq_iff_eq, bne_iff_ne]; omega)
    | (rw [show (_ != _) = false from by decide]; symm; simp only [decide_eq_false_iff_not, Bool.and_eq_true, Bool.not_eq_false', Bool.and_eq_false_iff, decide_eq_true_eq, beq_eq_false_iff_ne, bne_eq_false_iff_eq]; omega)
theorem due_12 {x y : Int} (hx : 0 ≤ x ∧ x < 4294967296) (hy : 0 ≤ y ∧ y < 4294967296) (n z c v : Int) (hn : (n = 1 ∧ 2147483648 ≤ (x - y) % 4294967296) ∨ (n = 0 ∧ (x - y) % 4294967296 < 2147483648)) (hz : (z = 1 ∧ x = y) ∨ (z = 0 ∧ x ≠ y)) (hc : (c = 1 ∧ x < y) ∨ (c = 0 ∧ y ≤ x))
    (hv : (v = 1 ∧ ¬ (-2147483648 ≤ signed x - signed y ∧ signed x - signed y < 2147483648)) ∨ (v = 0 ∧ -2147483648 ≤ signed x - signed y ∧ signed x - signed y < 2147483648)) : holdsV 12 n z c v = dueV x y 12 := by
  show (Builtin.bitOr c z != 1) = _
  clear hn hv
  rcases hc with ⟨rfl, fc⟩ | ⟨rfl, fc⟩ <;> rcases hz with ⟨rfl, fz⟩ | ⟨rfl, fz⟩ <;> (try (exfalso; omega)) <;> simp only [dueV] <;> first
    | (rw [show (_ != _) = true from by decide]; symm; simp only [decide_eq_true_eq, Bool.and_eq_true, Bool.not_eq_true', Bool.and_eq_false_iff, decide_eq_false_iff_not, beq_iff_eq, bne_iff_ne]; omega)
    | (rw [show (_ != _) = false from by decide]; symm; simp only [decide_eq_false_iff_not, Bool.and_eq_true, Bool.not_eq_false', Bool.and_eq_false_iff, decide_eq_true_eq, beq_eq_false_iff_ne, bne_eq_false_iff_eq]; omega)
theorem due_13 {x y : Int} (hx : 0 ≤ x ∧ x < 4294967296) (hy : 0 ≤ y ∧ y < 4294967296) (n z c v : Int) (hn : (n = 1 ∧ 2147483648 ≤ (x - y) % 4294967296) ∨ (n = 0 ∧ (x - y) % 4294967296 < 2147483648)) (hz : (z = 1 ∧ x = y) ∨ (z = 0 ∧ x ≠ y)) (hc : (c = 1 ∧ x < y) ∨ (c = 0 ∧ y ≤ x))
    (hv : (v = 1 ∧ ¬ (-2147483648 ≤ signed x - signed y ∧ signed x - signed y < 2147483648)) ∨ (v = 0 ∧ -2147483648 ≤ signed x - signed y ∧ signed x - signed y < 2147483648)) : holdsV 13 n z c v = dueV x y 13 := by
  have sx := signed_cases x
  have sy := signed_cases y
  show (Builtin.bitXor n v != 1) = _
  clear hz hc
  rcases hn with ⟨rfl, fn⟩ | ⟨rfl, fn⟩ <;> rcases hv with ⟨rfl, fv⟩ | ⟨rfl, fv⟩ <;> (try (exfalso; omega)) <;> simp only [dueV] <;> first
    | (rw [show (_ != _) = true from by decide]; symm; simp only [decide_eq_true_eq, Bool.and_eq_true, Bool.not_eq_true', Bool.and_eq_false_iff, decide_eq_false_iff_not, beq_iff_eq, bne_iff_ne]; omega)
    | (rw [show (_ != _) = false from by decide]; symm; simp only [decide_eq_false_iff_not, Bool.and_eq_true, Bool.not_eq_false', Bool.and_eq_false_iff, decide_eq_true_eq, beq_eq_false_iff_ne, bne_eq_false_iff_eq]; omega)
theorem due_14 {x y : Int} (hx : 0 ≤ x ∧ x < 4294967296) (hy : 0 ≤ y ∧ y < 4294967296) (n z c v : Int) (hn : (n = 1 ∧ 2147483648 ≤ (x - y) % 4294967296) ∨ (n = 0 ∧ (x - y) % 4294967296 < 2147483648)) (hz : (z = 1 ∧ x = y) ∨ (z = 0 ∧ x ≠ y)) (hc : (c = 1 ∧ x < y) ∨ (c = 0 ∧ y ≤ x))
    (hv : (v = 1 ∧ ¬ (-2147483648 ≤ signed x - signed y ∧ signed x - signed y < 2147483648)) ∨ (v = 0 ∧ -2147483648 ≤ signed x - signed y ∧ signed x - signed y < 2147483648)) : holdsV 14 n z c v = dueV x y 14 := by
  have sx := signed_cases x
  have sy := signed_cases y
  show (Builtin.bitOr (Builtin.bitXor n v) z != 1) = _
  clear hc
  rcases hn with ⟨rfl, fn⟩ | ⟨rfl, fn⟩ <;> rcases hv with ⟨rfl, fv⟩ | ⟨rfl, fv⟩ <;> rcases hz with ⟨rfl, fz⟩ | ⟨rfl, fz⟩ <;> (try (exfalso; omega)) <;> simp only [dueV] <;> first
    | (rw [show (_ != _) = true from by decide]; symm; simp only [decide_eq_true_eq, Bool.and_eq_true, Bool.not_eq_true', Bool.and_eq_false_iff, decide_eq_false_iff_not, beq_iff_eq, bne_iff_ne]; omega)
    | (rw [show (_ != _) = false from by decide]; symm; simp only [decide_eq_false_iff_not, Bool.and_eq_true, Bool.not_eq_false', Bool.and_eq_false_iff, decide_eq_true_eq, beq_eq_false_iff_ne, bne_eq_false_iff_eq]; omega)
theorem due_15 {x y : Int} (hx : 0 ≤ x ∧ x < 4294967296) (hy : 0 ≤ y ∧ y < 4294967296) (n z c v : Int) (hn : (n = 1 ∧ 2147483648 ≤ (x - y) % 4294967296) ∨ (n = 0 ∧ (x - y) % 4294967296 < 2147483648)) (hz : (z = 1 ∧ x = y) ∨ (z = 0 ∧ x ≠ y)) (hc : (c = 1 ∧ x < y) ∨ (c = 0 ∧ y ≤ x))
    (hv : (v = 1 ∧ ¬ (-2147483648 ≤ signed x - signed y ∧ signed x - signed y < 2147483648)) ∨ (v = 0 ∧ -2147483648 ≤ signed x - signed y ∧ signed x - signed y < 2147483648)) : holdsV 15 n z c v = dueV x y 15 := by
  rfl
theorem due_eq {x y : Int} (hx : 0 ≤ x ∧ x < 4294967296) (hy : 0 ≤ y ∧ y < 4294967296) (j : Nat) (hj : j < 16) : holdsV j (subN x y) (subZ x y) (subC x y) (subV x y) = dueV x y j := by
  have hJ : j = 0 ∨ j = 1 ∨ j = 2 ∨ j = 3 ∨ j = 4 ∨ j = 5 ∨ j = 6 ∨ j = 7 ∨ j = 8 ∨ j = 9 ∨ j = 10 ∨ j = 11 ∨ j = 12 ∨ j = 13 ∨ j = 14 ∨ j = 15 := by omega
  have a := subN_cases x y
  have b := subZ_cases hx hy
  have c := subC_cases x y
  have d := subV_cases hx hy
  rcases hJ with rfl | rfl | rfl | rfl | rfl | rfl | rfl | rfl | rfl | rfl | rfl | rfl | rfl | rfl | rfl | rfl
  · exact due_0 hx hy _ _ _ _ a b c d
  · exact due_1 hx hy _ _ _ _ a b c d
  · exact due_2 hx hy _ _ _ _ a b c d
  · exact due_3 hx hy _ _ _ _ a b c d
  · exact due_4 hx hy _ _ _ _ a b c d
  · exact due_5 hx hy _ _ _ _ a b c d
  · exact due_6 hx hy _ _ _ _ a b c d
  · exact due_7 hx hy _ _ _ _ a b c d
  · exact due_8 hx hy _ _ _ _ a b c d
  · exact due_9 hx hy _ _ _ _ a b c d
  · exact due_10 hx hy _ _ _ _ a b c d
  · exact due_11 hx hy _ _ _ _ a b c d
  · exact due_12 hx hy _ _ _ _ a b c d
  · exact due_13 hx hy _ _ _ _ a b c d
  · exact due_14 hx hy _ _ _ _ a b c d
  · exact due_15 hx hy _ _ _ _ a b c d

/-- what the law asks of four flags -/
def truthV (n z c v : Int) : Nat → Bool
  | 0 => n == 1
  | 1 => z == 1
  | 2 => c == 1
  | 3 => v == 1
  | 4 => decide (0 < c + z)
  | 5 => n != v
  | 6 => (z == 1) || (n != v)
  | _ => true
theorem fmod2 (a : Int) : Int.fmod a 2 = 0 ∨ Int.fmod a 2 = 1 := by
  rw [Int.fmod_eq_emod_of_nonneg _ (by decide)]
  omega
theorem tru_both (a b c d : Int) (j : Nat) (hj : j < 8) :
    holdsV j (Int.fmod a 2) (Int.fmod b 2) (Int.fmod c 2) (Int.fmod d 2) = truthV (Int.fmod a 2) (Int.fmod b 2) (Int.fmod c 2) (Int.fmod d 2) j ∧
    holdsV (j + 8) (Int.fmod a 2) (Int.fmod b 2) (Int.fmod c 2) (Int.fmod d 2) = !truthV (Int.fmod a 2) (Int.fmod b 2) (Int.fmod c 2) (Int.fmod d 2) j := by
  have hJ : j = 0 ∨ j = 1 ∨ j = 2 ∨ j = 3 ∨ j = 4 ∨ j = 5 ∨ j = 6 ∨ j = 7 := by omega
  rcases fmod2 a with ea | ea <;> rcases fmod2 b with eb | eb <;> rcases fmod2 c with ec | ec <;> rcases fmod2 d with ed | ed <;> rw [ea, eb, ec, ed] <;>
    rcases hJ with rfl | rfl | rfl | rfl | rfl | rfl | rfl | rfl <;> decide
theorem tru_eq {a b c d : Int} (j : Nat) (hj : j < 8) : holdsV j (Int.fmod a 2) (Int.fmod b 2) (Int.fmod c 2) (Int.fmod d 2) = truthV (Int.fmod a 2) (Int.fmod b 2) (Int.fmod c 2) (Int.fmod d 2) j := (tru_both a b c d j hj).1
theorem tru_not {a b c d : Int} (j : Nat) (hj : j < 8) : holdsV (j + 8) (Int.fmod a 2) (Int.fmod b 2) (Int.fmod c 2) (Int.fmod d 2) = !truthV (Int.fmod a 2) (Int.fmod b 2) (Int.fmod c 2) (Int.fmod d 2) j := (tru_both a b c d j hj).2
theorem tru6_1 {n z c v : Int} (h : z = 1) : truthV n z c v 6 = (z == 1) := by subst h; rfl
theorem tru6_2 {n z c v : Int} (h : z ≠ 1) : truthV n z c v 6 = (n != v) := by
  have e : (z == 1) = false := beq_eq_false_iff_ne.mpr h
  show ((z == 1) || (n != v)) = (n != v)
  rw [e]
  rfl

-- I1
section
variable {prog : Program} {w : World} {A : Around} {E : Value → Shared → Prop} {s : Shared} {env : Env} {h₀ : Heap} {x : Str} {body : List Stmt} {Q : Flow → Shared → Prop}
/-- the state that a loop which keeps everything but its own name leaves -/
def Same (x : Str) (m₀ : Str → Option Value) (led : List (Addr × Obj)) (m : Str → Option Value) (nx : List (Addr × Obj)) : Prop := nx = led ∧ ∀ z, z ≠ x → m z = m₀ z
theorem same_fr {L : Addr} {h : Heap} {m m₀ : Str → Option Value} {v : Value} (hm : ∀ z, z ≠ x → m z = m₀ z) (F : Fr h₀ L h (fun y => if y = x then some v else m y)) : Fr h₀ L h (fun y => if y = x then some v else m₀ y) := by
  have e : (fun y => if y = x then some v else m₀ y) = fun y => if y = x then some v else m y := by
    funext y
    by_cases hy : y = x
    · rw [if_pos hy, if_pos hy]
    · rw [if_neg hy, if_neg hy, hm y hy]
  rw [e]
  exact F

/-- a loop over any list of the ledger that changes nothing that is kept -/
theorem iter_same {l : Addr} {vs : List Value} {nn : Nat} {m₀ : Str → Option Value} {led : List (Addr × Obj)}
    (hh : A.handled = none) (hl : (l, listOf vs.toArray nn) ∈ led) (F : Fr h₀ env.locals s.heap m₀) (N : News h₀ env.locals s.heap led)
    (turn : ∀ (i : Nat) (v : Value) (h : Heap) (tk : Nat) (own : List (Addr × Obj)), vs[i]? = some v → OwnOff own (led.map (·.1)) → Fr h₀ env.locals h (fun y => if y = x then some v else m₀ y) → News h₀ env.locals h (led ++ own) →
      wpAny (model prog w) A (execs body env) (InvPostN h₀ env.locals (Same x m₀ led) own (led.map (·.1)) { s with heap := h, toks := tk } Q) E { s with heap := h, toks := tk })
    (done : ∀ m₁ h tk, (∀ z, z ≠ x → m₁ z = m₀ z) → Fr h₀ env.locals h m₁ → News h₀ env.locals h led → Q .next { s with heap := h, toks := tk }) :
    wpAny (model prog w) A (pyIter (.ref l)) (fun it s₂ => LoopAtV prog w A h₀ env x body Q E it s₂) E s := by
  have hol : s.heap.get? l = some (listOf vs.toArray nn) := (N _ hl).1
  have hls : s.heap.IsList l vs.toArray := ⟨_, hol, rfl, nn, rfl⟩
  have hne : l ≠ s.heap.objs.size := Nat.ne_of_lt (Heap.lt_size hol)
  have off : ∀ p ∈ led, p.1 ≠ s.heap.objs.size := fun p hp => Nat.ne_of_lt (Heap.lt_size (N p hp).1)
  refine wpAny_pyIter_list hls ?_
  refine ⟨_, _, _, _, _, _, m₀, led, (fun _ m nx => Same x m₀ led m nx), rfl, Walks.list hh s.heap.objs.size l hne vs.toArray, ?_, ?_, ?_, ⟨⟨_, Heap.get?_push_size _ rfl, rfl, rfl⟩, hls.at fun o e => Heap.get?_push_of_some _ e⟩, F.push _,
    (fun p hp => ⟨Heap.get?_push_of_some _ (N p hp).1, (N p hp).2⟩), ⟨rfl, fun _ _ => rfl⟩, ?_, ?_⟩
  · intro hm
    rcases List.mem_cons.mp hm with e | hm
    · exact absurd F.ns.lt (e ▸ Nat.lt_irrefl _)
    · exact (N _ hl).2.1 (List.mem_singleton.mp hm).symm
  · intro b hb
    rw [List.mem_singleton.mp hb]
    exact next_is_new F
  · intro p hp hI
    exact off p hp (List.mem_singleton.mp hI)
  · rintro i v m₁ news₁ s₁ own ⟨h₁, tk₁, rfl⟩ _ hP ⟨rfl, hm₁⟩ _ hown hget _ _ F₁ N₁
    have hlo : h₁.get? l = some (listOf vs.toArray nn) := (N₁ _ (List.mem_append.mpr (.inr hl))).1
    refine wpAny_mono (turn i v h₁ tk₁ (own.filter fun p => decide (p.1 = s.heap.objs.size)) (by simpa using hP) ?_ (same_fr hm₁ F₁) ?_) (fun f s₂ p => ?_) fun _ _ e => e
    · intro p hp b hb e
      obtain ⟨q, hq, rfl⟩ := List.mem_map.mp hb
      have h1 : p.1 = s.heap.objs.size := by simpa using (List.mem_filter.mp hp).2
      exact off q hq (e ▸ h1)
    · intro p hp
      rcases List.mem_append.mp hp with hp | hp
      · exact N₁ p (List.mem_append.mpr (.inr hp))
      · exact N₁ p (List.mem_append.mpr (.inl (List.mem_filter.mp hp).1))
    · have fin : InvEndN h₀ env.locals (Same x m₀ news₁) (own.filter fun p => decide (p.1 = s.heap.objs.size)) (news₁.map (·.1)) { s with heap := h₁, toks := tk₁ } s₂ →
          LoopStepU h₀ env.locals [s.heap.objs.size] own (fun m nx => Same x m₀ news₁ m nx) { s with heap := h₁, toks := tk₁ } .next s₂ := by
        rintro ⟨h', tk, m', news', nx, e, F', N', hn, ho, _, rfl, hm⟩
        refine ⟨rfl, h', tk, m', nx, e, F', fun p hp => ?_, fun p hp hI => off p hp (List.mem_singleton.mp hI), rfl, hm⟩
        rcases List.mem_append.mp hp with hp | hp
        · by_cases hI : p.1 = s.heap.objs.size
          · exact N' p (ho p (List.mem_filter.mpr ⟨hp, by simpa using hI⟩))
          · have h1 : p.1 = l := by
              rcases List.mem_cons.mp (hown p hp) with h2 | h2
              · exact absurd h2 hI
              · exact List.mem_singleton.mp h2
            have h2 := hget p hp
            rw [h1] at h2
            have h3 : p = (l, listOf vs.toArray nn) := Prod.ext h1 (Option.some.inj (hlo.symm.trans h2)).symm
            rw [h3]
            exact N' _ (hn _ hl)
        · exact N' p (hn p hp)
      cases f with
      | ret v => exact .ret p
      | brk => exact .brk p
      | next => exact .next (fin p)
      | cont => exact .cont (fin p)
  · rintro h' tk m' news' F' N' _ ⟨rfl, hm⟩
    exact done m' h' tk hm F' N'
end

-- G1
theorem text_at : ∀ {vs : List Value} {as : List Str} {i : Nat} {v : Value}, strsOf vs = some as → vs[i]? = some v → ∃ x t, v = .str x t ∧ as[i]? = some x
  | [], _, _, _, _, h => by simp at h
  | u :: r, as, i, v, ha, h => by
    cases u with
    | str a t =>
      unfold strsOf at ha
      cases hr : strsOf r with
      | none => rw [hr] at ha; cases ha
      | some bs =>
        rw [hr] at ha
        cases ha
        cases i with
        | zero => cases h; exact ⟨a, t, rfl, rfl⟩
        | succ i =>
          obtain ⟨x, t, e, hx⟩ := text_at hr (show r[i]? = some v from h)
          exact ⟨x, t, e, hx⟩
    | _ => cases ha
theorem strsOf_length : ∀ {vs : List Value} {as : List Str}, strsOf vs = some as → vs.length = as.length
  | [], _, h => by cases h; rfl
  | u :: r, as, h => by
    cases u with
    | str a t =>
      unfold strsOf at h
      cases hr : strsOf r with
      | none => rw [hr] at h; cases h
      | some bs =>
        rw [hr] at h
        cases h
        exact congrArg (· + 1) (strsOf_length hr)
    | _ => cases h
theorem text_get {vs : List Value} (ha : strsOf vs = some NAMES) {i : Nat} (hi : i < 16) : ∃ x t, vs[i]? = some (.str x t) ∧ NAMES[i]? = some x := by
  have hl : vs.length = 16 := strsOf_length ha
  have hv : vs[i]? = some vs[i] := List.getElem?_eq_getElem (by omega)
  obtain ⟨x, t, e, hx⟩ := text_at ha hv
  exact ⟨x, t, by rw [hv, e], hx⟩
theorem names_lt {i : Nat} {x : Str} (h : NAMES[i]? = some x) : i < 16 := (List.getElem?_eq_some_iff.mp h).1
theorem nameAt_of {i : Nat} {x : Str} (h : NAMES[i]? = some x) : nameAt x NAMES = some i := by
  have hJ : i = 0 ∨ i = 1 ∨ i = 2 ∨ i = 3 ∨ i = 4 ∨ i = 5 ∨ i = 6 ∨ i = 7 ∨ i = 8 ∨ i = 9 ∨ i = 10 ∨ i = 11 ∨ i = 12 ∨ i = 13 ∨ i = 14 ∨ i = 15 := by have := names_lt h; omega
  rcases hJ with rfl | rfl | rfl | rfl | rfl | rfl | rfl | rfl | rfl | rfl | rfl | rfl | rfl | rfl | rfl | rfl <;> cases h <;> decide +kernel
/-- the dict that the law lays -/
def DUE (x y : Int) : List (Str × Value) := [(Str.ofString "MI", .bool (dueV x y 0)), (Str.ofString "EQ", .bool (dueV x y 1)), (Str.ofString "CS", .bool (dueV x y 2)), (Str.ofString "VS", .bool (dueV x y 3)), (Str.ofString "LS", .bool (dueV x y 4)), (Str.ofString "LT", .bool (dueV x y 5)), (Str.ofString "LE", .bool (dueV x y 6)), (Str.ofString "AL", .bool (dueV x y 7)), (Str.ofString "PL", .bool (dueV x y 8)), (Str.ofString "NE", .bool (dueV x y 9)), (Str.ofString "CC", .bool (dueV x y 10)), (Str.ofString "VC", .bool (dueV x y 11)), (Str.ofString "HI", .bool (dueV x y 12)), (Str.ofString "GE", .bool (dueV x y 13)), (Str.ofString "GT", .bool (dueV x y 14)), (Str.ofString "NV", .bool (dueV x y 15))]
theorem due_at {a b : Int} {i : Nat} {x : Str} (h : NAMES[i]? = some x) : valueAt (DUE a b) x = some (.bool (dueV a b i)) := by
  have hJ : i = 0 ∨ i = 1 ∨ i = 2 ∨ i = 3 ∨ i = 4 ∨ i = 5 ∨ i = 6 ∨ i = 7 ∨ i = 8 ∨ i = 9 ∨ i = 10 ∨ i = 11 ∨ i = 12 ∨ i = 13 ∨ i = 14 ∨ i = 15 := by have := names_lt h; omega
  rcases hJ with rfl | rfl | rfl | rfl | rfl | rfl | rfl | rfl | rfl | rfl | rfl | rfl | rfl | rfl | rfl | rfl <;> cases h <;> rfl
theorem tru_list {n z c v : Int} {b6 : Bool} (h6 : truthV n z c v 6 = b6) (j : Nat) (hj : j < 8) :
    ([.bool (n == 1), .bool (z == 1), .bool (c == 1), .bool (v == 1), .bool (decide (0 < c + z)), .bool (n != v), .bool b6, .bool true] : List Value)[j]? = some (.bool (truthV n z c v j)) := by
  have hJ : j = 0 ∨ j = 1 ∨ j = 2 ∨ j = 3 ∨ j = 4 ∨ j = 5 ∨ j = 6 ∨ j = 7 := by omega
  rcases hJ with rfl | rfl | rfl | rfl | rfl | rfl | rfl | rfl
  all_goals first | rfl | (rw [h6]; rfl)
section
variable {prog : Program} {w : World} {A : Around} {E : Value → Shared → Prop} {s : Shared} {h₀ : Heap} {L l : Addr} {news : List (Addr × Obj)}
theorem list_item {value slice : PySem.Expr} {vs : List Value} {n : Nat} {k : Int} {u : Tok} {v : Value} {Q : Value → Shared → Prop} (N : News h₀ L s.heap news) (hm : (l, listOf vs.toArray n) ∈ news) (h0 : 0 ≤ k) (hhi : k < 2 ^ 63) (hx : vs[k.toNat]? = some v) (h : Q v s)
    (hs : subscripted slice false (.ref l) (.int k u) = operate [.ref l, .int k u] (getItem (.ref l) (.int k u)) := by with_unfolding_all rfl) :
    wpAny (model prog w) A (subscriptTail value slice (.ref l) (.int k u)) Q E s :=
  have hL : s.heap.IsList l vs.toArray := ⟨_, (N _ hm).1, rfl, n, rfl⟩
  tail_any hL.typeIs slot_list_getitem.lookup (wpAny_getItem_list hL h0 hhi (by simpa using hx) h) hs
end

-- L2
local macro_rules | `(tactic| walk_at "binaryOp Pow int int") => `(tactic| with_reducible first | refine pow_32 ?_ | refine pow_31 ?_ | refine pow_22 ?_ | refine pow_11 ?_)

theorem signed_says (w : World) (x : Int) (tx : Tok) (rest : List (Addr × Obj)) :
    Says w 1 134 (fun _ => True) [.int x tx] rest (fun v led => ∃ t, v = .int (signed x) t ∧ led = rest) := by
  unfold Says
  w_top off
  k_fill
  intro loose mean mg mb dp un gd cn cs a ccd cl outer A₀ base h₀ L m s Q E B F X N T hk ho hdp hun hret
  refine wpAny_call ?_
  k_dflt cell_enter
  k_steps
  · rename Fr h₀ L _ m => kF
    rename News h₀ L _ _ => kN
    rename 2147483648 ≤ x => hr
    exact hret _ _ _ _ kF kN ⟨_, by unfold signed; rw [if_pos hr], rfl⟩
  · rename Fr h₀ L _ m => kF
    rename News h₀ L _ _ => kN
    rename ¬2147483648 ≤ x => hr
    exact hret _ _ _ _ kF kN ⟨_, by unfold signed; rw [if_neg hr], rfl⟩

section
variable {prog : Program} {w : World} {A : Around} {E : Value → Shared → Prop} {s : Shared} {Q : Value → Shared → Prop}
theorem ne_same {a b : Bool} (h : a = b) (hq : Q (.bool false) s) : wpAny (model prog w) A (compareOp .NotEq (.bool a) (.bool b)) Q E s := by
  subst h
  refine ne_bool ?_
  rw [bne_self_eq_false]
  exact hq
theorem eq_diff {a b : Bool} (h : a = !b) (hq : Q (.bool false) s) : wpAny (model prog w) A (compareOp .Eq (.bool a) (.bool b)) Q E s := by
  subst h
  refine eq_bool ?_
  rw [show ((!b) == b) = false from by cases b <;> rfl]
  exact hq
theorem ne_int_same {a b : Int} {t u : Tok} (h : a = b) (hq : Q (.bool false) s) : wpAny (model prog w) A (compareOp .NotEq (.int a t) (.int b u)) Q E s := by
  subst h
  refine ne_int ?_
  rw [bne_self_eq_false]
  exact hq
end


theorem names_room {vs : List Value} (h : strsOf vs = some NAMES) : vs.toArray.toList.length ≤ sizeLine := by
  have := strsOf_length h
  rw [PySem.sizeLine_eq]
  show vs.length ≤ _
  rw [this]
  decide
theorem fr_one {h₀ h : Heap} {L : Addr} {m : Str → Option Value} {x : Str} {v : Value} (F : Fr h₀ L h m) (hm : m x = some v) : Fr h₀ L h (fun y => if y = x then some v else m y) := by
  have e : (fun y => if y = x then some v else m y) = m := by
    funext y
    by_cases h : y = x
    · rw [if_pos h, h, hm]
    · rw [if_neg h]
  rw [e]
  exact F
/-- ahead of the first loop: three names, the ledger less the tuple of six, the dict, the names' list as a letter -/
structure Cleaned1 : Prop where
def Kept3 (prog : Program) (w : World) (h₀ : Heap) (L : Addr) (h : Heap) (v₁ v₂ v₃ : Value) (p : Addr × Obj) (lN : Addr) (nn : Nat) (t u z : Addr × Obj) (o : Obj) (kvs : List (Str × Value)) : Prop :=
  ∃ (m₀ : Str → Option Value) (vs : List Value), strsOf vs = some NAMES ∧ Fr h₀ L h (fun y => if y = Str.ofString "marks" then some v₃ else if y = Str.ofString "names" then some v₂ else if y = Str.ofString "due" then some v₁ else m₀ y) ∧ News h₀ L h [p, (lN, listOf vs.toArray nn), t, u, z] ∧ o.IsDictOf (PySem.strKind prog w) kvs
theorem kept3_mk {prog : Program} {w : World} {h₀ h : Heap} {L : Addr} {m : Str → Option Value} {v₁ v₂ v₃ : Value} {p q t u z : Addr × Obj} {lN : Addr} {vs : List Value} {nn : Nat} {o : Obj} {kvs : List (Str × Value)} (F : Fr h₀ L h m) (h1 : m (Str.ofString "due") = some v₁) (h2 : m (Str.ofString "names") = some v₂) (h3 : m (Str.ofString "marks") = some v₃)
    (N : News h₀ L h [p, q, (lN, listOf vs.toArray nn), t, u, z]) (ha : strsOf vs = some NAMES) (hd : o.IsDictOf (PySem.strKind prog w) kvs) : Kept3 prog w h₀ L h v₁ v₂ v₃ p lN nn t u z o kvs := by
  refine ⟨m, vs, ha, fr_one (fr_one (fr_one F h1) ?_) ?_, fun a ha => N a ?_, hd⟩
  · by_cases e : Str.ofString "names" = Str.ofString "due"
    · rw [if_pos e, ← h1, ← h2, e]
    · rw [if_neg e, h2]
  · have e1 : Str.ofString "marks" ≠ Str.ofString "names" := by decide
    have e2 : Str.ofString "marks" ≠ Str.ofString "due" := by decide
    rw [if_neg e1, if_neg e2, h3]
  · rcases List.mem_cons.mp ha with rfl | ha
    · exact .head _
    · exact .tail _ (.tail _ ha)
/-- behind the first loop: the names' list, the row, its cell -/
def Kept (h₀ : Heap) (L : Addr) (h : Heap) (x : Str) (v : Value) (led : List (Addr × Obj)) : Prop := (∃ m₀ : Str → Option Value, Fr h₀ L h (fun y => if y = x then some v else m₀ y)) ∧ News h₀ L h led
theorem kept_mk {h₀ h : Heap} {L : Addr} {m : Str → Option Value} {x : Str} {v : Value} {p r t u z : Addr × Obj} (F : Fr h₀ L h m) (hm : m x = some v) (N : News h₀ L h [p, r, t, u, z]) : Kept h₀ L h x v [r, u, z] := by
  refine ⟨⟨m, fr_one F hm⟩, fun a ha => N a ?_⟩
  rcases List.mem_cons.mp ha with rfl | ha
  · exact .tail _ (.head _)
  · rcases List.mem_cons.mp ha with rfl | ha
    · exact .tail _ (.tail _ (.tail _ (.head _)))
    · rcases List.mem_cons.mp ha with rfl | ha
      · exact .tail _ (.tail _ (.tail _ (.tail _ (.head _))))
      · nomatch ha
/-- ahead of the second loop: the truths as a letter, without the draws' list -/
theorem tru_led {h₀ h : Heap} {L l : Addr} {n z c v : Int} {b6 : Bool} {cnt : Nat} {p : Addr × Obj} {q : List (Addr × Obj)} (h6 : truthV n z c v 6 = b6)
    (N : News h₀ L h ((l, listOf #[.bool (n == 1), .bool (z == 1), .bool (c == 1), .bool (v == 1), .bool (decide (0 < c + z)), .bool (n != v), .bool b6, .bool true] cnt) :: p :: q)) :
    ∃ tv : List Value, (∀ j, j < 8 → tv[j]? = some (.bool (truthV n z c v j))) ∧ News h₀ L h ((l, listOf tv.toArray cnt) :: q) :=
  ⟨_, fun j hj => tru_list h6 j hj, fun a ha => N a (by rcases List.mem_cons.mp ha with rfl | ha; exact .head _; exact .tail _ (.tail _ ha))⟩
theorem kst_same {h₀ : Heap} {L : Addr} {x : Str} {m₀ m' : Str → Option Value} {led own news' : List (Addr × Obj)} {pre : List Int} {s₁ : Shared} {h' : Heap} {tk : Nat} (F : Fr h₀ L h' m') (hm : ∀ z, z ≠ x → m' z = m₀ z) (N : News h₀ L h' news') (hn : ∀ p ∈ led, p ∈ news') (ho : ∀ p ∈ own, p ∈ news') :
    InvEndN h₀ L (KstS (σ := Unit) (fun _ => led) (fun _ => []) (fun _ => True) x [] m₀ (fun _ _ => True) pre) own (led.map (·.1)) s₁ { s₁ with heap := h', toks := tk } :=
  InvEndN.intro F N ⟨(), rfl, trivial, (fun _ h => nomatch h), fun z hz _ _ => hm z hz, trivial⟩ rfl hn ho

theorem draw_use {w : World} {l : Addr} {us : List Value} {ns : List Int} {n : Nat} {led₀ : List (Addr × Obj)} {g : Obj → List (Addr × Obj)}
  {loose : List Str} {mean : ExcName → Option Value} {mg mb : Str → Option Value}
  {dp un : Nat} {gd : Option (List Code)} {cn : Str} {cs : Scope} {a : Addr} {ccd : Value} {cl : List (Str × Addr)} {outer : List Env} {A₀ : Around} {base h₀ : Heap} {L : Addr} {m : Str → Option Value} {s : Shared} {Q E : Value → Shared → Prop}
  (B : Below A₀ base outer h₀) (F : Fr h₀ L s.heap m) (X : (hd.heap_39 w.params).In h₀) (N : News h₀ L s.heap led₀) (T : Top hd.view_39 loose mean mg mb h₀) (hk : cs.kind = .function)
  (U : UpdF l (listOf us.toArray n) led₀ g) (hg : Good us ns) (hd : dp + 1 < recursionLimit) (hu : un + (10 * 1 + 100) < cLine)
  (ret : ∀ x t h' tk' us' ns' n', 0 ≤ x → x < 1024 → Good us' ns' → Fr h₀ L h' m → News h₀ L h' (g (listOf us'.toArray n')) → Q (.int x t) { s with heap := h', toks := tk' }) :
  wpAny (model PySem.Challenge.rw_pb0312_01.row.prog w) (ktrTop dp un gd cn cs L a ccd cl outer) (call (.ref 120) [.ref l]) Q E s := by
  obtain ⟨pre, post, rfl, hgo, ha, hb⟩ := U.split
  refine says_use (draw_says w l us ns n (pre ++ post) ?_ hg) B F X N T hk ?_ trivial hd hu ?_
  · intro p hp
    rcases List.mem_append.mp hp with hp | hp
    · exact ha p hp
    · exact hb p hp
  · intro p hp
    rcases List.mem_cons.mp hp with rfl | hp
    · exact List.mem_append_right _ (.head _)
    · rcases List.mem_append.mp hp with hp | hp
      · exact List.mem_append_left _ hp
      · exact List.mem_append_right _ (.tail _ hp)
  · rintro v h' tk' led' F' N' ⟨x, t, us', ns', n', rfl, h0, h1, g', rfl⟩
    refine ret x t h' tk' us' ns' n' h0 h1 g' F' ?_
    rw [hgo]
    intro p hp
    refine N' p ?_
    rcases List.mem_append.mp hp with hp | hp
    · exact .tail _ (List.mem_append_left _ hp)
    · rcases List.mem_cons.mp hp with rfl | hp
      · exact .head _
      · exact .tail _ (List.mem_append_right _ hp)


/-- the law's end: it gives back True -/
theorem law_end {cl : Str → Option Addr} {mean : ExcName → Option Value} {ns : List Int} {s₁ s' : Shared} {L : Addr} {m : Str → Option Value} (F : Fr s₁.heap L s'.heap m) (hg : s'.gens = #[]) (hos : s'.os = s₁.os) :
    GoodW PySem.Challenge.rw_pb0312_01.row.claim cl mean [ofPy (PyData.list (List.map PyData.int ns))] s₁ (.ok (.ret (.bool true))) s' := by
  refine goodW_bool F hg (raisesW_false ?_) ?_ hos
  · wrow_none_raised
  · wrow_post

local macro_rules | `(tactic| walk_at "call ref") => `(tactic| (k_here; (with_reducible show wpAny _ _ (call (Value.ref 113) [Value.ref _]) _ _ _); k_dflt (refine' says_use (row_says _ _ _ _ _ ?hi ?hz) ?kB ?kF ?kX ?kN ?kT ?kK ?hs ?ho ?hd ?hu ?_; (case kB => k_asm); (case kF => k_asm); (case kX => k_asm); (case kN => k_asm); (case kT => k_asm); (case kK => first | exact rfl | assumption); (case hs => exact subId); (case ho => assumption); (case hi => assumption); (case hz => omega); (case hd => ktr_room); (case hu => ktr_units); intro v9 h9 tk9 led9 F9 N9 D9; (obtain ⟨r9, us9, ns9, n9, e9, g9, el9, lt9⟩ := D9; subst e9; subst el9; (try simp only [AllLt, and_true] at lt9)); (try k_sweep))))
local macro_rules | `(tactic| walk_at "call ref") => `(tactic| (k_here; (with_reducible show wpAny _ _ (call (Value.ref 127) [Value.ref _]) _ _ _); k_dflt (refine' says_use (word_says _ _ _ _ _ _ ?hf ?hg) ?kB ?kF ?kX ?kN ?kT ?kK ?hs ?ho ?hd ?hu ?_; (case kB => k_asm); (case kF => k_asm); (case kX => k_asm); (case kN => k_asm); (case kT => k_asm); (case kK => first | exact rfl | assumption); (case hs => first | exact subSame rfl | exact subSwap); (case ho => exact trivial); (case hg => assumption); (case hf => first | assumption | k_all); (case hd => ktr_room); (case hu => ktr_units); intro v9 h9 tk9 led9 F9 N9 D9; (obtain ⟨x9, t9, us9, ns9, n9, e9, hx0, hx1, g9, el9⟩ := D9; subst e9; subst el9); (try k_sweep))))
local macro_rules | `(tactic| walk_at "call ref") => `(tactic| (k_here; (with_reducible show wpAny _ _ (call (Value.ref 134) [Value.int _ _]) _ _ _); k_dflt (refine' says_use (signed_says _ _ _ _) ?kB ?kF ?kX ?kN ?kT ?kK ?hs ?ho ?hd ?hu ?_; (case kB => k_asm); (case kF => k_asm); (case kX => k_asm); (case kN => k_asm); (case kT => k_asm); (case kK => first | exact rfl | assumption); (case hs => exact subId); (case ho => exact trivial); (case hd => ktr_room); (case hu => ktr_units); intro v9 h9 tk9 led9 F9 N9 D9; (obtain ⟨t9, e9, el9⟩ := D9; subst e9; subst el9); (try k_sweep))))
local macro_rules | `(tactic| walk_at "call ref") => `(tactic| (k_here; (with_reducible show wpAny _ _ (call (Value.ref 92) [Value.str _ _, Value.int _ _, Value.int _ _]) _ _ _); k_dflt (refine' says_use (operate_says _ _ _ _ _ _ _) ?kB ?kF ?kX ?kN ?kT ?kK ?hs ?ho ?hd ?hu ?_; (case kB => k_asm); (case kF => k_asm); (case kX => k_asm); (case kN => k_asm); (case kT => k_asm); (case kK => first | exact rfl | assumption); (case hs => exact subId); (case ho => exact trivial); (case hd => ktr_room); (case hu => ktr_units); intro v9 h9 tk9 led9 F9 N9 D9; (obtain ⟨d9, t91, t92, t93, t94, t95, e9, el9, lt9⟩ := D9; subst e9; subst el9; (try replace lt9 := allLt_of lt9); (try simp only [AllLt, and_true] at lt9)); (try k_sweep))))
local macro_rules | `(tactic| walk_at "eval Dict") => `(tactic| (k_here; k_dflt (refine' dict_long ?F ?N ?b ?a ?l ?e ?n ?_; (case F => k_asm); (case N => k_asm); (case b => exact Top.nolimit (by k_asm)); (case a => rfl); (case l => rfl); (case e => exact Nat.lt_of_sub_pos (Nat.lt_of_sub_ne_zero (by decide))); (case n => decide); intro d' h' o' F' N' l1 lo' hd'; (try k_sweep))))
local macro_rules | `(tactic| walk_at "PutAll") => `(tactic| (k_here; k_dflt (first | refine put_cons ?_ | (refine put_nil ?_; (rename (∀ p ∈ _, Prod.fst p < _) => lP9); k_lt lP9))))
local macro_rules | `(tactic| walk_at "dictSet") => `(tactic| (k_here; k_dflt (refine' put_set ?F ?N ?l ?d ?n ?z ?_; (case F => k_asm); (case N => k_asm); (case l => assumption); (case d => assumption); (case n => rfl); (case z => exact Nat.le_of_ble_eq_true rfl); intro h' o' F' N' hd'; (try dsimp only [List.cons_append, List.nil_append] at hd'); (try k_sweep))))
local macro_rules | `(tactic| walk_at "compareOp LtE int int") => `(tactic| (k_here; k_dflt (first | (refine chain_join ?_; intro tk9) | (refine test_join ?_; intro tk9))))
local macro_rules | `(tactic| walk_at "subscriptTail Call Name cons nil Slice ref ref") => `(tactic| (k_here; (with_reducible show wpAny _ _ (subscriptTail _ (PySem.Expr.Slice (some _) (some _) none _) (Value.ref _) (Value.ref _)) _ _ _); k_dflt (refine' slice_tuple_15 ?F ?N ?m ?_ ?s; (case F => k_asm); (case N => k_asm); (case m => k_mem); (case s => with_unfolding_all rfl); intro D' h' F' N' l1; (try k_lt l1); (try k_sweep))))
local macro_rules | `(tactic| walk_at "call ref") => `(tactic| (k_here; (with_reducible show wpAny _ _ (call (Value.ref 106) [Value.str _ _, Value.ref _]) _ _ _); k_dflt (refine' says_use (holds_says _ _ _ _ _ _ _ _ _ _ _ _ _ _ ?hx ?hm) ?kB ?kF ?kX ?kN ?kT ?kK ?hs ?ho ?hd ?hu ?_; (case kB => k_asm); (case kF => k_asm); (case kX => k_asm); (case kN => k_asm); (case kT => k_asm); (case kK => first | exact rfl | assumption); (case hs => exact subId); (case ho => exact trivial); (case hx => assumption); (case hm => k_mem); (case hd => ktr_room); (case hu => ktr_units); intro v9 h9 tk9 led9 F9 N9 D9; (obtain ⟨e9, el9⟩ := D9; subst e9; subst el9); (try k_sweep))))
local macro_rules | `(tactic| walk_at "call ref") => `(tactic| (k_here; (with_reducible show wpAny _ _ (call (Value.ref 99) [Value.str _ _]) _ _ _); k_dflt (refine' says_use (cond_says _ _ _ _ _ ?hx) ?kB ?kF ?kX ?kN ?kT ?kK ?hs ?ho ?hd ?hu ?_; (case kB => k_asm); (case kF => k_asm); (case kX => k_asm); (case kN => k_asm); (case kT => k_asm); (case kK => first | exact rfl | assumption); (case hs => exact subId); (case ho => exact trivial); (case hx => assumption); (case hd => ktr_room); (case hu => ktr_units); intro v9 h9 tk9 led9 F9 N9 D9; (obtain ⟨t9, e9, el9⟩ := D9; subst e9; subst el9); (try k_sweep))))
local macro_rules | `(tactic| walk_at "subscriptTail Name Name ref str") => `(tactic| (k_here; k_dflt (refine' dict_item ?N ?m ?d ?v ?_; (case N => k_asm); (case m => k_mem); (case d => assumption); (case v => exact due_at (by assumption)))))
local macro_rules | `(tactic| walk_at "call builtin:list.index") => `(tactic| (k_here; (with_reducible show wpAny _ _ (call (Value.builtin _) [Value.ref _, Value.str _ _]) _ _ _); k_dflt (refine' list_indexT (as := NAMES) ?N ?m ?i ?e ?z ?_; (case N => k_asm); (case m => k_mem); (case i => assumption); (case e => assumption); (case z => exact names_room (by assumption)))))
local macro_rules | `(tactic| walk_at "compareOp NotEq bool bool") => `(tactic| (k_here; k_dflt (refine ne_same ?hE ?_; (case hE => first | exact due_eq ⟨by assumption, by assumption⟩ ⟨by assumption, by assumption⟩ _ (names_lt (by assumption)) | exact tru_eq _ (by assumption)))))
local macro_rules | `(tactic| walk_at "compareOp NotEq int int") => `(tactic| (k_here; with_reducible refine ne_int_same rfl ?_))
local macro_rules | `(tactic| walk_at "compareOp Eq bool bool") => `(tactic| (k_here; k_dflt (refine eq_diff ?hE ?_; (case hE => exact tru_not _ (by assumption)))))
local macro_rules | `(tactic| walk_at "subscriptTail Name Name ref int") => `(tactic| (k_here; k_dflt (refine' list_item ?N ?m ?a ?b ?v ?_; (case N => k_asm); (case m => k_mem); (case a => omega); (case b => omega); (case v => assumption))))
local macro_rules | `(tactic| walk_at "subscriptTail Name BinOp ref int") => `(tactic| (k_here; k_dflt (refine' list_item ?N ?m ?a ?b ?v ?_; (case N => k_asm); (case m => k_mem); (case a => omega); (case b => omega); (case v => assumption))))
local macro_rules | `(tactic| walk_at "CompSrc") => `(tactic| (k_here; k_dflt (refine LCg.CompSrc.range (by rfl) (by k_asm) (by k_asm) (by assumption) (by first | decide | rfl) (by first | rfl | decide) (by first | size_fits | exact Nat.le_of_ble_eq_true rfl) ?_; intro g'; lcg_lit)))
local macro_rules | `(tactic| walk_at "call ref") => `(tactic| (k_here; (with_reducible show wpAny _ _ (call (Value.ref 120) [Value.ref _]) _ _ _); k_dflt (refine' draw_use ?kB ?kF ?kX ?kN ?kT ?kK ?hU ?hg ?hd ?hu ?_; (case kB => k_asm); (case kF => k_asm); (case kX => k_asm); (case kN => k_asm); (case kT => k_asm); (case kK => first | exact rfl | assumption); (case hU => k_updF); (case hg => assumption); (case hd => ktr_room); (case hu => ktr_units); intro x9 t9 h9 tk9 us9 ns9 n9 hx0 hx1 g9 F9 N9; (try dsimp only at N9); (try k_sweep))))
local macro_rules | `(tactic| walk_at "exec For Name Name cons nil") => `(tactic| (k_here; (rename Cleaned1 => x9); (rename Fr _ _ _ _ => lF'); (with_unfolding_all refine' For_invVF lF' ?k1 ?k2 ?_; (case k1 => exact rfl); (case k2 => exact rfl))))
local macro_rules | `(tactic| walk_at "exec For Name Name cons nil") => `(tactic| (k_here; (fail_if_success (rename Cleaned1 => x9)); k_dflt ((rename Fr _ _ _ _ => fA9); (rename News _ _ _ [_, _, _, _, _, _] => nA9); (rename Obj.IsDictOf _ _ _ => dA9); (have dB9 : Obj.IsDictOf _ _ (DUE _ _) := dA9); (have K9 := kept3_mk fA9 rfl rfl rfl nA9 rfl dB9); clear fA9 nA9 dA9 dB9; (repeat ((rename Fr _ _ _ _ => x9); clear x9)); (repeat ((rename News _ _ _ _ => x9); clear x9)); (repeat ((rename Obj.IsDictOf _ _ _ => x9); clear x9)); (obtain ⟨m9, vs9, ha9, F9, N9, D9⟩ := K9); (have c9 : Cleaned1 := Cleaned1.mk))))
local macro_rules | `(tactic| walk_at "exec For Name Call cons nil") => `(tactic| (k_here; (rename Fr _ _ _ _ => lF'); (with_unfolding_all refine' For_invVF lF' ?k1 ?k2 ?_; (case k1 => exact rfl); (case k2 => exact rfl))))
local macro_rules | `(tactic| walk_at "pyIter ref") => `(tactic| ((with_reducible show wpAny _ _ (pyIter (Value.ref _)) (fun it s₂ => LoopAtV _ _ _ _ _ _ _ _ _ it s₂) _ _); k_here; k_of "name" => (k_dflt ((rename Fr _ _ _ _ => fA9); (rename News _ _ _ _ => nA9); refine' iter_same (by rfl) ?hl fA9 nA9 ?_ ?_; (case hl => k_mem); ((clear fA9 nA9; intro i9 v9 h9 tk9 own9 hv9 ho9 F9 N9; (obtain ⟨x9, t9, e9, hx9⟩ := text_at (as := NAMES) (by assumption) hv9); subst e9; (have hn9 := nameAt_of hx9); (try simp only [List.cons_append, List.nil_append] at N9))); rotate_left; ((clear fA9 nA9; intro m9 h9 tk9 hm9 F9 N9; (have K9 := kept_mk (x := Str.ofString "names") F9 ((hm9 _ (by decide)).trans rfl) N9); clear F9 N9 hm9; (repeat ((rename Obj.IsDictOf _ _ _ => x9); clear x9)); (obtain ⟨⟨m8, F9⟩, N9⟩ := K9)))))))
local macro_rules | `(tactic| walk_at "pyIter ref") => `(tactic| ((with_reducible show wpAny _ _ (pyIter (Value.ref _)) (fun it s₂ => LoopAtV _ _ _ _ _ _ _ _ _ it s₂) _ _); k_here; k_of "at" => (k_dflt ((rename Fr _ _ _ _ => fA9); (rename News _ _ _ _ => nA9); (rename IsRange _ _ _ _ _ _ _ _ => rA9); (first | (have hT9 := tru_led (tru6_1 (by assumption)) nA9) | (have hT9 := tru_led (tru6_2 (by assumption)) nA9)); clear nA9; (obtain ⟨tv9, hT9, nA9⟩ := hT9); refine' kst_range (σ := Unit) (fun _ => _) (fun _ => []) (fun _ => True) [] (fun _ _ => True) () (by rfl) rA9 (by decide) (by rfl) fA9 nA9 trivial (fun _ h => nomatch h) trivial ?_ ?_; ((clear fA9 nA9 rA9; intro c9 pre9 k9 t9 u9 h9 tk9 own9 hk9 hlt9 hoff9 _ _ F9 N9; subst hk9; (generalize pre9.length = j9 at hlt9 F9 ⊢); (have e1 : (0 + (j9 : Int)).toNat = j9 := by omega); (have e2 : (0 + (j9 : Int) + 8).toNat = j9 + 8 := by omega); (have hj9 : j9 < 8 := hlt9); (have hv0 : tv9[(0 + (j9 : Int)).toNat]? = _ := (congrArg (fun q => tv9[q]?) e1).trans (hT9 j9 hj9)); (obtain ⟨x1, t1, hv1, hx1⟩ := text_get (by assumption) (show j9 < 16 by omega)); (obtain ⟨x2, t2, hv2, hx2⟩ := text_get (by assumption) (show j9 + 8 < 16 by omega)); (have hn1 := nameAt_of hx1); (have hn2 := nameAt_of hx2); rw [← e1] at hv1; rw [← e2] at hv2; (try simp only [List.cons_append, List.nil_append] at N9))); rotate_left; ((clear fA9 nA9 rA9; intro u9 h9 tk9 _ _ F9 N9))))))
local macro_rules | `(tactic| walk_at "InvEndN") => `(tactic| (k_here; k_dflt ((rename Fr _ _ _ _ => fA9); (rename News _ _ _ _ => nA9); first | exact InvEndN.intro fA9 nA9 ⟨rfl, fun z hz => if_neg hz⟩ rfl (fun p hp => List.mem_append_left _ hp) (fun p hp => List.mem_append_right _ hp) | exact kst_same fA9 (fun z hz => (if_neg hz).trans rfl) nA9 (fun p hp => .tail _ (.tail _ (List.mem_append_left _ hp))) (fun p hp => .tail _ (.tail _ (.tail _ (.tail _ (.tail _ (.tail _ hp)))))))))
local macro_rules | `(tactic| wrow_close) => `(tactic| (w_end; (show GoodW _ _ _ _ _ (.ok (.ret (.bool _))) _); (rename Fr _ _ _ _ => F9); (rename (Shared.gens _ = #[]) => g9); exact law_end F9 g9 rfl))
local macro_rules | `(tactic| kc_close) => `(tactic| (w_end; (show GoodW _ _ _ _ _ (.ok (.ret (.bool _))) _); (rename Fr _ _ _ _ => F9); (rename (Shared.gens _ = #[]) => g9); exact law_end F9 g9 rfl))

theorem law_holds : PySem.Challenge.rw_pb0312_01.Holds := by
  exact hd (by w_strict (k_go0; (all_goals try k_fold); k_steps))

end Mine

theorem PySem.Challenge.cw_pb0312_01_holds : PySem.Challenge.rw_pb0312_01.Holds :=
  Mine.law_holds
