import PyProof.Rows.All
import Wide.All
import OpenK.AllK
import Wide.FinOn
import KE.KLcTest
import KE.KCompIf
import KE.KCompText
import PySem.Challenge.RW_tk0002_01
set_option Elab.async false
set_option maxRecDepth 100000
set_option maxHeartbeats 8000000
/-- what the head must show, under a name of my own: open_top then shows it at one go, and not in pieces, whose evidence alone would take 15 MB of the compiled file -/
abbrev Mine.LeftAtOnce {α : Type} (p q : PySem.Program) (loose : List PySem.Str) (Xt : PySem.Shared → Bool) (Yf : PySem.Shared → α) (Ya : PySem.World → α) (N : Nat) : Prop :=
  PySem.W.LeftO p q loose Xt Yf Ya N
namespace Mine.Atop.PySem.W
set_option linter.defProp false in
/-- the library's theorem of the same name, asked for LeftAtOnce: inside the namespace Mine.Atop open_top finds this one -/
def holds_open {r : PySem.W.OpenRow} {q : PySem.Program} {loose : List PySem.Str} {Xt : PySem.Shared → Bool} {XP} {α : Type} {Yf : PySem.Shared → α} {Ya : PySem.World → α} {YP} {d} {kwd} {N : Nat}
    (left : LeftAtOnce r.prog q loose Xt Yf Ya N) :=
  @_root_.PySem.W.holds_open r q loose Xt XP α Yf Ya YP d kwd N left
end Mine.Atop.PySem.W
namespace Mine.Atop
open_top hd for PySem.Challenge.rw_tk0002_01
end Mine.Atop
namespace Mine
section
open PySem PySem.Builtin PySem.Builtin.Str PyProof.Rows
/-- the signs of a text -/
def wl (x : Str) : List Nat := x.cps.toList
theorem wl_len (x : Str) : (wl x).length = x.length := by simp [wl, Str.length]
theorem wl_inj {x y : Str} (h : wl x = wl y) : x = y := by
  obtain ⟨⟨a⟩⟩ := x; obtain ⟨⟨b⟩⟩ := y
  simp only [wl] at h
  rw [h]
theorem wl_iff {x y : Str} : x = y ↔ wl x = wl y := ⟨fun h => by rw [h], wl_inj⟩
theorem wl_app (x y : Str) : wl (x ++ y) = wl x ++ wl y := by
  have := Str.cps_append x y
  simp [wl, this]
theorem indices_clip (a b : Int) (len : Nat) (ha : 0 ≤ a) (hb : 0 ≤ b) :
    strSliceIndices (some a) (some b) 1 len = strSliceIndices (some ((min a.toNat (min b.toNat len) : Nat) : Int)) (some ((min b.toNat len : Nat) : Int)) 1 len := by
  have h1 : ¬ (a < 0) := by omega
  have h2 : ¬ (b < 0) := by omega
  have h3 : ¬ (((min a.toNat (min b.toNat len) : Nat) : Int) < 0) := by omega
  have h4 : ¬ (((min b.toNat len : Nat) : Int) < 0) := by omega
  simp only [strSliceIndices, h1, h2, h3, h4, if_false, show ((1 : Int) > 0) = True from by simp, if_true]
  have e2 : max (0 : Int) (min b (len : Int)) = ((min b.toNat len : Nat) : Int) := by omega
  have e4 : max (0 : Int) (min ((min b.toNat len : Nat) : Int) (len : Int)) = ((min b.toNat len : Nat) : Int) := by omega
  rw [e2, e4]
  by_cases c : a.toNat ≤ min b.toNat len
  · have e1 : max (0 : Int) (min a (len : Int)) = ((min a.toNat (min b.toNat len) : Nat) : Int) := by omega
    have e3 : max (0 : Int) (min ((min a.toNat (min b.toNat len) : Nat) : Int) (len : Int)) = ((min a.toNat (min b.toNat len) : Nat) : Int) := by omega
    rw [e1, e3]
  · unfold sliceRange
    have c1 : ¬ (max (0 : Int) (min a (len : Int)) < ((min b.toNat len : Nat) : Int)) := by omega
    have c2 : ¬ (max (0 : Int) (min ((min a.toNat (min b.toNat len) : Nat) : Int) (len : Int)) < ((min b.toNat len : Nat) : Int)) := by omega
    simp only [c1, c2, if_false, show ((1 : Int) > 0) = True from by simp, if_true]
    rfl
theorem slice_wl (x : Str) (a b : Int) (ha : 0 ≤ a) (hb : 0 ≤ b) : wl (Txt.slice x (some a) (some b)) = ((wl x).drop a.toNat).take (b.toNat - a.toNat) := by
  have h := StrLaws.sliceText_nat x (a := min a.toNat (min b.toNat x.length)) (b := min b.toNat x.length) (by omega) (by omega)
  have e : Txt.slice x (some a) (some b) = StrLaws.sliceText x (some ((min a.toNat (min b.toNat x.length) : Nat) : Int)) (some ((min b.toNat x.length : Nat) : Int)) := by
    unfold Txt.slice StrLaws.sliceText
    rw [indices_clip a b x.length ha hb]
  rw [e, h]
  have hl := wl_len x
  show ((x.cps.toList.drop _).take _) = _
  show (((wl x).drop _).take _) = _
  by_cases c : a.toNat ≤ min b.toNat x.length
  · rw [Nat.min_eq_left c]
    by_cases d : b.toNat ≤ x.length
    · rw [Nat.min_eq_left d]
    · rw [Nat.min_eq_right (by omega)]
      rw [List.take_of_length_le (by rw [List.length_drop]; omega), List.take_of_length_le (by rw [List.length_drop]; omega)]
  · have e0 : min a.toNat (min b.toNat x.length) = min b.toNat x.length := Nat.min_eq_right (by omega)
    rw [e0, Nat.sub_self, List.take_zero]
    by_cases d : b.toNat ≤ x.length
    · rw [show b.toNat - a.toNat = 0 by omega, List.take_zero]
    · rw [List.drop_of_length_le (by omega), List.take_nil]
theorem slice_to_wl (x : Str) (b : Int) (hb : 0 ≤ b) : wl (Txt.slice x none (some b)) = (wl x).take b.toNat := by
  have e : Txt.slice x none (some b) = Txt.slice x (some 0) (some b) := by
    unfold Txt.slice
    rw [StrLaws.sliceIdx_none_lo]
  rw [e, slice_wl x 0 b (by omega) hb]
  rfl
theorem slice_from_wl (x : Str) (a : Int) (ha : 0 ≤ a) : wl (Txt.slice x (some a) none) = (wl x).drop a.toNat := by
  have e : Txt.slice x (some a) none = Txt.slice x (some a) (some (x.length : Int)) := by
    unfold Txt.slice
    rw [StrLaws.sliceIdx_none_hi]
  rw [e, slice_wl x a _ ha (by omega), List.take_of_length_le]
  rw [List.length_drop, wl_len]; omega
theorem foldl_reps (c : Array Nat) : ∀ (k : Nat) (acc : Array Nat), ((List.replicate k c).foldl (· ++ ·) acc).toList = acc.toList ++ (List.replicate k c.toList).flatten
  | 0, acc => by simp
  | k + 1, acc => by
    rw [List.replicate_succ, List.foldl_cons, foldl_reps c k, List.replicate_succ, List.flatten_cons, Array.toList_append, List.append_assoc]
theorem mul_wl (x : Str) (n : Int) (hn : 0 ≤ n) : wl (Txt.mul x n) = (List.replicate n.toNat (wl x)).flatten := by
  unfold Txt.mul
  by_cases h1 : n < 1
  · have e : n = 0 := by omega
    subst e
    simp [wl, Str.empty]
  · rw [if_neg h1]
    split
    · rename_i h
      rcases Bool.or_eq_true_iff.mp h with h | h
      · have e : n = 1 := by simpa using h
        subst e
        simp
      · have e : wl x = [] := List.eq_nil_of_length_eq_zero (by rw [wl_len]; simpa using h)
        rw [e]
        simp
    · show (List.foldl (fun x1 x2 => x1 ++ x2) #[] (List.replicate n.toNat x.cps)).toList = _
      have := foldl_reps x.cps n.toNat #[]
      simpa [wl] using this
theorem slice_len (x : Str) (a b : Int) (ha : 0 ≤ a) (hb : 0 ≤ b) : (Txt.slice x (some a) (some b)).length = min b.toNat x.length - a.toNat := by
  rw [← wl_len, slice_wl x a b ha hb, List.length_take, List.length_drop, wl_len]; omega
theorem slice_to_len (x : Str) (b : Int) (hb : 0 ≤ b) : (Txt.slice x none (some b)).length = min b.toNat x.length := by
  rw [← wl_len, slice_to_wl x b hb, List.length_take, wl_len]
theorem slice_from_len (x : Str) (a : Int) (ha : 0 ≤ a) : (Txt.slice x (some a) none).length = x.length - a.toNat := by
  rw [← wl_len, slice_from_wl x a ha, List.length_drop, wl_len]

/-- where a word is met in another, from a place on: the first place and one, or nought -/
def FoundW (X Y : List Nat) (k : Nat) (r : Int) : Prop :=
  (r = 0 ∧ ∀ a : Nat, k ≤ a → a + Y.length ≤ X.length → (X.drop a).take Y.length ≠ Y) ∨
  (∃ a : Nat, r = (a : Int) + 1 ∧ k ≤ a ∧ a + Y.length ≤ X.length ∧ (X.drop a).take Y.length = Y ∧ ∀ b : Nat, k ≤ b → b < a → (X.drop b).take Y.length ≠ Y)
/-- a word is made of its first d signs -/
def MadeOf (X : List Nat) (d : Nat) : Prop := X.length % d = 0 ∧ (List.replicate (X.length / d) (X.take d)).flatten = X
/-- the least word that a word is made of -/
def RootW (X R : List Nat) : Prop := ∃ d : Nat, 1 ≤ d ∧ d ≤ X.length ∧ MadeOf X d ∧ (∀ e, 1 ≤ e → e < d → ¬ MadeOf X e) ∧ R = X.take d
theorem RootW.len {X R : List Nat} (h : RootW X R) : 1 ≤ R.length ∧ R.length ≤ X.length := by
  obtain ⟨d, h0, h1, _, _, rfl⟩ := h
  rw [List.length_take]; omega

def FoundS (x y : Str) (k r : Int) : Prop :=
  (r = 0 ∧ ∀ a : Int, k - 1 ≤ a → a + y.length ≤ x.length → Txt.slice x (some a) (some (a + y.length)) ≠ y) ∨
  (∃ a : Int, r = a + 1 ∧ k - 1 ≤ a ∧ a + y.length ≤ x.length ∧ Txt.slice x (some a) (some (a + y.length)) = y ∧ ∀ b : Int, k - 1 ≤ b → b < a → Txt.slice x (some b) (some (b + y.length)) ≠ y)
theorem slice_at (x y : Str) (a : Nat) : Txt.slice x (some (a : Int)) (some ((a : Int) + y.length)) = y ↔ ((wl x).drop a).take (wl y).length = wl y := by
  rw [wl_iff, slice_wl x _ _ (by omega) (by omega), wl_len]
  have : ((a : Int) + (y.length : Int)).toNat - ((a : Int)).toNat = y.length := by omega
  rw [this]
  simp
theorem FoundS.word {x y : Str} {k r : Int} (hk : 1 ≤ k) (h : FoundS x y k r) : FoundW (wl x) (wl y) (k - 1).toNat r := by
  rcases h with ⟨h0, h⟩ | ⟨a, h0, h1, h2, h3, h4⟩
  · refine .inl ⟨h0, fun a ha hb e => ?_⟩
    rw [wl_len, wl_len] at hb
    exact h a (by omega) (by omega) ((slice_at x y a).mpr e)
  · obtain ⟨n, rfl⟩ := Int.eq_ofNat_of_zero_le (show 0 ≤ a by omega)
    refine .inr ⟨n, h0, by omega, by rw [wl_len, wl_len]; omega, (slice_at x y n).mp h3, fun b hb hc e => ?_⟩
    exact h4 b (by omega) (by omega) ((slice_at x y b).mpr e)

def RootAt (x : Str) (d : Int) : Prop := (x.length : Int).fmod d = 0 ∧ Txt.mul (Txt.slice x none (some d)) ((x.length : Int).fdiv d) = x
def NoRoot (x : Str) (i : Nat) : Prop := ∀ d : Int, 1 ≤ d → d ≤ (i : Int) → ¬ RootAt x d
def RootS (x r : Str) : Prop := (∃ d : Int, 1 ≤ d ∧ d ≤ x.length ∧ RootAt x d ∧ (∀ e, 1 ≤ e → e < d → ¬ RootAt x e) ∧ r = Txt.slice x none (some d)) ∨ (NoRoot x x.length ∧ r = x)
theorem NoRoot.step {x : Str} {i : Nat} (h : NoRoot x i) (e : ¬ RootAt x (1 + (i : Int))) : NoRoot x (i + 1) := by
  intro d h0 h1
  by_cases c : d ≤ (i : Int)
  · exact h d h0 c
  · have : d = 1 + (i : Int) := by omega
    subst this
    exact e
theorem rootAt_iff (x : Str) (d : Nat) (hd : 1 ≤ d) : RootAt x (d : Int) ↔ MadeOf (wl x) d := by
  unfold RootAt MadeOf
  have e1 : (x.length : Int).fmod (d : Int) = ((x.length % d : Nat) : Int) := by
    rw [Int.fmod_eq_emod_of_nonneg _ (by omega)]; simp
  have e2 : (x.length : Int).fdiv (d : Int) = ((x.length / d : Nat) : Int) := by
    rw [Int.fdiv_eq_ediv_of_nonneg _ (by omega)]; simp
  rw [e1, e2, wl_iff, mul_wl _ _ (Int.natCast_nonneg _), slice_to_wl _ _ (by omega), wl_len]
  simp only [Int.toNat_natCast]
  constructor
  · rintro ⟨a, b⟩; exact ⟨by omega, b⟩
  · rintro ⟨a, b⟩; exact ⟨by omega, b⟩
theorem madeOf_self (X : List Nat) (h : 1 ≤ X.length) : MadeOf X X.length := by
  refine ⟨Nat.mod_self _, ?_⟩
  rw [Nat.div_self (by omega), List.take_length]
  simp
theorem RootS.word {x r : Str} (hx : 0 < x.length) (h : RootS x r) : RootW (wl x) (wl r) := by
  rcases h with ⟨d, h0, h1, h2, h3, h4⟩ | ⟨h, _⟩
  · obtain ⟨n, rfl⟩ := Int.eq_ofNat_of_zero_le (show 0 ≤ d by omega)
    refine ⟨n, by omega, by rw [wl_len]; omega, (rootAt_iff x n (by omega)).mp h2, fun e he hf m => ?_, ?_⟩
    · exact h3 e (by omega) (by omega) ((rootAt_iff x e he).mpr m)
    · rw [h4, slice_to_wl _ _ (by omega)]; simp
  · exfalso
    refine h x.length (by omega) (by omega) ((rootAt_iff x x.length (by omega)).mpr ?_)
    have := madeOf_self (wl x) (by rw [wl_len]; omega)
    rwa [wl_len] at this
end
section
open PySem PySem.W PySem.Calls PyProof.Rows

/-- the end of a body that stores into nothing old: the value, and all that stood stands -/
def EndP (g : Heap) (P : Value → Prop) (s₀ : Shared) (fl : Flow) (s' : Shared) : Prop :=
  ∃ v h' tk, fl = .ret v ∧ s' = { s₀ with heap := h', toks := tk } ∧ (∀ b o, g.get? b = some o → h'.get? b = some o) ∧ P v

theorem EndP.intro {g h' : Heap} {P : Value → Prop} {s₀ : Shared} {v : Value} {tk : Nat} {L' : Addr} {m' : Str → Option Value} (F : Fr g L' h' m') (hp : P v) :
    EndP g P s₀ (.ret v) { s₀ with heap := h', toks := tk } := ⟨v, h', tk, rfl, rfl, F.keep, hp⟩

/-- what a def does that stores into nothing old -/
def PureFn (w : World) (mg mb : Str → Option Value) (loose : List Str) (mean : ExcName → Option Value) (c : Nat) (f : Addr) (vs : List Value) (H : Heap → Prop) (P : Value → Prop) : Prop :=
  ∀ (dp un : Nat) (gd : Option (List Code)) (cn : Str) (cs : Scope) (a : Addr) (ccd : Value) (cl : List (Str × Addr)) (outer : List Env) (A₀ : Around) (base h₀ : Heap) (L : Addr) (m : Str → Option Value) (news : List (Addr × Obj)) (s : Shared) (Q E : Value → Shared → Prop),
    Below A₀ base outer h₀ → Fr h₀ L s.heap m → (Atop.hd.heap_39 w.params).In h₀ → News h₀ L s.heap news → Top Atop.hd.view_39 loose mean mg mb h₀ → cs.kind = .function → dp + c < recursionLimit → un + 8 * c < cLine → H s.heap →
    (∀ v h' tk, P v → Fr h₀ L h' m → News h₀ L h' news → (∀ b o, s.heap.get? b = some o → h'.get? b = some o) → Q v { s with heap := h', toks := tk }) →
    wpAny (model PySem.Challenge.rw_tk0002_01.row.prog w) (ktrTop dp un gd cn cs L a ccd cl outer) (call (.ref f) vs) Q E s

theorem PureFn.enter {w : World} {mg mb : Str → Option Value} {loose : List Str} {mean : ExcName → Option Value} {c : Nat} {f : Addr} {vs : List Value} {H : Heap → Prop} {P : Value → Prop}
    {name qual : Str} {params : Arguments} {body : List Stmt} {scope : Scope} {dV kV doc pm cdv ct oc : Value} {an od : Option Addr} {osl : Array (Option Value)} {binds : List (Str × Value)}
    (ho : (Atop.hd.heap_39 w.params).lookup f = some ⟨oc, od, .func (fnOf name qual params body scope dV kV doc pm an cdv ct), osl⟩)
    (hcd : codeIn (Atop.hd.heap_39 w.params) cdv qual = true)
    (hbind : ∀ s, (Atop.hd.heap_39 w.params).In s.heap → BindsTo s (fnOf name qual params body scope dV kV doc pm an cdv ct) ⟨vs, []⟩ binds)
    (hloc : ∀ y ∈ binds, scope.names.lookup y.1 = some .local)
    (hco : scope.isCoroutine = false) (hgen : scope.isGenerator = false) (hk : scope.kind = .function) (hcell : ∀ x ∈ scope.names, x.2 ≠ .cell) (hc : 0 < c)
    (h : ∀ (dp un : Nat) (gd : Option (List Code)) (cn : Str) (cs : Scope) (L a : Addr) (ccd : Value) (cl : List (Str × Addr)) (outer : List Env) (base : Heap) (s : Shared) (L' : Addr) (h₁ : Heap) (m₁ : Str → Option Value),
      m₁ = (fun y => binds.reverse.lookup y) → cs.kind = .function → dp + c < recursionLimit → un + 8 * c < cLine → H s.heap →
      Fr s.heap L' h₁ m₁ → News s.heap L' h₁ [] → Below (ktrTop dp un gd cn cs L a ccd cl outer) base (envX cn cs L a ccd cl :: outer) s.heap →
      (Atop.hd.heap_39 w.params).In s.heap → Top Atop.hd.view_39 loose mean mg mb s.heap →
      wpAny (model PySem.Challenge.rw_tk0002_01.row.prog w) ((ktrTop dp un gd cn cs L a ccd cl outer).deeper (envOf qual scope L' f cdv)) (execs body (envOf qual scope L' f cdv))
        (EndP s.heap P s) (fun _ _ => False) { s with heap := h₁, toks := s.toks + binds.length }) :
    PureFn w mg mb loose mean c f vs H P := by
  intro dp un gd cn cs a ccd cl outer A₀ base h₀ L m news s Q E B F X N T hcs hdp hu hH ret
  refine wpAny_call ?_
  have N₀ : News h₀ L s.heap [] := News.nil
  obtain ⟨FG, BG, st, _⟩ := groundX (A := ktrTop dp un gd cn cs L a ccd cl outer) (env := envX cn cs L a ccd cl) (R := fun _ _ => True) B F N₀ rfl rfl hcs
  have hroom : (ktrTop dp un gd cn cs L a ccd cl outer).depth < recursionLimit := by show dp < _; omega
  refine codeAny_call_def (fd := fnX name qual params body scope [] dV kV doc pm an cdv ct) (body := body) (binds := binds) hroom ((X.keeps F.keep) _ _ ho) rfl (T.nolimit.keeps F.keep) (codeRec_of (X.keeps F.keep) hcd) rfl (hbind _ (X.keeps F.keep)) hcell hloc (fun h₁ hns hk₁ => ?_) hco hgen hk
  have X' : (Atop.hd.heap_39 w.params).In s.heap := X.keeps F.keep
  have T' : Top Atop.hd.view_39 loose mean mg mb s.heap := T.keeps F.keep
  have F₁ : Fr s.heap s.heap.objs.size h₁ (fun y => binds.reverse.lookup y) := ⟨hns, hk₁, Nat.le_refl _⟩
  refine wpAny_mono (h dp un gd cn cs L a ccd cl outer base s s.heap.objs.size h₁ _ rfl hcs hdp hu hH F₁ News.nil BG X' T') ?_ (fun _ _ e => e.elim)
  rintro fl s' ⟨v, h', tk, rfl, rfl, kp, hp⟩
  exact ret v h' tk hp (F.keeps kp) (News.grown N kp) kp

theorem PureFn.enterC {w : World} {mg mb : Str → Option Value} {loose : List Str} {mean : ExcName → Option Value} {c : Nat} {f : Addr} {vs : List Value} {H : Heap → Prop} {P : Value → Prop}
    {name qual : Str} {params : Arguments} {body : List Stmt} {scope : Scope} {dV kV doc pm cdv ct oc : Value} {an od : Option Addr} {osl : Array (Option Value)} {binds : List (Str × Value)}
    (ho : (Atop.hd.heap_39 w.params).lookup f = some ⟨oc, od, .func (fnOf name qual params body scope dV kV doc pm an cdv ct), osl⟩)
    (hcd : codeIn (Atop.hd.heap_39 w.params) cdv qual = true)
    (hbind : ∀ s, (Atop.hd.heap_39 w.params).In s.heap → BindsTo s (fnOf name qual params body scope dV kV doc pm an cdv ct) ⟨vs, []⟩ binds)
    (hkind : (binds.all fun y => scope.names.lookup y.1 == some .local || scope.names.lookup y.1 == some .cell) = true)
    (hnd : ((cellsFrom 0 scope.names []).map (·.1)).Nodup)
    (hco : scope.isCoroutine = false) (hgen : scope.isGenerator = false) (hk : scope.kind = .function) (hc : 0 < c)
    (h : ∀ (dp un : Nat) (gd : Option (List Code)) (cn : Str) (cs : Scope) (L a : Addr) (ccd : Value) (cl : List (Str × Addr)) (outer : List Env) (base : Heap) (s : Shared) (L' : Addr) (h₁ : Heap) (tk : Nat) (cells : List (Addr × Obj)),
      cs.kind = .function → dp + c < recursionLimit → un + 8 * c < cLine → H s.heap →
      Fr s.heap L' h₁ (bindL (envOfC qual scope L' f cdv).kindOf binds fun _ => none) → News s.heap L' h₁ (cells ++ []) →
      CellsAre (bindC (envOfC qual scope L' f cdv).kindOf binds fun _ => none) (cellsFrom (L' + 1) scope.names []) cells →
      Below (ktrTop dp un gd cn cs L a ccd cl outer) base (envX cn cs L a ccd cl :: outer) s.heap →
      (Atop.hd.heap_39 w.params).In s.heap → Top Atop.hd.view_39 loose mean mg mb s.heap →
      wpAny (model PySem.Challenge.rw_tk0002_01.row.prog w) ((ktrTop dp un gd cn cs L a ccd cl outer).deeper (envOfC qual scope L' f cdv)) (execs body (envOfC qual scope L' f cdv))
        (EndP s.heap P s) (fun _ _ => False) { s with heap := h₁, toks := tk }) :
    PureFn w mg mb loose mean c f vs H P := by
  intro dp un gd cn cs a ccd cl outer A₀ base h₀ L m news s Q E B F X N T hcs hdp hu hH ret
  refine wpAny_call ?_
  have N₀ : News h₀ L s.heap [] := News.nil
  obtain ⟨FG, BG, st, _⟩ := groundX (A := ktrTop dp un gd cn cs L a ccd cl outer) (env := envX cn cs L a ccd cl) (R := fun _ _ => True) B F N₀ rfl rfl hcs
  have hroom : (ktrTop dp un gd cn cs L a ccd cl outer).depth < recursionLimit := by show dp < _; omega
  have X' : (Atop.hd.heap_39 w.params).In s.heap := X.keeps F.keep
  have T' : Top Atop.hd.view_39 loose mean mg mb s.heap := T.keeps F.keep
  refine codeAny_call_function (fd := fnX name qual params body scope [] dV kV doc pm an cdv ct) hroom (X' _ _ ho) rfl hco hgen rfl (codeRec_of X' hcd) (hbind _ X' _ _ _ _ ?_)
  refine wpAny_newFunctionEnv_cells hk (kindsX hkind _) fun env' he s' x => ?_
  subst he
  refine ⟨T'.nolimit.keeps x.toInCall.keep, codeAny_func ?_⟩
  obtain ⟨h₁, tk, rfl, _⟩ := x.done
  have hk₁ := x.toInCall.keep
  obtain ⟨cells, NC, Y⟩ := Cl.news (h₀ := s.heap) (Nat.le_refl _) fun n c hm => ⟨x.cell n c (lookup_of_mem_nodup (cellsFrom_names scope.names 0 (s.heap.objs.size + 1) [] [] rfl ▸ hnd) hm), x.above n c hm⟩
  have F₁ : Fr s.heap s.heap.objs.size h₁ (bindL (envOfC qual scope s.heap.objs.size f cdv).kindOf binds fun _ => none) := ⟨x.toInCall.ns, hk₁, Nat.le_refl _⟩
  refine wpAny_mono (h dp un gd cn cs L a ccd cl outer base s s.heap.objs.size h₁ tk cells hcs hdp hu hH F₁ (by rw [List.append_nil]; exact NC) Y BG X' T') ?_ (fun _ _ e => e.elim)
  rintro fl s' ⟨v, h', tk, rfl, rfl, kp, hp⟩
  exact ret v h' tk hp (F.keeps kp) (News.grown N kp) kp

/-- the call, as a walk takes it: the answer with its frame and its ledger -/
theorem PureFn.use {w : World} {mg mb : Str → Option Value} {loose : List Str} {mean : ExcName → Option Value} {c : Nat} {f : Addr} {vs : List Value} {H : Heap → Prop} {P : Value → Prop} (C : PureFn w mg mb loose mean c f vs H P)
    {dp un : Nat} {gd : Option (List Code)} {cn : Str} {cs : Scope} {a : Addr} {ccd : Value} {cl : List (Str × Addr)} {outer : List Env} {A₀ : Around} {base h₀ : Heap} {L : Addr} {m : Str → Option Value} {news : List (Addr × Obj)} {s : Shared} {Q E : Value → Shared → Prop}
    (B : Below A₀ base outer h₀) (F : Fr h₀ L s.heap m) (X : (Atop.hd.heap_39 w.params).In h₀) (N : News h₀ L s.heap news) (T : Top Atop.hd.view_39 loose mean mg mb h₀) (hk : cs.kind = .function) (hdp : dp + c < recursionLimit) (hun : un + 8 * c < cLine) (hH : H s.heap)
    (ret : ∀ v h' tk, P v → Fr h₀ L h' m → News h₀ L h' news → (∀ b o, s.heap.get? b = some o → h'.get? b = some o) → Q v { s with heap := h', toks := tk }) :
    wpAny (model PySem.Challenge.rw_tk0002_01.row.prog w) (ktrTop dp un gd cn cs L a ccd cl outer) (call (.ref f) vs) Q E s :=
  C dp un gd cn cs a ccd cl outer A₀ base h₀ L m news s Q E B F X N T hk hdp hun hH ret
end
section
open PySem PySem.W PySem.Calls PySem.Spec PyProof.Rows

/-- a turn's end: what stood stands, the word of the turn's number holds -/
def TurnE (h₀ : Heap) (L : Addr) (x : Str) (stored : List Str) (m₀ : Str → Option Value) (led : List (Addr × Obj)) (J : Prop) (s₁ s₂ : Shared) : Prop :=
  ∃ h' tk m' news', s₂ = { s₁ with heap := h', toks := tk } ∧ Fr h₀ L h' m' ∧ News h₀ L h' news' ∧ (∀ p ∈ led, p ∈ news') ∧ (∀ z, z ≠ x → stored.contains z = false → m' z = m₀ z) ∧ J
def TurnP (h₀ : Heap) (L : Addr) (x : Str) (stored : List Str) (m₀ : Str → Option Value) (led : List (Addr × Obj)) (J : Prop) (s₁ : Shared) (Q : Flow → Shared → Prop) (f : Flow) (s₂ : Shared) : Prop :=
  match f with
  | .ret v => Q (.ret v) s₂
  | .brk => Q .next s₂
  | _ => TurnE h₀ L x stored m₀ led J s₁ s₂

section
variable {h₀ : Heap} {L : Addr} {x : Str} {stored : List Str} {m₀ m' : Str → Option Value} {led news' : List (Addr × Obj)} {J : Prop} {s₁ : Shared} {Q : Flow → Shared → Prop} {h' : Heap} {tk : Nat}
theorem TurnP.next (F : Fr h₀ L h' m') (N : News h₀ L h' news') (hs : ∀ p ∈ led, p ∈ news') (ho : ∀ z, z ≠ x → stored.contains z = false → m' z = m₀ z) (hj : J) :
    TurnP h₀ L x stored m₀ led J s₁ Q .next { s₁ with heap := h', toks := tk } := ⟨h', tk, m', news', rfl, F, N, hs, ho, hj⟩
theorem TurnP.ret {v : Value} {s₂ : Shared} (h : Q (.ret v) s₂) : TurnP h₀ L x stored m₀ led J s₁ Q (.ret v) s₂ := h
end

section
variable {prog : Program} {w : World} {A : Around} {E : Value → Shared → Prop} {s : Shared} {env : Env} {h₀ : Heap} {x : Str} {body : List Stmt} {Q : Flow → Shared → Prop}
/-- a for over a range by ones: a word of the turn's number, names that a turn stores, a ledger that stands -/
theorem range_turns {r L : Addr} {a₀ b₀ : Int} {t₀ u₀ v₀ : Tok} {n : Nat} {m₀ : Str → Option Value} {news : List (Addr × Obj)} (stored : List Str) (J : Nat → Prop)
    (hL : env.locals = L) (hh : A.handled = none) (hr : IsRange s.heap r a₀ b₀ 1 t₀ u₀ v₀) (hsmall : Builtin.Range.small a₀ b₀ 1 = true) (hn : Builtin.Range.rangeSize a₀ b₀ 1 = (n : Int)) (F : Fr h₀ L s.heap m₀) (N : News h₀ L s.heap news) (j0 : J 0)
    (turn : ∀ (i : Nat) t (u : Str → Option Value) h tk own, i < n → J i → OwnOff own (news.map (·.1)) →
      Fr h₀ L h (fun y => if y = x then some (.int (a₀ + (i : Int)) t) else (if stored.contains y then u y else m₀ y)) → News h₀ L h (news ++ own) →
      wpAny (model prog w) A (execs body env) (TurnP h₀ L x stored m₀ (news ++ own) (J (i + 1)) { s with heap := h, toks := tk } Q) E { s with heap := h, toks := tk })
    (done : ∀ (u : Str → Option Value) h tk, J n → Fr h₀ L h (fun y => if y = x then u y else (if stored.contains y then u y else m₀ y)) → News h₀ L h news → Q .next { s with heap := h, toks := tk }) :
    wpAny (model prog w) A (pyIter (.ref r)) (fun it s₂ => LoopAtV prog w A h₀ env x body Q E it s₂) E s := by
  subst hL
  refine kst_range (σ := Unit) (fun _ => news) (fun _ => []) (fun _ => True) stored (fun pre _ => J pre.length) () hh hr hsmall hn F N trivial (fun p hp => nomatch hp) j0 ?_ ?_
  · intro c pre k t u h tk own hk hlt hoff _ hJ F₁ N₁
    subst hk
    refine wpAny_mono (turn pre.length t u h tk own hlt hJ hoff F₁ N₁) (fun f s₂ p => ?_) fun _ _ e => e
    have up : TurnE h₀ env.locals x stored m₀ (news ++ own) (J (pre.length + 1)) { s with heap := h, toks := tk } s₂ →
        InvEndN h₀ env.locals (KstS (fun _ : Unit => news) (fun _ => []) (fun _ => True) x stored m₀ (fun pre _ => J pre.length) (pre ++ [a₀ + (pre.length : Int)])) own (news.map (·.1)) { s with heap := h, toks := tk } s₂ := by
      rintro ⟨h', tk', m', news', e, F', N', hs, ho, hj⟩
      exact ⟨h', tk', m', news', news, e, F', N', fun p hp => hs p (List.mem_append_left _ hp), fun p hp => hs p (List.mem_append_right _ hp), rfl,
        (), rfl, trivial, (fun p hp => nomatch hp), fun z h1 _ h2 => ho z h1 h2, by simpa using hj⟩
    cases f with
    | ret v => exact p
    | brk => exact p
    | next => exact up p
    | cont => exact up p
  · intro c u h tk _ hJ F₁ N₁
    rw [rangeKs_length] at hJ
    exact done u h tk hJ F₁ N₁
end

section
variable {prog : Program} {w : World} {A : Around} {E : Value → Shared → Prop} {s : Shared} {env : Env} {h₀ : Heap} {x : Str} {body : List Stmt} {Q : Flow → Shared → Prop}
/-- a for over a made list of ints that stands in the ledger -/
theorem list_turns {l L : Addr} {vs : List Value} {ns : List Int} {nn : Nat} {m₀ : Str → Option Value} {news : List (Addr × Obj)} (stored : List Str) (J : List Int → Prop)
    (hL : env.locals = L) (hh : A.handled = none) (hl : (l, listOf vs.toArray nn) ∈ news) (hi : IntsAre vs ns) (F : Fr h₀ L s.heap m₀) (N : News h₀ L s.heap news) (j0 : J [])
    (turn : ∀ (pre post : List Int) (n : Int) t (u : Str → Option Value) h tk own, ns = pre ++ n :: post → n ∈ ns → J pre → OwnOff own (news.map (·.1)) →
      Fr h₀ L h (fun y => if y = x then some (.int n t) else (if stored.contains y then u y else m₀ y)) → News h₀ L h (news ++ own) →
      wpAny (model prog w) A (execs body env) (TurnP h₀ L x stored m₀ (news ++ own) (J (pre ++ [n])) { s with heap := h, toks := tk } Q) E { s with heap := h, toks := tk })
    (done : ∀ (u : Str → Option Value) h tk, J ns → Fr h₀ L h (fun y => if y = x then u y else (if stored.contains y then u y else m₀ y)) → News h₀ L h news → Q .next { s with heap := h, toks := tk }) :
    wpAny (model prog w) A (pyIter (.ref l)) (fun it s₂ => LoopAtV prog w A h₀ env x body Q E it s₂) E s := by
  subst hL
  refine kst_listL (σ := Unit) (nn := nn) (fun _ => news) (fun _ => []) (fun _ => True) stored (fun pre _ => J pre) () hh (fun _ => hl) hi F N trivial (fun p hp => nomatch hp) j0 ?_ ?_
  · intro c pre post n t u h tk own hns hn hoff _ hJ F₁ N₁
    refine wpAny_mono (turn pre post n t u h tk own hns hn hJ hoff F₁ N₁) (fun f s₂ p => ?_) fun _ _ e => e
    have up : TurnE h₀ env.locals x stored m₀ (news ++ own) (J (pre ++ [n])) { s with heap := h, toks := tk } s₂ →
        InvEndN h₀ env.locals (KstS (fun _ : Unit => news) (fun _ => []) (fun _ => True) x stored m₀ (fun pre _ => J pre) (pre ++ [n])) own (news.map (·.1)) { s with heap := h, toks := tk } s₂ := by
      rintro ⟨h', tk', m', news', e, F', N', hs, ho, hj⟩
      exact ⟨h', tk', m', news', news, e, F', N', fun p hp => hs p (List.mem_append_left _ hp), fun p hp => hs p (List.mem_append_right _ hp), rfl,
        (), rfl, trivial, (fun p hp => nomatch hp), fun z h1 _ h2 => ho z h1 h2, hj⟩
    cases f with
    | ret v => exact p
    | brk => exact p
    | next => exact up p
    | cont => exact up p
  · intro c u h tk _ hJ F₁ N₁
    exact done u h tk hJ F₁ N₁
end
theorem off_of3 {x y : Str} {stored : List Str} {m₀ u u' u₂ : Str → Option Value} {v : Option Value} (hy : stored.contains y = true) (z : Str) (h1 : z ≠ x) (h2 : stored.contains z = false) :
    (if z = y then u₂ z else if stored.contains z then u' z else if z = x then v else (if stored.contains z then u z else m₀ z)) = m₀ z := by
  have h3 : z ≠ y := by rintro rfl; rw [hy] at h2; cases h2
  rw [if_neg h3, h2, if_neg h1]; rfl
section
variable {prog : Program} {w : World} {A : Around} {E : Value → Shared → Prop} {s : Shared} {env : Env} {h₀ : Heap} {x : Str} {body : List Stmt} {Q : Flow → Shared → Prop}
/-- a turn's end, where names and objects turn -/
def StateP {σ : Type} (h₀ : Heap) (L : Addr) (x : Str) (Led : σ → List (Addr × Obj)) (ps : σ → List (Str × Value)) (stored : List Str) (m₀ : Str → Option Value) (P : σ → Prop) (I : Addr) (oI : Obj) (s₁ : Shared) (Q : Flow → Shared → Prop) (f : Flow) (s₂ : Shared) : Prop :=
  match f with
  | .ret v => Q (.ret v) s₂
  | .brk => Q .next s₂
  | _ => ∃ (c' : σ) (h' : Heap) (tk : Nat) (m' : Str → Option Value) (news' : List (Addr × Obj)), s₂ = { s₁ with heap := h', toks := tk } ∧ Fr h₀ L h' m' ∧ News h₀ L h' news' ∧ (I, oI) ∈ news' ∧ (∀ p ∈ Led c', p ∈ news') ∧ (∀ p ∈ Led c', p.1 ≠ I) ∧
      (∀ p ∈ ps c', m' p.1 = some p.2) ∧ (∀ z, z ≠ x → (∀ p ∈ ps c', z ≠ p.1) → stored.contains z = false → m' z = m₀ z) ∧ P c'
theorem range_state {σ : Type} {r L : Addr} {a₀ b₀ : Int} {t₀ u₀ v₀ : Tok} {n : Nat} {m₀ : Str → Option Value} (Led : σ → List (Addr × Obj)) (ps : σ → List (Str × Value)) (stored : List Str) (P : Nat → σ → Prop) (c₀ : σ)
    (hL : env.locals = L) (hh : A.handled = none) (hr : IsRange s.heap r a₀ b₀ 1 t₀ u₀ v₀) (hsmall : Builtin.Range.small a₀ b₀ 1 = true) (hn : Builtin.Range.rangeSize a₀ b₀ 1 = (n : Int)) (F : Fr h₀ L s.heap m₀) (N : News h₀ L s.heap (Led c₀)) (hk : ∀ p ∈ ps c₀, m₀ p.1 = some p.2) (hp : P 0 c₀)
    (turn : ∀ (c : σ) (i : Nat) t (u : Str → Option Value) h tk I oI, i < n → P i c → (∀ p ∈ Led c, p.1 ≠ I) →
      Fr h₀ L h (fun y => if y = x then some (.int (a₀ + (i : Int)) t) else kstB (fun z => if stored.contains z then u z else m₀ z) (ps c) y) → News h₀ L h ((I, oI) :: Led c) →
      wpAny (model prog w) A (execs body env) (StateP h₀ L x Led ps stored m₀ (P (i + 1)) I oI { s with heap := h, toks := tk } Q) E { s with heap := h, toks := tk })
    (done : ∀ (c : σ) (u : Str → Option Value) h tk, P n c → Fr h₀ L h (fun y => if y = x then u y else kstB (fun z => if stored.contains z then u z else m₀ z) (ps c) y) → News h₀ L h (Led c) → Q .next { s with heap := h, toks := tk }) :
    wpAny (model prog w) A (pyIter (.ref r)) (fun it s₂ => LoopAtV prog w A h₀ env x body Q E it s₂) E s := by
  subst hL
  refine wpAny_pyIter_range hr hsmall ?_
  have W : Walks prog w A s.heap.objs.size [s.heap.objs.size] [s.heap.objs.size] n (fun i v => i < n ∧ ∃ t, v = .int (a₀ + i * 1) t)
      (fun i h => IsRangeIter h s.heap.objs.size (a₀ + (i : Nat) * 1) ((n : Int) - (i : Nat)) 1) := (Walks.range hh _ a₀ 1 n).bound
  have off0 : ∀ p ∈ Led c₀, p.1 ≠ s.heap.objs.size := fun p hp hI => absurd (Heap.lt_size (N p hp).1) (hI ▸ Nat.lt_irrefl _)
  let J' : Nat → (Str → Option Value) → List (Addr × Obj) → Prop := fun i m₁ nx => ∃ c : σ, nx = Led c ∧ P i c ∧ (∀ p ∈ ps c, m₁ p.1 = some p.2) ∧ (∀ z, z ≠ x → (∀ p ∈ ps c, z ≠ p.1) → stored.contains z = false → m₁ z = m₀ z)
  refine ⟨s.heap.objs.size, [s.heap.objs.size], [s.heap.objs.size], n, _, _, m₀, Led c₀, J', rfl, W, ?_, ?_, ?_, ?_, F.push _, (fun p hp => ⟨Heap.get?_push_of_some _ (N p hp).1, (N p hp).2⟩), ⟨c₀, rfl, hp, hk, fun _ _ _ _ => rfl⟩, ?_, ?_⟩
  · intro hm
    exact absurd F.ns.lt ((List.mem_singleton.mp hm) ▸ Nat.lt_irrefl _)
  · intro b hb
    rw [List.mem_singleton.mp hb]
    exact next_is_new F
  · intro p hp hI
    exact off0 p hp (List.mem_singleton.mp hI)
  · show IsRangeIter _ _ _ _ _; rw [hn]; simpa using Heap.get?_push_size _ rfl
  · rintro i v m₁ news₁ s₁ own ⟨hh', tk', rfl⟩ hin ⟨_, t, rfl⟩ ⟨c, rfl, hP, h1, h2⟩ hoff hown hget hall hst F₁ N₁
    have e1 : a₀ + (i : Int) * 1 = a₀ + (i : Int) := by omega
    rw [e1] at F₁
    have hI0 : h₀.get? s.heap.objs.size = none := next_is_new F
    have hst' : IsRangeIter hh' s.heap.objs.size (a₀ + ((i + 1 : Nat) : Int) * 1) ((n : Int) - ((i + 1 : Nat) : Int)) 1 := hst
    obtain ⟨oI, eoI⟩ : ∃ oI, hh'.get? s.heap.objs.size = some oI := ⟨_, hst'⟩
    have hmem := hall s.heap.objs.size (List.mem_singleton.mpr rfl) hI0 oI eoI
    refine wpAny_mono (turn c i t m₁ hh' tk' s.heap.objs.size oI hin hP (fun p hp hI => hoff p hp (List.mem_singleton.mpr hI)) (kst_fr h1 h2 F₁) (fun p hp => by
      rcases List.mem_cons.mp hp with rfl | hp
      · exact N₁ _ (List.mem_append_left _ hmem)
      · exact N₁ p (List.mem_append_right _ hp))) (fun f s₂ p => ?_) fun _ _ e => e
    have up : (∃ (c' : σ) (h' : Heap) (tk : Nat) (m' : Str → Option Value) (news' : List (Addr × Obj)), s₂ = { s with heap := h', toks := tk } ∧ Fr h₀ env.locals h' m' ∧ News h₀ env.locals h' news' ∧ (s.heap.objs.size, oI) ∈ news' ∧ (∀ p ∈ Led c', p ∈ news') ∧ (∀ p ∈ Led c', p.1 ≠ s.heap.objs.size) ∧
      (∀ p ∈ ps c', m' p.1 = some p.2) ∧ (∀ z, z ≠ x → (∀ p ∈ ps c', z ≠ p.1) → stored.contains z = false → m' z = m₀ z) ∧ P (i + 1) c') → LoopStepU h₀ env.locals [s.heap.objs.size] own (J' (i + 1)) { s with heap := hh', toks := tk' } .next s₂ := by
      rintro ⟨c', h', tk, m', news', e, F', N', hI, hs, hne, g1, g2, hp'⟩
      refine ⟨rfl, h', tk, m', Led c', e, F', fun p hp => ?_, fun p hp hq => hne p hp (List.mem_singleton.mp hq), c', rfl, hp', g1, g2⟩
      rcases List.mem_append.mp hp with hp | hp
      · have a1 := List.mem_singleton.mp (hown p hp)
        have a2 := hget p hp
        have a3 : hh'.get? s.heap.objs.size = some p.2 := a1 ▸ a2
        have a4 := eoI.symm.trans a3
        have a5 : p = (s.heap.objs.size, oI) := Prod.ext a1 (Option.some.inj a4).symm
        rw [a5]
        exact N' _ hI
      · exact N' p (hs p hp)
    cases f with
    | ret v => exact .ret p
    | brk => exact .brk p
    | next => exact .next (up p)
    | cont => exact .cont (up p)
  · rintro h' tk m' news' F' N' _ ⟨c, rfl, hP, h1, h2⟩
    exact done c m' h' tk hP (kst_frOut h1 h2 F') N'
end
/-- the names that a turn leaves as they stood -/
theorem off_of {x : Str} {stored : List Str} {m₀ u : Str → Option Value} {v : Option Value} (z : Str) (h1 : z ≠ x) (h2 : stored.contains z = false) :
    (if z = x then v else (if stored.contains z then u z else m₀ z)) = m₀ z := by
  rw [if_neg h1, h2]; rfl
theorem off_of2 {x y : Str} {stored : List Str} {m₀ u : Str → Option Value} {v v' : Option Value} (hy : stored.contains y = true) (z : Str) (h1 : z ≠ x) (h2 : stored.contains z = false) :
    (if z = y then v' else if z = x then v else (if stored.contains z then u z else m₀ z)) = m₀ z := by
  have h3 : z ≠ y := by rintro rfl; rw [hy] at h2; cases h2
  rw [if_neg h3, if_neg h1, h2]; rfl
theorem range_one {a b : Int} {n : Nat} (h : b - a = (n : Int) ∨ (b ≤ a ∧ n = 0)) : Builtin.Range.rangeSize a b 1 = (n : Int) := by
  rw [rangeSize_nat]; omega
theorem mem_all {led : List (Addr × Obj)} : ∀ p ∈ led, p ∈ led := fun _ h => h
end
section
open PySem PySem.W PySem.Calls PySem.Spec PyProof.Rows
open PyProof.Rows.LCg (lst lst_snoc fr_but news_but)

section
variable {prog : Program} {w : World} {A : Around} {E : Value → Shared → Prop} {s : Shared} {h₀ : Heap} {L : Addr} {m : Str → Option Value} {env : Env}

/-- a block whose one cell is its own variable's -/
theorem newEnv_cell {M : Model} {scope : Scope} {cl : List (Str × Addr)} {x : Str} {globals : Addr} {qual : Str} {Q : Env → Shared → Prop}
    (hc : ∀ n, cellsFrom n scope.names cl = (x, n) :: cl) (hp : ∀ h : Heap, pushCells h scope.names = h.push { cls := .type "cell", data := .cell none })
    (h : Q { scope, locals := s.heap.objs.size, globals, cells := (x, s.heap.objs.size + 1) :: cl, qual, func := none, code := env.code, frame := env.frame, builtins := env.builtins }
      { s with heap := (s.heap.push { cls := .type "dict", data := .dict #[] }).push { cls := .type "cell", data := .cell none } }) :
    wpAny M A (newFunctionEnv scope globals cl [] qual none .none (some env)) Q E s := by
  simp only [newFunctionEnv, Option.isSome_some, if_true]
  refine wpAny_bind (wpAny_alloc ?_)
  refine wpAny_bind (wpAny_layCells _ (fun name kind cells => by cases hkc : kind == NameKind.cell <;> simp [hkc]) _ _ _ _ ?_)
  rw [show ({ s with heap := s.heap.push { cls := .type "dict", data := .dict #[] } } : Shared).heap.objs.size = s.heap.objs.size + 1 from Heap.size_push .., hc, hp]
  simp only [List.forIn_nil]
  exact wpAny_bind (wpAny_pure (wpAny_pure h))

/-- a turn's end: all that stood stands -/
def CellEnd (h₀ : Heap) (L : Addr) (m : Str → Option Value) (keep : List (Addr × Obj)) (R : Value → Prop) (s₁ : Shared) (y : Value) (s₂ : Shared) : Prop :=
  ∃ h' tk news', s₂ = { s₁ with heap := h', toks := tk } ∧ Fr h₀ L h' m ∧ News h₀ L h' news' ∧ (∀ p ∈ keep, p ∈ news') ∧ R y
theorem CellEnd.intro {keep news' : List (Addr × Obj)} {R : Value → Prop} {s₁ : Shared} {y : Value} {h' : Heap} {tk : Nat} (F : Fr h₀ L h' m) (N : News h₀ L h' news') (hs : ∀ p ∈ keep, p ∈ news') (r : R y) :
    CellEnd h₀ L m keep R s₁ y { s₁ with heap := h', toks := tk } := ⟨h', tk, news', rfl, F, N, hs, r⟩

/-- the source of a comprehension with a test, over a range, whose variable is a cell -/
def CellSrc (prog : Program) (w : World) (A : Around) (h₀ : Heap) (L : Addr) (m : Str → Option Value) (env : Env) (ct elt : Expr) (x : Str) (scope : Scope) (cl : List (Str × Addr)) (Q : Value → Shared → Prop) (xv : Value) (s₁ : Shared) : Prop :=
  ∃ (r : Addr) (a b : Int) (t u v : Tok) (n : Nat) (news : List (Addr × Obj)) (p : Int → Bool), xv = .ref r ∧ A.handled = none ∧ Fr h₀ L s₁.heap m ∧ News h₀ L s₁.heap news ∧ IsRange s₁.heap r a b 1 t u v ∧ Builtin.Range.small a b 1 = true ∧ Builtin.Range.rangeSize a b 1 = ((n : Nat) : Int) ∧ n ≤ sizeLine ∧
    (∀ (k : Int) (tk' : Tok) I oI C oC D ys c oc h tk (E' : Value → Shared → Prop), a ≤ k → k < a + (n : Int) → oc.data = .cell (some (.int k tk')) → Fr h₀ L h m → News h₀ L h ((I, oI) :: (C, oC) :: (D, lst ys) :: (c, oc) :: news) →
      wpAny (model prog w) A (isTrue ct (compEnvC scope ((x, c) :: cl) C env) (eval ct (compEnvC scope ((x, c) :: cl) C env))) (fun ok s' =>
        if ok = true then wpAny (model prog w) A (eval elt (compEnvC scope ((x, c) :: cl) C env)) (CellEnd h₀ L m ((I, oI) :: (C, oC) :: (D, lst ys) :: (c, oc) :: news) (fun y => p k = true ∧ ∃ t, y = .int k t) { s₁ with heap := h, toks := tk }) E' s'
        else CellEnd h₀ L m ((I, oI) :: (C, oC) :: (D, lst ys) :: (c, oc) :: news) (fun _ => p k = false) { s₁ with heap := h, toks := tk } Value.none s') E' { s₁ with heap := h, toks := tk }) ∧
    (∀ D ys h tk, IntsAre ys ((rangeKs a n).filter p) → Fr h₀ L h m → News h₀ L h ((D, lst ys) :: news) → Q (.ref D) { s₁ with heap := h, toks := tk })

theorem cell_loop {ct elt iter : Expr} {x : Str} {px : Pos} {scope : Scope} {cl : List (Str × Addr)} {pos : Pos} {R : Result → Shared → Prop} {I D C c : Addr} {n : Nat} {a : Int} {p : Int → Bool} {news : List (Addr × Obj)} {m₀ : Str → Option Value} {v₀ : Option Value}
    (hh : A.handled = none) (hsz : n ≤ sizeLine) (hkind : scope.kind = .function) (hx : (compEnvC scope ((x, c) :: cl) C env).kindOf x = some .cell)
    (hID : I ≠ D) (hIC : I ≠ C) (hIc : I ≠ c) (hDC : D ≠ C) (hDc : D ≠ c) (hCc : C ≠ c) (hIL : I ≠ L) (hDL : D ≠ L) (hCL : C ≠ L) (hcL : c ≠ L)
    (hI₀ : h₀.get? I = none) (hD₀ : h₀.get? D = none) (hC₀ : h₀.get? C = none) (hc₀ : h₀.get? c = none) (off : ∀ q ∈ news, q.1 ≠ I ∧ q.1 ≠ D ∧ q.1 ≠ C ∧ q.1 ≠ c)
    (turn : ∀ (k : Int) (tk' : Tok) oI oC ys oc h tk (E' : Value → Shared → Prop), a ≤ k → k < a + (n : Int) → oc.data = .cell (some (.int k tk')) → Fr h₀ L h m → News h₀ L h ((I, oI) :: (C, oC) :: (D, lst ys) :: (c, oc) :: news) →
      wpAny (model prog w) A (isTrue ct (compEnvC scope ((x, c) :: cl) C env) (eval ct (compEnvC scope ((x, c) :: cl) C env))) (fun ok s' =>
        if ok = true then wpAny (model prog w) A (eval elt (compEnvC scope ((x, c) :: cl) C env)) (CellEnd h₀ L m ((I, oI) :: (C, oC) :: (D, lst ys) :: (c, oc) :: news) (fun y => p k = true ∧ ∃ t, y = .int k t) { s with heap := h, toks := tk }) E' s'
        else CellEnd h₀ L m ((I, oI) :: (C, oC) :: (D, lst ys) :: (c, oc) :: news) (fun _ => p k = false) { s with heap := h, toks := tk } Value.none s') E' { s with heap := h, toks := tk })
    (fin : ∀ ys h tk m', IntsAre ys ((rangeKs a n).filter p) → Fr h₀ L h m → News h₀ L h ((D, lst ys) :: news) → h.Ns C m' → R (.ok .next) { s with heap := h, toks := tk })
    (st : IsRangeIter s.heap I (a + ((0 : Nat) : Int) * 1) ((n : Int) - ((0 : Nat) : Int)) 1) (F : Fr h₀ L s.heap m) (N : News h₀ L s.heap ((D, lst []) :: news)) (hC : s.heap.Ns C m₀) (hcell : s.heap.IsCell c v₀) :
    codeAny (model prog w) A (.compLoop (.ListComp elt [⟨.Name x px, iter, [ct], 0⟩] scope pos) 0 (.ref I) (.ref D) (compEnvC scope ((x, c) :: cl) C env)) R s := by
  have W := LCg.range_walks (prog := prog) (w := w) (I := I) hh a n
  refine codeAny_compLoop_tests
    (fun k s' => ∃ h' tk i ys m' v, s' = { s with heap := h', toks := tk } ∧ i ≤ n ∧ k = n + 1 - i ∧ IsRangeIter h' I (a + (i : Int) * 1) ((n : Int) - (i : Int)) 1 ∧ Fr h₀ L h' m ∧ h'.Ns C m' ∧ News h₀ L h' ((D, lst ys) :: news) ∧
      h'.IsCell c v ∧ IntsAre ys (((rangeKs a n).take i).filter p) ∧ ys.length ≤ i) ?_ (n + 1)
    ⟨s.heap, s.toks, 0, [], _, _, rfl, Nat.zero_le _, rfl, st, F, hC, N, hcell, by rw [List.take_zero]; exact .nil, Nat.le_refl _⟩
  rintro k s' ⟨h', tk, i, ys, m', v, rfl, hi, rfl, hst', F', hn', N', hc', hI', hyl⟩
  by_cases hlt : i < n
  · refine W.item i _ _ _ hlt hst' fun v h₂ tk₂ hPv hst₂ hk₂ => ?_
    obtain ⟨t, rfl⟩ := hPv
    have hc₂ : h₂.IsCell c v := by
      obtain ⟨o, e, ed⟩ := hc'
      exact ⟨o, hk₂ c o (by simpa using Ne.symm hIc) e, ed⟩
    refine wpAny_assign_Name (wpAny_storeName_cell (by simp [compEnvC, relabel, hkind]) hx (by simp [compEnvC]) hc₂ (fun h₃ hc₃ hs₃ => ?_))
    refine wpAny_tests_one ?_
    obtain ⟨oc, eoc, doc⟩ := hc₃
    have hst₃ : IsRangeIter h₃ I (a + ((i + 1 : Nat) : Int) * 1) ((n : Int) - ((i + 1 : Nat) : Int)) 1 := hs₃.extBut I _ hIc hst₂
    have hn₂ : h₂.Ns C m' := hn'.at' fun o e => hk₂ _ o (by simpa using Ne.symm hIC) e
    have hn₃ : h₃.Ns C m' := hn₂.sameBut hs₃ hCc
    obtain ⟨oC, heC, hoC⟩ := LCg.ns_obj hn₃
    have F₃ : Fr h₀ L h₃ m := (fr_but F' hk₂ (Ne.symm hIL) hI₀).change hs₃ hcL hc₀
    have N₂ : News h₀ L h₂ ((D, lst ys) :: news) := news_but N' hk₂ fun p hp => by
      rcases List.mem_cons.mp hp with rfl | hp
      · exact Ne.symm hID
      · exact (off p hp).1
    have N₃ : News h₀ L h₃ ((I, _) :: (C, oC) :: (D, lst ys) :: (c, oc) :: news) := fun p hp => by
      rcases List.mem_cons.mp hp with rfl | hp
      · exact ⟨hst₃, hIL, hI₀⟩
      · rcases List.mem_cons.mp hp with rfl | hp
        · exact ⟨heC, hCL, hC₀⟩
        · rcases List.mem_cons.mp hp with rfl | hp
          · exact ⟨hs₃.extBut _ _ hDc (N₂ _ (.head _)).1, hDL, hD₀⟩
          · rcases List.mem_cons.mp hp with rfl | hp
            · exact ⟨eoc, hcL, hc₀⟩
            · have z := N₂ p (.tail _ hp)
              exact ⟨hs₃.extBut _ _ (off p hp).2.2.2 z.1, z.2⟩
    have hks : (rangeKs a n)[i]? = some (a + (i : Int)) := by simp [rangeKs, hlt]
    have htk : (rangeKs a n).take (i + 1) = (rangeKs a n).take i ++ [a + (i : Int)] := by simp [List.take_add_one, hks]
    refine wpAny_mono (turn (a + (i : Int)) t _ oC ys oc h₃ _ _ (by omega) (by omega) doc F₃ N₃) (fun ok s₄ h₄ => ?_) fun _ _ e => e
    cases ok with
    | true =>
      simp only [if_true] at h₄ ⊢
      refine wpAny_mono h₄ (fun y s₅ h₅ => ?_) fun _ _ e => e
      obtain ⟨h₄, tk₄, news₄, rfl, F₄, N₄, sub, hpk, ty, rfl⟩ := h₅
      have zI := (N₄ _ (sub _ (.head _))).1
      have zC := (N₄ _ (sub _ (.tail _ (.head _)))).1
      have zD := (N₄ _ (sub _ (.tail _ (.tail _ (.head _))))).1
      have zc := (N₄ _ (sub _ (.tail _ (.tail _ (.tail _ (.head _)))))).1
      refine append_at (hsz := by show ys.toArray.size ≤ sizeLine; rw [List.size_toArray]; exact Nat.le_trans (Nat.le_trans hyl hi) hsz) zD fun h₅ hs₅ hD₅ => ?_
      refine ⟨n + 1 - (i + 1), by omega, h₅, tk₄, i + 1, ys ++ [.int (a + (i : Int)) ty], _, _, rfl, hlt, rfl, hs₅.extBut I _ hID zI, F₄.change hs₅ hDL hD₀, (hoC.ns zC).sameBut hs₅ (Ne.symm hDC), fun q hq => ?_,
        ⟨oc, hs₅.extBut _ _ (Ne.symm hDc) zc, doc⟩, ?_, by rw [List.length_append, List.length_singleton]; exact Nat.succ_le_succ hyl⟩
      · rcases List.mem_cons.mp hq with rfl | hq
        · exact ⟨hD₅.trans (congrArg some (lst_snoc ys _)), hDL, hD₀⟩
        · have z := N₄ q (sub _ (.tail _ (.tail _ (.tail _ (.tail _ hq)))))
          exact ⟨hs₅.extBut _ _ (off q hq).2.1 z.1, z.2⟩
      · rw [htk, List.filter_append, List.filter_cons_of_pos hpk]
        exact IntsAre.append hI' (.cons _ ty .nil)
    | false =>
      simp only [Bool.false_eq_true, if_false] at h₄ ⊢
      obtain ⟨h₅, tk₄, news₄, rfl, F₄, N₄, sub, hpk⟩ := h₄
      have zI := (N₄ _ (sub _ (.head _))).1
      have zC := (N₄ _ (sub _ (.tail _ (.head _)))).1
      have zc := (N₄ _ (sub _ (.tail _ (.tail _ (.tail _ (.head _)))))).1
      refine ⟨n + 1 - (i + 1), by omega, h₅, tk₄, i + 1, ys, _, _, rfl, hlt, rfl, zI, F₄, hoC.ns zC, fun q hq => ?_, ⟨oc, zc, doc⟩, ?_, Nat.le_succ_of_le hyl⟩
      · rcases List.mem_cons.mp hq with rfl | hq
        · exact N₄ _ (sub _ (.tail _ (.tail _ (.head _))))
        · exact N₄ q (sub _ (.tail _ (.tail _ (.tail _ (.tail _ hq)))))
      · rw [htk, List.filter_append, List.filter_cons_of_neg (by rw [hpk]; exact Bool.false_ne_true), List.filter_nil, List.append_nil]
        exact hI'
  · obtain rfl : i = n := Nat.le_antisymm hi (Nat.not_lt.mp hlt)
    refine W.done _ _ _ hst' fun h₂ tk₂ hk₂ => ?_
    have hall : (rangeKs a i).take i = rangeKs a i := List.take_of_length_le (Nat.le_of_eq (rangeKs_length _ _))
    rw [hall] at hI'
    exact fin ys h₂ tk₂ m' hI' (fr_but F' hk₂ (Ne.symm hIL) hI₀) (news_but N' hk₂ fun p hp => by
      rcases List.mem_cons.mp hp with rfl | hp
      · exact Ne.symm hID
      · exact (off p hp).1) (hn'.at' fun o e => hk₂ _ o (by simpa using Ne.symm hIC) e)

theorem ListComp_cell {ct elt iter : Expr} {x : Str} {px : Pos} {scope : Scope} {cl : List (Str × Addr)} {pos : Pos} {Q : Value → Shared → Prop} (F₀ : Fr h₀ L s.heap m)
    (hclos : closureFor scope env = pure cl) (hc : ∀ n, cellsFrom n scope.names cl = (x, n) :: cl) (hp : ∀ h : Heap, pushCells h scope.names = h.push { cls := .type "cell", data := .cell none })
    (hkind : scope.kind = .function) (hnames : ∀ y ∈ scope.names, y.2 = .local → scope.names.lookup y.1 = some .local)
    (hx : ∀ c C, (compEnvC scope ((x, c) :: cl) C env).kindOf x = some .cell)
    (h : wpAny (model prog w) A (eval iter env) (CellSrc prog w A h₀ L m env ct elt x scope cl Q) E s)
    (hs : ∀ x, foldedSetIterable iter env x = pure x := by intro _; rfl) :
    wpAny (model prog w) A (eval (.ListComp elt [⟨.Name x px, iter, [ct], 0⟩] scope pos) env) Q E s := by
  rw [eval_ListComp]
  refine wpAny_comprehension_free (use := none) rfl hs hclos hkind hnames (wpAny_mono h (fun xv s₁ h₁ => ?_) fun _ _ e => e)
  obtain ⟨r, a, b, t, u, v, n, news, p, rfl, hh, F, N, hr, hsm, hn, hsz, turn, fin⟩ := h₁
  refine wpAny_pyIter_range hr hsm ?_
  refine wpAny_newObj_type (newEnv_cell hc hp ?_)
  dsimp only
  -- the addresses: the iterator, the list, the names, the cell
  have hF : @LT.lt Nat _ L s₁.heap.objs.size := F.ns.lt
  have fresh₀ : ∀ z, s₁.heap.objs.size ≤ z → h₀.get? z = none := fun z hz => Heap.get?_none_of_le (Nat.le_trans (Nat.le_of_lt (Nat.lt_of_le_of_lt F.above hF)) hz)
  have e1 : (s₁.heap.push { cls := Value.type "range_iterator", data := Data.fields #[rawInt a, rawInt (Builtin.Range.rangeSize a b 1), rawInt 1] }).objs.size = s₁.heap.objs.size + 1 := Heap.size_push ..
  have e2 : ((s₁.heap.push { cls := Value.type "range_iterator", data := Data.fields #[rawInt a, rawInt (Builtin.Range.rangeSize a b 1), rawInt 1] }).push { cls := Value.type "list", data := Data.seq #[] }).objs.size = s₁.heap.objs.size + 1 + 1 := by rw [Heap.size_push, e1]
  have e3 : (((s₁.heap.push { cls := Value.type "range_iterator", data := Data.fields #[rawInt a, rawInt (Builtin.Range.rangeSize a b 1), rawInt 1] }).push { cls := Value.type "list", data := Data.seq #[] }).push { cls := Value.type "dict", data := Data.dict #[] }).objs.size = s₁.heap.objs.size + 1 + 1 + 1 := by rw [Heap.size_push, e2]
  have gI : ∀ o1 o2 o3 : Obj, ((((s₁.heap.push { cls := Value.type "range_iterator", data := Data.fields #[rawInt a, rawInt (Builtin.Range.rangeSize a b 1), rawInt 1] }).push o1).push o2).push o3).get? s₁.heap.objs.size = some { cls := Value.type "range_iterator", data := Data.fields #[rawInt a, rawInt (Builtin.Range.rangeSize a b 1), rawInt 1] } :=
    fun o1 o2 o3 => Heap.get?_push_of_some _ (Heap.get?_push_of_some _ (Heap.get?_push_of_some _ (Heap.get?_push_size _ rfl)))
  have gD := fun o2 o3 : Obj => Heap.get?_push_of_some o3 (Heap.get?_push_of_some o2 (Heap.get?_push_size (s₁.heap.push { cls := Value.type "range_iterator", data := Data.fields #[rawInt a, rawInt (Builtin.Range.rangeSize a b 1), rawInt 1] }) (o := { cls := Value.type "list", data := Data.seq #[] }) rfl))
  have gC := fun o3 : Obj => Heap.get?_push_of_some o3 (Heap.get?_push_size ((s₁.heap.push { cls := Value.type "range_iterator", data := Data.fields #[rawInt a, rawInt (Builtin.Range.rangeSize a b 1), rawInt 1] }).push { cls := Value.type "list", data := Data.seq #[] }) (o := { cls := Value.type "dict", data := Data.dict #[] }) rfl)
  have gc := Heap.get?_push_size (((s₁.heap.push { cls := Value.type "range_iterator", data := Data.fields #[rawInt a, rawInt (Builtin.Range.rangeSize a b 1), rawInt 1] }).push { cls := Value.type "list", data := Data.seq #[] }).push { cls := Value.type "dict", data := Data.dict #[] }) (o := { cls := Value.type "cell", data := Data.cell none }) rfl
  have old : ∀ z o, s₁.heap.get? z = some o → ((((s₁.heap.push { cls := Value.type "range_iterator", data := Data.fields #[rawInt a, rawInt (Builtin.Range.rangeSize a b 1), rawInt 1] }).push { cls := Value.type "list", data := Data.seq #[] }).push { cls := Value.type "dict", data := Data.dict #[] }).push { cls := Value.type "cell", data := Data.cell none }).get? z = some o :=
    fun z o e => Heap.get?_push_of_some _ (Heap.get?_push_of_some _ (Heap.get?_push_of_some _ (Heap.get?_push_of_some _ e)))
  rw [e3] at gc
  have gC' := gC { cls := Value.type "cell", data := Data.cell none }
  have gD' := gD { cls := Value.type "dict", data := Data.dict #[] } { cls := Value.type "cell", data := Data.cell none }
  have gI' := gI { cls := Value.type "list", data := Data.seq #[] } { cls := Value.type "dict", data := Data.dict #[] } { cls := Value.type "cell", data := Data.cell none }
  rw [e2] at gC'
  rw [e1] at gD'
  rw [e1, e2]
  generalize ((((s₁.heap.push { cls := Value.type "range_iterator", data := Data.fields #[rawInt a, rawInt (Builtin.Range.rangeSize a b 1), rawInt 1] }).push { cls := Value.type "list", data := Data.seq #[] }).push { cls := Value.type "dict", data := Data.dict #[] }).push { cls := Value.type "cell", data := Data.cell none }) = H at old gc gC' gD' gI' ⊢
  have nlt : ∀ q ∈ news, @LT.lt Nat _ q.1 s₁.heap.objs.size := fun q hq => Heap.lt_size (N q hq).1
  have loop := cell_loop (prog := prog) (w := w) (A := A) (s := { s₁ with heap := H }) (h₀ := h₀) (L := L) (m := m) (env := env) (ct := ct) (elt := elt) (iter := iter) (x := x) (px := px) (scope := scope) (cl := cl) (pos := pos)
    (R := compPost (model prog w) A E none Q (.ref (s₁.heap.objs.size + 1)) (s₁.heap.objs.size + 1 + 1)) (I := s₁.heap.objs.size) (D := s₁.heap.objs.size + 1) (C := s₁.heap.objs.size + 1 + 1) (c := s₁.heap.objs.size + 1 + 1 + 1) (n := n) (a := a) (p := p) (news := news) (v₀ := none)
    (m₀ := fun _ => none)
    hh hsz hkind (hx _ _) (neN (by omega)) (neN (by omega)) (neN (by omega)) (neN (by omega)) (neN (by omega)) (neN (by omega)) (neN (by omega)) (neN (by omega)) (neN (by omega)) (neN (by omega))
    (fresh₀ _ (by omega)) (fresh₀ _ (by omega)) (fresh₀ _ (by omega)) (fresh₀ _ (by omega)) (fun q hq => by have := nlt q hq; exact ⟨neN (by omega), neN (by omega), neN (by omega), neN (by omega)⟩)
    (fun k tk' oI oC ys oc h tk E' h0 h1 d F' N' => turn k tk' _ oI _ oC _ ys _ oc h tk E' h0 h1 d F' N')
    ?_ ?_ (F.keeps old) ?_ ?_ ⟨_, gc, rfl⟩
  · exact codeAny_compStart_list loop ((LCg.range_walks (prog := prog) (w := w) hh a n).self 0 _ _ _ (by show IsRangeIter _ _ _ _ _; rw [hn] at gI'; simpa using gI') loop)
  · intro ys h tk m' hI' F' N' hC'
    refine ⟨m', hC', fun h'' hs'' => fin _ ys h'' tk hI' (F'.change hs'' (neN (by omega)) (fresh₀ _ (by omega))) fun q hq => ?_⟩
    refine ⟨hs''.extBut _ _ ?_ (N' q hq).1, (N' q hq).2⟩
    rcases List.mem_cons.mp hq with rfl | hq
    · exact neN (by show s₁.heap.objs.size + 1 ≠ _; omega)
    · have := nlt q hq; exact neN (by omega)
  · show IsRangeIter _ _ _ _ _; rw [hn] at gI'; simpa using gI'
  · intro q hq
    rcases List.mem_cons.mp hq with rfl | hq
    · exact ⟨gD', neN (by show s₁.heap.objs.size + 1 ≠ _; omega), fresh₀ _ (by show _ ≤ s₁.heap.objs.size + 1; omega)⟩
    · exact ⟨old _ _ (N q hq).1, (N q hq).2⟩
  · exact ⟨_, #[], _, gC', rfl, fun e he => by simp at he, fun _ => rfl⟩
end

/-- an element taken, an element passed by -/
def FiEl (news : List (Addr × Obj)) (R : Prop) (k : Int) (y : Value) (news' : List (Addr × Obj)) : Prop := news' = news ∧ R ∧ ∃ t, y = .int k t
def FiNo (news : List (Addr × Obj)) (R : Prop) (news' : List (Addr × Obj)) : Prop := news' = news ∧ R
section
variable {h₀ : Heap} {L I C D : Addr} {m : Str → Option Value} {s₁ : Shared} {oI oC oD : Obj} {S : List (Addr × Obj) → Prop} {news all : List (Addr × Obj)} {h' : Heap} {tk : Nat} {k : Int} {t : Tok} {R : Prop}
theorem fi_el (F : Fr h₀ L h' m) (N : News h₀ L h' all) (sub : ∀ p ∈ (I, oI) :: (C, oC) :: (D, oD) :: news, p ∈ all) (off : LCg.Off3 I C D news) (hS : S news) (r : R) :
    LCg.CompEnd h₀ L m s₁ I oI C oC D oD S (fun y news' => FiEl news R k y news') (.int k t) { s₁ with heap := h', toks := tk } := LCg.CompEnd.intro F N news sub off hS ⟨rfl, r, _, rfl⟩
theorem fi_no (F : Fr h₀ L h' m) (N : News h₀ L h' all) (sub : ∀ p ∈ (I, oI) :: (C, oC) :: (D, oD) :: news, p ∈ all) (off : LCg.Off3 I C D news) (hS : S news) (r : R) :
    LCg.CompEnd h₀ L m s₁ I oI C oC D oD S (fun _ news' => FiNo news R news') .none { s₁ with heap := h', toks := tk } := LCg.CompEnd.intro F N news sub off hS ⟨rfl, r⟩
end
theorem foldl_filter (p : Int → Bool) : ∀ (ks l : List Int), ks.foldl (fun l k => if p k = true then l ++ [k] else l) l = l ++ ks.filter p
  | [], l => by simp
  | k :: r, l => by
    rw [List.foldl_cons, foldl_filter p r]
    by_cases h : p k = true
    · rw [if_pos h, List.filter_cons_of_pos h, List.append_assoc]; rfl
    · rw [if_neg h, List.filter_cons_of_neg h]
theorem filt_grows (p : Int → Bool) : KPfGrows (fun (l : List Int) (k : Int) => if p k = true then l ++ [k] else l) := by
  intro l k
  dsimp only
  split
  · rw [List.length_append, List.length_singleton]; omega
  · omega
section
variable {prog : Program} {w : World} {A : Around} {h₀ : Heap} {L : Addr} {m : Str → Option Value} {env : Env} {ct elt : Expr} {x : Str} {scope : Scope} {cl : List (Str × Addr)} {s : Shared} {S : List (Addr × Obj) → Prop} {Fin : List Value → List (Addr × Obj) → Prop} {news : List (Addr × Obj)}
theorem filt_range {n : Nat} {a : Int} (p : Int → Bool)
    (turn : ∀ k t I oI C oC D m₂ ys h tk (E' : Value → Shared → Prop), a ≤ k → k < a + (n : Int) → LCg.NsObj oC m₂ → m₂ x = some (.int k t) → Fr h₀ L h m → News h₀ L h ((I, oI) :: (C, oC) :: (D, LCg.lst ys) :: news) → LCg.Off3 I C D news → ((@Ne Nat I C) ∧ (@Ne Nat I D) ∧ (@Ne Nat C D)) → KPfMark →
      wpAny (model prog w) A (isTrue ct (compEnvC scope cl C env) (eval ct (compEnvC scope cl C env))) (fun b s' => if b = true then wpAny (model prog w) A (eval elt (compEnvC scope cl C env)) (LCg.CompEnd h₀ L m { s with heap := h, toks := tk } I oI C oC D (LCg.lst ys) S (fun y news' => FiEl news (p k = true) k y news')) E' s'
        else LCg.CompEnd h₀ L m { s with heap := h, toks := tk } I oI C oC D (LCg.lst ys) S (fun _ news' => FiNo news (p k = false) news') Value.none s') E' { s with heap := h, toks := tk })
    (fin : KPfDone (∀ ys, IntsAre ys ((rangeKs a n).filter p) → ys.length ≤ n → Fin ys news)) : LCt.CompRestT prog w A h₀ L m env ct elt x scope cl s S (fun i v => ∃ t, v = .int (a + (i : Int)) t) Fin n 0 [] news := by
  refine kci_range (fun l k => if p k = true then l ++ [k] else l) (fun k t I oI C oC D m₂ ys l h tk E' h0 h1 hI hC hx F N off ne mk => ?_) ?_ (filt_grows p)
  · refine wpAny_mono (turn k t I oI C oC D m₂ ys h tk E' h0 h1 hC hx F N off ne mk) (fun b s' hb => ?_) fun _ _ e => e
    cases b with
    | true =>
      simp only [if_true] at hb ⊢
      refine wpAny_mono hb (fun y s₂ hr => ?_) fun _ _ e => e
      obtain ⟨h', tk', nw, e, F', N', off', hS, hn, hp, t', hy⟩ := hr
      exact ⟨h', tk', nw, e, F', N', off', hS, hn, k, t', hy, by rw [if_pos hp]⟩
    | false =>
      simp only [Bool.false_eq_true, if_false] at hb ⊢
      obtain ⟨h', tk', nw, e, F', N', off', hS, hn, hp⟩ := hb
      exact ⟨h', tk', nw, e, F', N', off', hS, hn, by rw [if_neg (by rw [hp]; exact Bool.false_ne_true)]⟩
  · unfold KPfDone at fin ⊢
    intro ys hI hl
    rw [foldl_filter, List.nil_append] at hI
    exact fin ys hI hl
end
end
section
open PySem PySem.Builtin PySem.Builtin.Str PyProof.Rows
/-! the law of words, in plain lists -/

/-- the endless word -/
def W (X : List Nat) (i : Nat) : Option Nat := X[i % X.length]?
def Pd (X : List Nat) (d : Nat) : Prop := ∀ i, W X (i + d) = W X i

theorem W_lt {X : List Nat} {i : Nat} (h : i < X.length) : W X i = X[i]? := by
  unfold W; rw [Nat.mod_eq_of_lt h]
theorem W_len (X : List Nat) (i : Nat) : W X (i + X.length) = W X i := by
  unfold W; rw [Nat.add_mod_right]
theorem Pd_len (X : List Nat) : Pd X X.length := W_len X
theorem Pd_zero (X : List Nat) : Pd X 0 := fun _ => rfl
theorem Pd.add {X : List Nat} {a b : Nat} (ha : Pd X a) (hb : Pd X b) : Pd X (a + b) := fun i => by
  rw [← Nat.add_assoc, hb, ha]
theorem Pd.mul {X : List Nat} {a : Nat} (ha : Pd X a) : ∀ k, Pd X (a * k)
  | 0 => Pd_zero X
  | k + 1 => by rw [Nat.mul_succ]; exact (ha.mul k).add ha
theorem Pd.mod {X : List Nat} {a b : Nat} (ha : Pd X a) (hb : Pd X b) : Pd X (b % a) := fun i => by
  have h := (ha.mul (b / a)) (i + b % a)
  rw [← h, Nat.add_assoc, Nat.mod_add_div]
  exact hb i
theorem Pd.gcd {X : List Nat} : ∀ (a b : Nat), Pd X a → Pd X b → Pd X (Nat.gcd a b) := fun a b => by
  induction a, b using Nat.gcd.induction with
  | H0 n => intro _ h; rw [Nat.gcd_zero_left]; exact h
  | H1 m n h0 ih => intro ha hb; rw [Nat.gcd_rec]; exact ih (ha.mod hb) ha
theorem Pd.modW {X : List Nat} {d : Nat} (h : Pd X d) (i : Nat) : W X i = W X (i % d) := by
  have := (h.mul (i / d)) (i % d)
  rw [Nat.mod_add_div] at this
  exact this

theorem flatten_at (u : List Nat) : ∀ (m i : Nat), i < m * u.length → (List.replicate m u).flatten[i]? = u[i % u.length]?
  | 0, i, h => by simp at h
  | m + 1, i, h => by
    rw [List.replicate_succ, List.flatten_cons]
    by_cases c : i < u.length
    · rw [List.getElem?_append_left c, Nat.mod_eq_of_lt c]
    · have h1 : u.length ≤ i := by omega
      rw [List.getElem?_append_right h1, flatten_at u m (i - u.length) (by rw [Nat.succ_mul] at h; omega)]
      rw [← Nat.mod_eq_sub_mod h1]
theorem flatten_len (u : List Nat) : ∀ m, (List.replicate m u).flatten.length = m * u.length
  | 0 => by simp
  | m + 1 => by rw [List.replicate_succ, List.flatten_cons, List.length_append, flatten_len u m, Nat.succ_mul]; omega

theorem madeOf_iff {X : List Nat} {d : Nat} (hd : 1 ≤ d) (hX : 0 < X.length) : MadeOf X d ↔ d ∣ X.length ∧ Pd X d := by
  constructor
  · rintro ⟨h0, h1⟩
    have hdv : d ∣ X.length := Nat.dvd_of_mod_eq_zero h0
    refine ⟨hdv, fun i => ?_⟩
    have hdl : d ≤ X.length := Nat.le_of_dvd hX hdv
    have hu : (X.take d).length = d := by rw [List.length_take]; omega
    have hm : X.length / d * d = X.length := Nat.div_mul_cancel hdv
    have key : ∀ j, W X j = (X.take d)[j % d]? := fun j => by
      unfold W
      have := flatten_at (X.take d) (X.length / d) (j % X.length) (by rw [hu, hm]; exact Nat.mod_lt _ hX)
      rw [h1, hu, Nat.mod_mod_of_dvd _ hdv] at this
      exact this
    rw [key, key, Nat.add_mod_right]
  · rintro ⟨hdv, hp⟩
    refine ⟨Nat.mod_eq_zero_of_dvd hdv, ?_⟩
    have hdl : d ≤ X.length := Nat.le_of_dvd hX hdv
    have hu : (X.take d).length = d := by rw [List.length_take]; omega
    have hm : X.length / d * d = X.length := Nat.div_mul_cancel hdv
    apply List.ext_getElem?
    intro i
    by_cases c : i < X.length
    · rw [flatten_at _ _ _ (by rw [hu, hm]; exact c), hu]
      have hi : i % d < d := Nat.mod_lt _ hd
      rw [List.getElem?_take_of_lt hi, ← W_lt c, hp.modW i, W_lt (by omega)]
    · have l1 : (List.replicate (X.length / d) (X.take d)).flatten.length ≤ i := by rw [flatten_len, hu, hm]; omega
      have l2 : X.length ≤ i := by omega
      rw [List.getElem?_eq_none l1, List.getElem?_eq_none l2]

theorem RootW.dvd {X R : List Nat} (hX : 0 < X.length) (h : RootW X R) (d : Nat) : Pd X d ↔ R.length ∣ d := by
  obtain ⟨g, h0, h1, h2, h3, rfl⟩ := h
  have hl : (X.take g).length = g := by rw [List.length_take]; omega
  rw [hl]
  have hg := (madeOf_iff h0 hX).mp h2
  constructor
  · intro hd
    have he := Pd.gcd d g hd hg.2
    have e1 : 1 ≤ Nat.gcd d g := Nat.gcd_pos_of_pos_right _ h0
    have e2 : Nat.gcd d g ∣ g := Nat.gcd_dvd_right _ _
    have e3 : MadeOf X (Nat.gcd d g) := (madeOf_iff e1 hX).mpr ⟨Nat.dvd_trans e2 hg.1, he⟩
    have e4 : ¬ Nat.gcd d g < g := fun hlt => h3 _ e1 hlt e3
    have e5 : Nat.gcd d g ≤ g := Nat.le_of_dvd h0 e2
    have e6 : Nat.gcd d g = g := by omega
    rw [← e6]
    exact Nat.gcd_dvd_left _ _
  · rintro ⟨k, rfl⟩
    exact hg.2.mul k
theorem RootW.W_eq {X R : List Nat} (hX : 0 < X.length) (h : RootW X R) (i : Nat) : W X i = W R i := by
  have hd := (h.dvd hX R.length).mpr (Nat.dvd_refl _)
  have hl := h.len
  rw [hd.modW i]
  obtain ⟨g, h0, h1, h2, h3, rfl⟩ := h
  have hlen : (X.take g).length = g := by rw [List.length_take]; omega
  unfold W
  rw [hlen]
  have hi : i % g < g := Nat.mod_lt _ h0
  rw [Nat.mod_eq_of_lt (show i % g < X.length by omega), List.getElem?_take_of_lt hi]

/-- the text put to itself -/
theorem twice_at {X : List Nat} {i : Nat} (h : i < X.length + X.length) : (X ++ X)[i]? = W X i := by
  by_cases c : i < X.length
  · rw [List.getElem?_append_left c, W_lt c]
  · have h1 : X.length ≤ i := by omega
    rw [List.getElem?_append_right h1]
    unfold W
    rw [Nat.mod_eq_sub_mod h1, Nat.mod_eq_of_lt (by omega)]
def win (X : List Nat) (a : Nat) : List Nat := ((X ++ X).drop a).take X.length
theorem win_at {X : List Nat} {a i : Nat} (ha : a ≤ X.length) (hi : i < X.length) : (win X a)[i]? = W X (a + i) := by
  unfold win
  rw [List.getElem?_take_of_lt hi, List.getElem?_drop, twice_at (by omega)]
theorem win_len {X : List Nat} {a : Nat} (ha : a ≤ X.length) : (win X a).length = X.length := by
  unfold win
  rw [List.length_take, List.length_drop, List.length_append]; omega
theorem win_rot {X : List Nat} {a : Nat} (ha : a ≤ X.length) : win X a = X.drop a ++ X.take a := by
  unfold win
  rw [List.drop_append_of_le_length ha, List.take_append, List.length_drop, List.take_of_length_le (by rw [List.length_drop]; omega)]
  rw [show X.length - (X.length - a) = a by omega]
theorem win_eq {X : List Nat} {a b : Nat} (hX : 0 < X.length) (ha : a ≤ X.length) (hb : b ≤ a) : win X a = win X b ↔ Pd X (a - b) := by
  constructor
  · intro h i
    have key : ∀ j, W X (a + j) = W X (b + j) := fun j => by
      have hj : j % X.length < X.length := Nat.mod_lt _ hX
      have e1 := win_at ha hj
      have e2 := win_at (Nat.le_trans hb ha) hj
      rw [h, e2] at e1
      have m1 := ((Pd_len X).mul (j / X.length)) (a + j % X.length)
      have m2 := ((Pd_len X).mul (j / X.length)) (b + j % X.length)
      rw [Nat.add_assoc, Nat.mod_add_div] at m1 m2
      rw [m1, m2, e1]
    -- past b
    have m1 := ((Pd_len X).mul b) (i + (a - b))
    have m2 := ((Pd_len X).mul b) i
    have hle : b ≤ X.length * b := Nat.le_mul_of_pos_left b hX
    have k1 := key (i + X.length * b - b)
    rw [show a + (i + X.length * b - b) = i + (a - b) + X.length * b by omega, show b + (i + X.length * b - b) = i + X.length * b by omega, m1, m2] at k1
    exact k1
  · intro h
    apply List.ext_getElem?
    intro i
    by_cases c : i < X.length
    · rw [win_at ha c, win_at (Nat.le_trans hb ha) c]
      have := h (b + i)
      rw [show b + i + (a - b) = a + i by omega] at this
      exact this
    · rw [List.getElem?_eq_none (by rw [win_len ha]; omega), List.getElem?_eq_none (by rw [win_len (Nat.le_trans hb ha)]; omega)]
theorem win_zero (X : List Nat) : win X 0 = X := by
  unfold win; rw [List.drop_zero]; simp
theorem dvd_sub_mod {r a b : Nat} (h : b ≤ a) : r ∣ a - b ↔ a % r = b % r := by
  constructor
  · rintro ⟨k, hk⟩
    have : a = b + r * k := by omega
    rw [this, Nat.add_mul_mod_self_left]
  · intro e
    exact Nat.dvd_of_mod_eq_zero (Nat.sub_mod_eq_zero_of_mod_eq e)
theorem win_mod {X R : List Nat} (hX : 0 < X.length) (h : RootW X R) {a b : Nat} (ha : a ≤ X.length) (hb : b ≤ X.length) : win X a = win X b ↔ a % R.length = b % R.length := by
  have hR := h.len
  rcases Nat.le_total b a with c | c
  · rw [win_eq hX ha c, h.dvd hX, dvd_sub_mod c]
  · rw [eq_comm, win_eq hX hb c, h.dvd hX, dvd_sub_mod c, eq_comm]

theorem found_one {X R : List Nat} {f : Int} (hX : 0 < X.length) (h : RootW X R) (hf : FoundW (X ++ X) X 1 f) : f = (R.length : Int) + 1 := by
  have hR := h.len
  have hp := (h.dvd hX R.length).mpr (Nat.dvd_refl _)
  have hg : win X R.length = X := by
    have := (win_eq hX hR.2 (Nat.zero_le _)).mpr (by rw [Nat.sub_zero]; exact hp)
    rw [this, win_zero]
  rcases hf with ⟨_, h2⟩ | ⟨a, rfl, h1, h2, h3, h4⟩
  · exact absurd hg (h2 R.length hR.1 (by rw [List.length_append]; omega))
  · rw [List.length_append] at h2
    have ha : a ≤ X.length := by omega
    have e : win X a = win X 0 := by rw [win_zero]; exact h3
    have hd := (h.dvd hX a).mp (by have := (win_eq hX ha (Nat.zero_le a)).mp e; rwa [Nat.sub_zero] at this)
    have hle := Nat.le_of_dvd (by omega) hd
    by_cases c : R.length < a
    · exact absurd hg (h4 _ hR.1 c)
    · have : a = R.length := by omega
      rw [this]
theorem found_turn {X R : List Nat} {f : Int} {i : Nat} (hX : 0 < X.length) (h : RootW X R) (hi : i < X.length) (hf : FoundW (X ++ X) (win X i) 0 f) : f = ((i % R.length : Nat) : Int) + 1 := by
  have hR := h.len
  have hm : i % R.length < R.length := Nat.mod_lt _ hR.1
  have hme : win X (i % R.length) = win X i := (win_mod hX h (by omega) (by omega)).mpr (Nat.mod_mod _ _)
  have hl : (win X i).length = X.length := win_len (by omega)
  rcases hf with ⟨_, h2⟩ | ⟨a, rfl, h1, h2, h3, h4⟩
  · refine absurd ?_ (h2 (i % R.length) (Nat.zero_le _) (by rw [hl, List.length_append]; omega))
    rw [hl]; exact hme
  · rw [hl, List.length_append] at h2
    have ha : a ≤ X.length := by omega
    rw [hl] at h3
    have e := (win_mod hX h ha (show i ≤ X.length by omega)).mp h3
    by_cases c : i % R.length < a
    · refine absurd ?_ (h4 _ (Nat.zero_le _) c)
      rw [hl]; exact hme
    · have hle : a % R.length ≤ a := Nat.mod_le _ _
      have : a = i % R.length := by omega
      rw [this]
end
section
open PySem PySem.W PySem.Builtin PySem.Builtin.Str PyProof.Rows
/-! commuting, lengths of repetition, joins -/

theorem found_turned {X Y : List Nat} {f : Int} (hl : Y.length = X.length) (hX : 0 < X.length) (hf : FoundW (X ++ X) Y 0 f) : 0 < f ↔ ∃ k, k < X.length ∧ X.drop k ++ X.take k = Y := by
  rcases hf with ⟨h0, h2⟩ | ⟨a, rfl, h1, h2, h3, h4⟩
  · constructor
    · intro h; omega
    · rintro ⟨k, hk, e⟩
      refine absurd ?_ (h2 k (Nat.zero_le _) (by rw [hl, List.length_append]; omega))
      rw [hl, ← e]
      exact win_rot (by omega)
  · constructor
    · intro _
      rw [hl, List.length_append] at h2
      rw [hl] at h3
      have ha : a ≤ X.length := by omega
      by_cases c : a < X.length
      · exact ⟨a, c, by rw [← win_rot ha]; exact h3⟩
      · have ea : a = X.length := by omega
        refine ⟨0, hX, ?_⟩
        subst ea
        have := win_rot (X := X) (Nat.le_refl X.length)
        rw [List.drop_length, List.take_length, List.nil_append] at this
        rw [List.drop_zero, List.take_zero, List.append_nil, ← this]
        exact h3
    · intro _; omega

theorem rot_Pd {Z : List Nat} {n : Nat} (hZ : 0 < Z.length) (hn : n ≤ Z.length) (h : Z.drop n ++ Z.take n = Z) : Pd Z n := by
  have e : win Z n = win Z 0 := by rw [win_rot hn, win_zero]; exact h
  have := (win_eq hZ hn (Nat.zero_le n)).mp e
  rwa [Nat.sub_zero] at this
theorem commute_W {X Y : List Nat} (hX : 0 < X.length) (hY : 0 < Y.length) (h : X ++ Y = Y ++ X) (i : Nat) : W X i = W Y i := by
  have hl : (X ++ Y).length = X.length + Y.length := List.length_append
  have p1 : Pd (X ++ Y) X.length := rot_Pd (by omega) (by omega) (by rw [List.drop_left, List.take_left]; exact h.symm)
  have p2 : Pd (X ++ Y) Y.length := by
    rw [h]
    exact rot_Pd (by rw [List.length_append]; omega) (by rw [List.length_append]; omega) (by rw [List.drop_left, List.take_left]; exact h)
  have e1 : W (X ++ Y) i = W X i := by
    have hi := Nat.mod_lt i hX
    rw [p1.modW i, W_lt (by omega), List.getElem?_append_left hi]; rfl
  have e2 : W (X ++ Y) i = W Y i := by
    have hi := Nat.mod_lt i hY
    rw [p2.modW i, W_lt (by omega), h, List.getElem?_append_left hi]; rfl
  rw [← e1, e2]
theorem W_commute {X Y : List Nat} (h : ∀ i, W X i = W Y i) : X ++ Y = Y ++ X := by
  have pY : ∀ i, W X (i + Y.length) = W X i := fun i => by rw [h, h, W_len]
  apply List.ext_getElem?
  intro i
  by_cases c : i < X.length + Y.length
  · have key : ∀ {A B : List Nat}, (∀ i, W A i = W B i) → i < A.length + B.length → (A ++ B)[i]? = W A i := by
      intro A B hAB hi
      by_cases d : i < A.length
      · rw [List.getElem?_append_left d, W_lt d]
      · have h1 : A.length ≤ i := by omega
        rw [List.getElem?_append_right h1, ← W_lt (by omega), ← hAB]
        have := W_len A (i - A.length)
        rw [Nat.sub_add_cancel h1] at this
        exact this.symm
    rw [key h c, key (fun j => (h j).symm) (by omega), h]
  · rw [List.getElem?_eq_none (by rw [List.length_append]; omega), List.getElem?_eq_none (by rw [List.length_append]; omega)]
theorem commute_root {X Y R S : List Nat} (hX : 0 < X.length) (hY : 0 < Y.length) (hR : RootW X R) (hS : RootW Y S) : X ++ Y = Y ++ X ↔ R = S := by
  have same : (∀ i, W X i = W Y i) ↔ R = S := by
    constructor
    · intro h
      have hp : ∀ d, Pd X d ↔ Pd Y d := fun d => by
        unfold Pd
        simp only [h]
      have e : R.length = S.length := Nat.dvd_antisymm ((hR.dvd hX _).mp ((hp _).mpr ((hS.dvd hY _).mpr (Nat.dvd_refl _)))) ((hS.dvd hY _).mp ((hp _).mp ((hR.dvd hX _).mpr (Nat.dvd_refl _))))
      have lR := hR.len
      have lS := hS.len
      apply List.ext_getElem?
      intro i
      by_cases c : i < R.length
      · rw [← W_lt c, ← W_lt (show i < S.length by omega), ← hR.W_eq hX, ← hS.W_eq hY, h]
      · rw [List.getElem?_eq_none (by omega), List.getElem?_eq_none (by omega)]
    · rintro rfl i
      rw [hR.W_eq hX, hS.W_eq hY]
  rw [← same]
  exact ⟨fun h => commute_W hX hY h, W_commute⟩

/-- a row's length of repetition -/
def Rep (X : List Nat) (n p : Nat) : Prop := ∀ i, i + p < n → X[i]? = X[i + p]?
theorem Rep.mod {X : List Nat} {n p : Nat} (hp : 1 ≤ p) (h : Rep X n p) : ∀ i, i < n → X[i]? = X[i % p]? := by
  intro i
  induction i using Nat.strongRecOn with
  | _ i ih =>
    intro hi
    by_cases c : i < p
    · rw [Nat.mod_eq_of_lt c]
    · have h1 : p ≤ i := by omega
      have := h (i - p) (by omega)
      rw [Nat.sub_add_cancel h1] at this
      rw [← this, ih (i - p) (by omega) (by omega), Nat.mod_eq_sub_mod h1]
theorem fine_wilf (X : List Nat) : ∀ (s n p q : Nat), p + q ≤ s → 1 ≤ p → 1 ≤ q → Rep X n p → Rep X n q → p + q ≤ n + Nat.gcd p q → Rep X n (Nat.gcd p q) := by
  intro s
  induction s with
  | zero => intro n p q hs hp; omega
  | succ s ih =>
    have step : ∀ n p q, p + q ≤ s + 1 → 1 ≤ p → p < q → Rep X n p → Rep X n q → p + q ≤ n + Nat.gcd p q → Rep X n (Nat.gcd p q) := by
      intro n p q hs hp hlt h1 h2 hn
      have eg : Nat.gcd p (q - p) = Nat.gcd p q := by
        have := Nat.gcd_sub_self_right (m := p) (n := q) (by omega)
        exact this
      have g1 : Nat.gcd p q ≤ p := Nat.gcd_le_left _ hp
      have g2 : Nat.gcd p q ≤ q - p := by rw [← eg]; exact Nat.gcd_le_right _ (by omega)
      have g0 : 1 ≤ Nat.gcd p q := Nat.gcd_pos_of_pos_left _ hp
      have hr := ih (n - p) p (q - p) (by omega) hp (by omega) (fun i hi => h1 i (by omega)) (fun i hi => by
        rw [h2 i (by omega), h1 (i + (q - p)) (by omega)]
        congr 1; omega) (by rw [eg]; omega)
      rw [eg] at hr
      have hg : ∀ i, i < n → X[i]? = X[i % Nat.gcd p q]? := fun i hi => by
        have hm := Nat.mod_lt i hp
        rw [h1.mod hp i hi, hr.mod g0 (i % p) (by omega), Nat.mod_mod_of_dvd _ (Nat.gcd_dvd_left p q)]
      intro i hi
      rw [hg i (by omega), hg _ hi, Nat.add_mod_right]
    intro n p q hs hp hq h1 h2 hn
    rcases Nat.lt_trichotomy p q with c | c | c
    · exact step n p q hs hp c h1 h2 hn
    · subst c; rw [Nat.gcd_self]; exact h1
    · rw [Nat.gcd_comm] at hn ⊢
      exact step n q p (by omega) hq c h2 h1 (by omega)

def perB (X : List Nat) (k : Int) : Bool := X.take (X.length - k.toNat) == X.drop k.toNat
def difB (X : List Nat) (k a : Int) : Bool := X[a.toNat]? != X[(a + k).toNat]?
theorem perB_iff {X : List Nat} {k : Int} (hk : k.toNat ≤ X.length) : perB X k = true ↔ Rep X X.length k.toNat := by
  unfold perB
  rw [beq_iff_eq]
  constructor
  · intro h i hi
    have e : (X.take (X.length - k.toNat))[i]? = (X.drop k.toNat)[i]? := by rw [h]
    rw [List.getElem?_take_of_lt (by omega), List.getElem?_drop] at e
    rw [e, Nat.add_comm]
  · intro h
    apply List.ext_getElem?
    intro i
    by_cases c : i < X.length - k.toNat
    · rw [List.getElem?_take_of_lt c, List.getElem?_drop, h i (by omega), Nat.add_comm]
    · rw [List.getElem?_eq_none (by rw [List.length_take]; omega), List.getElem?_eq_none (by rw [List.length_drop]; omega)]
theorem perB_dif {X : List Nat} {k : Int} (h1 : 1 ≤ k) (hk : k ≤ X.length) : ((rangeKs 0 (X.length - k.toNat)).filter (difB X k) = []) ↔ perB X k = true := by
  rw [perB_iff (by omega), List.filter_eq_nil_iff]
  constructor
  · intro h i hi
    have := h (i : Int) (by simp only [rangeKs, List.mem_map, List.mem_range]; exact ⟨i, by omega, by omega⟩)
    simp only [difB, bne_iff_ne, ne_eq, Decidable.not_not, Int.toNat_natCast] at this
    rw [this]; congr 1; omega
  · intro h a ha
    have hm := mem_rangeKs ha
    simp only [difB, bne_iff_ne, ne_eq, Decidable.not_not]
    rw [h a.toNat (by omega)]; congr 1; omega
theorem fw_false {X : List Nat} {n : Nat} (hn : X.length = n) {a b g : Int} (a0 : 1 ≤ a) (a1 : a ≤ n) (ha : perB X a = true) (b0 : 1 ≤ b) (b1 : b ≤ n) (hb : perB X b = true)
    (hg : g = (Int.gcd a b : Int)) (hle : a + b - g ≤ n) (hno : ((rangeKs 1 n).filter (perB X)).any (fun x => x == g) = false) : False := by
  subst hn
  have eg : Int.gcd a b = Nat.gcd a.toNat b.toNat := by
    show Nat.gcd a.natAbs b.natAbs = _
    congr 1 <;> omega
  rw [eg] at hg
  have g1 : Nat.gcd a.toNat b.toNat ≤ a.toNat := Nat.gcd_le_left _ (by omega)
  have g0 : 1 ≤ Nat.gcd a.toNat b.toNat := Nat.gcd_pos_of_pos_left _ (by omega)
  have h := fine_wilf X (a.toNat + b.toNat) X.length a.toNat b.toNat (Nat.le_refl _) (by omega) (by omega) ((perB_iff (by omega)).mp ha) ((perB_iff (by omega)).mp hb) (by omega)
  have hgn : g.toNat = Nat.gcd a.toNat b.toNat := by omega
  rw [← hgn] at h
  have hp := (perB_iff (X := X) (k := g) (by omega)).mpr h
  rw [List.any_eq_false] at hno
  refine hno g ?_ (by simp)
  rw [List.mem_filter]
  refine ⟨?_, hp⟩
  simp only [rangeKs, List.mem_map, List.mem_range]
  exact ⟨g.toNat - 1, by omega, by omega⟩
end
section
open PySem PySem.W PySem.Spec PySem.Builtin PySem.Builtin.Str PyProof.Rows
/-! the law in the words of the walk -/

theorem beq_wl (x y : Str) : (x == y) = (wl x == wl y) := by
  rw [Bool.eq_iff_iff, beq_iff_eq, beq_iff_eq]
  exact wl_iff
theorem bne_wl (x y : Str) : (x != y) = (wl x != wl y) := by
  rw [bne, beq_wl]; rfl

theorem turns_1 {x tw g : Str} {f : Int} (hx : 0 < x.length) (htw : wl tw = wl x ++ wl x) (hg : RootW (wl x) (wl g)) (hf : FoundW (wl tw) (wl x) 1 f) (ne : f ≠ (g.length : Int) + 1) : False := by
  rw [htw] at hf
  have := found_one (by rw [wl_len]; exact hx) hg hf
  rw [wl_len] at this
  exact ne this
theorem turned_win {x tw r : Str} {i : Nat} (htw : wl tw = wl x ++ wl x) (hr : wl r = List.take (x.length : Int).toNat (List.drop (0 + (i : Int) + 1 - 1).toNat (wl tw))) : wl r = win (wl x) i := by
  rw [hr, htw]
  unfold win
  rw [wl_len, show (x.length : Int).toNat = x.length by omega, show (0 + (i : Int) + 1 - 1).toNat = i by omega]
theorem rot_wl {x : Str} {k : Int} (hk : 0 ≤ k) : wl (Txt.slice x (some k) none ++ Txt.slice x none (some k)) = (wl x).drop k.toNat ++ (wl x).take k.toNat := by
  rw [wl_app, slice_from_wl x k hk, slice_to_wl x k hk]
theorem turns_2 {x tw r : Str} {i : Nat} (htw : wl tw = wl x ++ wl x) (hi : i < x.length) (hr : wl r = List.take (x.length : Int).toNat (List.drop (0 + (i : Int) + 1 - 1).toNat (wl tw)))
    (ne : (r != Txt.slice x (some (0 + (i : Int))) none ++ Txt.slice x none (some (0 + (i : Int)))) = true) : False := by
  rw [bne_wl, bne_iff_ne, turned_win htw hr, rot_wl (by omega), win_rot (by rw [wl_len]; omega), show (0 + (i : Int)).toNat = i by omega] at ne
  exact ne rfl
theorem fmod_nat {i g : Nat} : (0 + (i : Int)).fmod (g : Int) = ((i % g : Nat) : Int) := by
  rw [Int.zero_add, Int.fmod_eq_emod_of_nonneg _ (by omega)]; rfl
theorem turns_3 {x tw r g : Str} {i : Nat} (hx : 0 < x.length) (htw : wl tw = wl x ++ wl x) (hg : RootW (wl x) (wl g)) (hi : i < x.length) (hr : wl r = List.take (x.length : Int).toNat (List.drop (0 + (i : Int) + 1 - 1).toNat (wl tw)))
    (ne : ((r == x) != ((0 + (i : Int)).fmod (g.length : Int) == 0)) = true) : False := by
  have h := win_mod (by rw [wl_len]; exact hx) hg (a := i) (b := 0) (by rw [wl_len]; omega) (Nat.zero_le _)
  rw [win_zero, wl_len, Nat.zero_mod] at h
  rw [bne_iff_ne] at ne
  apply ne
  rw [Bool.eq_iff_iff, beq_iff_eq, beq_iff_eq, wl_iff, turned_win htw hr, h, fmod_nat]
  omega
theorem turns_4 {x tw r g : Str} {i : Nat} {f : Int} (hx : 0 < x.length) (htw : wl tw = wl x ++ wl x) (hg : RootW (wl x) (wl g)) (hi : i < x.length) (hr : wl r = List.take (x.length : Int).toNat (List.drop (0 + (i : Int) + 1 - 1).toNat (wl tw)))
    (hf : FoundW (wl tw) (wl r) 0 f) (ne : f ≠ (0 + (i : Int)).fmod (g.length : Int) + 1) : False := by
  rw [htw, turned_win htw hr] at hf
  have := found_turn (by rw [wl_len]; exact hx) hg (by rw [wl_len]; exact hi) hf
  rw [wl_len] at this
  exact ne (by rw [fmod_nat, this])
theorem any_turned (x y : Str) : (List.map (fun k => PyData.str (Txt.slice x (some k) none ++ Txt.slice x none (some k))) (rangeKs 0 x.length)).any (datHitsStr y) = true ↔ ∃ k, k < (wl x).length ∧ (wl x).drop k ++ (wl x).take k = wl y := by
  rw [List.any_map, List.any_eq_true]
  simp only [Function.comp, datHitsStr, beq_iff_eq]
  constructor
  · rintro ⟨k, hk, e⟩
    have hm := mem_rangeKs hk
    refine ⟨k.toNat, by rw [wl_len]; omega, ?_⟩
    rw [← e, rot_wl (by omega)]
  · rintro ⟨k, hk, e⟩
    rw [wl_len] at hk
    refine ⟨(k : Int), by simp only [rangeKs, List.mem_map, List.mem_range]; exact ⟨k, hk, by omega⟩, ?_⟩
    rw [wl_iff, rot_wl (by omega), ← e]
    simp
theorem turns_5 {x y tw : Str} {f : Int} (hx : 0 < x.length) (htw : wl tw = wl x ++ wl x) (hl : (y.length : Int) = (x.length : Int)) (hf : FoundW (wl tw) (wl y) 0 f) :
    ((List.map (fun k => PyData.str (Txt.slice x (some k) none ++ Txt.slice x none (some k))) (rangeKs 0 x.length)).any (datHitsStr y) == decide (0 < f)) = true := by
  rw [htw] at hf
  rw [beq_iff_eq, Bool.eq_iff_iff, any_turned, decide_eq_true_iff]
  exact (found_turned (by rw [wl_len, wl_len]; omega) (by rw [wl_len]; exact hx) hf).symm
theorem turns_6 {x y : Str} (hl : (y.length : Int) ≠ (x.length : Int)) :
    ((List.map (fun k => PyData.str (Txt.slice x (some k) none ++ Txt.slice x none (some k))) (rangeKs 0 x.length)).any (datHitsStr y) == ((y.length : Int) == (x.length : Int))) = true := by
  have e : ((y.length : Int) == (x.length : Int)) = false := beq_eq_false_iff_ne.mpr hl
  rw [e, beq_iff_eq, Bool.eq_false_iff]
  intro h
  obtain ⟨k, hk, e⟩ := (any_turned x y).mp h
  have := congrArg List.length e
  rw [List.length_append, List.length_drop, List.length_take, wl_len, wl_len] at this
  rw [wl_len] at hk
  omega

theorem per_b {x r q : Str} {k : Int} {b : Bool} (hr : wl r = List.take ((x.length : Int) - k).toNat (wl x)) (hq : wl q = List.drop (x.length - ((x.length : Int) - k).toNat) (wl x)) (h1 : 1 ≤ k) (h2 : k < 1 + (x.length : Int)) (e : (r == q) = b) : perB (wl x) k = b := by
  rw [← e, beq_wl, hr, hq]
  unfold perB
  rw [wl_len, show ((x.length : Int) - k).toNat = x.length - k.toNat by omega, show x.length - (x.length - k.toNat) = k.toNat by omega]
theorem item_dif (x : Str) {i j : Int} (hi : 0 ≤ i) (hi' : i < x.length) (hj : 0 ≤ j) (hj' : j < x.length) : (Txt.item x i != Txt.item x j) = ((wl x)[i.toNat]? != (wl x)[j.toNat]?) := by
  have h1 : i.toNat < x.cps.size := by have : x.length = x.cps.size := rfl; omega
  have h2 : j.toNat < x.cps.size := by have : x.length = x.cps.size := rfl; omega
  have e1 : x.cps[i.toNat]? = some x.cps[i.toNat] := by simp [h1]
  have e2 : x.cps[j.toNat]? = some x.cps[j.toNat] := by simp [h2]
  rw [item_meets hi e1, item_meets hj e2]
  have f1 : (wl x)[i.toNat]? = some x.cps[i.toNat] := by simp [wl, h1]
  have f2 : (wl x)[j.toNat]? = some x.cps[j.toNat] := by simp [wl, h2]
  rw [f1, f2, Bool.eq_iff_iff, bne_iff_ne, bne_iff_ne]
  simp
theorem dif_b {x : Str} {k a : Int} {b : Bool} (h1 : 1 ≤ k) (h2 : k < 1 + (x.length : Int)) (a0 : 0 ≤ a) (a1 : a < 0 + ((x.length - k.toNat : Nat) : Int)) (e : (Txt.item x a != Txt.item x (a + k)) = b) : difB (wl x) k a = b := by
  rw [← e, item_dif x a0 (by omega) (by omega) (by omega)]
  rfl
theorem cell_b {x : Str} {k : Int} {b : Bool} (h1 : 1 ≤ k) (h2 : k < 1 + (x.length : Int)) (e : decide (List.filter (difB (wl x) k) (rangeKs 0 (x.length - k.toNat)) = []) = b) : perB (wl x) k = b := by
  rw [← e, Bool.eq_iff_iff, decide_eq_true_iff]
  have := perB_dif (X := wl x) h1 (by rw [wl_len]; omega)
  rw [wl_len] at this
  exact this.symm
theorem lengths_false {x : Str} {a b g : Int} (hg : g = (Int.gcd a b : Int)) (hle : a + b - g ≤ x.length) (hno : ((rangeKs 1 x.length).filter (perB (wl x))).any (fun x => x == g) = false)
    (a0 : 1 ≤ a) (a1 : a ≤ x.length) (ha : perB (wl x) a = true) (b0 : 1 ≤ b) (b1 : b ≤ x.length) (hb : perB (wl x) b = true) : False :=
  fw_false (wl_len x) a0 a1 ha b0 b1 hb hg hle hno
end
section
open PySem PySem.W PySem.Spec PySem.Builtin PySem.Builtin.Str PyProof.Rows
/-! words put together again and again -/
def jl (a b : Nat) : Nat → Nat × Nat
  | 0 => (a, b)
  | i + 1 => ((jl a b i).2, (jl a b i).2 + (jl a b i).1)
structure JoinJ (A B : List Nat) (i : Nat) (e h e0 e1 : List Nat) : Prop where
  pre : ∃ P, h ++ e = P ++ e0 ∧ e ++ h = P ++ e1
  l0 : e0.length = A.length + B.length
  l1 : e1.length = A.length + B.length
  le : e.length = (jl A.length B.length i).1
  lh : h.length = (jl A.length B.length i).2
theorem JoinJ.start (A B : List Nat) : JoinJ A B 0 A B (B ++ A) (A ++ B) :=
  ⟨⟨[], rfl, rfl⟩, by rw [List.length_append]; omega, List.length_append, rfl, rfl⟩
theorem JoinJ.step {A B : List Nat} {i : Nat} {e h e0 e1 f : List Nat} (J : JoinJ A B i e h e0 e1) (hf : f = h ++ e) : JoinJ A B (i + 1) h f e1 e0 := by
  subst hf
  obtain ⟨⟨P, p1, p2⟩, l0, l1, le, lh⟩ := J
  refine ⟨⟨h ++ P, ?_, ?_⟩, l1, l0, lh, ?_⟩
  · rw [List.append_assoc, p2, List.append_assoc]
  · rw [p1, List.append_assoc]
  · rw [List.length_append, le, lh]; rfl
theorem JoinJ.bounds {A B : List Nat} {i : Nat} {e h e0 e1 : List Nat} (J : JoinJ A B i e h e0 e1) (hi : i < 5) (hA : A.length ≤ 9) (hB : B.length ≤ 9) (hA0 : 0 < A.length) (hB0 : 0 < B.length) :
    e.length + h.length ≤ 117 ∧ A.length + B.length ≤ e.length + h.length ∧ 0 < e.length ∧ 0 < h.length := by
  have a := J.le
  have b := J.lh
  have : i = 0 ∨ i = 1 ∨ i = 2 ∨ i = 3 ∨ i = 4 := by omega
  rcases this with rfl | rfl | rfl | rfl | rfl <;> simp only [jl] at a b <;> omega
theorem JoinJ.last {A B : List Nat} {e h e0 e1 : List Nat} (J : JoinJ A B 5 e h e0 e1) : h.length = 5 * A.length + 8 * B.length := by
  have b := J.lh
  simp only [jl] at b
  omega
section
variable {x y e h e0 e1 f g r q : Str} {i : Nat}
abbrev JoinS (x y : Str) (i : Nat) (e h e0 e1 : Str) : Prop := JoinJ (wl x) (wl y) i (wl e) (wl h) (wl e0) (wl e1)
theorem joins_1 (J : JoinS x y i e h e0 e1) (hf : wl f = wl h ++ wl e) (hg : wl g = wl e ++ wl h) (hfl : f.length = h.length + e.length)
    (hr : wl r = List.take ((f.length : Int) - ((x.length : Int) + (y.length : Int))).toNat (wl f)) (hq : wl q = List.take ((f.length : Int) - ((x.length : Int) + (y.length : Int))).toNat (wl g)) : r = q := by
  obtain ⟨⟨P, p1, p2⟩, l0, l1, _, _⟩ := J
  rw [wl_iff, hr, hq, hf, hg, p1, p2]
  have lp := congrArg List.length p1
  rw [List.length_append, List.length_append, l0, wl_len, wl_len, wl_len, wl_len] at lp
  have e : ((f.length : Int) - ((x.length : Int) + (y.length : Int))).toNat = P.length := by omega
  rw [e, List.take_left, List.take_left]
theorem joins_1f (J : JoinS x y i e h e0 e1) (hf : wl f = wl h ++ wl e) (hg : wl g = wl e ++ wl h) (hfl : f.length = h.length + e.length)
    (hr : wl r = List.take ((f.length : Int) - ((x.length : Int) + (y.length : Int))).toNat (wl f)) (hq : wl q = List.take ((f.length : Int) - ((x.length : Int) + (y.length : Int))).toNat (wl g)) (ne : (r != q) = true) : False := by
  rw [joins_1 J hf hg hfl hr hq] at ne
  simp at ne
theorem joins_2 (J : JoinS x y i e h e0 e1) (hf : wl f = wl h ++ wl e) (hfl : f.length = h.length + e.length)
    (hr : wl r = List.drop (f.length - ((x.length : Int) + (y.length : Int)).toNat) (wl f)) : r = e0 := by
  obtain ⟨⟨P, p1, p2⟩, l0, l1, _, _⟩ := J
  rw [wl_iff, hr, hf, p1]
  have lp := congrArg List.length p1
  rw [List.length_append, List.length_append, l0, wl_len, wl_len, wl_len, wl_len] at lp
  have e : f.length - ((x.length : Int) + (y.length : Int)).toNat = P.length := by omega
  rw [e, List.drop_left]
theorem joins_3 (J : JoinS x y i e h e0 e1) (hf : wl f = wl e ++ wl h) (hfl : f.length = e.length + h.length)
    (hr : wl r = List.drop (f.length - ((x.length : Int) + (y.length : Int)).toNat) (wl f)) : r = e1 := by
  obtain ⟨⟨P, p1, p2⟩, l0, l1, _, _⟩ := J
  rw [wl_iff, hr, hf, p2]
  have lp := congrArg List.length p2
  rw [List.length_append, List.length_append, l1, wl_len, wl_len, wl_len, wl_len] at lp
  have e : f.length - ((x.length : Int) + (y.length : Int)).toNat = P.length := by omega
  rw [e, List.drop_left]
end
end
section
open PySem PySem.W PySem.Calls PySem.Spec PyProof.Rows

/-- the end of a body that turns one list, the reel -/
def EndR (g : Heap) (r sl : Addr) (k b : Int) (P : Value → Prop) (s₀ : Shared) (fl : Flow) (s' : Shared) : Prop :=
  ∃ (v : Value) (h' : Heap) (tk : Nat) (L' : Addr) (m' : Str → Option Value) (news' : List (Addr × Obj)) (k' : Int) (t' : Tok) (n' : Nat), fl = .ret v ∧ s' = { s₀ with heap := h', toks := tk } ∧ Fr g L' h' m' ∧ News g L' h' news' ∧ (r, listOf #[.ref sl, .int k' t'] n') ∈ news' ∧ P v ∧ k ≤ k' ∧ k' ≤ k + b
theorem EndR.intro {g h' : Heap} {r sl : Addr} {k b : Int} {P : Value → Prop} {s₀ : Shared} {v : Value} {tk : Nat} {L' : Addr} {m' : Str → Option Value} {news' : List (Addr × Obj)} {k' : Int} {t' : Tok} {n' : Nat}
    (F : Fr g L' h' m') (N : News g L' h' news') (hm : (r, listOf #[.ref sl, .int k' t'] n') ∈ news') (hp : P v) (h1 : k ≤ k') (h2 : k' ≤ k + b) : EndR g r sl k b P s₀ (.ret v) { s₀ with heap := h', toks := tk } :=
  ⟨v, h', tk, L', m', news', k', t', n', rfl, rfl, F, N, hm, hp, h1, h2⟩

/-- what a def does that turns the reel alone -/
def ReelFn (w : World) (mg mb : Str → Option Value) (loose : List Str) (mean : ExcName → Option Value) (c : Nat) (f : Addr) (vs : List Value) (b : Int) (P : Value → Prop) : Prop :=
  ∀ (dp un : Nat) (gd : Option (List Code)) (cn : Str) (cs : Scope) (a : Addr) (ccd : Value) (cl : List (Str × Addr)) (outer : List Env) (A₀ : Around) (base h₀ : Heap) (L : Addr) (m : Str → Option Value) (news : List (Addr × Obj)) (s : Shared) (Q E : Value → Shared → Prop)
    (r sl : Addr) (xs : List Value) (ns : List Int) (k : Int) (t : Tok) (n : Nat),
    Below A₀ base outer h₀ → Fr h₀ L s.heap m → (Atop.hd.heap_39 w.params).In h₀ → News h₀ L s.heap news → (r, listOf #[.ref sl, .int k t] n) ∈ news → s.heap.IsList sl xs.toArray → (@Ne Nat sl r) → IntsAre xs ns → ns.length ≤ 63 → 0 ≤ k → k + 20 * (c : Int) ≤ 1000 →
    Top Atop.hd.view_39 loose mean mg mb h₀ → cs.kind = .function → dp + c < recursionLimit → un + 8 * c < cLine →
    (∀ v h' tk k' t' n', P v → k ≤ k' → k' ≤ k + b → Fr h₀ L h' m → News h₀ L h' [(r, listOf #[.ref sl, .int k' t'] n')] → (∀ z o, (@Ne Nat z r) → s.heap.get? z = some o → h'.get? z = some o) → Q v { s with heap := h', toks := tk }) →
    wpAny (model PySem.Challenge.rw_tk0002_01.row.prog w) (ktrTop dp un gd cn cs L a ccd cl outer) (call (.ref f) (.ref r :: vs)) Q E s

/-- back at the caller -/
theorem reel_back {h₀ g h h' : Heap} {L L' r : Addr} {m m' : Str → Option Value} {o o' : Obj} {news' : List (Addr × Obj)} (F : Fr h₀ L h m) (N : News h₀ L h [(r, o)]) (hg : g = hideAll h [r]) (FG : Fr h₀ L g m) (F' : Fr g L' h' m') (N' : News g L' h' news') (hm : (r, o') ∈ news') :
    Fr h₀ L h' m ∧ News h₀ L h' [(r, o')] ∧ ∀ z p, (@Ne Nat z r) → h.get? z = some p → h'.get? z = some p := by
  refine ⟨FG.keeps F'.keep, fun q hq => ?_, fun z p hz e => F'.keep z p ?_⟩
  · rw [List.mem_singleton.mp hq]
    have a := N (r, o) (.head _)
    exact ⟨(N' _ hm).1, a.2.1, a.2.2⟩
  · rw [hg]
    exact hideAll_get [r] e (fun q => hz (List.mem_singleton.mp q))

section
variable {w : World} {mg mb : Str → Option Value} {loose : List Str} {mean : ExcName → Option Value} {c : Nat} {f : Addr} {vs : List Value} {b : Int} {P : Value → Prop}
    {name qual : Str} {params : Arguments} {body : List Stmt} {scope : Scope} {dV kV doc pm cdv ct oc : Value} {an od : Option Addr} {osl : Array (Option Value)}
theorem ReelFn.enter {binds : Addr → List (Str × Value)}
    (ho : (Atop.hd.heap_39 w.params).lookup f = some ⟨oc, od, .func (fnOf name qual params body scope dV kV doc pm an cdv ct), osl⟩)
    (hcd : codeIn (Atop.hd.heap_39 w.params) cdv qual = true)
    (hbind : ∀ r s, (Atop.hd.heap_39 w.params).In s.heap → BindsTo s (fnOf name qual params body scope dV kV doc pm an cdv ct) ⟨.ref r :: vs, []⟩ (binds r))
    (hloc : ∀ r, ∀ y ∈ binds r, scope.names.lookup y.1 = some .local)
    (hco : scope.isCoroutine = false) (hgen : scope.isGenerator = false) (hk : scope.kind = .function) (hcell : ∀ x ∈ scope.names, x.2 ≠ .cell) (hc : 0 < c)
    (h : ∀ (dp un : Nat) (gd : Option (List Code)) (cn : Str) (cs : Scope) (L a : Addr) (ccd : Value) (cl : List (Str × Addr)) (outer : List Env) (base g : Heap) (s : Shared) (L' : Addr) (h₁ : Heap) (m₁ : Str → Option Value) (r sl : Addr) (xs : List Value) (ns : List Int) (k : Int) (t : Tok) (n : Nat),
      m₁ = (fun y => (binds r).reverse.lookup y) → cs.kind = .function → dp + c < recursionLimit → un + 8 * c < cLine → g.IsList sl xs.toArray → (@Ne Nat sl r) → IntsAre xs ns → ns.length ≤ 63 → 0 ≤ k → k + 20 * (c : Int) ≤ 1000 →
      Fr g L' h₁ m₁ → News g L' h₁ [(r, listOf #[.ref sl, .int k t] n)] → Below (ktrTop dp un gd cn cs L a ccd cl outer) base (envX cn cs L a ccd cl :: outer) g →
      (Atop.hd.heap_39 w.params).In g → Top Atop.hd.view_39 loose mean mg mb g →
      wpAny (model PySem.Challenge.rw_tk0002_01.row.prog w) ((ktrTop dp un gd cn cs L a ccd cl outer).deeper (envOf qual scope L' f cdv)) (execs body (envOf qual scope L' f cdv))
        (EndR g r sl k b P s) (fun _ _ => False) { s with heap := h₁, toks := s.toks + (binds r).length }) :
    ReelFn w mg mb loose mean c f vs b P := by
  intro dp un gd cn cs a ccd cl outer A₀ base h₀ L m news s Q E r sl xs ns k t n B F X N hm hl hne hi hn h0 h1 T hcs hdp hu ret
  refine wpAny_call ?_
  have N₀ : News h₀ L s.heap [(r, listOf #[.ref sl, .int k t] n)] := fun q hq => by rw [List.mem_singleton.mp hq]; exact N _ hm
  obtain ⟨FG, BG, st, _⟩ := groundX (A := ktrTop dp un gd cn cs L a ccd cl outer) (env := envX cn cs L a ccd cl) (R := fun _ _ => True) B F N₀ rfl rfl hcs
  have hroom : (ktrTop dp un gd cn cs L a ccd cl outer).depth < recursionLimit := by show dp < _; omega
  refine codeAny_call_def (fd := fnX name qual params body scope [] dV kV doc pm an cdv ct) (body := body) (binds := binds r) hroom ((X.keeps F.keep) _ _ ho) rfl (T.nolimit.keeps F.keep) (codeRec_of (X.keeps F.keep) hcd) rfl (hbind r _ (X.keeps F.keep)) hcell (hloc r) (fun h₁ hns hk₁ => ?_) hco hgen hk
  have F₁ : Fr (hideAll s.heap [r]) s.heap.objs.size h₁ (fun y => (binds r).reverse.lookup y) := ⟨hns, fun b o e => hk₁ b o (of_hideAll _ e), Nat.le_of_eq (hideAll_size _ _)⟩
  have N₁ : News (hideAll s.heap [r]) s.heap.objs.size h₁ [(r, listOf #[.ref sl, .int k t] n)] := fun p hp =>
    ⟨hk₁ _ _ (N₀ p hp).1, Nat.ne_of_lt (Heap.lt_size (N₀ p hp).1), hideAll_none _ (List.mem_map_of_mem (f := (·.1)) hp)⟩
  have hl' : (hideAll s.heap [r]).IsList sl xs.toArray := by
    obtain ⟨o, e, rest⟩ := hl
    exact ⟨o, hideAll_get [r] e (fun q => hne (List.mem_singleton.mp q)), rest⟩
  refine wpAny_mono (h dp un gd cn cs L a ccd cl outer base _ s s.heap.objs.size h₁ _ r sl xs ns k t n rfl hcs hdp hu hl' hne hi hn h0 h1 F₁ N₁ BG (X.keeps st) (T.keeps st)) ?_ (fun _ _ e => e.elim)
  rintro fl s' ⟨v, h', tk, L', m', news', k', t', n', rfl, rfl, F', N', hm', hp, g1, g2⟩
  obtain ⟨a1, a2, a3⟩ := reel_back F N₀ rfl FG F' N' hm'
  exact ret v h' tk k' t' n' hp g1 g2 a1 a2 a3
theorem ReelFn.enterC {binds : Addr → List (Str × Value)}
    (ho : (Atop.hd.heap_39 w.params).lookup f = some ⟨oc, od, .func (fnOf name qual params body scope dV kV doc pm an cdv ct), osl⟩)
    (hcd : codeIn (Atop.hd.heap_39 w.params) cdv qual = true)
    (hbind : ∀ r s, (Atop.hd.heap_39 w.params).In s.heap → BindsTo s (fnOf name qual params body scope dV kV doc pm an cdv ct) ⟨.ref r :: vs, []⟩ (binds r))
    (hkind : ∀ r, ((binds r).all fun y => scope.names.lookup y.1 == some .local || scope.names.lookup y.1 == some .cell) = true)
    (hnd : ((cellsFrom 0 scope.names []).map (·.1)).Nodup)
    (hco : scope.isCoroutine = false) (hgen : scope.isGenerator = false) (hk : scope.kind = .function) (hc : 0 < c)
    (h : ∀ (dp un : Nat) (gd : Option (List Code)) (cn : Str) (cs : Scope) (L a : Addr) (ccd : Value) (cl : List (Str × Addr)) (outer : List Env) (base g : Heap) (s : Shared) (L' : Addr) (h₁ : Heap) (tk : Nat) (cells : List (Addr × Obj)) (r sl : Addr) (xs : List Value) (ns : List Int) (k : Int) (t : Tok) (n : Nat),
      cs.kind = .function → dp + c < recursionLimit → un + 8 * c < cLine → g.IsList sl xs.toArray → (@Ne Nat sl r) → IntsAre xs ns → ns.length ≤ 63 → 0 ≤ k → k + 20 * (c : Int) ≤ 1000 →
      Fr g L' h₁ (bindL (envOfC qual scope L' f cdv).kindOf (binds r) fun _ => none) → News g L' h₁ (cells ++ [(r, listOf #[.ref sl, .int k t] n)]) → (@LT.lt Nat _ r L') →
      CellsAre (bindC (envOfC qual scope L' f cdv).kindOf (binds r) fun _ => none) (cellsFrom (L' + 1) scope.names []) cells → Below (ktrTop dp un gd cn cs L a ccd cl outer) base (envX cn cs L a ccd cl :: outer) g →
      (Atop.hd.heap_39 w.params).In g → Top Atop.hd.view_39 loose mean mg mb g →
      wpAny (model PySem.Challenge.rw_tk0002_01.row.prog w) ((ktrTop dp un gd cn cs L a ccd cl outer).deeper (envOfC qual scope L' f cdv)) (execs body (envOfC qual scope L' f cdv))
        (EndR g r sl k b P s) (fun _ _ => False) { s with heap := h₁, toks := tk }) :
    ReelFn w mg mb loose mean c f vs b P := by
  intro dp un gd cn cs a ccd cl outer A₀ base h₀ L m news s Q E r sl xs ns k t n B F X N hm hl hne hi hn h0 h1 T hcs hdp hu ret
  refine wpAny_call ?_
  have N₀ : News h₀ L s.heap [(r, listOf #[.ref sl, .int k t] n)] := fun q hq => by rw [List.mem_singleton.mp hq]; exact N _ hm
  obtain ⟨FG, BG, st, _⟩ := groundX (A := ktrTop dp un gd cn cs L a ccd cl outer) (env := envX cn cs L a ccd cl) (R := fun _ _ => True) B F N₀ rfl rfl hcs
  have hroom : (ktrTop dp un gd cn cs L a ccd cl outer).depth < recursionLimit := by show dp < _; omega
  have X' : (Atop.hd.heap_39 w.params).In s.heap := X.keeps F.keep
  refine codeAny_call_function (fd := fnX name qual params body scope [] dV kV doc pm an cdv ct) hroom (X' _ _ ho) rfl hco hgen rfl (codeRec_of X' hcd) (hbind r _ X' _ _ _ _ ?_)
  refine wpAny_newFunctionEnv_cells hk (kindsX (hkind r) _) fun env' he s' x => ?_
  subst he
  refine ⟨(T.nolimit.keeps F.keep).keeps x.toInCall.keep, codeAny_func ?_⟩
  obtain ⟨h₁, tk, rfl, _⟩ := x.done
  have hk₁ := x.toInCall.keep
  obtain ⟨cells, NC, Y⟩ := Cl.news (h₀ := s.heap) (Nat.le_refl _) fun n c hm => ⟨x.cell n c (lookup_of_mem_nodup (cellsFrom_names scope.names 0 (s.heap.objs.size + 1) [] [] rfl ▸ hnd) hm), x.above n c hm⟩
  have F₁ : Fr (hideAll s.heap [r]) s.heap.objs.size h₁ (bindL (envOfC qual scope s.heap.objs.size f cdv).kindOf (binds r) fun _ => none) := ⟨x.toInCall.ns, fun b o e => hk₁ b o (of_hideAll _ e), Nat.le_of_eq (hideAll_size _ _)⟩
  have N₁ : News (hideAll s.heap [r]) s.heap.objs.size h₁ (cells ++ [(r, listOf #[.ref sl, .int k t] n)]) := fun p hp => by
    rcases List.mem_append.mp hp with hp | hp
    · refine ⟨(NC p hp).1, (NC p hp).2.1, ?_⟩
      cases q : (hideAll s.heap [r]).get? p.1 with
      | none => rfl
      | some o => have := of_hideAll _ q; rw [(NC p hp).2.2] at this; cases this
    · exact ⟨hk₁ _ _ (N₀ p hp).1, Nat.ne_of_lt (Heap.lt_size (N₀ p hp).1), hideAll_none _ (List.mem_map_of_mem (f := (·.1)) hp)⟩
  have hl' : (hideAll s.heap [r]).IsList sl xs.toArray := by
    obtain ⟨o, e, rest⟩ := hl
    exact ⟨o, hideAll_get [r] e (fun q => hne (List.mem_singleton.mp q)), rest⟩
  refine wpAny_mono (h dp un gd cn cs L a ccd cl outer base _ s s.heap.objs.size h₁ tk cells r sl xs ns k t n hcs hdp hu hl' hne hi hn h0 h1 F₁ N₁ (Heap.lt_size (N₀ _ (.head _)).1) Y BG (X.keeps st) (T.keeps st)) ?_ (fun _ _ e => e.elim)
  rintro fl s' ⟨v, h', tk, L', m', news', k', t', n', rfl, rfl, F', N', hm', hp, g1, g2⟩
  obtain ⟨a1, a2, a3⟩ := reel_back F N₀ rfl FG F' N' hm'
  exact ret v h' tk k' t' n' hp g1 g2 a1 a2 a3
end

section
variable {w : World} {mg mb : Str → Option Value} {loose : List Str} {mean : ExcName → Option Value} {c : Nat} {f : Addr} {vs : List Value} {b : Int} {P : Value → Prop}
theorem upd_mem {d : Addr} {o o' : Obj} {l l' : List (Addr × Obj)} (U : Upd d o o' l l') : ∀ q ∈ l', (q = (d, o')) ∨ (q ∈ l ∧ (@Ne Nat q.1 d)) := by
  obtain ⟨pre, post, rfl, rfl, h1, h2⟩ := U.split
  intro q hq
  rcases List.mem_append.mp hq with hq | hq
  · exact .inr ⟨List.mem_append_left _ hq, h1 q hq⟩
  · rcases List.mem_cons.mp hq with rfl | hq
    · exact .inl rfl
    · exact .inr ⟨List.mem_append_right _ (.tail _ hq), h2 q hq⟩
theorem ReelFn.use (K : ReelFn w mg mb loose mean c f vs b P) {dp un : Nat} {gd : Option (List Code)} {cn : Str} {cs : Scope} {a : Addr} {ccd : Value} {cl : List (Str × Addr)} {outer : List Env} {A₀ : Around} {base h₀ : Heap} {L : Addr} {m : Str → Option Value} {news : List (Addr × Obj)} {s : Shared} {Q E : Value → Shared → Prop}
    {r sl : Addr} {xs : List Value} {ns : List Int} {k : Int} {t : Tok} {n : Nat}
    (B : Below A₀ base outer h₀) (F : Fr h₀ L s.heap m) (X : (Atop.hd.heap_39 w.params).In h₀) (N : News h₀ L s.heap news) (hm : (r, listOf #[.ref sl, .int k t] n) ∈ news) (hl : s.heap.IsList sl xs.toArray) (hne : (@Ne Nat sl r)) (hi : IntsAre xs ns) (hns : ns.length ≤ 63) (h0 : 0 ≤ k) (h1 : k + 20 * (c : Int) ≤ 1000)
    (T : Top Atop.hd.view_39 loose mean mg mb h₀) (hk : cs.kind = .function) (hdp : dp + c < recursionLimit) (hun : un + 8 * c < cLine)
    (ret : ∀ v h' tk k' t' n', P v → k ≤ k' → k' ≤ k + b → Fr h₀ L h' m → (∀ news', Upd r (listOf #[.ref sl, .int k t] n) (listOf #[.ref sl, .int k' t'] n') news news' → News h₀ L h' news') → (∀ z o, (@Ne Nat z r) → s.heap.get? z = some o → h'.get? z = some o) → Q v { s with heap := h', toks := tk }) :
    wpAny (model PySem.Challenge.rw_tk0002_01.row.prog w) (ktrTop dp un gd cn cs L a ccd cl outer) (call (.ref f) (.ref r :: vs)) Q E s := by
  refine K dp un gd cn cs a ccd cl outer A₀ base h₀ L m news s Q E r sl xs ns k t n B F X N hm hl hne hi hns h0 h1 T hk hdp hun ?_
  intro v h' tk k' t' n' hp g1 g2 F' N' kp
  refine ret v h' tk k' t' n' hp g1 g2 F' (fun news' U q hq => ?_) kp
  rcases upd_mem U q hq with rfl | ⟨hq, hz⟩
  · exact N' _ (.head _)
  · exact ⟨kp _ _ hz (N q hq).1, (N q hq).2⟩
end

/-- a comprehension of signs whose element turns the reel -/
def ReelEl (c0 : Addr × Obj) (r sl : Addr) (k : Int) (y : Value) (news' : List (Addr × Obj)) : Prop :=
  ∃ (k' : Int) (t' : Tok) (n' : Nat) (z : Str) (tz : Tok), news' = [c0, (r, listOf #[.ref sl, .int k' t'] n')] ∧ k ≤ k' ∧ k' ≤ k + 1 ∧ y = .str z tz ∧ z.length = 1
section
variable {prog : Program} {w : World} {A : Around} {h₀ : Heap} {L : Addr} {m : Str → Option Value} {env : Env} {elt : Expr} {x : Str} {scope : Scope} {cl : List (Str × Addr)} {s : Shared} {S : List (Addr × Obj) → Prop} {P : Nat → Value → Prop} {Fin : List Value → List (Addr × Obj) → Prop}
theorem reel_el {I C D r sl : Addr} {oI oC oD : Obj} {s₁ : Shared} {c0 : Addr × Obj} {k k' : Int} {t' : Tok} {n' : Nat} {z : Str} {tz : Tok} {h' : Heap} {tk : Nat} {all : List (Addr × Obj)} (F : Fr h₀ L h' m) (N : News h₀ L h' all)
    (sub : ∀ p ∈ (I, oI) :: (C, oC) :: (D, oD) :: [c0, (r, listOf #[.ref sl, .int k' t'] n')], p ∈ all) (off : LCg.Off3 I C D [c0, (r, listOf #[.ref sl, .int k' t'] n')]) (hS : S [c0, (r, listOf #[.ref sl, .int k' t'] n')]) (g1 : k ≤ k') (g2 : k' ≤ k + 1) (hz : z.length = 1) :
    LCg.CompEnd h₀ L m s₁ I oI C oC D oD S (fun y news' => ReelEl c0 r sl k y news') (.str z tz) { s₁ with heap := h', toks := tk } := LCg.CompEnd.intro F N _ sub off hS ⟨k', t', n', z, tz, rfl, g1, g2, rfl, hz⟩
theorem reel_rest {c0 : Addr × Obj} {r sl : Addr} {k₀ : Int} {n : Nat} {t₀ : Tok} {n₀ : Nat}
    (turn : ∀ v I oI C oC D m₂ ys h tk (E' : Value → Shared → Prop) (k : Int) (t : Tok) (nn : Nat), k₀ ≤ k → k ≤ k₀ + (n : Int) → LCg.NsObj oC m₂ → m₂ x = some v → Fr h₀ L h m → News h₀ L h ((I, oI) :: (C, oC) :: (D, LCg.lst ys) :: [c0, (r, listOf #[.ref sl, .int k t] nn)]) → LCg.Off3 I C D [c0, (r, listOf #[.ref sl, .int k t] nn)] → ((@Ne Nat I C) ∧ (@Ne Nat I D) ∧ (@Ne Nat C D)) →
      wpAny (model prog w) A (eval elt (compEnvC scope cl C env)) (LCg.CompEnd h₀ L m { s with heap := h, toks := tk } I oI C oC D (LCg.lst ys) S (fun y news' => ReelEl c0 r sl k y news')) E' { s with heap := h, toks := tk })
    (fin : ∀ ys (l : List Str) (k : Int) (t : Tok) (nn : Nat), CarriedAll ys (l.map fun z => PyData.str z) → (∀ z ∈ l, z.length = 1) → l.length = n → k₀ ≤ k → k ≤ k₀ + (n : Int) → Fin ys [c0, (r, listOf #[.ref sl, .int k t] nn)]) :
    LCg.CompRest prog w A h₀ L m env elt x scope cl s S P Fin n 0 [] [c0, (r, listOf #[.ref sl, .int k₀ t₀] n₀)] := by
  have key : ∀ (j i : Nat) (ys : List Value) (l : List Str) (k : Int) (t : Tok) (nn : Nat), i + j = n → StrsAre ys l → (∀ z ∈ l, z.length = 1) → l.length = i → k₀ ≤ k → k ≤ k₀ + (i : Int) → LCg.CompRest prog w A h₀ L m env elt x scope cl s S P Fin j i ys [c0, (r, listOf #[.ref sl, .int k t] nn)] := by
    intro j
    induction j with
    | zero =>
      intro i ys l k t nn hi hy h1 hl g1 g2
      have e : i = n := by omega
      subst e
      exact LCg.CompRest.zero (fin ys l k t nn hy.carried h1 hl g1 g2)
    | succ j ih =>
      intro i ys l k t nn hi hy h1 hl g1 g2
      refine LCg.CompRest.succ ?_
      intro v I oI C oC D m₂ h tk E' hv hC hx F N off ne
      refine wpAny_mono (turn v I oI C oC D m₂ ys h tk E' k t nn g1 (by omega) hC hx F N off ne) (fun y s₂ hq => ?_) fun _ _ e => e
      obtain ⟨h', tk', nw, e, F', N', off', hS, k', t', n', z, tz, hn, q1, q2, hy', hz⟩ := hq
      subst hn hy'
      refine ⟨h', tk', _, e, F', N', off', hS, ?_⟩
      refine ih (i + 1) _ (l ++ [z]) k' t' n' (by omega) (kct_snoc hy) (fun a ha => ?_) (by rw [List.length_append, hl]; rfl) (by omega) (by omega)
      rcases List.mem_append.mp ha with ha | ha
      · exact h1 a ha
      · rw [List.mem_singleton.mp ha]; exact hz
  exact key n 0 [] [] k₀ t₀ n₀ (by omega) .nil (fun z hz => nomatch hz) rfl (Int.le_refl _) (by omega)
end
end
open PySem PySem.W PySem.Calls PySem.Spec PyProof.Rows
theorem len_base {prog : Program} {w : World} {A : Around} {E : Value → Shared → Prop} {s : Shared} {Q : Value → Shared → Prop} {h₀ : Heap} {L l : Addr} {m : Str → Option Value} {items : Array Value} {k : Int} (F : Fr h₀ L s.heap m) (hl : h₀.IsList l items) (hk : ((items.size : Nat) : Int) = k) (hz : k < 2 ^ 63)
    (h : Q (.int k (s.toks + 1)) { s with toks := s.toks + 1 + 1 }) : wpAny (model prog w) A (call (.builtin "len") [.ref l]) Q E s := by
  subst hk
  exact len_list (Fr.lst F hl) hz h
local macro_rules | `(tactic| walk_at $s:str) => `(tactic| k_extra $s)
local macro_rules | `(tactic| k_room) => `(tactic| ktr_room)
local macro_rules | `(tactic| ke_room) => `(tactic| ktr_units)

def NotBefore (x y : Str) (k : Int) (i : Nat) : Prop := ∀ a : Int, k - 1 ≤ a → a < k - 1 + (i : Int) → Txt.slice x (some a) (some (a + y.length)) ≠ y
theorem NotBefore.step {x y : Str} {k : Int} {i : Nat} (h : NotBefore x y k i) (e : (Txt.slice x (some (k - 1 + (i : Int))) (some (k - 1 + (i : Int) + y.length)) == y) = false) : NotBefore x y k (i + 1) := by
  intro a ha hb
  by_cases c : a < k - 1 + (i : Int)
  · exact h a ha c
  · have : a = k - 1 + (i : Int) := by omega
    subst this
    exact ne_of_beq_false e

section
variable {w : World} {mg mb : Str → Option Value} {loose : List Str} {mean : ExcName → Option Value}

theorem found_fn (x y : Str) (k : Int) (t u z : Tok) (h0 : 1 ≤ k) (h1 : k ≤ 255) (hx : x.length ≤ 255) (hy : y.length ≤ 255) (hy0 : 0 < y.length) :
    PureFn w mg mb loose mean 1 93 [.str x t, .str y u, .int k z] (fun _ => True) (fun v => ∃ r t, v = .int r t ∧ FoundW (wl x) (wl y) (k - 1).toNat r) := by
  k_with_none
  k_with "TurnP" => first
    | (refine' TurnP.next (by k_asm) (by k_asm) (by first | exact mem_all | k_dflt (intro p9 hp9; simp only [List.mem_cons, hp9, or_true])) (by first | exact off_of | exact off_of2 (by decide) | exact off_of3 (by decide)) ?_)
    | (refine' TurnP.ret ?_)
    | fail
  k_with "call builtin:len" => first
    | (k_here; (with_reducible show wpAny _ _ (call (Value.builtin "len") [Value.ref _]) _ _ _); k_dflt (refine' len_base (by k_asm) (by assumption) (by first | exact (rfl : ((2 : Nat) : Int) = (2 : Int)) | exact (rfl : ((3 : Nat) : Int) = (3 : Int))) (by decide) ?_))
    | fail
  k_with "KCtEl" => first
    | (k_dflt exact ⟨rfl, _, rfl⟩)
    | fail
  k_with "compareOp In str ref" => first
    | (k_here; (with_reducible rename CarriedAll _ _ => madeLook); k_dflt (refine in_made_str (by exact News.isList (by k_asm) (by k_mem)) madeLook ?_))
    | fail
  k_with "CompEnd" => first
    | (k_dflt (refine' fi_el (by k_asm) (by k_asm) (by kcf_all) (by first | assumption | (simp only [LCg.Off3, and_true]; done) | (simp only [LCg.Off3, and_true]; assumption)) (by first | exact trivial | assumption) ?_))
    | (k_dflt (refine' fi_no (by k_asm) (by k_asm) (by kcf_all) (by first | assumption | (simp only [LCg.Off3, and_true]; done) | (simp only [LCg.Off3, and_true]; assumption)) (by first | exact trivial | assumption) ?_))
    | fail
  k_with "subscriptTail Name Name str int" => first
    | (k_here; k_dflt (refine item_str (fitsSsize_of (N := 9223372036854775808) (by omega) (by omega) (Int.le_refl _)) (by omega) (by omega) ?_; intro hit'))
    | fail
  k_with "subscriptTail Name BinOp str int" => first
    | (k_here; k_dflt (refine item_str (fitsSsize_of (N := 9223372036854775808) (by omega) (by omega) (Int.le_refl _)) (by omega) (by omega) ?_; intro hit'))
    | fail
  k_with "CellEnd" => first
    | (k_dflt (refine' CellEnd.intro (by k_asm) (by k_asm) (by kcf_all) ?_))
    | fail
  k_with "compareOp NotIn int ref" => first
    | (k_here; k_dflt (refine notin_list_ints (News.isList (by k_asm) (by k_mem)) (by assumption) ?_))
    | fail
  k_with "pyIter ref" => (
    k_here
    (rename Fr _ _ _ _ => lF')
    (rename News _ _ _ _ => lN')
    (rename IsRange _ _ _ _ _ _ _ _ => rgX)
    k_dflt (refine' range_turns (n := ((x.length : Int) - y.length + 1 - (k - 1)).toNat) [] (NotBefore x y k) ?hL ?hh ?hr ?hs ?hn lF' lN' ?j0 ?_ ?_)
    (case hL => k_dflt exact rfl)
    (case hh => k_dflt exact rfl)
    (case hr => first | exact rgX | assumption)
    (case hs => exact small_one (by omega) (by omega) (by omega) (by omega))
    (case hn => exact rangeSize_nat _ _)
    (case j0 => k_dflt (intro a ha hb; omega))
    intro i t' u' h' tk' own' hi' hJ' hoff' F' N'
    (try dsimp only)
    (try k_fold)
    rotate_left
    intro u' h' tk' hJ' F' N'
    (try dsimp only)
    rotate_right
    )
  refine' PureFn.enter ?ho ?hcd ?hbind ?hloc ?hco ?hgen ?hk ?hcell ?hc ?h
  (case' h => k_fill)
  (case ho => k_is)
  (case hcd => k_is)
  (case hbind => exact fun _ _ => BindsTo.of_eq rfl)
  (case hloc => exact locs rfl)
  (case hco => exact rfl)
  (case hgen => exact rfl)
  (case hk => exact rfl)
  (case hcell => decide)
  (case hc => decide)
  intro dp un gd cn cs L a ccd cl outer base s L' h₁ m₁ hm hcs hdp hun hH F N B X T
  subst hm
  (try dsimp only)
  (try k_fold)
  k_steps
  all_goals (try (refine EndP.intro (by k_asm) ⟨_, _, rfl, FoundS.word h0 ?_⟩))
  all_goals first
    | exact Or.inr ⟨k - 1 + (i : Int), rfl, by omega, by omega, eq_of_beq (by assumption), hJ'⟩
    | exact NotBefore.step hJ' (by assumption)
    | exact Or.inl ⟨rfl, fun a ha hb => hJ' a ha (by omega)⟩
    | exact Or.inl ⟨rfl, fun a ha hb => by omega⟩


theorem joined_fn (x y : Str) (t u : Tok) (hxy : x.length + y.length ≤ 255) :
    PureFn w mg mb loose mean 3 128 [.str x t, .str y u] (fun _ => True) (fun v => ∃ r t, v = .str r t ∧ wl r = wl x ++ wl y ∧ r.length = x.length + y.length) := by
  k_with_none
  k_with "call ref" => (
    k_here
    first
      | ((with_reducible show wpAny _ _ (call (Value.ref 93) _) _ _ _); k_dflt (refine' PureFn.use (found_fn _ _ _ _ _ _ ?_ ?_ ?_ ?_ ?_) (by k_asm) (by k_asm) (by k_asm) (by k_asm) (by k_asm) (by first | exact rfl | assumption) (by ktr_room) (by ktr_units) (by first | exact trivial | assumption | is_list | exact News.isList (by k_asm) (by k_mem)) ?_; (next => l_bnd); (next => l_bnd); (next => l_bnd); (next => l_bnd); (next => l_bnd); intro v9 h9 tk9 hP9 F9 N9 K9; obtain ⟨r9, t9, e9, hR9⟩ := hP9; subst e9; (try dsimp only); (try k_fold)))
      | fail)
  k_with "TurnP" => first
    | (refine' TurnP.next (by k_asm) (by k_asm) (by first | exact mem_all | k_dflt (intro p9 hp9; simp only [List.mem_cons, hp9, or_true])) (by first | exact off_of | exact off_of2 (by decide) | exact off_of3 (by decide)) ?_)
    | (refine' TurnP.ret ?_)
    | fail
  k_with "call builtin:len" => first
    | (k_here; (with_reducible show wpAny _ _ (call (Value.builtin "len") [Value.ref _]) _ _ _); k_dflt (refine' len_base (by k_asm) (by assumption) (by first | exact (rfl : ((2 : Nat) : Int) = (2 : Int)) | exact (rfl : ((3 : Nat) : Int) = (3 : Int))) (by decide) ?_))
    | fail
  k_with "KCtEl" => first
    | (k_dflt exact ⟨rfl, _, rfl⟩)
    | fail
  k_with "compareOp In str ref" => first
    | (k_here; (with_reducible rename CarriedAll _ _ => madeLook); k_dflt (refine in_made_str (by exact News.isList (by k_asm) (by k_mem)) madeLook ?_))
    | fail
  k_with "CompEnd" => first
    | (k_dflt (refine' fi_el (by k_asm) (by k_asm) (by kcf_all) (by first | assumption | (simp only [LCg.Off3, and_true]; done) | (simp only [LCg.Off3, and_true]; assumption)) (by first | exact trivial | assumption) ?_))
    | (k_dflt (refine' fi_no (by k_asm) (by k_asm) (by kcf_all) (by first | assumption | (simp only [LCg.Off3, and_true]; done) | (simp only [LCg.Off3, and_true]; assumption)) (by first | exact trivial | assumption) ?_))
    | fail
  k_with "subscriptTail Name Name str int" => first
    | (k_here; k_dflt (refine item_str (fitsSsize_of (N := 9223372036854775808) (by omega) (by omega) (Int.le_refl _)) (by omega) (by omega) ?_; intro hit'))
    | fail
  k_with "subscriptTail Name BinOp str int" => first
    | (k_here; k_dflt (refine item_str (fitsSsize_of (N := 9223372036854775808) (by omega) (by omega) (Int.le_refl _)) (by omega) (by omega) ?_; intro hit'))
    | fail
  k_with "CellEnd" => first
    | (k_dflt (refine' CellEnd.intro (by k_asm) (by k_asm) (by kcf_all) ?_))
    | fail
  k_with "compareOp NotIn int ref" => first
    | (k_here; k_dflt (refine notin_list_ints (News.isList (by k_asm) (by k_mem)) (by assumption) ?_))
    | fail
  refine' PureFn.enter ?ho ?hcd ?hbind ?hloc ?hco ?hgen ?hk ?hcell ?hc ?h
  (case' h => k_fill)
  (case ho => k_is)
  (case hcd => k_is)
  (case hbind => exact fun _ _ => BindsTo.of_eq rfl)
  (case hloc => exact locs rfl)
  (case hco => exact rfl)
  (case hgen => exact rfl)
  (case hk => exact rfl)
  (case hcell => decide)
  (case hc => decide)
  intro dp un gd cn cs L a ccd cl outer base s L' h₁ m₁ hm hcs hdp hun hH F N B X T
  subst hm
  (try dsimp only)
  (try k_fold)
  k_steps
  (refine EndP.intro (by k_asm) ?_); exact ⟨_, _, rfl, wl_app x y, Str.length_append x y⟩

theorem left_fn (wv : Value) (l : Addr) (x : Str) (k : Int) (t u : Tok) (h0 : 0 ≤ k) (h1 : k ≤ 255) (hx : x.length ≤ 1000) :
    PureFn w mg mb loose mean 3 107 [wv, .ref l] (fun h => h.IsList l #[.str x t, .int k u]) (fun v => ∃ r t, v = .str r t ∧ wl r = (wl x).take k.toNat ∧ r.length = min k.toNat x.length) := by
  k_with_none
  k_with "call ref" => (
    k_here
    first
      | ((with_reducible show wpAny _ _ (call (Value.ref 93) _) _ _ _); k_dflt (refine' PureFn.use (found_fn _ _ _ _ _ _ ?_ ?_ ?_ ?_ ?_) (by k_asm) (by k_asm) (by k_asm) (by k_asm) (by k_asm) (by first | exact rfl | assumption) (by ktr_room) (by ktr_units) (by first | exact trivial | assumption | is_list | exact News.isList (by k_asm) (by k_mem)) ?_; (next => l_bnd); (next => l_bnd); (next => l_bnd); (next => l_bnd); (next => l_bnd); intro v9 h9 tk9 hP9 F9 N9 K9; obtain ⟨r9, t9, e9, hR9⟩ := hP9; subst e9; (try dsimp only); (try k_fold)))
      | fail)
  k_with "TurnP" => first
    | (refine' TurnP.next (by k_asm) (by k_asm) (by first | exact mem_all | k_dflt (intro p9 hp9; simp only [List.mem_cons, hp9, or_true])) (by first | exact off_of | exact off_of2 (by decide) | exact off_of3 (by decide)) ?_)
    | (refine' TurnP.ret ?_)
    | fail
  k_with "call builtin:len" => first
    | (k_here; (with_reducible show wpAny _ _ (call (Value.builtin "len") [Value.ref _]) _ _ _); k_dflt (refine' len_base (by k_asm) (by assumption) (by first | exact (rfl : ((2 : Nat) : Int) = (2 : Int)) | exact (rfl : ((3 : Nat) : Int) = (3 : Int))) (by decide) ?_))
    | fail
  k_with "KCtEl" => first
    | (k_dflt exact ⟨rfl, _, rfl⟩)
    | fail
  k_with "compareOp In str ref" => first
    | (k_here; (with_reducible rename CarriedAll _ _ => madeLook); k_dflt (refine in_made_str (by exact News.isList (by k_asm) (by k_mem)) madeLook ?_))
    | fail
  k_with "CompEnd" => first
    | (k_dflt (refine' fi_el (by k_asm) (by k_asm) (by kcf_all) (by first | assumption | (simp only [LCg.Off3, and_true]; done) | (simp only [LCg.Off3, and_true]; assumption)) (by first | exact trivial | assumption) ?_))
    | (k_dflt (refine' fi_no (by k_asm) (by k_asm) (by kcf_all) (by first | assumption | (simp only [LCg.Off3, and_true]; done) | (simp only [LCg.Off3, and_true]; assumption)) (by first | exact trivial | assumption) ?_))
    | fail
  k_with "subscriptTail Name Name str int" => first
    | (k_here; k_dflt (refine item_str (fitsSsize_of (N := 9223372036854775808) (by omega) (by omega) (Int.le_refl _)) (by omega) (by omega) ?_; intro hit'))
    | fail
  k_with "subscriptTail Name BinOp str int" => first
    | (k_here; k_dflt (refine item_str (fitsSsize_of (N := 9223372036854775808) (by omega) (by omega) (Int.le_refl _)) (by omega) (by omega) ?_; intro hit'))
    | fail
  k_with "CellEnd" => first
    | (k_dflt (refine' CellEnd.intro (by k_asm) (by k_asm) (by kcf_all) ?_))
    | fail
  k_with "compareOp NotIn int ref" => first
    | (k_here; k_dflt (refine notin_list_ints (News.isList (by k_asm) (by k_mem)) (by assumption) ?_))
    | fail
  refine' PureFn.enter ?ho ?hcd ?hbind ?hloc ?hco ?hgen ?hk ?hcell ?hc ?h
  (case' h => k_fill)
  (case ho => k_is)
  (case hcd => k_is)
  (case hbind => exact fun _ _ => BindsTo.of_eq rfl)
  (case hloc => exact locs rfl)
  (case hco => exact rfl)
  (case hgen => exact rfl)
  (case hk => exact rfl)
  (case hcell => decide)
  (case hc => decide)
  intro dp un gd cn cs L a ccd cl outer base s L' h₁ m₁ hm hcs hdp hun hH F N B X T
  subst hm
  (try dsimp only)
  (try k_fold)
  k_steps
  (refine EndP.intro (by k_asm) ?_); exact ⟨_, _, rfl, slice_to_wl x k h0, slice_to_len x k h0⟩

theorem right_end (x : Str) (k : Int) (h0 : 0 ≤ k) {t : Tok} : ∃ r t', Value.str (Txt.slice x (some (if 0 > (x.length : Int) - k then 0 else (x.length : Int) - k)) none) t = .str r t' ∧ wl r = (wl x).drop (x.length - k.toNat) ∧ r.length = min k.toNat x.length := by
  have e : (if 0 > (x.length : Int) - k then 0 else (x.length : Int) - k).toNat = x.length - k.toNat := by split <;> omega
  have e0 : 0 ≤ (if 0 > (x.length : Int) - k then 0 else (x.length : Int) - k) := by split <;> omega
  refine ⟨_, _, rfl, ?_, ?_⟩
  · rw [slice_from_wl x _ e0, e]
  · rw [slice_from_len x _ e0, e]; omega
theorem right_fn (wv : Value) (l : Addr) (x : Str) (k : Int) (t u : Tok) (h0 : 0 ≤ k) (h1 : k ≤ 255) (hx : x.length ≤ 1000) :
    PureFn w mg mb loose mean 3 114 [wv, .ref l] (fun h => h.IsList l #[.str x t, .int k u]) (fun v => ∃ r t, v = .str r t ∧ wl r = (wl x).drop (x.length - k.toNat) ∧ r.length = min k.toNat x.length) := by
  k_with_none
  k_with "call ref" => (
    k_here
    first
      | ((with_reducible show wpAny _ _ (call (Value.ref 93) _) _ _ _); k_dflt (refine' PureFn.use (found_fn _ _ _ _ _ _ ?_ ?_ ?_ ?_ ?_) (by k_asm) (by k_asm) (by k_asm) (by k_asm) (by k_asm) (by first | exact rfl | assumption) (by ktr_room) (by ktr_units) (by first | exact trivial | assumption | is_list | exact News.isList (by k_asm) (by k_mem)) ?_; (next => l_bnd); (next => l_bnd); (next => l_bnd); (next => l_bnd); (next => l_bnd); intro v9 h9 tk9 hP9 F9 N9 K9; obtain ⟨r9, t9, e9, hR9⟩ := hP9; subst e9; (try dsimp only); (try k_fold)))
      | fail)
  k_with "TurnP" => first
    | (refine' TurnP.next (by k_asm) (by k_asm) (by first | exact mem_all | k_dflt (intro p9 hp9; simp only [List.mem_cons, hp9, or_true])) (by first | exact off_of | exact off_of2 (by decide) | exact off_of3 (by decide)) ?_)
    | (refine' TurnP.ret ?_)
    | fail
  k_with "call builtin:len" => first
    | (k_here; (with_reducible show wpAny _ _ (call (Value.builtin "len") [Value.ref _]) _ _ _); k_dflt (refine' len_base (by k_asm) (by assumption) (by first | exact (rfl : ((2 : Nat) : Int) = (2 : Int)) | exact (rfl : ((3 : Nat) : Int) = (3 : Int))) (by decide) ?_))
    | fail
  k_with "KCtEl" => first
    | (k_dflt exact ⟨rfl, _, rfl⟩)
    | fail
  k_with "compareOp In str ref" => first
    | (k_here; (with_reducible rename CarriedAll _ _ => madeLook); k_dflt (refine in_made_str (by exact News.isList (by k_asm) (by k_mem)) madeLook ?_))
    | fail
  k_with "CompEnd" => first
    | (k_dflt (refine' fi_el (by k_asm) (by k_asm) (by kcf_all) (by first | assumption | (simp only [LCg.Off3, and_true]; done) | (simp only [LCg.Off3, and_true]; assumption)) (by first | exact trivial | assumption) ?_))
    | (k_dflt (refine' fi_no (by k_asm) (by k_asm) (by kcf_all) (by first | assumption | (simp only [LCg.Off3, and_true]; done) | (simp only [LCg.Off3, and_true]; assumption)) (by first | exact trivial | assumption) ?_))
    | fail
  k_with "subscriptTail Name Name str int" => first
    | (k_here; k_dflt (refine item_str (fitsSsize_of (N := 9223372036854775808) (by omega) (by omega) (Int.le_refl _)) (by omega) (by omega) ?_; intro hit'))
    | fail
  k_with "subscriptTail Name BinOp str int" => first
    | (k_here; k_dflt (refine item_str (fitsSsize_of (N := 9223372036854775808) (by omega) (by omega) (Int.le_refl _)) (by omega) (by omega) ?_; intro hit'))
    | fail
  k_with "CellEnd" => first
    | (k_dflt (refine' CellEnd.intro (by k_asm) (by k_asm) (by kcf_all) ?_))
    | fail
  k_with "compareOp NotIn int ref" => first
    | (k_here; k_dflt (refine notin_list_ints (News.isList (by k_asm) (by k_mem)) (by assumption) ?_))
    | fail
  refine' PureFn.enter ?ho ?hcd ?hbind ?hloc ?hco ?hgen ?hk ?hcell ?hc ?h
  (case' h => k_fill)
  (case ho => k_is)
  (case hcd => k_is)
  (case hbind => exact fun _ _ => BindsTo.of_eq rfl)
  (case hloc => exact locs rfl)
  (case hco => exact rfl)
  (case hgen => exact rfl)
  (case hk => exact rfl)
  (case hcell => decide)
  (case hc => decide)
  intro dp un gd cn cs L a ccd cl outer base s L' h₁ m₁ hm hcs hdp hun hH F N B X T
  subst hm
  (try dsimp only)
  (try k_fold)
  k_steps
  (refine EndP.intro (by k_asm) ?_); exact right_end x k h0

theorem mid_end (x : Str) (k n : Int) (h0 : 1 ≤ k) (n0 : 0 ≤ n) {t : Tok} : ∃ r t', Value.str (Txt.slice x (some (k - 1)) (some (k - 1 + n))) t = .str r t' ∧ wl r = ((wl x).drop (k - 1).toNat).take n.toNat ∧ r.length = min n.toNat (x.length - (k - 1).toNat) := by
  refine ⟨_, _, rfl, ?_, ?_⟩
  · rw [slice_wl x _ _ (by omega) (by omega)]
    congr 1; omega
  · rw [slice_len x _ _ (by omega) (by omega)]; omega
theorem mid_fn (wv : Value) (l : Addr) (x : Str) (k n : Int) (t u z : Tok) (h0 : 1 ≤ k) (h1 : k ≤ 255) (n0 : 0 ≤ n) (n1 : n ≤ 255) (hx : x.length ≤ 1000) :
    PureFn w mg mb loose mean 4 121 [wv, .ref l] (fun h => h.IsList l #[.str x t, .int k u, .int n z]) (fun v => ∃ r t, v = .str r t ∧ wl r = ((wl x).drop (k - 1).toNat).take n.toNat ∧ r.length = min n.toNat (x.length - (k - 1).toNat)) := by
  k_with_none
  k_with "call ref" => (
    k_here
    first
      | ((with_reducible show wpAny _ _ (call (Value.ref 93) _) _ _ _); k_dflt (refine' PureFn.use (found_fn _ _ _ _ _ _ ?_ ?_ ?_ ?_ ?_) (by k_asm) (by k_asm) (by k_asm) (by k_asm) (by k_asm) (by first | exact rfl | assumption) (by ktr_room) (by ktr_units) (by first | exact trivial | assumption | is_list | exact News.isList (by k_asm) (by k_mem)) ?_; (next => l_bnd); (next => l_bnd); (next => l_bnd); (next => l_bnd); (next => l_bnd); intro v9 h9 tk9 hP9 F9 N9 K9; obtain ⟨r9, t9, e9, hR9⟩ := hP9; subst e9; (try dsimp only); (try k_fold)))
      | fail)
  k_with "TurnP" => first
    | (refine' TurnP.next (by k_asm) (by k_asm) (by first | exact mem_all | k_dflt (intro p9 hp9; simp only [List.mem_cons, hp9, or_true])) (by first | exact off_of | exact off_of2 (by decide) | exact off_of3 (by decide)) ?_)
    | (refine' TurnP.ret ?_)
    | fail
  k_with "call builtin:len" => first
    | (k_here; (with_reducible show wpAny _ _ (call (Value.builtin "len") [Value.ref _]) _ _ _); k_dflt (refine' len_base (by k_asm) (by assumption) (by first | exact (rfl : ((2 : Nat) : Int) = (2 : Int)) | exact (rfl : ((3 : Nat) : Int) = (3 : Int))) (by decide) ?_))
    | fail
  k_with "KCtEl" => first
    | (k_dflt exact ⟨rfl, _, rfl⟩)
    | fail
  k_with "compareOp In str ref" => first
    | (k_here; (with_reducible rename CarriedAll _ _ => madeLook); k_dflt (refine in_made_str (by exact News.isList (by k_asm) (by k_mem)) madeLook ?_))
    | fail
  k_with "CompEnd" => first
    | (k_dflt (refine' fi_el (by k_asm) (by k_asm) (by kcf_all) (by first | assumption | (simp only [LCg.Off3, and_true]; done) | (simp only [LCg.Off3, and_true]; assumption)) (by first | exact trivial | assumption) ?_))
    | (k_dflt (refine' fi_no (by k_asm) (by k_asm) (by kcf_all) (by first | assumption | (simp only [LCg.Off3, and_true]; done) | (simp only [LCg.Off3, and_true]; assumption)) (by first | exact trivial | assumption) ?_))
    | fail
  k_with "subscriptTail Name Name str int" => first
    | (k_here; k_dflt (refine item_str (fitsSsize_of (N := 9223372036854775808) (by omega) (by omega) (Int.le_refl _)) (by omega) (by omega) ?_; intro hit'))
    | fail
  k_with "subscriptTail Name BinOp str int" => first
    | (k_here; k_dflt (refine item_str (fitsSsize_of (N := 9223372036854775808) (by omega) (by omega) (Int.le_refl _)) (by omega) (by omega) ?_; intro hit'))
    | fail
  k_with "CellEnd" => first
    | (k_dflt (refine' CellEnd.intro (by k_asm) (by k_asm) (by kcf_all) ?_))
    | fail
  k_with "compareOp NotIn int ref" => first
    | (k_here; k_dflt (refine notin_list_ints (News.isList (by k_asm) (by k_mem)) (by assumption) ?_))
    | fail
  refine' PureFn.enter ?ho ?hcd ?hbind ?hloc ?hco ?hgen ?hk ?hcell ?hc ?h
  (case' h => k_fill)
  (case ho => k_is)
  (case hcd => k_is)
  (case hbind => exact fun _ _ => BindsTo.of_eq rfl)
  (case hloc => exact locs rfl)
  (case hco => exact rfl)
  (case hgen => exact rfl)
  (case hk => exact rfl)
  (case hcell => decide)
  (case hc => decide)
  intro dp un gd cn cs L a ccd cl outer base s L' h₁ m₁ hm hcs hdp hun hH F N B X T
  subst hm
  (try dsimp only)
  (try k_fold)
  k_steps
  all_goals first | (exfalso; omega) | ((refine EndP.intro (by k_asm) ?_); exact mid_end x k n h0 n0)

theorem instr2_fn (wv : Value) (l : Addr) (x y : Str) (t u : Tok) (hx : x.length ≤ 255) (hy : y.length ≤ 255) (hy0 : 0 < y.length) :
    PureFn w mg mb loose mean 4 100 [wv, .ref l] (fun h => h.IsList l #[.str x t, .str y u]) (fun v => ∃ r t, v = .int r t ∧ FoundW (wl x) (wl y) 0 r) := by
  k_with_none
  k_with "call ref" => (
    k_here
    first
      | ((with_reducible show wpAny _ _ (call (Value.ref 93) _) _ _ _); k_dflt (refine' PureFn.use (found_fn _ _ _ _ _ _ ?_ ?_ ?_ ?_ ?_) (by k_asm) (by k_asm) (by k_asm) (by k_asm) (by k_asm) (by first | exact rfl | assumption) (by ktr_room) (by ktr_units) (by first | exact trivial | assumption | is_list | exact News.isList (by k_asm) (by k_mem)) ?_; (next => l_bnd); (next => l_bnd); (next => l_bnd); (next => l_bnd); (next => l_bnd); intro v9 h9 tk9 hP9 F9 N9 K9; obtain ⟨r9, t9, e9, hR9⟩ := hP9; subst e9; (try dsimp only); (try k_fold)))
      | fail)
  k_with "TurnP" => first
    | (refine' TurnP.next (by k_asm) (by k_asm) (by first | exact mem_all | k_dflt (intro p9 hp9; simp only [List.mem_cons, hp9, or_true])) (by first | exact off_of | exact off_of2 (by decide) | exact off_of3 (by decide)) ?_)
    | (refine' TurnP.ret ?_)
    | fail
  k_with "call builtin:len" => first
    | (k_here; (with_reducible show wpAny _ _ (call (Value.builtin "len") [Value.ref _]) _ _ _); k_dflt (refine' len_base (by k_asm) (by assumption) (by first | exact (rfl : ((2 : Nat) : Int) = (2 : Int)) | exact (rfl : ((3 : Nat) : Int) = (3 : Int))) (by decide) ?_))
    | fail
  k_with "KCtEl" => first
    | (k_dflt exact ⟨rfl, _, rfl⟩)
    | fail
  k_with "compareOp In str ref" => first
    | (k_here; (with_reducible rename CarriedAll _ _ => madeLook); k_dflt (refine in_made_str (by exact News.isList (by k_asm) (by k_mem)) madeLook ?_))
    | fail
  k_with "CompEnd" => first
    | (k_dflt (refine' fi_el (by k_asm) (by k_asm) (by kcf_all) (by first | assumption | (simp only [LCg.Off3, and_true]; done) | (simp only [LCg.Off3, and_true]; assumption)) (by first | exact trivial | assumption) ?_))
    | (k_dflt (refine' fi_no (by k_asm) (by k_asm) (by kcf_all) (by first | assumption | (simp only [LCg.Off3, and_true]; done) | (simp only [LCg.Off3, and_true]; assumption)) (by first | exact trivial | assumption) ?_))
    | fail
  k_with "subscriptTail Name Name str int" => first
    | (k_here; k_dflt (refine item_str (fitsSsize_of (N := 9223372036854775808) (by omega) (by omega) (Int.le_refl _)) (by omega) (by omega) ?_; intro hit'))
    | fail
  k_with "subscriptTail Name BinOp str int" => first
    | (k_here; k_dflt (refine item_str (fitsSsize_of (N := 9223372036854775808) (by omega) (by omega) (Int.le_refl _)) (by omega) (by omega) ?_; intro hit'))
    | fail
  k_with "CellEnd" => first
    | (k_dflt (refine' CellEnd.intro (by k_asm) (by k_asm) (by kcf_all) ?_))
    | fail
  k_with "compareOp NotIn int ref" => first
    | (k_here; k_dflt (refine notin_list_ints (News.isList (by k_asm) (by k_mem)) (by assumption) ?_))
    | fail
  refine' PureFn.enter ?ho ?hcd ?hbind ?hloc ?hco ?hgen ?hk ?hcell ?hc ?h
  (case' h => k_fill)
  (case ho => k_is)
  (case hcd => k_is)
  (case hbind => exact fun _ _ => BindsTo.of_eq rfl)
  (case hloc => exact locs rfl)
  (case hco => exact rfl)
  (case hgen => exact rfl)
  (case hk => exact rfl)
  (case hcell => decide)
  (case hc => decide)
  intro dp un gd cn cs L a ccd cl outer base s L' h₁ m₁ hm hcs hdp hun hH F N B X T
  subst hm
  (try dsimp only)
  (try k_fold)
  k_steps
  all_goals first
    | exact EndP.intro (by k_asm) ⟨_, _, rfl, by assumption⟩

theorem instr3_fn (wv : Value) (l : Addr) (x y : Str) (t u z : Tok) (hx : x.length ≤ 255) (hy : y.length ≤ 255) (hy0 : 0 < y.length) :
    PureFn w mg mb loose mean 4 100 [wv, .ref l] (fun h => h.IsList l #[.int 2 z, .str x t, .str y u]) (fun v => ∃ r t, v = .int r t ∧ FoundW (wl x) (wl y) 1 r) := by
  k_with_none
  k_with "call ref" => (
    k_here
    first
      | ((with_reducible show wpAny _ _ (call (Value.ref 93) _) _ _ _); k_dflt (refine' PureFn.use (found_fn _ _ _ _ _ _ ?_ ?_ ?_ ?_ ?_) (by k_asm) (by k_asm) (by k_asm) (by k_asm) (by k_asm) (by first | exact rfl | assumption) (by ktr_room) (by ktr_units) (by first | exact trivial | assumption | is_list | exact News.isList (by k_asm) (by k_mem)) ?_; (next => l_bnd); (next => l_bnd); (next => l_bnd); (next => l_bnd); (next => l_bnd); intro v9 h9 tk9 hP9 F9 N9 K9; obtain ⟨r9, t9, e9, hR9⟩ := hP9; subst e9; (try dsimp only); (try k_fold)))
      | fail)
  k_with "TurnP" => first
    | (refine' TurnP.next (by k_asm) (by k_asm) (by first | exact mem_all | k_dflt (intro p9 hp9; simp only [List.mem_cons, hp9, or_true])) (by first | exact off_of | exact off_of2 (by decide) | exact off_of3 (by decide)) ?_)
    | (refine' TurnP.ret ?_)
    | fail
  k_with "call builtin:len" => first
    | (k_here; (with_reducible show wpAny _ _ (call (Value.builtin "len") [Value.ref _]) _ _ _); k_dflt (refine' len_base (by k_asm) (by assumption) (by first | exact (rfl : ((2 : Nat) : Int) = (2 : Int)) | exact (rfl : ((3 : Nat) : Int) = (3 : Int))) (by decide) ?_))
    | fail
  k_with "KCtEl" => first
    | (k_dflt exact ⟨rfl, _, rfl⟩)
    | fail
  k_with "compareOp In str ref" => first
    | (k_here; (with_reducible rename CarriedAll _ _ => madeLook); k_dflt (refine in_made_str (by exact News.isList (by k_asm) (by k_mem)) madeLook ?_))
    | fail
  k_with "CompEnd" => first
    | (k_dflt (refine' fi_el (by k_asm) (by k_asm) (by kcf_all) (by first | assumption | (simp only [LCg.Off3, and_true]; done) | (simp only [LCg.Off3, and_true]; assumption)) (by first | exact trivial | assumption) ?_))
    | (k_dflt (refine' fi_no (by k_asm) (by k_asm) (by kcf_all) (by first | assumption | (simp only [LCg.Off3, and_true]; done) | (simp only [LCg.Off3, and_true]; assumption)) (by first | exact trivial | assumption) ?_))
    | fail
  k_with "subscriptTail Name Name str int" => first
    | (k_here; k_dflt (refine item_str (fitsSsize_of (N := 9223372036854775808) (by omega) (by omega) (Int.le_refl _)) (by omega) (by omega) ?_; intro hit'))
    | fail
  k_with "subscriptTail Name BinOp str int" => first
    | (k_here; k_dflt (refine item_str (fitsSsize_of (N := 9223372036854775808) (by omega) (by omega) (Int.le_refl _)) (by omega) (by omega) ?_; intro hit'))
    | fail
  k_with "CellEnd" => first
    | (k_dflt (refine' CellEnd.intro (by k_asm) (by k_asm) (by kcf_all) ?_))
    | fail
  k_with "compareOp NotIn int ref" => first
    | (k_here; k_dflt (refine notin_list_ints (News.isList (by k_asm) (by k_mem)) (by assumption) ?_))
    | fail
  refine' PureFn.enter ?ho ?hcd ?hbind ?hloc ?hco ?hgen ?hk ?hcell ?hc ?h
  (case' h => k_fill)
  (case ho => k_is)
  (case hcd => k_is)
  (case hbind => exact fun _ _ => BindsTo.of_eq rfl)
  (case hloc => exact locs rfl)
  (case hco => exact rfl)
  (case hgen => exact rfl)
  (case hk => exact rfl)
  (case hcell => decide)
  (case hc => decide)
  intro dp un gd cn cs L a ccd cl outer base s L' h₁ m₁ hm hcs hdp hun hH F N B X T
  subst hm
  (try dsimp only)
  (try k_fold)
  k_steps
  all_goals first
    | exact EndP.intro (by k_asm) ⟨_, _, rfl, by assumption⟩
end
section
open PySem PySem.W PySem.Calls PySem.Spec PyProof.Rows
section
variable {w : World} {mg mb : Str → Option Value} {loose : List Str} {mean : ExcName → Option Value}

theorem fdiv_small {a b : Int} (ha : 0 ≤ a) (hb : 1 ≤ b) : 0 ≤ a.fdiv b ∧ a.fdiv b ≤ a := by
  rw [Int.fdiv_eq_ediv_of_nonneg _ (by omega)]
  exact ⟨Int.ediv_nonneg ha (by omega), Int.ediv_le_self b ha⟩
theorem root_end {x r : Str} {t : Tok} (hx : 0 < x.length) (h : RootS x r) : ∃ r' t', Value.str r t = .str r' t' ∧ RootW (wl x) (wl r') ∧ 1 ≤ r'.length ∧ r'.length ≤ x.length := by
  have h' := h.word hx
  have hl := h'.len
  rw [wl_len, wl_len] at hl
  exact ⟨_, _, rfl, h', hl.1, hl.2⟩
theorem root_fn (x : Str) (t : Tok) (hx : x.length ≤ 255) (hx0 : 0 < x.length) :
    PureFn w mg mb loose mean 1 169 [.str x t] (fun _ => True) (fun v => ∃ r t, v = .str r t ∧ RootW (wl x) (wl r) ∧ 1 ≤ r.length ∧ r.length ≤ x.length) := by
  k_with_none
  k_with "TurnP" => first
    | (refine' TurnP.next (by k_asm) (by k_asm) (by first | exact mem_all | k_dflt (intro p9 hp9; simp only [List.mem_cons, hp9, or_true])) (by first | exact off_of | exact off_of2 (by decide) | exact off_of3 (by decide)) ?_)
    | (refine' TurnP.ret ?_)
    | fail
  k_with "call builtin:len" => first
    | (k_here; (with_reducible show wpAny _ _ (call (Value.builtin "len") [Value.ref _]) _ _ _); k_dflt (refine' len_base (by k_asm) (by assumption) (by first | exact (rfl : ((2 : Nat) : Int) = (2 : Int)) | exact (rfl : ((3 : Nat) : Int) = (3 : Int))) (by decide) ?_))
    | fail
  k_with "KCtEl" => first
    | (k_dflt exact ⟨rfl, _, rfl⟩)
    | fail
  k_with "compareOp In str ref" => first
    | (k_here; (with_reducible rename CarriedAll _ _ => madeLook); k_dflt (refine in_made_str (by exact News.isList (by k_asm) (by k_mem)) madeLook ?_))
    | fail
  k_with "CompEnd" => first
    | (k_dflt (refine' fi_el (by k_asm) (by k_asm) (by kcf_all) (by first | assumption | (simp only [LCg.Off3, and_true]; done) | (simp only [LCg.Off3, and_true]; assumption)) (by first | exact trivial | assumption) ?_))
    | (k_dflt (refine' fi_no (by k_asm) (by k_asm) (by kcf_all) (by first | assumption | (simp only [LCg.Off3, and_true]; done) | (simp only [LCg.Off3, and_true]; assumption)) (by first | exact trivial | assumption) ?_))
    | fail
  k_with "subscriptTail Name Name str int" => first
    | (k_here; k_dflt (refine item_str (fitsSsize_of (N := 9223372036854775808) (by omega) (by omega) (Int.le_refl _)) (by omega) (by omega) ?_; intro hit'))
    | fail
  k_with "subscriptTail Name BinOp str int" => first
    | (k_here; k_dflt (refine item_str (fitsSsize_of (N := 9223372036854775808) (by omega) (by omega) (Int.le_refl _)) (by omega) (by omega) ?_; intro hit'))
    | fail
  k_with "CellEnd" => first
    | (k_dflt (refine' CellEnd.intro (by k_asm) (by k_asm) (by kcf_all) ?_))
    | fail
  k_with "compareOp NotIn int ref" => first
    | (k_here; k_dflt (refine notin_list_ints (News.isList (by k_asm) (by k_mem)) (by assumption) ?_))
    | fail
  k_with "binaryOp Mult str int" => (
    (have hfd := fdiv_small (a := (x.length : Int)) (b := 1 + (i : Int)) (by omega) (by omega))
    k_dflt (refine SB.mul (mulOk_of 255 255 (by omega) (by omega) (by omega) (by decide) (by decide)) ?_; intro _ _))
  k_with "pyIter ref" => (
    k_here
    (rename Fr _ _ _ _ => lF')
    (rename News _ _ _ _ => lN')
    (rename IsRange _ _ _ _ _ _ _ _ => rgX)
    k_dflt (refine' range_turns (n := x.length) [] (NoRoot x) ?hL ?hh ?hr ?hs ?hn lF' lN' ?j0 ?_ ?_)
    (case hL => k_dflt exact rfl)
    (case hh => k_dflt exact rfl)
    (case hr => first | exact rgX | assumption)
    (case hs => exact small_one (by omega) (by omega) (by omega) (by omega))
    (case hn => exact range_one (.inl (by omega)))
    (case j0 => k_dflt (intro d h0 h1; omega))
    intro i t' u' h' tk' own' hi' hJ' hoff' F' N'
    (try dsimp only)
    (try k_fold)
    rotate_left
    intro u' h' tk' hJ' F' N'
    (try dsimp only)
    rotate_right
    )
  refine' PureFn.enter ?ho ?hcd ?hbind ?hloc ?hco ?hgen ?hk ?hcell ?hc ?h
  (case' h => k_fill)
  (case ho => k_is)
  (case hcd => k_is)
  (case hbind => exact fun _ _ => BindsTo.of_eq rfl)
  (case hloc => exact locs rfl)
  (case hco => exact rfl)
  (case hgen => exact rfl)
  (case hk => exact rfl)
  (case hcell => decide)
  (case hc => decide)
  intro dp un gd cn cs L a ccd cl outer base s L' h₁ m₁ hm hcs hdp hun hH F N B X T
  subst hm
  (try dsimp only)
  (try k_fold)
  k_steps
  all_goals (try (refine EndP.intro (by k_asm) (root_end hx0 ?_)))
  all_goals first
    | exact Or.inl ⟨1 + (i : Int), by omega, by omega, ⟨by assumption, eq_of_beq (by assumption)⟩, fun e h0 h1 => hJ' e h0 (by omega), rfl⟩
    | exact hJ'.step fun e => ne_of_beq_false (by assumption) e.2
    | exact hJ'.step fun e => absurd e.1 (by assumption)
    | exact Or.inr ⟨hJ', rfl⟩
end

section
variable {prog : Program} {w : World} {A : Around} {E : Value → Shared → Prop} {Q : Flow → Shared → Prop} {s : Shared} {env : Env} {h₀ : Heap} {L : Addr}
def WhileP (h₀ : Heap) (L : Addr) (x y : Str) (m₀ : Str → Option Value) (news : List (Addr × Obj)) (J : Int → Int → Prop) (μ : Int → Int → Nat) (a b : Int) (s : Shared) (Q : Flow → Shared → Prop) (f : Flow) (s₂ : Shared) : Prop :=
  match f with
  | .ret v => Q (.ret v) s₂
  | .brk => Q .next s₂
  | _ => ∃ a' b' ta tb h' tk m' news', s₂ = { s with heap := h', toks := tk } ∧ Fr h₀ L h' m' ∧ News h₀ L h' news' ∧ (∀ p ∈ news, p ∈ news') ∧ m' x = some (.int a' ta) ∧ m' y = some (.int b' tb) ∧ (∀ z, z ≠ x → z ≠ y → m' z = m₀ z) ∧ J a' b' ∧ μ a' b' < μ a b
theorem WhileP.next {x y : Str} {m₀ m' : Str → Option Value} {news news' : List (Addr × Obj)} {J : Int → Int → Prop} {μ : Int → Int → Nat} {a b a' b' : Int} {ta tb : Tok} {h' : Heap} {tk : Nat} (F : Fr h₀ L h' m') (N : News h₀ L h' news') (hs : ∀ p ∈ news, p ∈ news')
    (e1 : m' x = some (.int a' ta)) (e2 : m' y = some (.int b' tb)) (ho : ∀ z, z ≠ x → z ≠ y → m' z = m₀ z) (hj : J a' b' ∧ μ a' b' < μ a b) : WhileP h₀ L x y m₀ news J μ a b s Q .next { s with heap := h', toks := tk } :=
  ⟨a', b', ta, tb, h', tk, m', news', rfl, F, N, hs, e1, e2, ho, hj.1, hj.2⟩
theorem while_two {test : Expr} {body : List Stmt} {pos : Pos} {m₀ : Str → Option Value} {news : List (Addr × Obj)} (x y : Str) (hxy : y ≠ x) (J : Int → Int → Prop) (μ : Int → Int → Nat) {a₀ b₀ : Int} {t₀ u₀ : Tok}
    (F : Fr h₀ L s.heap m₀) (N : News h₀ L s.heap news) (e1 : m₀ x = some (.int a₀ t₀)) (e2 : m₀ y = some (.int b₀ u₀)) (j0 : J a₀ b₀)
    (turn : ∀ (a b : Int) ta tb h tk, J a b → Fr h₀ L h (fun z => if z = x then some (.int a ta) else if z = y then some (.int b tb) else m₀ z) → News h₀ L h news →
      wpAny (model prog w) A (isTrue test env (eval test env)) (fun b' s₂ =>
        if b' = true then wpAny (model prog w) A (execs body env) (WhileP h₀ L x y m₀ news J μ a b s Q) E s₂ else Q .next s₂) E { s with heap := h, toks := tk })
    (hE : PassesOwn (model prog w) A env E) :
    wpAny (model prog w) A (exec (.While test body [] pos) env) Q E s := by
  refine While_inv2 (fun n m nx => ∃ a b ta tb, nx = news ∧ μ a b = n ∧ m x = some (.int a ta) ∧ m y = some (.int b tb) ∧ (∀ z, z ≠ x → z ≠ y → m z = m₀ z) ∧ J a b) F N ⟨a₀, b₀, t₀, u₀, rfl, rfl, e1, e2, fun _ _ _ => rfl, j0⟩ ?_ hE
  rintro n m₁ nx h tk F₁ N₁ ⟨a, b, ta, tb, hnx, hsz, h1, h2, h3, hp⟩
  rw [hnx] at N₁
  rw [← hsz]
  have em : (fun z => if z = x then some (.int a ta) else if z = y then some (.int b tb) else m₀ z) = m₁ := by
    funext z
    by_cases c : z = x
    · rw [if_pos c, c, h1]
    · rw [if_neg c]
      by_cases d : z = y
      · rw [if_pos d, d, h2]
      · rw [if_neg d, h3 z c d]
  refine wpAny_mono (turn a b ta tb h tk hp (by rw [em]; exact F₁) N₁) (fun b' s₂ p => ?_) fun _ _ x => x
  cases b' with
  | false => simpa using p
  | true =>
    simp only [if_true] at p ⊢
    refine wpAny_mono p (fun f s₃ q => ?_) fun _ _ x => x
    have up : (∃ a' b' ta tb h' tk m' news', s₃ = { s with heap := h', toks := tk } ∧ Fr h₀ L h' m' ∧ News h₀ L h' news' ∧ (∀ p ∈ news, p ∈ news') ∧ m' x = some (.int a' ta) ∧ m' y = some (.int b' tb) ∧ (∀ z, z ≠ x → z ≠ y → m' z = m₀ z) ∧ J a' b' ∧ μ a' b' < μ a b) →
        ∃ h' tk m₂ news₂ n', s₃ = { s with heap := h', toks := tk } ∧ Fr h₀ L h' m₂ ∧ News h₀ L h' news₂ ∧ n' < μ a b ∧
          (∃ a b ta tb, news₂ = news ∧ μ a b = n' ∧ m₂ x = some (.int a ta) ∧ m₂ y = some (.int b tb) ∧ (∀ z, z ≠ x → z ≠ y → m₂ z = m₀ z) ∧ J a b) := by
      rintro ⟨a', b', ta', tb', h', tk', m', news', e, F', N', hs, e1, e2, ho, hj, hm⟩
      exact ⟨h', tk', m', news, _, e, F', fun p hp => N' p (hs p hp), hm, a', b', ta', tb', rfl, rfl, e1, e2, ho, hj⟩
    cases f with
    | ret v => exact q
    | brk => exact q
    | next => exact up q
    | cont => exact up q
end

section
variable {w : World} {mg mb : Str → Option Value} {loose : List Str} {mean : ExcName → Option Value}
def GcdJ (p q a b : Int) : Prop := 0 ≤ a ∧ 0 ≤ b ∧ a ≤ 255 ∧ b ≤ 255 ∧ Int.gcd a b = Int.gcd p q
theorem GcdJ.step {p q a b : Int} (h : GcdJ p q a b) (hb : 0 < b) : GcdJ p q b (a.fmod b) ∧ (a.fmod b).toNat < b.toNat := by
  obtain ⟨h0, h1, h2, h3, h4⟩ := h
  have e : a.fmod b = a % b := Int.fmod_eq_emod_of_nonneg _ (by omega)
  have l0 := Int.emod_nonneg a (show b ≠ 0 by omega)
  have l1 := Int.emod_lt_of_pos a hb
  rw [e]
  refine ⟨⟨h1, l0, h3, by omega, ?_⟩, by omega⟩
  rw [← h4, Int.gcd_comm a b, Int.emod_def, Int.mul_comm b]
  exact Int.gcd_sub_mul_right_right b a (a / b)
theorem GcdJ.last {p q a b : Int} (h : GcdJ p q a b) (hb : ¬ 0 < b) : a = (Int.gcd p q : Int) := by
  obtain ⟨h0, h1, h2, h3, h4⟩ := h
  have e : b = 0 := by omega
  subst e
  rw [← h4, Int.gcd_zero_right]
  omega
theorem divisor_fn (p q : Int) (t u : Tok) (hp : 0 ≤ p) (hp1 : p ≤ 255) (hq : 0 ≤ q) (hq1 : q ≤ 255) :
    PureFn w mg mb loose mean 1 176 [.int p t, .int q u] (fun _ => True) (fun v => ∃ g t, v = .int g t ∧ g = (Int.gcd p q : Int)) := by
  k_with_none
  k_with "TurnP" => first
    | (refine' TurnP.next (by k_asm) (by k_asm) (by first | exact mem_all | k_dflt (intro p9 hp9; simp only [List.mem_cons, hp9, or_true])) (by first | exact off_of | exact off_of2 (by decide) | exact off_of3 (by decide)) ?_)
    | (refine' TurnP.ret ?_)
    | fail
  k_with "call builtin:len" => first
    | (k_here; (with_reducible show wpAny _ _ (call (Value.builtin "len") [Value.ref _]) _ _ _); k_dflt (refine' len_base (by k_asm) (by assumption) (by first | exact (rfl : ((2 : Nat) : Int) = (2 : Int)) | exact (rfl : ((3 : Nat) : Int) = (3 : Int))) (by decide) ?_))
    | fail
  k_with "KCtEl" => first
    | (k_dflt exact ⟨rfl, _, rfl⟩)
    | fail
  k_with "compareOp In str ref" => first
    | (k_here; (with_reducible rename CarriedAll _ _ => madeLook); k_dflt (refine in_made_str (by exact News.isList (by k_asm) (by k_mem)) madeLook ?_))
    | fail
  k_with "CompEnd" => first
    | (k_dflt (refine' fi_el (by k_asm) (by k_asm) (by kcf_all) (by first | assumption | (simp only [LCg.Off3, and_true]; done) | (simp only [LCg.Off3, and_true]; assumption)) (by first | exact trivial | assumption) ?_))
    | (k_dflt (refine' fi_no (by k_asm) (by k_asm) (by kcf_all) (by first | assumption | (simp only [LCg.Off3, and_true]; done) | (simp only [LCg.Off3, and_true]; assumption)) (by first | exact trivial | assumption) ?_))
    | fail
  k_with "subscriptTail Name Name str int" => first
    | (k_here; k_dflt (refine item_str (fitsSsize_of (N := 9223372036854775808) (by omega) (by omega) (Int.le_refl _)) (by omega) (by omega) ?_; intro hit'))
    | fail
  k_with "subscriptTail Name BinOp str int" => first
    | (k_here; k_dflt (refine item_str (fitsSsize_of (N := 9223372036854775808) (by omega) (by omega) (Int.le_refl _)) (by omega) (by omega) ?_; intro hit'))
    | fail
  k_with "CellEnd" => first
    | (k_dflt (refine' CellEnd.intro (by k_asm) (by k_asm) (by kcf_all) ?_))
    | fail
  k_with "compareOp NotIn int ref" => first
    | (k_here; k_dflt (refine notin_list_ints (News.isList (by k_asm) (by k_mem)) (by assumption) ?_))
    | fail
  k_with "WhileP" => first
    | (refine' WhileP.next (by k_asm) (by k_asm) (by first | exact mem_all | k_dflt (intro p9 hp9; simp only [List.mem_cons, hp9, or_true]) | exact List.forall_mem_nil _) (by k_dflt exact rfl) (by k_dflt exact rfl) (by k_dflt (intro z h1 h2; simp only [h1, h2, if_false])) ?_)
    | fail
  k_with "exec While Compare cons nil" => (
    k_here
    (rename Fr _ _ _ _ => lF')
    (rename News _ _ _ _ => lN')
    k_dflt (refine' while_two (Str.ofString "one") (Str.ofString "other") (by decide) (GcdJ p q) (fun _ b => b.toNat) lF' lN' ?h1 ?h2 ?h3 ?_ ?hE)
    (case h1 => k_dflt exact rfl)
    (case h2 => k_dflt exact rfl)
    (case h3 => k_dflt exact ⟨hp, hq, hp1, hq1, rfl⟩)
    (case hE => passes_own)
    intro a' b' ta' tb' h' tk' hJ' F' N'
    (try dsimp only)
    (try k_fold)
    walk_say "WHILE STARTS")
  refine' PureFn.enter ?ho ?hcd ?hbind ?hloc ?hco ?hgen ?hk ?hcell ?hc ?h
  (case' h => k_fill)
  (case ho => k_is)
  (case hcd => k_is)
  (case hbind => exact fun _ _ => BindsTo.of_eq rfl)
  (case hloc => exact locs rfl)
  (case hco => exact rfl)
  (case hgen => exact rfl)
  (case hk => exact rfl)
  (case hcell => decide)
  (case hc => decide)
  intro dp un gd cn cs L a ccd cl outer base s L' h₁ m₁ hm hcs hdp hun hH F N B X T
  subst hm
  (try dsimp only)
  (try k_fold)
  k_steps
  all_goals first
    | exact (GcdJ.step hJ' (by assumption)).1
    | exact (GcdJ.step hJ' (by assumption)).2
    | exact EndP.intro (by k_asm) ⟨_, _, rfl, GcdJ.last hJ' (by assumption)⟩
    | ((refine EndP.intro (by k_asm) ?_); exact ⟨_, _, rfl, GcdJ.last hJ' (by assumption)⟩)
end
end
section
open PySem PySem.W PySem.Calls PySem.Spec PyProof.Rows

section
variable {w : World} {mg mb : Str → Option Value} {loose : List Str} {mean : ExcName → Option Value}

theorem turns_fn (wv : Value) (x y : Str) (t u : Tok) (hx : x.length ≤ 9) (hx0 : 0 < x.length) (hy : y.length ≤ 9) (hy0 : 0 < y.length) :
    PureFn w mg mb loose mean 6 181 [wv, .str x t, .str y u] (fun _ => True) (fun v => v = .bool true) := by
  k_with_none
  k_with "call ref" => (
    k_here
    first
      | ((with_reducible show wpAny _ _ (call (Value.ref 176) _) _ _ _); k_dflt (refine' PureFn.use (divisor_fn _ _ _ _ ?_ ?_ ?_ ?_) (by k_asm) (by k_asm) (by k_asm) (by k_asm) (by k_asm) (by first | exact rfl | assumption) (by ktr_room) (by ktr_units) (by first | exact trivial | assumption | is_list | exact News.isList (by k_asm) (by k_mem)) ?_; (next => l_bnd); (next => l_bnd); (next => l_bnd); (next => l_bnd); intro v9 h9 tk9 hP9 F9 N9 K9; obtain ⟨r9, t9, e9, hR9⟩ := hP9; subst e9; (try dsimp only); (try k_fold)))
      | ((with_reducible show wpAny _ _ (call (Value.ref 169) _) _ _ _); k_dflt (refine' PureFn.use (root_fn _ _ ?_ ?_) (by k_asm) (by k_asm) (by k_asm) (by k_asm) (by k_asm) (by first | exact rfl | assumption) (by ktr_room) (by ktr_units) (by first | exact trivial | assumption | is_list | exact News.isList (by k_asm) (by k_mem)) ?_; (next => l_bnd); (next => l_bnd); intro v9 h9 tk9 hP9 F9 N9 K9; obtain ⟨r9, t9, e9, hR9, hL9, hM9⟩ := hP9; subst e9; (try dsimp only); (try k_fold)))
      | ((with_reducible show wpAny _ _ (call (Value.ref 100) _) _ _ _); k_dflt (refine' PureFn.use (instr3_fn _ _ _ _ _ _ _ ?_ ?_ ?_) (by k_asm) (by k_asm) (by k_asm) (by k_asm) (by k_asm) (by first | exact rfl | assumption) (by ktr_room) (by ktr_units) (by first | exact trivial | assumption | is_list | exact News.isList (by k_asm) (by k_mem)) ?_; (next => l_bnd); (next => l_bnd); (next => l_bnd); intro v9 h9 tk9 hP9 F9 N9 K9; obtain ⟨r9, t9, e9, hR9⟩ := hP9; subst e9; (try dsimp only); (try k_fold)))
      | ((with_reducible show wpAny _ _ (call (Value.ref 100) _) _ _ _); k_dflt (refine' PureFn.use (instr2_fn _ _ _ _ _ _ ?_ ?_ ?_) (by k_asm) (by k_asm) (by k_asm) (by k_asm) (by k_asm) (by first | exact rfl | assumption) (by ktr_room) (by ktr_units) (by first | exact trivial | assumption | is_list | exact News.isList (by k_asm) (by k_mem)) ?_; (next => l_bnd); (next => l_bnd); (next => l_bnd); intro v9 h9 tk9 hP9 F9 N9 K9; obtain ⟨r9, t9, e9, hR9⟩ := hP9; subst e9; (try dsimp only); (try k_fold)))
      | ((with_reducible show wpAny _ _ (call (Value.ref 121) _) _ _ _); k_dflt (refine' PureFn.use (mid_fn _ _ _ _ _ _ _ _ ?_ ?_ ?_ ?_ ?_) (by k_asm) (by k_asm) (by k_asm) (by k_asm) (by k_asm) (by first | exact rfl | assumption) (by ktr_room) (by ktr_units) (by first | exact trivial | assumption | is_list | exact News.isList (by k_asm) (by k_mem)) ?_; (next => l_bnd); (next => l_bnd); (next => l_bnd); (next => l_bnd); (next => l_bnd); intro v9 h9 tk9 hP9 F9 N9 K9; obtain ⟨r9, t9, e9, hR9, hL9⟩ := hP9; subst e9; (try dsimp only); (try k_fold)))
      | ((with_reducible show wpAny _ _ (call (Value.ref 114) _) _ _ _); k_dflt (refine' PureFn.use (right_fn _ _ _ _ _ _ ?_ ?_ ?_) (by k_asm) (by k_asm) (by k_asm) (by k_asm) (by k_asm) (by first | exact rfl | assumption) (by ktr_room) (by ktr_units) (by first | exact trivial | assumption | is_list | exact News.isList (by k_asm) (by k_mem)) ?_; (next => l_bnd); (next => l_bnd); (next => l_bnd); intro v9 h9 tk9 hP9 F9 N9 K9; obtain ⟨r9, t9, e9, hR9, hL9⟩ := hP9; subst e9; (try dsimp only); (try k_fold)))
      | ((with_reducible show wpAny _ _ (call (Value.ref 107) _) _ _ _); k_dflt (refine' PureFn.use (left_fn _ _ _ _ _ _ ?_ ?_ ?_) (by k_asm) (by k_asm) (by k_asm) (by k_asm) (by k_asm) (by first | exact rfl | assumption) (by ktr_room) (by ktr_units) (by first | exact trivial | assumption | is_list | exact News.isList (by k_asm) (by k_mem)) ?_; (next => l_bnd); (next => l_bnd); (next => l_bnd); intro v9 h9 tk9 hP9 F9 N9 K9; obtain ⟨r9, t9, e9, hR9, hL9⟩ := hP9; subst e9; (try dsimp only); (try k_fold)))
      | ((with_reducible show wpAny _ _ (call (Value.ref 128) _) _ _ _); k_dflt (refine' PureFn.use (joined_fn _ _ _ _ ?_) (by k_asm) (by k_asm) (by k_asm) (by k_asm) (by k_asm) (by first | exact rfl | assumption) (by ktr_room) (by ktr_units) (by first | exact trivial | assumption | is_list | exact News.isList (by k_asm) (by k_mem)) ?_; (next => l_bnd); intro v9 h9 tk9 hP9 F9 N9 K9; obtain ⟨r9, t9, e9, hR9, hL9⟩ := hP9; subst e9; (try dsimp only); (try k_fold)))
      | ((with_reducible show wpAny _ _ (call (Value.ref 93) _) _ _ _); k_dflt (refine' PureFn.use (found_fn _ _ _ _ _ _ ?_ ?_ ?_ ?_ ?_) (by k_asm) (by k_asm) (by k_asm) (by k_asm) (by k_asm) (by first | exact rfl | assumption) (by ktr_room) (by ktr_units) (by first | exact trivial | assumption | is_list | exact News.isList (by k_asm) (by k_mem)) ?_; (next => l_bnd); (next => l_bnd); (next => l_bnd); (next => l_bnd); (next => l_bnd); intro v9 h9 tk9 hP9 F9 N9 K9; obtain ⟨r9, t9, e9, hR9⟩ := hP9; subst e9; (try dsimp only); (try k_fold)))
      | fail)
  k_with "TurnP" => first
    | (refine' TurnP.next (by k_asm) (by k_asm) (by first | exact mem_all | k_dflt (intro p9 hp9; simp only [List.mem_cons, hp9, or_true])) (by first | exact off_of | exact off_of2 (by decide) | exact off_of3 (by decide)) ?_)
    | (refine' TurnP.ret ?_)
    | fail
  k_with "call builtin:len" => first
    | (k_here; (with_reducible show wpAny _ _ (call (Value.builtin "len") [Value.ref _]) _ _ _); k_dflt (refine' len_base (by k_asm) (by assumption) (by first | exact (rfl : ((2 : Nat) : Int) = (2 : Int)) | exact (rfl : ((3 : Nat) : Int) = (3 : Int))) (by decide) ?_))
    | fail
  k_with "KCtEl" => first
    | (k_dflt exact ⟨rfl, _, rfl⟩)
    | fail
  k_with "compareOp In str ref" => first
    | (k_here; (with_reducible rename CarriedAll _ _ => madeLook); k_dflt (refine in_made_str (by exact News.isList (by k_asm) (by k_mem)) madeLook ?_))
    | fail
  k_with "CompEnd" => first
    | (k_dflt (refine' fi_el (by k_asm) (by k_asm) (by kcf_all) (by first | assumption | (simp only [LCg.Off3, and_true]; done) | (simp only [LCg.Off3, and_true]; assumption)) (by first | exact trivial | assumption) ?_))
    | (k_dflt (refine' fi_no (by k_asm) (by k_asm) (by kcf_all) (by first | assumption | (simp only [LCg.Off3, and_true]; done) | (simp only [LCg.Off3, and_true]; assumption)) (by first | exact trivial | assumption) ?_))
    | fail
  k_with "subscriptTail Name Name str int" => first
    | (k_here; k_dflt (refine item_str (fitsSsize_of (N := 9223372036854775808) (by omega) (by omega) (Int.le_refl _)) (by omega) (by omega) ?_; intro hit'))
    | fail
  k_with "subscriptTail Name BinOp str int" => first
    | (k_here; k_dflt (refine item_str (fitsSsize_of (N := 9223372036854775808) (by omega) (by omega) (Int.le_refl _)) (by omega) (by omega) ?_; intro hit'))
    | fail
  k_with "CellEnd" => first
    | (k_dflt (refine' CellEnd.intro (by k_asm) (by k_asm) (by kcf_all) ?_))
    | fail
  k_with "compareOp NotIn int ref" => first
    | (k_here; k_dflt (refine notin_list_ints (News.isList (by k_asm) (by k_mem)) (by assumption) ?_))
    | fail
  k_with "pyIter ref" => (
    k_here
    (rename Fr _ _ _ _ => lF')
    (rename News _ _ _ _ => lN')
    (rename IsRange _ _ _ _ _ _ _ _ => rgX)
    k_dflt (refine' range_turns (n := x.length) [Str.ofString "turned"] (fun _ => True) ?hL ?hh ?hr ?hs ?hn lF' lN' ?j0 ?_ ?_)
    (case hL => k_dflt exact rfl)
    (case hh => k_dflt exact rfl)
    (case hr => first | exact rgX | assumption)
    (case hs => exact small_one (by omega) (by omega) (by omega) (by omega))
    (case hn => exact range_one (.inl (by omega)))
    (case j0 => k_dflt (exact trivial))
    intro i t' u' h' tk' own' hi' hJ' hoff' F' N'
    (try dsimp only)
    (try k_fold)
    rotate_left
    intro u' h' tk' hJ' F' N'
    (try dsimp only)
    rotate_right
    )
  k_with "CompSrc" => (
    k_dflt (refine LCg.CompSrc.range (by rfl) (by k_asm) (by k_asm) (by assumption) (small_one (by omega) (by omega) (by omega) (by omega)) (range_one (n := x.length) (.inl (by omega))) (by rw [PySem.sizeLine_eq]; omega) ?_)
    intro g'
    k_dflt (refine' kct_range (fun k => Txt.slice x (some k) none ++ Txt.slice x none (some k)) (fun k' t' I' oI' C' oC' D' m' ys' h' tk' E' hlo' hhi' hC' hx' F' N' off' ne' => ?_) ?_)
    (all_goals (try (simp only [LCg.Off3, and_true] at off')))
    (all_goals (try ((show KPfMark → _); intro hMark')))
    kcf_last
    )
  refine' PureFn.enterC ?ho ?hcd ?hbind ?hkind ?hnd ?hco ?hgen ?hk ?hc ?h
  (case' h => k_fill)
  (case ho => k_is)
  (case hcd => k_is)
  (case hbind => exact fun _ _ => BindsTo.of_eq rfl)
  (case hkind => exact rfl)
  (case hnd => decide +kernel)
  (case hco => exact rfl)
  (case hgen => exact rfl)
  (case hk => exact rfl)
  (case hc => decide)
  intro dp un gd cn cs L a ccd cl outer base s L' h₁ tk cells hcs hdp hun hH F N Y B X T
  k_cells Y
  (try simp only [List.cons_append, List.nil_append] at N)
  (try dsimp only)
  (try k_fold)
  k_steps
  all_goals first
    | exact trivial
    | exact (turns_1 hx0 (by assumption) (by assumption) (by assumption) (by assumption)).elim
    | exact (turns_2 (by assumption) hi' (by assumption) (by assumption)).elim
    | exact (turns_3 hx0 (by assumption) (by assumption) hi' (by assumption) (by assumption)).elim
    | exact (turns_4 hx0 (by assumption) (by assumption) hi' (by assumption) (by assumption) (by assumption)).elim
    | ((refine EndP.intro (by k_asm) ?_); exact congrArg Value.bool (turns_5 hx0 (by assumption) (by assumption) (by assumption)))
    | ((refine EndP.intro (by k_asm) ?_); exact congrArg Value.bool (turns_6 (by assumption)))
end
end
section
open PySem PySem.W PySem.Calls PySem.Spec PyProof.Rows

section
variable {w : World} {mg mb : Str → Option Value} {loose : List Str} {mean : ExcName → Option Value}

theorem per_bounds {p : Int → Bool} {n : Nat} {k : Int} (h : k ∈ (rangeKs 1 n).filter p) : 1 ≤ k ∧ k ≤ n ∧ p k = true := by
  rw [List.mem_filter] at h
  have := mem_rangeKs h.1
  exact ⟨this.1, by omega, h.2⟩
theorem lengths_fn (wv : Value) (x : Str) (t : Tok) (hx : x.length ≤ 9) (hx0 : 0 < x.length) :
    PureFn w mg mb loose mean 12 186 [wv, .str x t] (fun _ => True) (fun v => v = .bool true) := by
  k_with_none
  k_with "call ref" => (
    k_here
    first
      | ((with_reducible show wpAny _ _ (call (Value.ref 176) _) _ _ _); k_dflt (refine' PureFn.use (divisor_fn _ _ _ _ ?_ ?_ ?_ ?_) (by k_asm) (by k_asm) (by k_asm) (by k_asm) (by k_asm) (by first | exact rfl | assumption) (by ktr_room) (by ktr_units) (by first | exact trivial | assumption | is_list | exact News.isList (by k_asm) (by k_mem)) ?_; (next => l_bnd); (next => l_bnd); (next => l_bnd); (next => l_bnd); intro v9 h9 tk9 hP9 F9 N9 K9; obtain ⟨r9, t9, e9, hR9⟩ := hP9; subst e9; (try dsimp only); (try k_fold)))
      | ((with_reducible show wpAny _ _ (call (Value.ref 169) _) _ _ _); k_dflt (refine' PureFn.use (root_fn _ _ ?_ ?_) (by k_asm) (by k_asm) (by k_asm) (by k_asm) (by k_asm) (by first | exact rfl | assumption) (by ktr_room) (by ktr_units) (by first | exact trivial | assumption | is_list | exact News.isList (by k_asm) (by k_mem)) ?_; (next => l_bnd); (next => l_bnd); intro v9 h9 tk9 hP9 F9 N9 K9; obtain ⟨r9, t9, e9, hR9, hL9, hM9⟩ := hP9; subst e9; (try dsimp only); (try k_fold)))
      | ((with_reducible show wpAny _ _ (call (Value.ref 100) _) _ _ _); k_dflt (refine' PureFn.use (instr3_fn _ _ _ _ _ _ _ ?_ ?_ ?_) (by k_asm) (by k_asm) (by k_asm) (by k_asm) (by k_asm) (by first | exact rfl | assumption) (by ktr_room) (by ktr_units) (by first | exact trivial | assumption | is_list | exact News.isList (by k_asm) (by k_mem)) ?_; (next => l_bnd); (next => l_bnd); (next => l_bnd); intro v9 h9 tk9 hP9 F9 N9 K9; obtain ⟨r9, t9, e9, hR9⟩ := hP9; subst e9; (try dsimp only); (try k_fold)))
      | ((with_reducible show wpAny _ _ (call (Value.ref 100) _) _ _ _); k_dflt (refine' PureFn.use (instr2_fn _ _ _ _ _ _ ?_ ?_ ?_) (by k_asm) (by k_asm) (by k_asm) (by k_asm) (by k_asm) (by first | exact rfl | assumption) (by ktr_room) (by ktr_units) (by first | exact trivial | assumption | is_list | exact News.isList (by k_asm) (by k_mem)) ?_; (next => l_bnd); (next => l_bnd); (next => l_bnd); intro v9 h9 tk9 hP9 F9 N9 K9; obtain ⟨r9, t9, e9, hR9⟩ := hP9; subst e9; (try dsimp only); (try k_fold)))
      | ((with_reducible show wpAny _ _ (call (Value.ref 121) _) _ _ _); k_dflt (refine' PureFn.use (mid_fn _ _ _ _ _ _ _ _ ?_ ?_ ?_ ?_ ?_) (by k_asm) (by k_asm) (by k_asm) (by k_asm) (by k_asm) (by first | exact rfl | assumption) (by ktr_room) (by ktr_units) (by first | exact trivial | assumption | is_list | exact News.isList (by k_asm) (by k_mem)) ?_; (next => l_bnd); (next => l_bnd); (next => l_bnd); (next => l_bnd); (next => l_bnd); intro v9 h9 tk9 hP9 F9 N9 K9; obtain ⟨r9, t9, e9, hR9, hL9⟩ := hP9; subst e9; (try dsimp only); (try k_fold)))
      | ((with_reducible show wpAny _ _ (call (Value.ref 114) _) _ _ _); k_dflt (refine' PureFn.use (right_fn _ _ _ _ _ _ ?_ ?_ ?_) (by k_asm) (by k_asm) (by k_asm) (by k_asm) (by k_asm) (by first | exact rfl | assumption) (by ktr_room) (by ktr_units) (by first | exact trivial | assumption | is_list | exact News.isList (by k_asm) (by k_mem)) ?_; (next => l_bnd); (next => l_bnd); (next => l_bnd); intro v9 h9 tk9 hP9 F9 N9 K9; obtain ⟨r9, t9, e9, hR9, hL9⟩ := hP9; subst e9; (try dsimp only); (try k_fold)))
      | ((with_reducible show wpAny _ _ (call (Value.ref 107) _) _ _ _); k_dflt (refine' PureFn.use (left_fn _ _ _ _ _ _ ?_ ?_ ?_) (by k_asm) (by k_asm) (by k_asm) (by k_asm) (by k_asm) (by first | exact rfl | assumption) (by ktr_room) (by ktr_units) (by first | exact trivial | assumption | is_list | exact News.isList (by k_asm) (by k_mem)) ?_; (next => l_bnd); (next => l_bnd); (next => l_bnd); intro v9 h9 tk9 hP9 F9 N9 K9; obtain ⟨r9, t9, e9, hR9, hL9⟩ := hP9; subst e9; (try dsimp only); (try k_fold)))
      | ((with_reducible show wpAny _ _ (call (Value.ref 128) _) _ _ _); k_dflt (refine' PureFn.use (joined_fn _ _ _ _ ?_) (by k_asm) (by k_asm) (by k_asm) (by k_asm) (by k_asm) (by first | exact rfl | assumption) (by ktr_room) (by ktr_units) (by first | exact trivial | assumption | is_list | exact News.isList (by k_asm) (by k_mem)) ?_; (next => l_bnd); intro v9 h9 tk9 hP9 F9 N9 K9; obtain ⟨r9, t9, e9, hR9, hL9⟩ := hP9; subst e9; (try dsimp only); (try k_fold)))
      | ((with_reducible show wpAny _ _ (call (Value.ref 93) _) _ _ _); k_dflt (refine' PureFn.use (found_fn _ _ _ _ _ _ ?_ ?_ ?_ ?_ ?_) (by k_asm) (by k_asm) (by k_asm) (by k_asm) (by k_asm) (by first | exact rfl | assumption) (by ktr_room) (by ktr_units) (by first | exact trivial | assumption | is_list | exact News.isList (by k_asm) (by k_mem)) ?_; (next => l_bnd); (next => l_bnd); (next => l_bnd); (next => l_bnd); (next => l_bnd); intro v9 h9 tk9 hP9 F9 N9 K9; obtain ⟨r9, t9, e9, hR9⟩ := hP9; subst e9; (try dsimp only); (try k_fold)))
      | fail)
  k_with "TurnP" => first
    | (refine' TurnP.next (by k_asm) (by k_asm) (by first | exact mem_all | k_dflt (intro p9 hp9; simp only [List.mem_cons, hp9, or_true])) (by first | exact off_of | exact off_of2 (by decide) | exact off_of3 (by decide)) ?_)
    | (refine' TurnP.ret ?_)
    | fail
  k_with "call builtin:len" => first
    | (k_here; (with_reducible show wpAny _ _ (call (Value.builtin "len") [Value.ref _]) _ _ _); k_dflt (refine' len_base (by k_asm) (by assumption) (by first | exact (rfl : ((2 : Nat) : Int) = (2 : Int)) | exact (rfl : ((3 : Nat) : Int) = (3 : Int))) (by decide) ?_))
    | fail
  k_with "KCtEl" => first
    | (k_dflt exact ⟨rfl, _, rfl⟩)
    | fail
  k_with "compareOp In str ref" => first
    | (k_here; (with_reducible rename CarriedAll _ _ => madeLook); k_dflt (refine in_made_str (by exact News.isList (by k_asm) (by k_mem)) madeLook ?_))
    | fail
  k_with "CompEnd" => first
    | (k_dflt (refine' fi_el (by k_asm) (by k_asm) (by kcf_all) (by first | assumption | (simp only [LCg.Off3, and_true]; done) | (simp only [LCg.Off3, and_true]; assumption)) (by first | exact trivial | assumption) ?_))
    | (k_dflt (refine' fi_no (by k_asm) (by k_asm) (by kcf_all) (by first | assumption | (simp only [LCg.Off3, and_true]; done) | (simp only [LCg.Off3, and_true]; assumption)) (by first | exact trivial | assumption) ?_))
    | fail
  k_with "subscriptTail Name Name str int" => first
    | (k_here; k_dflt (refine item_str (fitsSsize_of (N := 9223372036854775808) (by omega) (by omega) (Int.le_refl _)) (by omega) (by omega) ?_; intro hit'))
    | fail
  k_with "subscriptTail Name BinOp str int" => first
    | (k_here; k_dflt (refine item_str (fitsSsize_of (N := 9223372036854775808) (by omega) (by omega) (Int.le_refl _)) (by omega) (by omega) ?_; intro hit'))
    | fail
  k_with "CellEnd" => first
    | (k_dflt (refine' CellEnd.intro (by k_asm) (by k_asm) (by kcf_all) ?_))
    | fail
  k_with "compareOp NotIn int ref" => first
    | (k_here; k_dflt (refine notin_list_ints (News.isList (by k_asm) (by k_mem)) (by assumption) ?_))
    | fail
  k_with "CompSrcT" => first
    | (
    k_dflt (refine LCt.CompSrcT.range (by rfl) (by k_asm) (by k_asm) (by assumption) (small_one (by omega) (by omega) (by omega) (by omega)) (range_one (n := x.length) (.inl (by omega))) (by rw [PySem.sizeLine_eq]; omega) ?_)
    intro g'
    k_dflt (refine' filt_range (perB (wl x)) (fun k' t' I' oI' C' oC' D' m' ys' h' tk' E' hlo' hhi' hC' hx' F' N' off' ne' => ?_) ?_)
    (all_goals (try ((show KPfMark → _); intro hMark')))
    kcf_last
      )
    | (
    k_dflt (refine LCt.CompSrcT.range (by rfl) (by k_asm) (by k_asm) (by assumption) (small_one (by omega) (by omega) (by omega) (by omega)) (range_one (n := (x.length - kk.toNat)) (.inl (by omega))) (by rw [PySem.sizeLine_eq]; omega) ?_)
    intro g'
    k_dflt (refine' filt_range (difB (wl x) kk) (fun k' t' I' oI' C' oC' D' m' ys' h' tk' E' hlo' hhi' hC' hx' F' N' off' ne' => ?_) ?_)
    (all_goals (try ((show KPfMark → _); intro hMark')))
    kcf_last
      )
  k_with "eval ListComp" => (
    k_here
    k_dflt (refine ListComp_cell (F₀ := by k_asm) (by with_unfolding_all rfl) (fun _ => rfl) (fun _ => rfl) (by rfl) (by decide) (fun _ _ => rfl) ?_)
    skip)
  k_with "CellSrc" => (
    k_dflt (refine ⟨_, _, _, _, _, _, x.length, _, perB (wl x), rfl, rfl, by k_asm, by k_asm, by assumption, small_one (by omega) (by omega) (by omega) (by omega), range_one (.inl (by omega)), by rw [PySem.sizeLine_eq]; omega, ?_, ?_⟩)
    intro kk tkk I' oI' C' oC' D' ys' c' oc' h' tk' E' hk0' hk1' hoc' F' N'
    (try dsimp only)
    (try k_fold)
    rotate_left
    intro D' ys' h' tk' hys' F' N'
    (try dsimp only)
    rotate_right
    skip)
  k_with "pyIter ref" => (
    k_here
    (rename Fr _ _ _ _ => lF')
    (rename News _ _ _ _ => lN')
    k_dflt (refine' list_turns (ns := (rangeKs 1 x.length).filter (perB (wl x))) [Str.ofString "other", Str.ofString "part"] (fun _ => True) ?hL ?hh ?hl ?hi lF' lN' ?j0 ?_ ?_)
    (case hL => k_dflt exact rfl)
    (case hh => k_dflt exact rfl)
    (case hl => k_dflt k_mem)
    (case hi => assumption)
    (case j0 => k_dflt (exact trivial))
    intro pre' post' n' t' u' h' tk' own' hns' hn' hJ' hoff' F' N'
    (obtain ⟨hq0, hq1, hq2⟩ := per_bounds hn')
    (try dsimp only)
    (try k_fold)
    rotate_left
    intro u' h' tk' hJ' F' N'
    (try dsimp only)
    rotate_right
    )
  refine' PureFn.enterC ?ho ?hcd ?hbind ?hkind ?hnd ?hco ?hgen ?hk ?hc ?h
  (case' h => k_fill)
  (case ho => k_is)
  (case hcd => k_is)
  (case hbind => exact fun _ _ => BindsTo.of_eq rfl)
  (case hkind => exact rfl)
  (case hnd => decide +kernel)
  (case hco => exact rfl)
  (case hgen => exact rfl)
  (case hk => exact rfl)
  (case hc => decide)
  intro dp un gd cn cs L a ccd cl outer base s L' h₁ tk cells hcs hdp hun hH F N Y B X T
  k_cells Y
  (try simp only [List.cons_append, List.nil_append] at N)
  (try dsimp only)
  (try k_fold)
  k_steps
  all_goals first
    | exact trivial
    | exact per_b (by assumption) (by assumption) hlo' hhi' (by assumption)
    | exact dif_b hk0' hk1' hlo' hhi' (by assumption)
    | exact cell_b hk0' hk1' (by assumption)
    | exact (lengths_false (by assumption) (by assumption) (by assumption) (by assumption) (by assumption) (by assumption) (by assumption) (by assumption) (by assumption)).elim
    | ((refine EndP.intro (by k_asm) ?_); exact rfl)
end
end
section
open PySem PySem.W PySem.Calls PySem.Spec PyProof.Rows

section
variable {prog : Program} {w : World} {A : Around} {E : Value → Shared → Prop} {s : Shared}
theorem ne_two {a b : Addr} {r q e0 e1 : Str} {t1 t2 t3 t4 : Tok} {Q : Value → Shared → Prop} (ha : s.heap.IsList a #[.str r t1, .str q t2]) (hb : s.heap.IsList b #[.str e0 t3, .str e1 t4]) (hu : A.units < cLine)
    (hr : r = e0) (hq : q = e1) (h : Q (.bool false) s) : wpAny (model prog w) A (compareOp .NotEq (.ref a) (.ref b)) Q E s := by
  subst hr hq
  refine cmp_ofNotEq (SeqAt.RcNeAt.lists (e := fun _ => true) ha hb rfl hu (fun j h1 h2 => ?_) prog w E Q h)
  have : j = 0 ∨ j = 1 := by simp at h1; omega
  rcases this with rfl | rfl
  · have := SeqAt.EqAt.str_str (A := A.in1) (s := s) r t1 r t3
    rw [beq_self_eq_true] at this
    exact this
  · have := SeqAt.EqAt.str_str (A := A.in1) (s := s) q t2 q t4
    rw [beq_self_eq_true] at this
    exact this
end
structure JSt where
  e : Str
  te : Tok
  h : Str
  th : Tok
  en : Addr
  e0 : Str
  t0 : Tok
  e1 : Str
  t1 : Tok
  k : Nat
theorem JoinS.start {x y e0 e1 : Str} (h0 : wl e0 = wl y ++ wl x) (h1 : wl e1 = wl x ++ wl y) : JoinS x y 0 x y e0 e1 := by
  unfold JoinS
  rw [h0, h1]
  exact JoinJ.start _ _
theorem JoinS.step {x y e h e0 e1 f : Str} {i : Nat} (J : JoinS x y i e h e0 e1) (hf : wl f = wl h ++ wl e) : JoinS x y (i + 1) h f e1 e0 := JoinJ.step J hf
theorem JoinS.bounds {x y e h e0 e1 : Str} {i : Nat} (J : JoinS x y i e h e0 e1) (hi : i < 5) (hx : x.length ≤ 9) (hy : y.length ≤ 9) (hx0 : 0 < x.length) (hy0 : 0 < y.length) :
    e.length + h.length ≤ 117 ∧ x.length + y.length ≤ e.length + h.length ∧ 0 < e.length ∧ 0 < h.length := by
  have := JoinJ.bounds J hi
  simp only [wl_len] at this
  exact this hx hy hx0 hy0
theorem JoinS.last {x y e h e0 e1 : Str} (J : JoinS x y 5 e h e0 e1) : (h.length : Int) = 5 * (x.length : Int) + 8 * (y.length : Int) := by
  have := JoinJ.last J
  simp only [wl_len] at this
  omega
theorem news_one {h₀ : Heap} {L : Addr} {h : Heap} {l : List (Addr × Obj)} {p : Addr × Obj} (N : News h₀ L h l) (hm : p ∈ l) : News h₀ L h [p] := fun q hq => by
  rw [List.mem_singleton.mp hq]; exact N p hm

section
variable {prog : Program} {w : World} {A : Around} {E : Value → Shared → Prop} {s : Shared} {env : Env} {h₀ : Heap} {v : Str} {body : List Stmt} {Q : Flow → Shared → Prop} {L : Addr}
abbrev nElder : Str := Str.ofString "elder"
abbrev nHere : Str := Str.ofString "here"
abbrev nEnds : Str := Str.ofString "ends"
def JoinE (h₀ : Heap) (L : Addr) (v : Str) (stored : List Str) (m₀ : Str → Option Value) (x y : Str) (i : Nat) (I : Addr) (oI : Obj) (s₁ s₂ : Shared) : Prop :=
  ∃ (e : Str) (te : Tok) (h : Str) (th : Tok) (en : Addr) (e0 : Str) (t0 : Tok) (e1 : Str) (t1 : Tok) (k : Nat) (h' : Heap) (tk : Nat) (m' : Str → Option Value) (news' : List (Addr × Obj)), s₂ = { s₁ with heap := h', toks := tk } ∧ Fr h₀ L h' m' ∧ News h₀ L h' news' ∧ (I, oI) ∈ news' ∧
    (en, listOf #[.str e0 t0, .str e1 t1] k) ∈ news' ∧ en ≠ I ∧ m' nElder = some (.str e te) ∧ m' nHere = some (.str h th) ∧ m' nEnds = some (.ref en) ∧
    (∀ z, z ≠ v → z ≠ nElder → z ≠ nHere → z ≠ nEnds → stored.contains z = false → m' z = m₀ z) ∧ JoinS x y i e h e0 e1
def JoinP (h₀ : Heap) (L : Addr) (v : Str) (stored : List Str) (m₀ : Str → Option Value) (x y : Str) (i : Nat) (I : Addr) (oI : Obj) (s₁ : Shared) (Q : Flow → Shared → Prop) (f : Flow) (s₂ : Shared) : Prop :=
  match f with
  | .ret v => Q (.ret v) s₂
  | .brk => Q .next s₂
  | _ => JoinE h₀ L v stored m₀ x y i I oI s₁ s₂
theorem JoinP.ret {stored : List Str} {m₀ : Str → Option Value} {x y : Str} {i : Nat} {I : Addr} {oI : Obj} {s₁ s₂ : Shared} {r : Value} (h : Q (.ret r) s₂) : JoinP h₀ L v stored m₀ x y i I oI s₁ Q (.ret r) s₂ := h
theorem JoinP.next {stored : List Str} {m₀ m' : Str → Option Value} {x y : Str} {i : Nat} {I : Addr} {oI : Obj} {s₁ : Shared} {e : Str} {te : Tok} {h : Str} {th : Tok} {en : Addr} {e0 : Str} {t0 : Tok} {e1 : Str} {t1 : Tok} {k : Nat} {h' : Heap} {tk : Nat} {news' : List (Addr × Obj)}
    (F : Fr h₀ L h' m') (N : News h₀ L h' news') (hI : (I, oI) ∈ news') (k1 : m' nElder = some (.str e te)) (k2 : m' nHere = some (.str h th)) (k3 : m' nEnds = some (.ref en)) (hl : (en, listOf #[.str e0 t0, .str e1 t1] k) ∈ news') (hne : en ≠ I)
    (ho : ∀ z, z ≠ v → z ≠ nElder → z ≠ nHere → z ≠ nEnds → stored.contains z = false → m' z = m₀ z) (J : JoinS x y i e h e0 e1) : JoinP h₀ L v stored m₀ x y i I oI s₁ Q .next { s₁ with heap := h', toks := tk } :=
  ⟨e, te, h, th, en, e0, t0, e1, t1, k, h', tk, m', news', rfl, F, N, hI, hl, hne, k1, k2, k3, ho, J⟩
theorem joins_off {v1 v2 v3 v4 v5 v6 v7 v8 v9 v10 : Option Value} {u m₀ : Str → Option Value} (z : Str) (h1 : z ≠ Str.ofString "turn") (h2 : z ≠ nElder) (h3 : z ≠ nHere) (h4 : z ≠ nEnds) (h5 : [Str.ofString "first", Str.ofString "second", Str.ofString "size"].contains z = false) :
    (if z = Str.ofString "elder" then v1 else if z = Str.ofString "here" then v2 else if z = Str.ofString "ends" then v3 else if z = Str.ofString "size" then v4 else if z = Str.ofString "first" then v5 else if z = Str.ofString "second" then v6 else
      if z = Str.ofString "turn" then v7 else if z = nElder then v8 else if z = nHere then v9 else if z = nEnds then v10 else if [Str.ofString "first", Str.ofString "second", Str.ofString "size"].contains z = true then u z else m₀ z) = m₀ z := by
  have n1 : z ≠ Str.ofString "first" := by rintro rfl; exact absurd h5 (by decide)
  have n2 : z ≠ Str.ofString "second" := by rintro rfl; exact absurd h5 (by decide)
  have n3 : z ≠ Str.ofString "size" := by rintro rfl; exact absurd h5 (by decide)
  rw [if_neg h2, if_neg h3, if_neg h4, if_neg n3, if_neg n1, if_neg n2, if_neg h1, if_neg h2, if_neg h3, if_neg h4, h5]
  rfl
theorem joins_loop {r : Addr} {a₀ b₀ : Int} {t₀ u₀ v₀ : Tok} {m₀ : Str → Option Value} {news : List (Addr × Obj)} (stored : List Str) (x y : Str) {e : Str} {te : Tok} {h : Str} {th : Tok} {en : Addr} {e0 : Str} {t0 : Tok} {e1 : Str} {t1 : Tok} {k : Nat}
    (hL : env.locals = L) (hh : A.handled = none) (hr : IsRange s.heap r a₀ b₀ 1 t₀ u₀ v₀) (hsmall : Builtin.Range.small a₀ b₀ 1 = true) (hn : Builtin.Range.rangeSize a₀ b₀ 1 = ((5 : Nat) : Int)) (F : Fr h₀ L s.heap m₀) (N : News h₀ L s.heap news)
    (k1 : m₀ nElder = some (.str e te)) (k2 : m₀ nHere = some (.str h th)) (k3 : m₀ nEnds = some (.ref en)) (hl : (en, listOf #[.str e0 t0, .str e1 t1] k) ∈ news) (J0 : JoinS x y 0 e h e0 e1)
    (turn : ∀ (e : Str) (te : Tok) (h : Str) (th : Tok) (en : Addr) (e0 : Str) (t0 : Tok) (e1 : Str) (t1 : Tok) (k : Nat) (i : Nat) t (u : Str → Option Value) h' tk I oI, i < 5 → JoinS x y i e h e0 e1 → (@Ne Nat en I) →
      Fr h₀ L h' (fun z => if z = v then some (.int (a₀ + (i : Int)) t) else if z = nElder then some (.str e te) else if z = nHere then some (.str h th) else if z = nEnds then some (.ref en) else if stored.contains z then u z else m₀ z) →
      News h₀ L h' [(I, oI), (en, listOf #[.str e0 t0, .str e1 t1] k)] →
      wpAny (model prog w) A (execs body env) (JoinP h₀ L v stored m₀ x y (i + 1) I oI { s with heap := h', toks := tk } Q) E { s with heap := h', toks := tk })
    (done : ∀ (e : Str) (te : Tok) (h : Str) (th : Tok) (en : Addr) (e0 : Str) (e1 : Str) (u : Str → Option Value) h' tk, JoinS x y 5 e h e0 e1 →
      Fr h₀ L h' (fun z => if z = v then u z else if z = nElder then some (.str e te) else if z = nHere then some (.str h th) else if z = nEnds then some (.ref en) else if stored.contains z then u z else m₀ z) → News h₀ L h' [] → Q .next { s with heap := h', toks := tk }) :
    wpAny (model prog w) A (pyIter (.ref r)) (fun it s₂ => LoopAtV prog w A h₀ env v body Q E it s₂) E s := by
  refine range_state (σ := JSt) (n := 5) (fun c => [(c.en, listOf #[.str c.e0 c.t0, .str c.e1 c.t1] c.k)]) (fun c => [(nElder, .str c.e c.te), (nHere, .str c.h c.th), (nEnds, .ref c.en)]) stored (fun i c => JoinS x y i c.e c.h c.e0 c.e1)
    ⟨e, te, h, th, en, e0, t0, e1, t1, k⟩ hL hh hr hsmall hn F (news_one N hl) ?_ J0 ?_ ?_
  · exact List.forall_mem_cons.mpr ⟨k1, List.forall_mem_cons.mpr ⟨k2, List.forall_mem_cons.mpr ⟨k3, List.forall_mem_nil _⟩⟩⟩
  · rintro ⟨e, te, h, th, en, e0, t0, e1, t1, k⟩ i t u h' tk I oI hi hJ hne F' N'
    refine wpAny_mono (turn e te h th en e0 t0 e1 t1 k i t u h' tk I oI hi hJ (hne _ (.head _)) F' N') (fun f s₂ p => ?_) fun _ _ e => e
    have up : JoinE h₀ L v stored m₀ x y (i + 1) I oI { s with heap := h', toks := tk } s₂ →
        StateP h₀ L v (fun c : JSt => [(c.en, listOf #[.str c.e0 c.t0, .str c.e1 c.t1] c.k)]) (fun c => [(nElder, .str c.e c.te), (nHere, .str c.h c.th), (nEnds, .ref c.en)]) stored m₀ (fun c => JoinS x y (i + 1) c.e c.h c.e0 c.e1) I oI { s with heap := h', toks := tk } Q .next s₂ := by
      rintro ⟨e, te, h, th, en, e0, t0, e1, t1, k, h'', tk', m', news', q, F'', N'', hI, hl, hne, k1, k2, k3, ho, J⟩
      refine ⟨⟨e, te, h, th, en, e0, t0, e1, t1, k⟩, h'', tk', m', news', q, F'', N'', hI, ?_, ?_, ?_, ?_, J⟩
      · exact List.forall_mem_cons.mpr ⟨hl, List.forall_mem_nil _⟩
      · exact List.forall_mem_cons.mpr ⟨hne, List.forall_mem_nil _⟩
      · exact List.forall_mem_cons.mpr ⟨k1, List.forall_mem_cons.mpr ⟨k2, List.forall_mem_cons.mpr ⟨k3, List.forall_mem_nil _⟩⟩⟩
      · intro z h1 h2 h3
        exact ho z h1 (h2 _ (.head _)) (h2 _ (.tail _ (.head _))) (h2 _ (.tail _ (.tail _ (.head _)))) h3
    cases f with
    | ret v => exact p
    | brk => exact p
    | next => exact up p
    | cont => exact up p
  · rintro ⟨e, te, h, th, en, e0, t0, e1, t1, k⟩ u h' tk hJ F' _
    exact done e te h th en e0 e1 u h' tk hJ F' News.nil
end
section
variable {w : World} {mg mb : Str → Option Value} {loose : List Str} {mean : ExcName → Option Value}
theorem joins_fn (wv : Value) (x y : Str) (t u : Tok) (hx : x.length ≤ 9) (hx0 : 0 < x.length) (hy : y.length ≤ 9) (hy0 : 0 < y.length) :
    PureFn w mg mb loose mean 12 193 [wv, .str x t, .str y u] (fun _ => True) (fun v => v = .bool true) := by
  k_with_none
  k_with "call ref" => (
    k_here
    first
      | ((with_reducible show wpAny _ _ (call (Value.ref 176) _) _ _ _); k_dflt (refine' PureFn.use (divisor_fn _ _ _ _ ?_ ?_ ?_ ?_) (by k_asm) (by k_asm) (by k_asm) (by k_asm) (by k_asm) (by first | exact rfl | assumption) (by ktr_room) (by ktr_units) (by first | exact trivial | assumption | is_list | exact News.isList (by k_asm) (by k_mem)) ?_; (next => l_bnd); (next => l_bnd); (next => l_bnd); (next => l_bnd); intro v9 h9 tk9 hP9 F9 N9 K9; obtain ⟨r9, t9, e9, hR9⟩ := hP9; subst e9; (try dsimp only); (try k_fold)))
      | ((with_reducible show wpAny _ _ (call (Value.ref 169) _) _ _ _); k_dflt (refine' PureFn.use (root_fn _ _ ?_ ?_) (by k_asm) (by k_asm) (by k_asm) (by k_asm) (by k_asm) (by first | exact rfl | assumption) (by ktr_room) (by ktr_units) (by first | exact trivial | assumption | is_list | exact News.isList (by k_asm) (by k_mem)) ?_; (next => l_bnd); (next => l_bnd); intro v9 h9 tk9 hP9 F9 N9 K9; obtain ⟨r9, t9, e9, hR9, hL9, hM9⟩ := hP9; subst e9; (try dsimp only); (try k_fold)))
      | ((with_reducible show wpAny _ _ (call (Value.ref 100) _) _ _ _); k_dflt (refine' PureFn.use (instr3_fn _ _ _ _ _ _ _ ?_ ?_ ?_) (by k_asm) (by k_asm) (by k_asm) (by k_asm) (by k_asm) (by first | exact rfl | assumption) (by ktr_room) (by ktr_units) (by first | exact trivial | assumption | is_list | exact News.isList (by k_asm) (by k_mem)) ?_; (next => l_bnd); (next => l_bnd); (next => l_bnd); intro v9 h9 tk9 hP9 F9 N9 K9; obtain ⟨r9, t9, e9, hR9⟩ := hP9; subst e9; (try dsimp only); (try k_fold)))
      | ((with_reducible show wpAny _ _ (call (Value.ref 100) _) _ _ _); k_dflt (refine' PureFn.use (instr2_fn _ _ _ _ _ _ ?_ ?_ ?_) (by k_asm) (by k_asm) (by k_asm) (by k_asm) (by k_asm) (by first | exact rfl | assumption) (by ktr_room) (by ktr_units) (by first | exact trivial | assumption | is_list | exact News.isList (by k_asm) (by k_mem)) ?_; (next => l_bnd); (next => l_bnd); (next => l_bnd); intro v9 h9 tk9 hP9 F9 N9 K9; obtain ⟨r9, t9, e9, hR9⟩ := hP9; subst e9; (try dsimp only); (try k_fold)))
      | ((with_reducible show wpAny _ _ (call (Value.ref 121) _) _ _ _); k_dflt (refine' PureFn.use (mid_fn _ _ _ _ _ _ _ _ ?_ ?_ ?_ ?_ ?_) (by k_asm) (by k_asm) (by k_asm) (by k_asm) (by k_asm) (by first | exact rfl | assumption) (by ktr_room) (by ktr_units) (by first | exact trivial | assumption | is_list | exact News.isList (by k_asm) (by k_mem)) ?_; (next => l_bnd); (next => l_bnd); (next => l_bnd); (next => l_bnd); (next => l_bnd); intro v9 h9 tk9 hP9 F9 N9 K9; obtain ⟨r9, t9, e9, hR9, hL9⟩ := hP9; subst e9; (try dsimp only); (try k_fold)))
      | ((with_reducible show wpAny _ _ (call (Value.ref 114) _) _ _ _); k_dflt (refine' PureFn.use (right_fn _ _ _ _ _ _ ?_ ?_ ?_) (by k_asm) (by k_asm) (by k_asm) (by k_asm) (by k_asm) (by first | exact rfl | assumption) (by ktr_room) (by ktr_units) (by first | exact trivial | assumption | is_list | exact News.isList (by k_asm) (by k_mem)) ?_; (next => l_bnd); (next => l_bnd); (next => l_bnd); intro v9 h9 tk9 hP9 F9 N9 K9; obtain ⟨r9, t9, e9, hR9, hL9⟩ := hP9; subst e9; (try dsimp only); (try k_fold)))
      | ((with_reducible show wpAny _ _ (call (Value.ref 107) _) _ _ _); k_dflt (refine' PureFn.use (left_fn _ _ _ _ _ _ ?_ ?_ ?_) (by k_asm) (by k_asm) (by k_asm) (by k_asm) (by k_asm) (by first | exact rfl | assumption) (by ktr_room) (by ktr_units) (by first | exact trivial | assumption | is_list | exact News.isList (by k_asm) (by k_mem)) ?_; (next => l_bnd); (next => l_bnd); (next => l_bnd); intro v9 h9 tk9 hP9 F9 N9 K9; obtain ⟨r9, t9, e9, hR9, hL9⟩ := hP9; subst e9; (try dsimp only); (try k_fold)))
      | ((with_reducible show wpAny _ _ (call (Value.ref 128) _) _ _ _); k_dflt (refine' PureFn.use (joined_fn _ _ _ _ ?_) (by k_asm) (by k_asm) (by k_asm) (by k_asm) (by k_asm) (by first | exact rfl | assumption) (by ktr_room) (by ktr_units) (by first | exact trivial | assumption | is_list | exact News.isList (by k_asm) (by k_mem)) ?_; (next => l_bnd); intro v9 h9 tk9 hP9 F9 N9 K9; obtain ⟨r9, t9, e9, hR9, hL9⟩ := hP9; subst e9; (try dsimp only); (try k_fold)))
      | ((with_reducible show wpAny _ _ (call (Value.ref 93) _) _ _ _); k_dflt (refine' PureFn.use (found_fn _ _ _ _ _ _ ?_ ?_ ?_ ?_ ?_) (by k_asm) (by k_asm) (by k_asm) (by k_asm) (by k_asm) (by first | exact rfl | assumption) (by ktr_room) (by ktr_units) (by first | exact trivial | assumption | is_list | exact News.isList (by k_asm) (by k_mem)) ?_; (next => l_bnd); (next => l_bnd); (next => l_bnd); (next => l_bnd); (next => l_bnd); intro v9 h9 tk9 hP9 F9 N9 K9; obtain ⟨r9, t9, e9, hR9⟩ := hP9; subst e9; (try dsimp only); (try k_fold)))
      | fail)
  k_with "TurnP" => first
    | (refine' TurnP.next (by k_asm) (by k_asm) (by first | exact mem_all | k_dflt (intro p9 hp9; simp only [List.mem_cons, hp9, or_true])) (by first | exact off_of | exact off_of2 (by decide) | exact off_of3 (by decide)) ?_)
    | (refine' TurnP.ret ?_)
    | fail
  k_with "call builtin:len" => first
    | (k_here; (with_reducible show wpAny _ _ (call (Value.builtin "len") [Value.ref _]) _ _ _); k_dflt (refine' len_base (by k_asm) (by assumption) (by first | exact (rfl : ((2 : Nat) : Int) = (2 : Int)) | exact (rfl : ((3 : Nat) : Int) = (3 : Int))) (by decide) ?_))
    | fail
  k_with "KCtEl" => first
    | (k_dflt exact ⟨rfl, _, rfl⟩)
    | fail
  k_with "compareOp In str ref" => first
    | (k_here; (with_reducible rename CarriedAll _ _ => madeLook); k_dflt (refine in_made_str (by exact News.isList (by k_asm) (by k_mem)) madeLook ?_))
    | fail
  k_with "CompEnd" => first
    | (k_dflt (refine' fi_el (by k_asm) (by k_asm) (by kcf_all) (by first | assumption | (simp only [LCg.Off3, and_true]; done) | (simp only [LCg.Off3, and_true]; assumption)) (by first | exact trivial | assumption) ?_))
    | (k_dflt (refine' fi_no (by k_asm) (by k_asm) (by kcf_all) (by first | assumption | (simp only [LCg.Off3, and_true]; done) | (simp only [LCg.Off3, and_true]; assumption)) (by first | exact trivial | assumption) ?_))
    | fail
  k_with "subscriptTail Name Name str int" => first
    | (k_here; k_dflt (refine item_str (fitsSsize_of (N := 9223372036854775808) (by omega) (by omega) (Int.le_refl _)) (by omega) (by omega) ?_; intro hit'))
    | fail
  k_with "subscriptTail Name BinOp str int" => first
    | (k_here; k_dflt (refine item_str (fitsSsize_of (N := 9223372036854775808) (by omega) (by omega) (Int.le_refl _)) (by omega) (by omega) ?_; intro hit'))
    | fail
  k_with "CellEnd" => first
    | (k_dflt (refine' CellEnd.intro (by k_asm) (by k_asm) (by kcf_all) ?_))
    | fail
  k_with "compareOp NotIn int ref" => first
    | (k_here; k_dflt (refine notin_list_ints (News.isList (by k_asm) (by k_mem)) (by assumption) ?_))
    | fail
  k_with "pyIter ref" => (
    k_here
    (rename Fr _ _ _ _ => lF')
    (rename News _ _ _ _ => lN')
    (rename IsRange _ _ _ _ _ _ _ _ => rgX)
    k_dflt (refine' joins_loop [Str.ofString "first", Str.ofString "second", Str.ofString "size"] x y ?hL ?hh ?hr ?hs ?hn lF' lN' ?k1 ?k2 ?k3 ?hl ?j0 ?_ ?_)
    (case hL => k_dflt exact rfl)
    (case hh => k_dflt exact rfl)
    (case hr => first | exact rgX | assumption)
    (case hs => decide)
    (case hn => k_dflt exact rfl)
    (case k1 => k_dflt exact rfl)
    (case k2 => k_dflt exact rfl)
    (case k3 => k_dflt exact rfl)
    (case hl => k_dflt k_mem)
    (case j0 => k_dflt exact JoinS.start (by assumption) (by assumption))
    intro e' te' hw' th' en' e0' t0' e1' t1' k' i t' u' h' tk' I' oI' hi' hJ' hne' F' N'
    obtain ⟨hb0, hb1, hb2, hb3⟩ := JoinS.bounds hJ' hi' hx hy hx0 hy0
    (try dsimp only)
    (try k_fold)
    rotate_left
    intro e' te' hw' th' en' e0' e1' u' h' tk' hJ' F' N'
    have hb := JoinS.last hJ'
    (try dsimp only)
    rotate_right
    walk_say "LOOP STARTS")
  k_with "compareOp NotEq ref ref" => (
    k_here
    k_dflt (refine ne_two (News.isList (by k_asm) (by k_mem)) (News.isList (by k_asm) (by k_mem)) (by ktr_units) (joins_2 hJ' (by assumption) (by assumption) (by assumption)) (joins_3 hJ' (by assumption) (by assumption) (by assumption)) ?_)
    walk_say "LISTS COMPARED")
  refine' PureFn.enter ?ho ?hcd ?hbind ?hloc ?hco ?hgen ?hk ?hcell ?hc ?h
  (case' h => k_fill)
  (case ho => k_is)
  (case hcd => k_is)
  (case hbind => exact fun _ _ => BindsTo.of_eq rfl)
  (case hloc => exact locs rfl)
  (case hco => exact rfl)
  (case hgen => exact rfl)
  (case hk => exact rfl)
  (case hcell => decide)
  (case hc => decide)
  intro dp un gd cn cs L a ccd cl outer base s L' h₁ m₁ hm hcs hdp hun hH F N B X T
  subst hm
  (try dsimp only)
  (try k_fold)
  k_steps
  all_goals first
    | exact (joins_1f hJ' (by assumption) (by assumption) (by assumption) (by assumption) (by assumption) (by assumption)).elim
    | ((refine EndP.intro (by k_asm) ?_); exact congrArg Value.bool (beq_iff_eq.mpr hb))
    | ((refine' JoinP.next ?F ?N ?a ?k1 ?k2 ?k3 ?hl ?hne ?ho ?J)
       (case F => k_asm)
       (case N => k_asm)
       (case a => k_mem)
       (case k1 => exact rfl)
       (case k2 => exact rfl)
       (case k3 => exact rfl)
       (case hl => k_mem)
       (case hne => exact neN (by omega))
       (case ho => exact joins_off)
       (case J => exact JoinS.step hJ' (by assumption)))
end
end
section
open PySem PySem.W PySem.Calls PySem.Spec PyProof.Rows
section
variable {w : World} {mg mb : Str → Option Value} {loose : List Str} {mean : ExcName → Option Value}
theorem fmod_in (a : Int) {b : Int} (hb : 1 ≤ b) : 0 ≤ a.fmod b ∧ a.fmod b < b := by
  rw [Int.fmod_eq_emod_of_nonneg _ (by omega)]
  exact ⟨Int.emod_nonneg _ (by omega), Int.emod_lt_of_pos _ (by omega)⟩
theorem spun_fn (below : Int) (u : Tok) (hb0 : 1 ≤ below) (hb1 : below ≤ 1000) :
    ReelFn w mg mb loose mean 2 157 [.int below u] 1 (fun v => ∃ i t, v = .int i t ∧ 0 ≤ i ∧ i < below) := by
  k_with_none
  k_with "TurnP" => first
    | (refine' TurnP.next (by k_asm) (by k_asm) (by first | exact mem_all | k_dflt (intro p9 hp9; simp only [List.mem_cons, hp9, or_true])) (by first | exact off_of | exact off_of2 (by decide) | exact off_of3 (by decide)) ?_)
    | (refine' TurnP.ret ?_)
    | fail
  k_with "call builtin:len" => first
    | (k_here; (with_reducible show wpAny _ _ (call (Value.builtin "len") [Value.ref _]) _ _ _); k_dflt (refine' len_base (by k_asm) (by assumption) (by first | exact (rfl : ((2 : Nat) : Int) = (2 : Int)) | exact (rfl : ((3 : Nat) : Int) = (3 : Int))) (by decide) ?_))
    | fail
  k_with "KCtEl" => first
    | (k_dflt exact ⟨rfl, _, rfl⟩)
    | fail
  k_with "compareOp In str ref" => first
    | (k_here; (with_reducible rename CarriedAll _ _ => madeLook); k_dflt (refine in_made_str (by exact News.isList (by k_asm) (by k_mem)) madeLook ?_))
    | fail
  k_with "CompEnd" => first
    | (k_dflt (refine' fi_el (by k_asm) (by k_asm) (by kcf_all) (by first | assumption | (simp only [LCg.Off3, and_true]; done) | (simp only [LCg.Off3, and_true]; assumption)) (by first | exact trivial | assumption) ?_))
    | (k_dflt (refine' fi_no (by k_asm) (by k_asm) (by kcf_all) (by first | assumption | (simp only [LCg.Off3, and_true]; done) | (simp only [LCg.Off3, and_true]; assumption)) (by first | exact trivial | assumption) ?_))
    | fail
  k_with "subscriptTail Name Name str int" => first
    | (k_here; k_dflt (refine item_str (fitsSsize_of (N := 9223372036854775808) (by omega) (by omega) (Int.le_refl _)) (by omega) (by omega) ?_; intro hit'))
    | fail
  k_with "subscriptTail Name BinOp str int" => first
    | (k_here; k_dflt (refine item_str (fitsSsize_of (N := 9223372036854775808) (by omega) (by omega) (Int.le_refl _)) (by omega) (by omega) ?_; intro hit'))
    | fail
  k_with "CellEnd" => first
    | (k_dflt (refine' CellEnd.intro (by k_asm) (by k_asm) (by kcf_all) ?_))
    | fail
  k_with "compareOp NotIn int ref" => first
    | (k_here; k_dflt (refine notin_list_ints (News.isList (by k_asm) (by k_mem)) (by assumption) ?_))
    | fail
  refine' ReelFn.enter ?ho ?hcd ?hbind ?hloc ?hco ?hgen ?hk ?hcell ?hc ?h
  (case' h => k_fill)
  (case ho => k_is)
  (case hcd => k_is)
  (case hbind => exact fun _ _ _ => BindsTo.of_eq rfl)
  (case hloc => exact fun _ => locs rfl)
  (case hco => exact rfl)
  (case hgen => exact rfl)
  (case hk => exact rfl)
  (case hcell => decide)
  (case hc => decide)
  intro dp un gd cn cs L a ccd cl outer base g s L' h₁ m₁ r sl xs ns k t n hm hcs hdp hun hl hne hi hns h0 h1 F N B X T
  subst hm
  (try dsimp only)
  (try k_fold)
  k_steps
  all_goals
    (refine EndR.intro (by k_asm) (by k_asm) (by k_mem) ?_ (by omega) (by omega))
    exact ⟨_, _, rfl, fmod_in _ hb0⟩
end
end
section
open PySem PySem.W PySem.Calls PySem.Spec PyProof.Rows
section
variable {w : World} {mg mb : Str → Option Value} {loose : List Str} {mean : ExcName → Option Value}
theorem word_fn (most : Int) (u : Tok) (hb0 : 1 ≤ most) (hb1 : most ≤ 5) :
    ReelFn w mg mb loose mean 4 162 [.int most u] 6 (fun v => ∃ z t, v = .str z t ∧ 1 ≤ z.length ∧ (z.length : Int) ≤ most) := by
  k_with_none
  k_with "call ref" => (
    k_here
    first
      | ((with_reducible show wpAny _ _ (call (Value.ref 157) _) _ _ _); k_dflt (refine' ReelFn.use (spun_fn _ _ ?_ ?_) (by k_asm) (by k_asm) (by k_asm) (by k_asm) (by k_mem) (by first | is_list | exact News.isList (by k_asm) (by k_mem) | exact Fr.lst (by k_asm) (by assumption)) (by first | assumption | exact neN (by omega)) (by first | assumption | l_ints) (by first | assumption | omega) (by omega) (by omega) (by k_asm) (by first | exact rfl | assumption) (by ktr_room) (by ktr_units) ?_; (next => l_bnd); (next => l_bnd); intro v9 h9 tk9 k9 t9 n9 hP9 g19 g29 F9 U9 K9; (have N9 := U9 _ (by k_upd)); clear U9; obtain ⟨i9, t8, e9, hi9, hj9⟩ := hP9; subst e9; (try dsimp only); (try k_fold)))
      | fail)
  k_with "TurnP" => first
    | (refine' TurnP.next (by k_asm) (by k_asm) (by first | exact mem_all | k_dflt (intro p9 hp9; simp only [List.mem_cons, hp9, or_true])) (by first | exact off_of | exact off_of2 (by decide) | exact off_of3 (by decide)) ?_)
    | (refine' TurnP.ret ?_)
    | fail
  k_with "call builtin:len" => first
    | (k_here; (with_reducible show wpAny _ _ (call (Value.builtin "len") [Value.ref _]) _ _ _); k_dflt (refine' len_base (by k_asm) (by assumption) (by first | exact (rfl : ((2 : Nat) : Int) = (2 : Int)) | exact (rfl : ((3 : Nat) : Int) = (3 : Int))) (by decide) ?_))
    | fail
  k_with "KCtEl" => first
    | (k_dflt exact ⟨rfl, _, rfl⟩)
    | fail
  k_with "compareOp In str ref" => first
    | (k_here; (with_reducible rename CarriedAll _ _ => madeLook); k_dflt (refine in_made_str (by exact News.isList (by k_asm) (by k_mem)) madeLook ?_))
    | fail
  k_with "CompEnd" => first
    | (k_dflt (refine' fi_el (by k_asm) (by k_asm) (by kcf_all) (by first | assumption | (simp only [LCg.Off3, and_true]; done) | (simp only [LCg.Off3, and_true]; assumption)) (by first | exact trivial | assumption) ?_))
    | (k_dflt (refine' fi_no (by k_asm) (by k_asm) (by kcf_all) (by first | assumption | (simp only [LCg.Off3, and_true]; done) | (simp only [LCg.Off3, and_true]; assumption)) (by first | exact trivial | assumption) ?_))
    | fail
  k_with "subscriptTail Name Name str int" => first
    | (k_here; k_dflt (refine item_str (fitsSsize_of (N := 9223372036854775808) (by omega) (by omega) (Int.le_refl _)) (by omega) (by omega) ?_; intro hit'))
    | fail
  k_with "subscriptTail Name BinOp str int" => first
    | (k_here; k_dflt (refine item_str (fitsSsize_of (N := 9223372036854775808) (by omega) (by omega) (Int.le_refl _)) (by omega) (by omega) ?_; intro hit'))
    | fail
  k_with "CellEnd" => first
    | (k_dflt (refine' CellEnd.intro (by k_asm) (by k_asm) (by kcf_all) ?_))
    | fail
  k_with "compareOp NotIn int ref" => first
    | (k_here; k_dflt (refine notin_list_ints (News.isList (by k_asm) (by k_mem)) (by assumption) ?_))
    | fail
  k_with "CompEnd" => first
    | (k_dflt (refine' reel_el (by k_asm) (by k_asm) (by kcf_all) (by assumption) (by exact trivial) (by omega) (by omega) ?_))
    | fail
  k_with "call builtin:str.join" => (
    k_here
    k_dflt (refine KT.join_1 (g := fun z => z) (News.isList (by k_asm) (by k_mem)) (by assumption) (by assumption) (by omega) ?_)
    intro t8 k8 hL8)
  k_with "CompSrc" => (
    k_dflt (refine LCg.CompSrc.range (by rfl) (by k_asm) (by k_asm) (by assumption) (small_one (by omega) (by omega) (by omega) (by omega)) (rangeSize_nat _ _) (by rw [PySem.sizeLine_eq]; omega) ?_)
    intro g'
    k_dflt (refine' reel_rest (fun v' I' oI' C' oC' D' m' ys' h' tk' E' kk' t' nn' hk0' hk1' hC' hx' F' N' off' ne' => ?_) ?_)
    (all_goals (try ((have off2 := off'); (simp only [LCg.Off3, and_true] at off2))))
    kcf_last)
  refine' ReelFn.enterC ?ho ?hcd ?hbind ?hkind ?hnd ?hco ?hgen ?hk ?hc ?h
  (case' h => k_fill)
  (case ho => k_is)
  (case hcd => k_is)
  (case hbind => exact fun _ _ _ => BindsTo.of_eq rfl)
  (case hkind => exact fun _ => rfl)
  (case hnd => decide +kernel)
  (case hco => exact rfl)
  (case hgen => exact rfl)
  (case hk => exact rfl)
  (case hc => decide)
  intro dp un gd cn cs L a ccd cl outer base g s L' h₁ tk cells r sl xs ns k t n hcs hdp hun hl hne hi hns h0 h1 F N l1 Y B X T
  k_cells Y
  (try simp only [List.cons_append, List.nil_append] at N)
  (try dsimp only)
  (try k_fold)
  k_steps
  all_goals first
    | exact rfl
    | ((refine EndR.intro (by k_asm) (by k_asm) (by k_mem) ?_ (by omega) (by omega)); exact ⟨_, _, rfl, by omega, by omega⟩)
end
end
section
open PySem PySem.W PySem.Calls PySem.Spec PyProof.Rows
local macro_rules | `(tactic| k_enter) => `(tactic| (refine' code_def ?k1 ?k2 ?k3 ?k4 ?k5 ?kA ?kF ?kK ?k6 ?k7 ?k8 ?k9 ?kB ?_ ?c2 ?c3 ?c4 ?c5; (case kA => exact rfl); (case kF => exact rfl); (case kK => assumption); (case k1 => k_asm); (case k2 => k_asm); (case k3 => k_asm); (case k4 => k_asm); (case k5 => k_asm); (case k6 => k_is); (case k7 => k_is); (case k8 => k_room); (case k9 => first | exact BindsTo.of_eq rfl | exact binds_K (by k_in) rfl (by k_is) rfl rfl rfl); (case c5 => decide); (case kB => exact locs rfl); (case c2 => exact rfl); (case c3 => exact rfl); (case c4 => exact rfl); k_whole; intro g' L' h' FG' F' N' B' X' T'; (try dsimp only); (try k_lift B'); (try k_fold)))
def WorldFn (w : World) (mg mb : Str → Option Value) (loose : List Str) (mean : ExcName → Option Value) (t u : Tok) : Prop :=
  ∀ (dp un : Nat) (gd : Option (List Code)) (cn : Str) (cs : Scope) (a : Addr) (ccd : Value) (cl : List (Str × Addr)) (outer : List Env) (A₀ : Around) (base h₀ : Heap) (L : Addr) (m : Str → Option Value) (s : Shared) (Q E : Value → Shared → Prop) (d0 d1 : Addr) (o0 o1 : Obj),
    Below A₀ base outer h₀ → Fr h₀ L s.heap m → (Atop.hd.heap_39 w.params).In h₀ → News h₀ L s.heap [(d0, o0), (d1, o1)] → Top Atop.hd.view_39 loose mean mg mb h₀ → cs.kind = .function → dp + 3 < recursionLimit → un + 8 * 3 < cLine →
    (∀ a h' tk, Fr h₀ L h' m → News h₀ L h' [(d0, o0), (d1, o1)] → Q (.ref a) { s with heap := h', toks := tk }) →
    wpAny (model PySem.Challenge.rw_tk0002_01.row.prog w) (ktrTop dp un gd cn cs L a ccd cl outer) (call (.ref 146) [.int 16 t, .int 9 u]) Q E s
theorem world_fn {w : World} {mg mb : Str → Option Value} {loose : List Str} {mean : ExcName → Option Value} (t u : Tok) : WorldFn w mg mb loose mean t u := by
  k_with_none
  k_with "TurnP" => first
    | (refine' TurnP.next (by k_asm) (by k_asm) (by first | exact mem_all | k_dflt (intro p9 hp9; simp only [List.mem_cons, hp9, or_true])) (by first | exact off_of | exact off_of2 (by decide) | exact off_of3 (by decide)) ?_)
    | (refine' TurnP.ret ?_)
    | fail
  k_with "call builtin:len" => first
    | (k_here; (with_reducible show wpAny _ _ (call (Value.builtin "len") [Value.ref _]) _ _ _); k_dflt (refine' len_base (by k_asm) (by assumption) (by first | exact (rfl : ((2 : Nat) : Int) = (2 : Int)) | exact (rfl : ((3 : Nat) : Int) = (3 : Int))) (by decide) ?_))
    | fail
  k_with "KCtEl" => first
    | (k_dflt exact ⟨rfl, _, rfl⟩)
    | fail
  k_with "compareOp In str ref" => first
    | (k_here; (with_reducible rename CarriedAll _ _ => madeLook); k_dflt (refine in_made_str (by exact News.isList (by k_asm) (by k_mem)) madeLook ?_))
    | fail
  k_with "CompEnd" => first
    | (k_dflt (refine' fi_el (by k_asm) (by k_asm) (by kcf_all) (by first | assumption | (simp only [LCg.Off3, and_true]; done) | (simp only [LCg.Off3, and_true]; assumption)) (by first | exact trivial | assumption) ?_))
    | (k_dflt (refine' fi_no (by k_asm) (by k_asm) (by kcf_all) (by first | assumption | (simp only [LCg.Off3, and_true]; done) | (simp only [LCg.Off3, and_true]; assumption)) (by first | exact trivial | assumption) ?_))
    | fail
  k_with "subscriptTail Name Name str int" => first
    | (k_here; k_dflt (refine item_str (fitsSsize_of (N := 9223372036854775808) (by omega) (by omega) (Int.le_refl _)) (by omega) (by omega) ?_; intro hit'))
    | fail
  k_with "subscriptTail Name BinOp str int" => first
    | (k_here; k_dflt (refine item_str (fitsSsize_of (N := 9223372036854775808) (by omega) (by omega) (Int.le_refl _)) (by omega) (by omega) ?_; intro hit'))
    | fail
  k_with "CellEnd" => first
    | (k_dflt (refine' CellEnd.intro (by k_asm) (by k_asm) (by kcf_all) ?_))
    | fail
  k_with "compareOp NotIn int ref" => first
    | (k_here; k_dflt (refine notin_list_ints (News.isList (by k_asm) (by k_mem)) (by assumption) ?_))
    | fail
  unfold WorldFn
  k_fill
  intro dp un gd cn cs a ccd cl outer A₀ base h₀ L m s Q E d0 d1 o0 o1 B F X N T hcs hdp hun ret
  k_steps
  (rename News _ _ _ _ => kN9)
  exact ret _ _ _ (by k_asm) (kst_newsOf kN9 (by kcf_all))
end
section
open PySem PySem.W PySem.Calls PySem.Spec PyProof.Rows
theorem rot_len (y : Str) (k : Int) (hk : 0 ≤ k) : (Txt.slice y (some k) none ++ Txt.slice y none (some k)).length = y.length := by
  rw [← wl_len, rot_wl hk, List.length_append, List.length_drop, List.length_take, wl_len]; omega
theorem head_len (y : Str) : (Txt.slice y none (some 9)).length = min 9 y.length := slice_to_len y 9 (by decide)
theorem law_1 {x y j1 j2 r1 r2 : Str} (hx : 0 < x.length) (hy : 0 < y.length) (h1 : wl j1 = wl x ++ wl y) (h2 : wl j2 = wl y ++ wl x) (g1 : RootW (wl x) (wl r1)) (g2 : RootW (wl y) (wl r2)) (ne : ((j1 == j2) != (r1 == r2)) = true) : False := by
  rw [bne_iff_ne] at ne
  apply ne
  rw [Bool.eq_iff_iff, beq_iff_eq, beq_iff_eq, wl_iff, wl_iff, h1, h2]
  exact commute_root (by rw [wl_len]; exact hx) (by rw [wl_len]; exact hy) g1 g2
section
variable {prog : Program} {w : World} {A : Around} {E : Value → Shared → Prop} {s : Shared} {Q : Value → Shared → Prop}
theorem mul_word {x : Str} {n : Int} {t u : Tok} (h0 : 1 ≤ x.length) (h1 : x.length ≤ 3) (n0 : 1 ≤ n) (n1 : n ≤ 3) (h : ∀ r t' k, 1 ≤ r.length → r.length ≤ 9 → Q (.str r t') { s with toks := k }) :
    wpAny (model prog w) A (binaryOp .Mult (.str x t) (.int n u)) Q E s := by
  refine SB.mul (mulOk_of 255 255 (by omega) (by omega) (by omega) (by decide) (by decide)) fun t' k => ?_
  have hl : (Txt.mul x n).length = n.toNat * x.length := by
    rw [← wl_len, mul_wl x n (by omega), flatten_len, wl_len]
  have : n = 1 ∨ n = 2 ∨ n = 3 := by omega
  refine h _ t' k ?_ ?_ <;> rw [hl] <;> rcases this with rfl | rfl | rfl <;> simp <;> omega
end

theorem all : PySem.Challenge.rw_tk0002_01.Holds := Atop.hd (by
  k_with_none
  k_with "call ref" => (
    k_here
    first
      | ((with_reducible show wpAny _ _ (call (Value.ref 146) _) _ _ _); k_dflt (refine' world_fn _ _ _ _ _ _ _ _ _ _ _ _ _ _ _ _ _ _ _ _ _ _ _ (by k_asm) (by k_asm) (by k_asm) (by k_asm) (by k_asm) (by first | exact rfl | assumption) (by ktr_room) (by ktr_units) ?_; intro a9 h9 tk9 F9 N9; (try dsimp only); (try k_fold)))
      | ((with_reducible show wpAny _ _ (call (Value.ref 162) _) _ _ _); k_dflt (refine' ReelFn.use (word_fn _ _ ?_ ?_) (by k_asm) (by k_asm) (by k_asm) (by k_asm) (by k_mem) (by first | is_list | exact News.isList (by k_asm) (by k_mem) | exact Fr.lst (by k_asm) (by assumption)) (by first | assumption | exact neN (by omega)) (by first | assumption | l_ints) (by first | assumption | omega) (by omega) (by omega) (by k_asm) (by first | exact rfl | assumption) (by ktr_room) (by ktr_units) ?_; (next => l_bnd); (next => l_bnd); intro v9 h9 tk9 k9 t9 n9 hP9 g19 g29 F9 U9 K9; (have N9 := U9 _ (by k_upd)); clear U9; obtain ⟨z9, t8, e9, hi9, hj9⟩ := hP9; subst e9; (try dsimp only); (try k_fold)))
      | ((with_reducible show wpAny _ _ (call (Value.ref 157) _) _ _ _); k_dflt (refine' ReelFn.use (spun_fn _ _ ?_ ?_) (by k_asm) (by k_asm) (by k_asm) (by k_asm) (by k_mem) (by first | is_list | exact News.isList (by k_asm) (by k_mem) | exact Fr.lst (by k_asm) (by assumption)) (by first | assumption | exact neN (by omega)) (by first | assumption | l_ints) (by first | assumption | omega) (by omega) (by omega) (by k_asm) (by first | exact rfl | assumption) (by ktr_room) (by ktr_units) ?_; (next => l_bnd); (next => l_bnd); intro v9 h9 tk9 k9 t9 n9 hP9 g19 g29 F9 U9 K9; (have N9 := U9 _ (by k_upd)); clear U9; obtain ⟨i9, t8, e9, hi9, hj9⟩ := hP9; subst e9; (try dsimp only); (try k_fold)))
      | ((with_reducible show wpAny _ _ (call (Value.ref 193) _) _ _ _); k_dflt (refine' PureFn.use (joins_fn _ _ _ _ _ ?_ ?_ ?_ ?_) (by k_asm) (by k_asm) (by k_asm) (by k_asm) (by k_asm) (by first | exact rfl | assumption) (by ktr_room) (by ktr_units) (by first | exact trivial | assumption | is_list | exact News.isList (by k_asm) (by k_mem)) ?_; (next => walk_at "mine length"); (next => walk_at "mine length"); (next => walk_at "mine length"); (next => walk_at "mine length"); intro v9 h9 tk9 hP9 F9 N9 K9; (have e9 : v9 = Value.bool true := hP9); subst e9; (try dsimp only); (try k_fold)))
      | ((with_reducible show wpAny _ _ (call (Value.ref 186) _) _ _ _); k_dflt (refine' PureFn.use (lengths_fn _ _ _ ?_ ?_) (by k_asm) (by k_asm) (by k_asm) (by k_asm) (by k_asm) (by first | exact rfl | assumption) (by ktr_room) (by ktr_units) (by first | exact trivial | assumption | is_list | exact News.isList (by k_asm) (by k_mem)) ?_; (next => walk_at "mine length"); (next => walk_at "mine length"); intro v9 h9 tk9 hP9 F9 N9 K9; (have e9 : v9 = Value.bool true := hP9); subst e9; (try dsimp only); (try k_fold)))
      | ((with_reducible show wpAny _ _ (call (Value.ref 181) _) _ _ _); k_dflt (refine' PureFn.use (turns_fn _ _ _ _ _ ?_ ?_ ?_ ?_) (by k_asm) (by k_asm) (by k_asm) (by k_asm) (by k_asm) (by first | exact rfl | assumption) (by ktr_room) (by ktr_units) (by first | exact trivial | assumption | is_list | exact News.isList (by k_asm) (by k_mem)) ?_; (next => walk_at "mine length"); (next => walk_at "mine length"); (next => walk_at "mine length"); (next => walk_at "mine length"); intro v9 h9 tk9 hP9 F9 N9 K9; (have e9 : v9 = Value.bool true := hP9); subst e9; (try dsimp only); (try k_fold)))
      | ((with_reducible show wpAny _ _ (call (Value.ref 169) _) _ _ _); k_dflt (refine' PureFn.use (root_fn _ _ ?_ ?_) (by k_asm) (by k_asm) (by k_asm) (by k_asm) (by k_asm) (by first | exact rfl | assumption) (by ktr_room) (by ktr_units) (by first | exact trivial | assumption | is_list | exact News.isList (by k_asm) (by k_mem)) ?_; (next => l_bnd); (next => l_bnd); intro v9 h9 tk9 hP9 F9 N9 K9; obtain ⟨r9, t9, e9, hR9, hL9, hM9⟩ := hP9; subst e9; (try dsimp only); (try k_fold)))
      | ((with_reducible show wpAny _ _ (call (Value.ref 128) _) _ _ _); k_dflt (refine' PureFn.use (joined_fn _ _ _ _ ?_) (by k_asm) (by k_asm) (by k_asm) (by k_asm) (by k_asm) (by first | exact rfl | assumption) (by ktr_room) (by ktr_units) (by first | exact trivial | assumption | is_list | exact News.isList (by k_asm) (by k_mem)) ?_; (next => l_bnd); intro v9 h9 tk9 hP9 F9 N9 K9; obtain ⟨r9, t9, e9, hR9, hL9⟩ := hP9; subst e9; (try dsimp only); (try k_fold)))
      | fail)
  k_with "TurnP" => first
    | (refine' TurnP.next (by k_asm) (by k_asm) (by first | exact mem_all | k_dflt (intro p9 hp9; simp only [List.mem_cons, hp9, or_true])) (by first | exact off_of | exact off_of2 (by decide) | exact off_of3 (by decide)) ?_)
    | (refine' TurnP.ret ?_)
    | fail
  k_with "call builtin:len" => first
    | (k_here; (with_reducible show wpAny _ _ (call (Value.builtin "len") [Value.ref _]) _ _ _); k_dflt (refine' len_base (by k_asm) (by assumption) (by first | exact (rfl : ((2 : Nat) : Int) = (2 : Int)) | exact (rfl : ((3 : Nat) : Int) = (3 : Int))) (by decide) ?_))
    | fail
  k_with "KCtEl" => first
    | (k_dflt exact ⟨rfl, _, rfl⟩)
    | fail
  k_with "compareOp In str ref" => first
    | (k_here; (with_reducible rename CarriedAll _ _ => madeLook); k_dflt (refine in_made_str (by exact News.isList (by k_asm) (by k_mem)) madeLook ?_))
    | fail
  k_with "CompEnd" => first
    | (k_dflt (refine' fi_el (by k_asm) (by k_asm) (by kcf_all) (by first | assumption | (simp only [LCg.Off3, and_true]; done) | (simp only [LCg.Off3, and_true]; assumption)) (by first | exact trivial | assumption) ?_))
    | (k_dflt (refine' fi_no (by k_asm) (by k_asm) (by kcf_all) (by first | assumption | (simp only [LCg.Off3, and_true]; done) | (simp only [LCg.Off3, and_true]; assumption)) (by first | exact trivial | assumption) ?_))
    | fail
  k_with "subscriptTail Name Name str int" => first
    | (k_here; k_dflt (refine item_str (fitsSsize_of (N := 9223372036854775808) (by omega) (by omega) (Int.le_refl _)) (by omega) (by omega) ?_; intro hit'))
    | fail
  k_with "subscriptTail Name BinOp str int" => first
    | (k_here; k_dflt (refine item_str (fitsSsize_of (N := 9223372036854775808) (by omega) (by omega) (Int.le_refl _)) (by omega) (by omega) ?_; intro hit'))
    | fail
  k_with "CellEnd" => first
    | (k_dflt (refine' CellEnd.intro (by k_asm) (by k_asm) (by kcf_all) ?_))
    | fail
  k_with "compareOp NotIn int ref" => first
    | (k_here; k_dflt (refine notin_list_ints (News.isList (by k_asm) (by k_mem)) (by assumption) ?_))
    | fail
  k_with "mine length" => first
    | omega
    | (rw [rot_len _ _ (by omega)]; omega)
    | (rw [head_len, Str.length_append]; omega)
    | fail
  k_with "binaryOp Mult str int" => (
    k_here
    k_dflt (refine mul_word (by omega) (by omega) (by omega) (by omega) ?_)
    intro r9 t9 k9 h09 h19)
  k_go0
  all_goals try k_fold
  k_steps
  all_goals (refine' (law_1 ?lw1 ?lw2 ?lw3 ?lw4 ?lw5 ?lw6 ?lw7).elim; (case lw7 => assumption); (case lw3 => assumption); (case lw4 => assumption); (case lw5 => assumption); (case lw6 => assumption); (case lw1 => omega); (case lw2 => omega)))
end
end Mine

theorem PySem.Challenge.cw_tk0002_01_holds : PySem.Challenge.rw_tk0002_01.Holds :=
  Mine.all
