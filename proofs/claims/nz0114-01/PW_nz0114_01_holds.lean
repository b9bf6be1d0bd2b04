import PyProof.Rows.All
import Wide.All
import OpenK.AllK
import Wide.FinOn
import Lean
import PySem.Challenge.RW_nz0114_01
open PySem PySem.W PyProof.Rows
set_option Elab.async false
set_option maxRecDepth 100000
set_option maxHeartbeats 8000000
set_option linter.unusedVariables false

section NzHead
open PySem PySem.W PyProof.Rows
namespace Mine
open_top hd for PySem.Challenge.rw_nz0114_01
end Mine

end NzHead

section NzMath
namespace Mine
/-! Plain facts: a map of the naturals to options, its ways and its rings. -/

/-- from x, link by link, an end is reached -/
inductive Ends (f : Nat → Option Nat) : Nat → Prop
  | stop {x : Nat} : f x = none → Ends f x
  | step {x y : Nat} : f x = some y → Ends f y → Ends f x

/-- y lies on the way from x -/
inductive Reach (f : Nat → Option Nat) (x : Nat) : Nat → Prop
  | refl : Reach f x x
  | step {y z : Nat} : Reach f x y → f y = some z → Reach f x z

theorem not_ends_of_ring {f : Nat → Option Nat} {S : Nat → Prop} (h : ∀ x, S x → ∃ y, S y ∧ f x = some y) {x : Nat} (e : Ends f x) : ¬ S x := by
  induction e with
  | stop h0 =>
    intro hx
    obtain ⟨y, _, hy⟩ := h _ hx
    rw [h0] at hy; cases hy
  | step h1 _ ih =>
    intro hx
    obtain ⟨y, hy, hf⟩ := h _ hx
    rw [h1] at hf
    cases hf
    exact ih hy

theorem reach_closed {f : Nat → Option Nat} {S : Nat → Prop} (h : ∀ x y, S x → f x = some y → S y) {a x : Nat} (ha : S a) (r : Reach f a x) : S x := by
  induction r with
  | refl => exact ha
  | step _ hf ih => exact h _ _ ih hf

/-- a list of naturals below n without a twin has n items at most -/
theorem nodup_length : ∀ (n : Nat) (l : List Nat), l.Nodup → (∀ x ∈ l, x < n) → l.length ≤ n := by
  intro n
  induction n with
  | zero =>
    intro l _ h
    cases l with
    | nil => exact Nat.le_refl _
    | cons a r => exact absurd (h a (.head _)) (Nat.not_lt_zero _)
  | succ n ih =>
    intro l hn h
    have h1 : (l.filter (fun x => x != n)).length ≤ n := by
      refine ih _ (hn.filter _) fun x hx => ?_
      have h2 := List.mem_filter.mp hx
      have h3 := h x h2.1
      have h4 : x ≠ n := by simpa using h2.2
      omega
    have h5 : l.length ≤ (l.filter (fun x => x != n)).length + 1 := by
      clear ih h h1
      induction l with
      | nil => simp
      | cons a r ihr =>
        have hr := List.nodup_cons.mp hn
        by_cases e : a = n
        · subst e
          have h6 : r.filter (fun x => x != a) = r := by
            apply List.filter_eq_self.mpr
            intro x hx
            have : x ≠ a := fun q => hr.1 (q ▸ hx)
            simpa using this
          simp [h6]
        · have := ihr hr.2
          simp [e]
          omega
    omega

/-- c is a way by f, from a to z, without a twin, below n -/
structure Way (f : Nat → Option Nat) (n a : Nat) (c : List Nat) (z : Nat) : Prop where
  head : c.head? = some a
  last : c.getLast? = some z
  nodup : c.Nodup
  below : ∀ x ∈ c, x < n
  link : ∀ (i x y : Nat), c[i]? = some x → c[i + 1]? = some y → f x = some y

theorem Way.one {f : Nat → Option Nat} {n a : Nat} (h : a < n) : Way f n a [a] a := by
  refine ⟨rfl, rfl, by simp, by simp [h], ?_⟩
  intro i x y _ hy
  simp at hy

theorem Way.mem_first {f : Nat → Option Nat} {n a z : Nat} {c : List Nat} (W : Way f n a c z) : a ∈ c := List.mem_of_head? W.head
theorem Way.mem_last {f : Nat → Option Nat} {n a z : Nat} {c : List Nat} (W : Way f n a c z) : z ∈ c := List.mem_of_getLast? W.last

theorem Way.more {f : Nat → Option Nat} {n a z y : Nat} {c : List Nat} (W : Way f n a c z) (h : f z = some y) (hy : y ∉ c) (hn : y < n) : Way f n a (c ++ [y]) y := by
  have hne : c ≠ [] := by intro e; have := W.head; rw [e] at this; cases this
  refine ⟨?_, by simp, ?_, ?_, ?_⟩
  · have := W.head
    cases c with
    | nil => exact absurd rfl hne
    | cons x r => simpa using this
  · rw [List.nodup_append]
    refine ⟨W.nodup, by simp, ?_⟩
    intro x hx b hb e
    rw [List.mem_singleton.mp hb] at e
    exact hy (e ▸ hx)
  · intro x hx
    rcases List.mem_append.mp hx with h1 | h1
    · exact W.below x h1
    · rw [List.mem_singleton.mp h1]; exact hn
  · intro i x w hx hw
    by_cases h1 : i + 1 < c.length
    · rw [List.getElem?_append_left (by omega)] at hx
      rw [List.getElem?_append_left h1] at hw
      exact W.link i x w hx hw
    · have h2 : i + 1 < (c ++ [y]).length := by
        rcases Nat.lt_or_ge (i + 1) (c ++ [y]).length with h | h
        · exact h
        · rw [List.getElem?_eq_none h] at hw; cases hw
      have h3 : i + 1 = c.length := by simp at h2; omega
      rw [List.getElem?_append_right (by omega)] at hw
      rw [h3] at hw
      simp at hw
      subst hw
      rw [List.getElem?_append_left (by omega)] at hx
      have hl := W.last
      rw [List.getLast?_eq_getElem?] at hl
      have : c.length - 1 = i := by omega
      rw [this, hx] at hl
      cases hl
      exact h

theorem Way.length_le {f : Nat → Option Nat} {n a z : Nat} {c : List Nat} (W : Way f n a c z) : c.length ≤ n := nodup_length n c W.nodup W.below

theorem Way.length_pos {f : Nat → Option Nat} {n a z : Nat} {c : List Nat} (W : Way f n a c z) : 0 < c.length := by
  cases c with
  | nil => have := W.head; cases this
  | cons => simp

/-- each item of the way but its last hangs on an item of it -/
theorem Way.inner {f : Nat → Option Nat} {n a z : Nat} {c : List Nat} (W : Way f n a c z) {x : Nat} (hx : x ∈ c) : x = z ∨ ∃ y ∈ c, f x = some y := by
  obtain ⟨i, hi, e⟩ := List.mem_iff_getElem.mp hx
  by_cases h : i + 1 < c.length
  · right
    refine ⟨c[i + 1], List.getElem_mem h, W.link i x _ ?_ (by simp [h])⟩
    rw [List.getElem?_eq_getElem hi, e]
  · left
    have hl := W.last
    rw [List.getLast?_eq_getElem?] at hl
    have h2 : c.length - 1 = i := by omega
    rw [h2, List.getElem?_eq_getElem hi, e] at hl
    cases hl
    rfl

theorem Way.reach {f : Nat → Option Nat} {n a z : Nat} {c : List Nat} (W : Way f n a c z) {x : Nat} (hx : x ∈ c) : Reach f a x := by
  obtain ⟨i, hi, e⟩ := List.mem_iff_getElem.mp hx
  induction i generalizing x with
  | zero =>
    have h0 := W.head
    rw [List.head?_eq_getElem?, List.getElem?_eq_getElem hi, e] at h0
    cases h0
    exact .refl
  | succ i ih =>
    have hi' : i < c.length := by omega
    refine .step (ih (List.getElem_mem hi') hi' rfl) (W.link i _ x ?_ ?_)
    · exact List.getElem?_eq_getElem hi'
    · rw [List.getElem?_eq_getElem hi, e]

theorem Reach.trans {f : Nat → Option Nat} {a b x : Nat} (h : Reach f a b) (r : Reach f b x) : Reach f a x := by
  induction r with
  | refl => exact h
  | step _ hf ih => exact .step ih hf
theorem Ends.of_reach {f : Nat → Option Nat} {a x : Nat} (r : Reach f a x) (e : Ends f x) : Ends f a := by
  induction r with
  | refl => exact e
  | step _ hf ih => exact ih (.step hf e)

/-- the way came to an end -/
theorem Way.ends {f : Nat → Option Nat} {n a z : Nat} {c : List Nat} (W : Way f n a c z) (h : f z = none) : Ends f a := Ends.of_reach (W.reach W.mem_last) (.stop h)
theorem Way.closed_end {f : Nat → Option Nat} {n a z : Nat} {c : List Nat} (W : Way f n a c z) (h : f z = none) : ∀ x y, x ∈ c → f x = some y → y ∈ c := by
  intro x y hx hf
  rcases W.inner hx with e | ⟨y', hy', hf'⟩
  · rw [e, h] at hf; cases hf
  · rw [hf] at hf'; cases hf'; exact hy'
/-- the way came back upon itself -/
theorem Way.ring {f : Nat → Option Nat} {n a z y : Nat} {c : List Nat} (W : Way f n a c z) (h : f z = some y) (hy : y ∈ c) : ¬ Ends f a := fun e =>
  not_ends_of_ring (S := fun x => x ∈ c) (fun x hx => by
    rcases W.inner hx with e | ⟨y', hy', hf'⟩
    · exact ⟨y, hy, e ▸ h⟩
    · exact ⟨y', hy', hf'⟩) e W.mem_first
theorem Way.closed_ring {f : Nat → Option Nat} {n a z y : Nat} {c : List Nat} (W : Way f n a c z) (h : f z = some y) (hy : y ∈ c) : ∀ x y, x ∈ c → f x = some y → y ∈ c := by
  intro x w hx hf
  rcases W.inner hx with e | ⟨y', hy', hf'⟩
  · rw [e, h] at hf; cases hf; exact hy
  · rw [hf] at hf'; cases hf'; exact hy'
end Mine

end NzMath

section NzBase
open PySem PySem.Spec PySem.Calls PySem.W PyProof.Rows
namespace Mine

theorem fill : PySem.Challenge.rw_nz0114_01 = PySem.Challenge.rw_nz0114_01 ∧ hd.heap_39 = hd.heap_39 := by
  k_fill
  exact ⟨rfl, rfl⟩

section
variable {prog : Program} {w : World} {A A₀ : Around} {s : Shared} {K : Frag} {L : Addr} {h₀ base : Heap} {m mg mb : Str → Option Value} {news : List (Addr × Obj)} {p : Program} {loose : List Str} {mean : ExcName → Option Value}

theorem enter {env : Env} {outer : List Env} {R : Result → Shared → Prop} {name qual : Str} {params : Arguments} {body : List Stmt} {scope : Scope} {dV kV doc pm cdv ct oc : Value} {an od : Option Addr} {osl : Array (Option Value)} {f : Addr} {args : Args} {binds : List (Str × Value)}
    (B : Below A₀ base outer h₀) (F : Fr h₀ L s.heap m) (X₀ : K.In h₀) (N : News h₀ L s.heap news) (T : Top p loose mean mg mb h₀) (hA : A.frames = some (env :: outer)) (hf : env.frame = some L) (hke : env.scope.kind = .function)
    (ho : K.lookup f = some ⟨oc, od, .func (fnOf name qual params body scope dV kV doc pm an cdv ct), osl⟩) (hcd : codeIn K cdv qual = true) (hroom : A.depth < recursionLimit)
    (hbind : BindsTo s (fnOf name qual params body scope dV kV doc pm an cdv ct) args binds) (hloc : ∀ y ∈ binds, scope.names.lookup y.1 = some .local)
    (h : ∀ g L' h₁, Fr g L' h₁ (fun y => binds.reverse.lookup y) → News g L' h₁ news → Below A base (env :: outer) g → K.In g → Top p loose mean mg mb g → GSub s.heap g (news.map (·.1)) → h₀.StaysIn g →
      wpAny (model prog w) (A.deeper (envOf qual scope L' f cdv)) (execs body (envOf qual scope L' f cdv))
        (fun fl s' => R (.ok (.ret (match fl with | .ret v => v | _ => .none))) s')
        (fun e s' => wpAny (model prog w) (A.deeper (envOf qual scope L' f cdv)) (leaving (envOf qual scope L' f cdv) e) (fun _ s'' => R (.error e) s'') (fun e' s'' => R (.error e') s'') s')
        { s with heap := h₁, toks := s.toks + binds.length })
    (hco : scope.isCoroutine = false) (hgen : scope.isGenerator = false) (hk : scope.kind = .function)
    (hcell : ∀ x ∈ scope.names, x.2 ≠ .cell) : codeAny (model prog w) A (.call (.ref f) args) R s := by
  obtain ⟨FG, BG, st, lv⟩ := groundX (R := R) B F N hA hf hke
  refine codeAny_call_def (fd := fnX name qual params body scope [] dV kV doc pm an cdv ct) (body := body) (binds := binds) hroom ((X₀.keeps F.keep) _ _ ho) rfl (T.nolimit.keeps F.keep) (codeRec_of (X₀.keeps F.keep) hcd) rfl hbind hcell hloc (fun h₁ hns hk₁ => ?_) hco hgen hk
  exact h _ s.heap.objs.size h₁ ⟨hns, fun b o e => hk₁ b o (of_hideAll _ e), Nat.le_of_eq (hideAll_size _ _)⟩
    (fun p hp => ⟨hk₁ _ _ (N p hp).1, Nat.ne_of_lt (Heap.lt_size (N p hp).1), hideAll_none _ (List.mem_map_of_mem hp)⟩) BG (X₀.keeps st) (T.keeps st) (fun b o e n => hideAll_get _ e n) st

/-- in a call of a plain def, from any frame of a def -/
abbrev Enters (prog : Program) (w : World) (f : Addr) (d : Nat) (u : Nat) (Pre : Heap → Addr → Shared → List Value → (Value → Shared → Prop) → Prop) : Prop :=
  ∀ (p : Program) (loose : List Str) (mean : ExcName → Option Value) (mg mb : Str → Option Value) (dp un : Nat) (gd : Option (List Code)) (cn : Str) (cs : Scope) (a : Addr) (ccd : Value) (cl : List (Str × Addr)) (outer : List Env) (A₀ : Around) (base h₀ : Heap) (L : Addr) (m : Str → Option Value) (s : Shared) (vs : List Value) (Q E : Value → Shared → Prop),
    Below A₀ base outer h₀ → Fr h₀ L s.heap m → (hd.heap_39 w.params).In h₀ → Top p loose mean mg mb h₀ → cs.kind = .function → dp + d < recursionLimit → un + u < cLine → Pre h₀ L s vs Q →
      wpAny (model prog w) (ktrTop dp un gd cn cs L a ccd cl outer) (call (.ref f) vs) Q E s
end

/-- the walk is to stop here -/
def Halt (P : Prop) : Prop := P
theorem Halt.out {P : Prop} (h : Halt P) : P := h
theorem Halt.goOn {P : Prop} (h : P) : Halt P := h
theorem canon {m : Str → Option Value} (ps : List (Str × Value)) (h : ∀ p ∈ ps, m p.1 = some p.2) : m = kstB m ps := funext fun z => (kstB_eq h fun _ => rfl).symm
theorem canon2 {m : Str → Option Value} {x y : Str} {a b : Value} (h1 : m x = some a) (h2 : m y = some b) : m = kstB m [(x, a), (y, b)] := canon _ (by
  intro p hp
  rcases List.mem_cons.mp hp with rfl | hp
  · exact h1
  · rcases List.mem_cons.mp hp with rfl | hp
    · exact h2
    · cases hp)
theorem canon3 {m : Str → Option Value} {x y z : Str} {a b c : Value} (h1 : m x = some a) (h2 : m y = some b) (h3 : m z = some c) : m = kstB m [(x, a), (y, b), (z, c)] := canon _ (by
  intro p hp
  rcases List.mem_cons.mp hp with rfl | hp
  · exact h1
  · rcases List.mem_cons.mp hp with rfl | hp
    · exact h2
    · rcases List.mem_cons.mp hp with rfl | hp
      · exact h3
      · cases hp)

theorem none_back {h g : Heap} {a : Addr} (k : ∀ b o, h.get? b = some o → g.get? b = some o) (e : g.get? a = none) : h.get? a = none := by
  cases q : h.get? a with
  | none => rfl
  | some o => rw [k a o q] at e; cases e
theorem news_none {h₀ h : Heap} {L q : Addr} {o : Obj} {led : List (Addr × Obj)} (N : News h₀ L h led) (hm : (q, o) ∈ led) : h₀.get? q = none := (N _ hm).2.2
theorem item_list {prog : Program} {w : World} {A : Around} {E : Value → Shared → Prop} {s : Shared} {value slice : PySem.Expr} {l : Addr} {vs : List Value} {k : Int} {u : Tok} {v : Value} {Q : Value → Shared → Prop} {h₀ : Heap} {L : Addr} {m : Str → Option Value}
    (F : Fr h₀ L s.heap m) (hl : h₀.IsList l vs.toArray) (h0 : 0 ≤ k) (hhi : k < 2 ^ 63) (hx : vs[k.toNat]? = some v) (h : Q v s)
    (hs : subscripted slice false (.ref l) (.int k u) = operate [.ref l, .int k u] (getItem (.ref l) (.int k u)) := by with_unfolding_all rfl) :
    wpAny (model prog w) A (subscriptTail value slice (.ref l) (.int k u)) Q E s :=
  have hl' : s.heap.IsList l vs.toArray := hl.at fun o e => F.keep l o e
  tail_any hl'.typeIs slot_list_getitem.lookup (wpAny_getItem_list hl' h0 hhi (by simpa using hx) h) hs

theorem ints_more {ms : List Value} {c : List Nat} {y : Nat} {t : Tok} (h : IntsAre ms (c.map Int.ofNat)) : IntsAre (ms ++ [.int (y : Int) t]) ((c ++ [y]).map Int.ofNat) := by
  induction c generalizing ms with
  | nil => cases h; exact .cons _ _ .nil
  | cons x r ih => cases h with | cons n t' h' => exact .cons _ _ (ih h')

theorem mem_of_any {c : List Nat} {y : Nat} (h : ((List.map Int.ofNat c).any fun x => x == (y : Int)) = true) : y ∈ c := by
  obtain ⟨x, hx, e⟩ := List.any_eq_true.mp h
  obtain ⟨z, hz, rfl⟩ := List.mem_map.mp hx
  have e' : (z : Int) = (y : Int) := by simpa using e
  have : z = y := by omega
  exact this ▸ hz
theorem not_mem_of_any {c : List Nat} {y : Nat} (h : ((List.map Int.ofNat c).any fun x => x == (y : Int)) = false) : y ∉ c := by
  intro hy
  have : ((List.map Int.ofNat c).any fun x => x == (y : Int)) = true := List.any_eq_true.mpr ⟨(y : Int), List.mem_map.mpr ⟨y, hy, rfl⟩, by simp⟩
  rw [h] at this; cases this

section
variable {prog : Program} {w : World} {A : Around} {E : Value → Shared → Prop} {s : Shared} {env : Env} {h₀ : Heap} {x : Str} {body : List Stmt} {Q : Flow → Shared → Prop}
/-- a loop over a range by an invariant of the turn's number, the frame's names and the ledger -/
theorem iter_rangeJ {r L : Addr} {b₀ : Int} {t₀ u₀ v₀ : Tok} {n : Nat} {m₀ : Str → Option Value} {news : List (Addr × Obj)}
    (J : Nat → (Str → Option Value) → List (Addr × Obj) → Prop)
    (hh : A.handled = none) (hr : IsRange s.heap r 0 b₀ 1 t₀ u₀ v₀) (hn : b₀ = (n : Int)) (hs : n ≤ 1000) (F : Fr h₀ L s.heap m₀) (N : News h₀ L s.heap news) (hj : J 0 m₀ news)
    (turn : ∀ (i : Nat) t m₁ nx h tk own, i < n → OwnOff own (news.map (·.1)) → J i m₁ nx → Fr h₀ L h (fun y => if y = x then some (.int (i : Int) t) else m₁ y) → News h₀ L h (nx ++ own) →
      wpAny (model prog w) A (execs body env) (InvPostN h₀ L (J (i + 1)) own (news.map (·.1)) { s with heap := h, toks := tk } Q) E { s with heap := h, toks := tk })
    (done : ∀ m₁ nx h tk, J n m₁ nx → Fr h₀ L h m₁ → News h₀ L h nx → Q .next { s with heap := h, toks := tk })
    (hL : env.locals = L := by rfl) :
    wpAny (model prog w) A (pyIter (.ref r)) (fun it s₂ => LoopAtV prog w A h₀ env x body Q E it s₂) E s := by
  subst hn
  subst hL
  have hsz : Builtin.Range.rangeSize 0 (n : Int) 1 = (n : Int) := by have := rangeSize_nat 0 n; simpa using this
  refine wpAny_pyIter_range hr (small_one (by omega) (by omega) (by omega) (by omega)) ?_
  have W : Walks prog w A s.heap.objs.size [s.heap.objs.size] [s.heap.objs.size] n (fun i v => i < n ∧ ∃ t, v = .int (0 + i * 1) t)
      (fun i h => IsRangeIter h s.heap.objs.size (0 + (i : Nat) * 1) ((n : Int) - (i : Nat)) 1) := (Walks.range hh _ 0 1 n).bound
  refine loop_invN J W ?_ ?_ ?_ ?_ (by show IsRangeIter _ _ _ _ _; rw [hsz]; simpa using Heap.get?_push_size _ rfl) (F.push _) (fun p hp => ⟨Heap.get?_push_of_some _ (N p hp).1, (N p hp).2⟩) hj ?_ ?_
  · intro hm
    exact absurd F.ns.lt ((List.mem_singleton.mp hm) ▸ Nat.lt_irrefl _)
  · intro b hb
    rw [List.mem_singleton.mp hb]
    exact next_is_new F
  · intro p hp hI
    exact absurd (Heap.lt_size (N p hp).1) ((List.mem_singleton.mp hI) ▸ Nat.lt_irrefl _)
  · intro p hp hI
    exact absurd (Heap.lt_size (N p hp).1) ((List.mem_singleton.mp hI) ▸ Nat.lt_irrefl _)
  · rintro i v m₁ nx h tk own hi ⟨_, t, rfl⟩ _ hoff hJ F₁ N₁
    have e1 : (0 : Int) + (i : Int) * 1 = (i : Int) := by omega
    rw [e1] at F₁
    exact turn i t m₁ nx h tk own hi hoff hJ F₁ N₁
  · intro m₁ nx h tk hJ F₁ N₁
    exact done m₁ nx h tk hJ F₁ N₁
end
end Mine

end NzBase

section NzRow
open PySem PySem.Spec PySem.Calls PySem.W PyProof.Rows
namespace Mine
example : PySem.Challenge.rw_nz0114_01 = PySem.Challenge.rw_nz0114_01 ∧ hd.heap_39 = hd.heap_39 := by
  k_fill
  exact ⟨rfl, rfl⟩

abbrev sParent : Str := Str.ofString "parent"
abbrev sBond : Str := Str.ofString "bond"
abbrev sY : Str := Str.ofString "y_offset"
abbrev sCur : Str := Str.ofString "cursive"

/-- what is asked of an Info -/
structure Inf where
  p : Int
  b : Str
  y : Int

def DictIs (o : Obj) (x : Inf) : Prop := ∃ (es : List DictEntry) (k : Nat) (tp tb ty : Tok), o = dictOf es k ∧ es.length ≤ 100 ∧
  getL sParent es = some (some (.int x.p tp)) ∧ getL sBond es = some (some (.str x.b tb)) ∧ getL sY es = some (some (.int x.y ty))

/-- the row's list and its Infos' heads: they do not turn -/
structure RowAt (h : Heap) (l : Addr) (n : Nat) (as ds : Nat → Addr) : Prop where
  list : h.IsList l (List.toArray ((List.range n).map fun i => Value.ref (as i)))
  inst : ∀ i, i < n → h.get? (as i) = some (instObj 87 (ds i))
/-- the Infos' tables, at a heap -/
def DictsAt (h : Heap) (n : Nat) (ds : Nat → Addr) (st : Nat → Inf) : Prop := ∀ i, i < n → ∃ o, h.get? (ds i) = some o ∧ DictIs o (st i)

theorem RowAt.keeps {h h' : Heap} {l : Addr} {n : Nat} {as ds : Nat → Addr} (R : RowAt h l n as ds) (k : ∀ b o, h.get? b = some o → h'.get? b = some o) : RowAt h' l n as ds :=
  ⟨R.list.at fun o e => k l o e, fun i hi => k _ _ (R.inst i hi)⟩
theorem DictsAt.keeps {h h' : Heap} {n : Nat} {ds : Nat → Addr} {st : Nat → Inf} (D : DictsAt h n ds st) (k : ∀ b o, h.get? b = some o → h'.get? b = some o) : DictsAt h' n ds st := fun i hi =>
  let ⟨o, e, d⟩ := D i hi; ⟨o, k _ _ e, d⟩

theorem pg_p (P : Params) : plainGet (hd.heap_39 P) 87 sParent = true := by k_is
theorem pg_b (P : Params) : plainGet (hd.heap_39 P) 87 sBond = true := by k_is
theorem pg_y (P : Params) : plainGet (hd.heap_39 P) 87 sY = true := by k_is
theorem hd_87 (P : Params) : hasDictIn (hd.heap_39 P) 87 = true := by k_is
theorem fi_p (P : Params) : findIn (hd.heap_39 P) (.ref 87) sParent = some none := by k_is
theorem fi_b (P : Params) : findIn (hd.heap_39 P) (.ref 87) sBond = some none := by k_is
theorem fi_y (P : Params) : findIn (hd.heap_39 P) (.ref 87) sY = some none := by k_is
theorem ng (K : Frag) : noGet K none = true := rfl
theorem fs_87 (P : Params) : findIn (hd.heap_39 P) (.ref 87) "__setattr__" = some (some (.builtin "object.__setattr__")) := by k_is
theorem po_87 (P : Params) : plainOver (hd.heap_39 P) 87 = true := by k_is
theorem ti_p (P : Params) : takerIn (hd.heap_39 P) 87 sParent = some none := by k_is
theorem ti_b (P : Params) : takerIn (hd.heap_39 P) 87 sBond = some none := by k_is
theorem ti_y (P : Params) : takerIn (hd.heap_39 P) 87 sY = some none := by k_is

section
variable {prog : Program} {w : World} {A : Around} {E : Value → Shared → Prop} {s : Shared} {h₀ : Heap} {L l : Addr} {m : Str → Option Value} {n : Nat} {as ds : Nat → Addr} {st : Nat → Inf} {i : Nat} {Q : Value → Shared → Prop}

theorem item_rowS {value slice : PySem.Expr} {u : Tok} (R : RowAt s.heap l n as ds) (hi : i < n) (hn : n ≤ 7) (h : Q (.ref (as i)) s)
    (hs : subscripted slice false (.ref l) (.int (i : Int) u) = operate [.ref l, .int (i : Int) u] (getItem (.ref l) (.int (i : Int) u)) := by with_unfolding_all rfl) :
    wpAny (model prog w) A (subscriptTail value slice (.ref l) (.int (i : Int) u)) Q E s :=
  tail_any R.list.typeIs slot_list_getitem.lookup (wpAny_getItem_list R.list (by omega) (by omega) (by simp [hi]) h) hs
theorem item_row {value slice : PySem.Expr} {u : Tok} (F : Fr h₀ L s.heap m) (R : RowAt h₀ l n as ds) (hi : i < n) (hn : n ≤ 7) (h : Q (.ref (as i)) s)
    (hs : subscripted slice false (.ref l) (.int (i : Int) u) = operate [.ref l, .int (i : Int) u] (getItem (.ref l) (.int (i : Int) u)) := by with_unfolding_all rfl) :
    wpAny (model prog w) A (subscriptTail value slice (.ref l) (.int (i : Int) u)) Q E s := item_rowS (R.keeps F.keep) hi hn h hs

theorem len_rowS (R : RowAt s.heap l n as ds) (hn : n ≤ 7) (h : ∀ t, Q (.int (n : Int) t) { s with toks := s.toks + 1 + 1 }) :
    wpAny (model prog w) A (call (.builtin "len") [.ref l]) Q E s :=
  PyProof.Rows.len_list R.list (by simp; omega) (by have := h (s.toks + 1); simpa using this)
theorem len_row (F : Fr h₀ L s.heap m) (R : RowAt h₀ l n as ds) (hn : n ≤ 7) (h : ∀ t, Q (.int (n : Int) t) { s with toks := s.toks + 1 + 1 }) :
    wpAny (model prog w) A (call (.builtin "len") [.ref l]) Q E s := len_rowS (R.keeps F.keep) hn h

theorem inst_row {es : List DictEntry} {k : Nat} (R : RowAt s.heap l n as ds) (hi : i < n) (e : s.heap.get? (ds i) = some (dictOf es k)) : InstAt s.heap (as i) (instObj 87 (ds i)) 87 (some (dictOf es k)) :=
  ⟨R.inst i hi, rfl, rfl, e⟩

theorem get_pS {expr : Bool} (F : Fr h₀ L s.heap m) (X : (hd.heap_39 w.params).In h₀) (R : RowAt s.heap l n as ds) (D : DictsAt s.heap n ds st) (hi : i < n) (h : ∀ t, Q (.int (st i).p t) { s with toks := s.toks + 1 }) :
    wpAny (model prog w) A (getAttr (.ref (as i)) sParent expr) Q E s := by
  obtain ⟨o, e, es, k, tp, tb, ty, rfl, _, h1, h2, h3⟩ := D i hi
  exact get_own F X (inst_row R hi e) (pg_p _) (hd_87 _) (fi_p _) (ng _) h1 rfl (h _)
theorem get_bS {expr : Bool} (F : Fr h₀ L s.heap m) (X : (hd.heap_39 w.params).In h₀) (R : RowAt s.heap l n as ds) (D : DictsAt s.heap n ds st) (hi : i < n) (h : ∀ t, Q (.str (st i).b t) { s with toks := s.toks + 1 }) :
    wpAny (model prog w) A (getAttr (.ref (as i)) sBond expr) Q E s := by
  obtain ⟨o, e, es, k, tp, tb, ty, rfl, _, h1, h2, h3⟩ := D i hi
  exact get_own F X (inst_row R hi e) (pg_b _) (hd_87 _) (fi_b _) (ng _) h2 rfl (h _)
theorem get_yS {expr : Bool} (F : Fr h₀ L s.heap m) (X : (hd.heap_39 w.params).In h₀) (R : RowAt s.heap l n as ds) (D : DictsAt s.heap n ds st) (hi : i < n) (h : ∀ t, Q (.int (st i).y t) { s with toks := s.toks + 1 }) :
    wpAny (model prog w) A (getAttr (.ref (as i)) sY expr) Q E s := by
  obtain ⟨o, e, es, k, tp, tb, ty, rfl, _, h1, h2, h3⟩ := D i hi
  exact get_own F X (inst_row R hi e) (pg_y _) (hd_87 _) (fi_y _) (ng _) h3 rfl (h _)
theorem get_p {expr : Bool} (F : Fr h₀ L s.heap m) (X : (hd.heap_39 w.params).In h₀) (R : RowAt h₀ l n as ds) (D : DictsAt s.heap n ds st) (hi : i < n) (h : ∀ t, Q (.int (st i).p t) { s with toks := s.toks + 1 }) :
    wpAny (model prog w) A (getAttr (.ref (as i)) sParent expr) Q E s := get_pS F X (R.keeps F.keep) D hi h
theorem get_b {expr : Bool} (F : Fr h₀ L s.heap m) (X : (hd.heap_39 w.params).In h₀) (R : RowAt h₀ l n as ds) (D : DictsAt s.heap n ds st) (hi : i < n) (h : ∀ t, Q (.str (st i).b t) { s with toks := s.toks + 1 }) :
    wpAny (model prog w) A (getAttr (.ref (as i)) sBond expr) Q E s := get_bS F X (R.keeps F.keep) D hi h
theorem get_y {expr : Bool} (F : Fr h₀ L s.heap m) (X : (hd.heap_39 w.params).In h₀) (R : RowAt h₀ l n as ds) (D : DictsAt s.heap n ds st) (hi : i < n) (h : ∀ t, Q (.int (st i).y t) { s with toks := s.toks + 1 }) :
    wpAny (model prog w) A (getAttr (.ref (as i)) sY expr) Q E s := get_yS F X (R.keeps F.keep) D hi h
end

/-- the link that an Info has, whatever its bond -/
def nextOf (st : Nat → Inf) (i : Nat) : Option Nat := if (st i).p = 0 then none else some ((i : Int) + (st i).p).toNat
/-- its cursive link -/
def curOf (st : Nat → Inf) (i : Nat) : Option Nat := if (st i).p = 0 ∨ (st i).b ≠ sCur then none else some ((i : Int) + (st i).p).toNat
/-- no link leaves the row -/
def Valid (n : Nat) (st : Nat → Inf) : Prop := ∀ i, i < n → (st i).p ≠ 0 → 0 ≤ (i : Int) + (st i).p ∧ (i : Int) + (st i).p < (n : Int)

theorem cur_next {st : Nat → Inf} {i j : Nat} (h : curOf st i = some j) : nextOf st i = some j := by
  unfold curOf at h
  unfold nextOf
  split at h
  · cases h
  · rename_i h1
    rw [if_neg (fun e => h1 (.inl e))]
    exact h
theorem Valid.next {n : Nat} {st : Nat → Inf} (V : Valid n st) {i j : Nat} (hi : i < n) (h : nextOf st i = some j) : j < n ∧ (i : Int) + (st i).p = (j : Int) ∧ (st i).p ≠ 0 := by
  unfold nextOf at h
  split at h
  · cases h
  · rename_i h1
    have := V i hi h1
    cases h
    refine ⟨by omega, by omega, h1⟩
theorem Valid.is_next {n : Nat} {st : Nat → Inf} (V : Valid n st) {i : Nat} (hi : i < n) (h : (st i).p ≠ 0) : ∃ j : Nat, nextOf st i = some j ∧ j < n ∧ (i : Int) + (st i).p = (j : Int) := by
  have := V i hi h
  refine ⟨((i : Int) + (st i).p).toNat, by unfold nextOf; rw [if_neg h], by omega, by omega⟩
theorem cur_of {st : Nat → Inf} {i j : Nat} (h : nextOf st i = some j) (hb : (st i).b = sCur) : curOf st i = some j := by
  unfold nextOf at h
  unfold curOf
  split at h
  · cases h
  · rename_i h1
    rw [if_neg (by intro q; rcases q with q | q; exact h1 q; exact q hb)]
    exact h
theorem cur_none {st : Nat → Inf} {i : Nat} (h : (st i).p = 0 ∨ (st i).b ≠ sCur) : curOf st i = none := by
  unfold curOf
  rw [if_pos h]

/-- z is reached from a in k steps -/
inductive Steps (f : Nat → Option Nat) (a : Nat) : Nat → Nat → Prop
  | zero : Steps f a 0 a
  | succ {k y z : Nat} : Steps f a k y → f y = some z → Steps f a (k + 1) z
theorem next_none {st : Nat → Inf} {i : Nat} (h : (st i).p = 0) : nextOf st i = none := by unfold nextOf; rw [if_pos h]
def OptsAre (n : Nat) (vs : List Value) (f : Nat → Option Nat) : Prop := vs.length = n ∧ ∀ i, i < n → (f i = none ∧ vs[i]? = some .none) ∨ (∃ (j : Nat) (t : Tok), f i = some j ∧ j < n ∧ vs[i]? = some (.int (j:Int) t))

end Mine

end NzRow

section NzWay
open PySem PySem.Spec PySem.Calls PySem.W PyProof.Rows
namespace Mine
example : PySem.Challenge.rw_nz0114_01 = PySem.Challenge.rw_nz0114_01 ∧ hd.heap_39 = hd.heap_39 := by
  k_fill
  exact ⟨rfl, rfl⟩

def wayJ (q l : Addr) (f : Nat → Option Nat) (n a : Nat) (k : Nat) (m : Str → Option Value) (nx : List (Addr × Obj)) : Prop :=
  ∃ (c : List Nat) (z : Nat) (ms : List Value) (cap : Nat) (th : Tok), nx = [(q, W.listOf ms.toArray cap)] ∧ IntsAre ms (c.map Int.ofNat) ∧ m (Str.ofString "parents") = some (.ref l) ∧ m (Str.ofString "met") = some (.ref q) ∧ m (Str.ofString "here") = some (.int (z : Int) th) ∧
    Way f n a c z ∧ k = n - c.length

theorem opt_none {n : Nat} {vs : List Value} {f : Nat → Option Nat} (h : OptsAre n vs f) {i : Nat} (hi : i < n) (e : f i = none) : vs[((i : Int)).toNat]? = some .none := by
  rcases h.2 i hi with ⟨_, h2⟩ | ⟨j, t, h1, _⟩
  · simpa using h2
  · rw [e] at h1; cases h1
theorem opt_some {n : Nat} {vs : List Value} {f : Nat → Option Nat} (h : OptsAre n vs f) {i j : Nat} (hi : i < n) (e : f i = some j) : j < n ∧ ∃ t, vs[((i : Int)).toNat]? = some (.int (j : Int) t) := by
  rcases h.2 i hi with ⟨h1, _⟩ | ⟨j', t, h1, h2, h3⟩
  · rw [e] at h1; cases h1
  · rw [e] at h1; cases h1
    exact ⟨h2, t, by simpa using h3⟩

local macro_rules | `(tactic| size_fits) => `(tactic| (simp only [List.size_toArray, PySem.sizeLine_eq]; omega))
local macro_rules | `(tactic| walk_at "subscriptTail Name") => `(tactic| (k_here; (with_reducible show wpAny _ _ (subscriptTail _ _ (Value.ref _) (Value.int _ _)) _ _ _); (refine' item_list ?k1 ?k2 ?k3 ?k4 ?k5 ?_ ?k6; (case k1 => k_asm); (case k2 => assumption); (case k3 => omega); (case k4 => omega); (case k5 => assumption); (case k6 => with_unfolding_all rfl); k_whole)))
local macro_rules | `(tactic| walk_at "exec While Compare cons nil") => `(tactic| (refine Halt.out ?_))

theorem way_spec (prog : Program) (w : World) : Enters prog w 110 1 8 (fun h₀ L s vs Q => ∃ (l : Addr) (xs : List Value) (n : Nat) (f : Nat → Option Nat) (a : Nat) (t : Tok), vs = [.ref l, .int (a : Int) t] ∧ s.heap.IsList l (List.toArray xs) ∧ OptsAre n xs f ∧ a < n ∧ n ≤ 7 ∧ 
   (∀ (r q : Addr) (b : Bool) (ms : List Value) (c : List Nat) (tk' : Nat) (h' : Heap), s.heap.StaysIn h' → s.heap.get? q = none → IsTup h' r #[.ref q, .bool b] → h'.IsList q (List.toArray ms) → IntsAre ms (c.map Int.ofNat) → c.length ≤ n → a ∈ c → (∀ x y, x ∈ c → f x = some y → y ∈ c) → (b = true ↔ Ends f a) → Q (.ref r) { s with heap := h', toks := tk' })) := by
  intro p loose mean mg mb dp un gd cn cs a₀ ccd cl outer A₀ base h₀ L m s vs Q E B F X T hk hdp hun ⟨l, xs, n, f, a, t, hvs, hl, ho, hlt, hn, hret⟩
  subst hvs
  refine wpAny_call ?_
  k_dflt (refine' enter ?k1 ?k2 ?k3 (News.nil) ?k5 ?kA ?kF ?kK ?k6 ?k7 ?k8 ?k9 ?kB ?_ ?c2 ?c3 ?c4 ?c5; (case kA => exact rfl); (case kF => exact rfl); (case kK => assumption); (case k1 => k_asm); (case k2 => k_asm); (case k3 => k_asm); (case k5 => k_asm); (case k6 => k_is); (case k7 => k_is); (case k8 => ktr_room); (case k9 => exact BindsTo.of_eq rfl); (case c5 => decide); (case kB => exact locs rfl); (case c2 => exact rfl); (case c3 => exact rfl); (case c4 => exact rfl); k_whole; intro g' L' h' F' N' B' X' T' G' S'; (try dsimp only); (try k_fold))
  have hlg : g'.IsList l (List.toArray xs) := hl.at fun o e => G' l o e (by simp)
  k_steps
  refine Halt.goOn ?_
  clear F B X T S'
  rename_i q _ _ _ _ F1 N1
  refine While_inv2 (wayJ q l f n a) F1 N1 ⟨[a], a, _, _, _, rfl, .cons _ _ .nil, by with_unfolding_all rfl, by with_unfolding_all rfl, by with_unfolding_all rfl, Way.one hlt, rfl⟩ ?_
  clear F1 N1
  rintro k m₁ nx h₁ tk₁ F1 N1 ⟨c, z, ms, cap, th, rfl, hms, e1, e2, e3, W, rfl⟩
  have hz := W.below z W.mem_last
  rw [canon3 e1 e2 e3] at F1
  have hlen : ms.length = c.length := by rw [hms.length, List.length_map]
  have hcl := W.length_le
  have hfit : ms.length ≤ 100 := by omega
  cases hf : f z with
  | none =>
    have hx := opt_none ho hz hf
    k_steps
    rename_i r h9 F9 N9 _
    show Q (.ref r) _
    refine hret r q true ms c _ h9 (fun b o e => F9.keep b o (G' b o e (by simp))) (none_back (fun b o e => G' b o e (by simp)) (news_none N9 (by k_mem))) (N9.isTup (by k_mem)) (N9.isList (by k_mem)) hms W.length_le W.mem_first (W.closed_end hf) ⟨fun _ => W.ends hf, fun _ => rfl⟩
  | some y =>
    obtain ⟨hy, ty, hx⟩ := opt_some ho hz hf
    k_steps
    · rename_i r h9 F9 N9 _
      show Q (.ref r) _
      have hyc : y ∈ c := mem_of_any (by assumption)
      refine hret r q false ms c _ h9 (fun b o e => F9.keep b o (G' b o e (by simp))) (none_back (fun b o e => G' b o e (by simp)) (news_none N9 (by k_mem))) (N9.isTup (by k_mem)) (N9.isList (by k_mem)) hms W.length_le W.mem_first (W.closed_ring hf hyc) ⟨fun e => (by cases e), fun e => absurd e (W.ring hf hyc)⟩
    · rename_i h9 F9 N9
      have hyc : y ∉ c := not_mem_of_any (by assumption)
      have W' := W.more hf hyc hy
      refine ⟨_, _, _, _, n - (c ++ [y]).length, rfl, F9, N9, ?_, c ++ [y], y, ms ++ [.int (y : Int) ty], cap + 1, ty, ?_, ints_more hms, by with_unfolding_all rfl, by with_unfolding_all rfl, by with_unfolding_all rfl, W', rfl⟩
      · have := W'.length_le
        simp at this ⊢
        omega
      · rw [List.push_toArray]
end Mine

end NzWay

section NzRoot
open PySem PySem.Spec PySem.Calls PySem.W PyProof.Rows
namespace Mine
example : PySem.Challenge.rw_nz0114_01 = PySem.Challenge.rw_nz0114_01 ∧ hd.heap_39 = hd.heap_39 := by
  k_fill
  exact ⟨rfl, rfl⟩

def rootJ (l : Addr) (st : Nat → Inf) (n a : Nat) (i : Nat) (m : Str → Option Value) (nx : List (Addr × Obj)) : Prop :=
  ∃ (z : Nat) (th : Tok), nx = [] ∧ m (Str.ofString "row") = some (.ref l) ∧ m (Str.ofString "here") = some (.int (z : Int) th) ∧ z < n ∧ Steps (curOf st) a i z

local macro_rules | `(tactic| walk_at "subscriptTail Name") => `(tactic| (k_here; (with_reducible show wpAny _ _ (subscriptTail _ _ (Value.ref _) (Value.int _ _)) _ _ _); (refine' item_row ?k1 ?k2 ?k3 ?k4 ?_ ?k6; (case k1 => k_asm); (case k2 => assumption); (case k3 => assumption); (case k4 => assumption); (case k6 => with_unfolding_all rfl); k_whole)))
local macro_rules | `(tactic| walk_at "getAttr ref") => `(tactic| (k_here; (first | (with_reducible refine' get_p ?k1 ?k2 ?k3 ?k4 ?k5 ?_) | (with_reducible refine' get_b ?k1 ?k2 ?k3 ?k4 ?k5 ?_) | (with_reducible refine' get_y ?k1 ?k2 ?k3 ?k4 ?k5 ?_)); (case k1 => k_asm); (case k2 => k_asm); (case k3 => assumption); (case k4 => exact DictsAt.keeps (by assumption) (Fr.keep (by k_asm))); (case k5 => assumption); k_whole; intro ta'; (try dsimp only)))
local macro_rules | `(tactic| walk_at "call builtin:len") => `(tactic| (k_here; refine' len_row ?k1 ?k2 ?k3 ?_; (case k1 => k_asm); (case k2 => assumption); (case k3 => assumption); k_whole; intro tl'; (try dsimp only)))
local macro_rules | `(tactic| walk_at "call type:range") => `(tactic| (k_here; refine' range1_rows ?k1 ?k2 ?_; (case k1 => k_asm); (case k2 => k_asm); k_whole; intro h' tk' tr' ur' vr' rg' F' N' kk'; (try k_sweep)))
local macro_rules | `(tactic| walk_at "pyIter ref") => `(tactic| (refine Halt.out ?_))

theorem root_spec (prog : Program) (w : World) : Enters prog w 56 1 8 (fun h₀ L s vs Q => ∃ (l : Addr) (n : Nat) (as ds : Nat → Addr) (st : Nat → Inf) (a : Nat) (t : Tok), vs = [.ref l, .int (a : Int) t] ∧ RowAt s.heap l n as ds ∧ DictsAt s.heap n ds st ∧ Valid n st ∧ a < n ∧ n ≤ 7 ∧
   (∀ (z i : Nat) (u : Tok) (tk' : Nat) (h' : Heap), s.heap.StaysIn h' → z < n → i ≤ n → Steps (curOf st) a i z → (curOf st z = none ∨ i = n) → Q (.int (z : Int) u) { s with heap := h', toks := tk' })) := by
  intro p loose mean mg mb dp un gd cn cs a₀ ccd cl outer A₀ base h₀ L m s vs Q E B F X T hk hdp hun ⟨l, n, as, ds, st, a, t, hvs, R, D, V, hlt, hn, hret⟩
  subst hvs
  refine wpAny_call ?_
  k_dflt (refine' enter ?k1 ?k2 ?k3 (News.nil) ?k5 ?kA ?kF ?kK ?k6 ?k7 ?k8 ?k9 ?kB ?_ ?c2 ?c3 ?c4 ?c5; (case kA => exact rfl); (case kF => exact rfl); (case kK => assumption); (case k1 => k_asm); (case k2 => k_asm); (case k3 => k_asm); (case k5 => k_asm); (case k6 => k_is); (case k7 => k_is); (case k8 => ktr_room); (case k9 => exact BindsTo.of_eq rfl); (case c5 => decide); (case kB => exact locs rfl); (case c2 => exact rfl); (case c3 => exact rfl); (case c4 => exact rfl); k_whole; intro g' L' h' F' N' B' X' T' G' S'; (try dsimp only); (try k_fold))
  have Gk : ∀ b o, s.heap.get? b = some o → g'.get? b = some o := fun b o e => G' b o e (by simp)
  replace R := R.keeps Gk
  replace D := D.keeps Gk
  clear F B X T S'
  k_steps
  refine Halt.goOn ?_
  rename_i rg F1 N1 _
  refine iter_rangeJ (rootJ l st n a) rfl rg rfl (by omega) F1 N1 ⟨a, _, rfl, by with_unfolding_all rfl, by with_unfolding_all rfl, hlt, .zero⟩ ?_ ?_
  · clear F1 N1 rg
    rintro i ti m₁ nx h₁ tk₁ own hi hoff ⟨z, th, rfl, e1, e2, hz, hs⟩ F1 N1
    rw [canon2 e1 e2] at F1
    simp only [List.nil_append] at N1
    dsimp only
    k_steps
    · exact hret z i th _ h₁ (fun b o e => F1.keep b o (Gk b o e)) hz (Nat.le_of_lt hi) hs (.inl (cur_none (.inl (by assumption))))
    · exact hret z i th _ h₁ (fun b o e => F1.keep b o (Gk b o e)) hz (Nat.le_of_lt hi) hs (.inl (cur_none (.inr (by simpa using (by assumption : ((st z).b != Str.ofString "cursive") = true)))))
    · have hb : (st z).b = sCur := by simpa using (by assumption : ((st z).b != Str.ofString "cursive") = false)
      obtain ⟨y, hy, hyn, ey⟩ := V.is_next hz (by assumption : (st z).p ≠ 0)
      refine InvEndN.intro (by assumption) (by assumption) (nx := []) ⟨y, _, rfl, by with_unfolding_all rfl, read_int_eq (by with_unfolding_all rfl) ey, hyn, hs.succ (cur_of hy hb)⟩ rfl (fun _ h => nomatch h) (fun _ h => h)
  · clear F1 N1 rg
    rintro m₁ nx h₁ tk₁ ⟨z, th, rfl, e1, e2, hz, hs⟩ F1 N1
    rw [canon2 e1 e2] at F1
    k_steps
    exact hret z n th _ h₁ (fun b o e => F1.keep b o (Gk b o e)) hz (Nat.le_refl _) hs (.inr rfl)
end Mine

end NzRoot

section NzJoin
open PySem PySem.Spec PySem.Calls PySem.W PyProof.Rows
namespace Mine
example : PySem.Challenge.rw_nz0114_01 = PySem.Challenge.rw_nz0114_01 ∧ hd.heap_39 = hd.heap_39 := by
  k_fill
  exact ⟨rfl, rfl⟩

def joinJ (q l : Addr) (st : Nat → Inf) (n a : Nat) (k : Nat) (m : Str → Option Value) (nx : List (Addr × Obj)) : Prop :=
  ∃ (c : List Nat) (z : Nat) (ms : List Value) (cap : Nat) (th : Tok), nx = [(q, W.listOf ms.toArray cap)] ∧ IntsAre ms (c.map Int.ofNat) ∧ m (Str.ofString "row") = some (.ref l) ∧ m (Str.ofString "met") = some (.ref q) ∧ m (Str.ofString "here") = some (.int (z : Int) th) ∧
    Way (curOf st) n a c z ∧ k = n - c.length

local macro_rules | `(tactic| size_fits) => `(tactic| (simp only [List.size_toArray, PySem.sizeLine_eq]; omega))
local macro_rules | `(tactic| walk_at "subscriptTail Name") => `(tactic| (k_here; (with_reducible show wpAny _ _ (subscriptTail _ _ (Value.ref _) (Value.int _ _)) _ _ _); (refine' item_row ?k1 ?k2 ?k3 ?k4 ?_ ?k6; (case k1 => k_asm); (case k2 => assumption); (case k3 => assumption); (case k4 => assumption); (case k6 => with_unfolding_all rfl); k_whole)))
local macro_rules | `(tactic| walk_at "getAttr ref") => `(tactic| (k_here; (first | (with_reducible refine' get_p ?k1 ?k2 ?k3 ?k4 ?k5 ?_) | (with_reducible refine' get_b ?k1 ?k2 ?k3 ?k4 ?k5 ?_) | (with_reducible refine' get_y ?k1 ?k2 ?k3 ?k4 ?k5 ?_)); (case k1 => k_asm); (case k2 => k_asm); (case k3 => assumption); (case k4 => exact DictsAt.keeps (by assumption) (Fr.keep (by k_asm))); (case k5 => assumption); k_whole; intro ta'; (try dsimp only)))
local macro_rules | `(tactic| walk_at "exec While BoolOp cons nil") => `(tactic| (refine Halt.out ?_))

theorem led_push {q : Addr} {ms : List Value} {x y : Int} {t : Tok} {c : Nat} (e : x = y) : [(q, PySem.W.listOf (ms.toArray.push (Value.int x t)) c)] = [(q, PySem.W.listOf (ms ++ [Value.int y t]).toArray c)] := by
  rw [List.push_toArray, e]
theorem join_spec (prog : Program) (w : World) : Enters prog w 117 1 8 (fun h₀ L s vs Q => ∃ (l : Addr) (n : Nat) (as ds : Nat → Addr) (st : Nat → Inf) (a : Nat) (t : Tok), vs = [.ref l, .int (a : Int) t] ∧ RowAt s.heap l n as ds ∧ DictsAt s.heap n ds st ∧ Valid n st ∧ a < n ∧ n ≤ 7 ∧
   (∀ (q : Addr) (ms : List Value) (c : List Nat) (z : Nat) (tk' : Nat) (h' : Heap), s.heap.StaysIn h' → s.heap.get? q = none → h'.IsList q (List.toArray ms) → IntsAre ms (c.map Int.ofNat) → Way (curOf st) n a c z → (curOf st z = none ∨ ∃ y, y ∈ c ∧ curOf st z = some y) → Q (.ref q) { s with heap := h', toks := tk' })) := by
  intro p loose mean mg mb dp un gd cn cs a₀ ccd cl outer A₀ base h₀ L m s vs Q E B F X T hk hdp hun ⟨l, n, as, ds, st, a, t, hvs, R, D, V, hlt, hn, hret⟩
  subst hvs
  refine wpAny_call ?_
  k_dflt (refine' enter ?k1 ?k2 ?k3 (News.nil) ?k5 ?kA ?kF ?kK ?k6 ?k7 ?k8 ?k9 ?kB ?_ ?c2 ?c3 ?c4 ?c5; (case kA => exact rfl); (case kF => exact rfl); (case kK => assumption); (case k1 => k_asm); (case k2 => k_asm); (case k3 => k_asm); (case k5 => k_asm); (case k6 => k_is); (case k7 => k_is); (case k8 => ktr_room); (case k9 => exact BindsTo.of_eq rfl); (case c5 => decide); (case kB => exact locs rfl); (case c2 => exact rfl); (case c3 => exact rfl); (case c4 => exact rfl); k_whole; intro g' L' h' F' N' B' X' T' G' S'; (try dsimp only); (try k_fold))
  have Gk : ∀ b o, s.heap.get? b = some o → g'.get? b = some o := fun b o e => G' b o e (by simp)
  replace R := R.keeps Gk
  replace D := D.keeps Gk
  clear F B X T S'
  k_steps
  refine Halt.goOn ?_
  rename_i q _ _ _ _ F1 N1
  refine While_inv2 (joinJ q l st n a) F1 N1 ⟨[a], a, _, _, _, rfl, .cons _ _ .nil, by with_unfolding_all rfl, by with_unfolding_all rfl, by with_unfolding_all rfl, Way.one hlt, rfl⟩ ?_
  clear F1 N1
  rintro k m₁ nx h₁ tk₁ F1 N1 ⟨c, z, ms, cap, th, rfl, hms, e1, e2, e3, W, rfl⟩
  have hz := W.below z W.mem_last
  have hlen : ms.length = c.length := by rw [hms.length, List.length_map]
  have hcl := W.length_le
  have hfit : ms.length ≤ 100 := by omega
  rw [canon3 e1 e2 e3] at F1
  k_steps
  · have hb : (st z).b = sCur := by simpa using (by assumption : ((st z).b == Str.ofString "cursive") = true)
    obtain ⟨y, hy, hyn, ey⟩ := V.is_next hz (by assumption : (st z).p ≠ 0)
    have hany : ((List.map Int.ofNat c).any fun x => x == (z : Int) + (st z).p) = true := by assumption
    rw [ey] at hany
    exact hret q ms c z _ _ (fun b o e => Fr.keep (by assumption) b o (Gk b o e)) (none_back Gk (news_none (by assumption) (by k_mem))) (News.isList (by assumption) (by k_mem)) hms W (.inr ⟨y, mem_of_any hany, cur_of hy hb⟩)
  · have hb : (st z).b = sCur := by simpa using (by assumption : ((st z).b == Str.ofString "cursive") = true)
    obtain ⟨y, hy, hyn, ey⟩ := V.is_next hz (by assumption : (st z).p ≠ 0)
    have hany : ((List.map Int.ofNat c).any fun x => x == (z : Int) + (st z).p) = false := by assumption
    rw [ey] at hany
    have W' := W.more (cur_of hy hb) (not_mem_of_any hany) hyn
    refine ⟨_, _, _, _, n - (c ++ [y]).length, rfl, by assumption, by assumption, ?_, c ++ [y], y, ms ++ [.int (y : Int) _], cap + 1, _, led_push ey, ints_more hms, by with_unfolding_all rfl, by with_unfolding_all rfl, read_int_eq (by with_unfolding_all rfl) ey, W', rfl⟩
    · have := W'.length_le
      simp at this ⊢
      omega
  · exact hret q ms c z _ _ (fun b o e => Fr.keep (by assumption) b o (Gk b o e)) (none_back Gk (news_none (by assumption) (by k_mem))) (News.isList (by assumption) (by k_mem)) hms W (.inl (cur_none (.inr (by simpa using (by assumption : ((st z).b == Str.ofString "cursive") = false)))))
  · exact hret q ms c z _ _ (fun b o e => Fr.keep (by assumption) b o (Gk b o e)) (none_back Gk (news_none (by assumption) (by k_mem))) (News.isList (by assumption) (by k_mem)) hms W (.inl (cur_none (.inl (by assumption))))
end Mine

end NzJoin

section NzMut
open PySem PySem.Spec PySem.Calls PySem.W PyProof.Rows
namespace Mine
example : PySem.Challenge.rw_nz0114_01 = PySem.Challenge.rw_nz0114_01 ∧ hd.heap_39 = hd.heap_39 := by
  k_fill
  exact ⟨rfl, rfl⟩

/-- the Infos' tables as a ledger -/
def dl (n : Nat) (ds : Nat → Addr) (os : Nat → Obj) : List (Addr × Obj) := (List.range n).map fun i => (ds i, os i)
theorem mem_dl {n : Nat} {ds : Nat → Addr} {os : Nat → Obj} {p : Addr × Obj} : p ∈ dl n ds os ↔ ∃ i, i < n ∧ p = (ds i, os i) := by
  unfold dl
  rw [List.mem_map]
  constructor
  · rintro ⟨i, hi, rfl⟩; exact ⟨i, List.mem_range.mp hi, rfl⟩
  · rintro ⟨i, hi, rfl⟩; exact ⟨i, List.mem_range.mpr hi, rfl⟩
theorem at_dl {n : Nat} {ds : Nat → Addr} {os : Nat → Obj} {i : Nat} (hi : i < n) : (ds i, os i) ∈ dl n ds os := mem_dl.mpr ⟨i, hi, rfl⟩
theorem keys_dl {n : Nat} {ds : Nat → Addr} {os : Nat → Obj} : (dl n ds os).map (·.1) = (List.range n).map ds := by
  unfold dl; rw [List.map_map]; rfl

structure Mods (n : Nat) (ds : Nat → Addr) (h h' : Heap) (os' : Nat → Obj) : Prop where
  keep : ∀ b o, h.get? b = some o → (∀ j, j < n → b ≠ ds j) → h'.get? b = some o
  here : ∀ i, i < n → h'.get? (ds i) = some (os' i)

def Inj (n : Nat) (ds : Nat → Addr) : Prop := ∀ i j, i < n → j < n → ds i = ds j → i = j
def DictsAre (n : Nat) (os : Nat → Obj) (st : Nat → Inf) : Prop := ∀ i, i < n → DictIs (os i) (st i)
def put {α : Type} (f : Nat → α) (i : Nat) (x : α) : Nat → α := fun j => if j = i then x else f j
theorem put_same {α : Type} {f : Nat → α} {i : Nat} {x : α} : put f i x i = x := by unfold put; rw [if_pos rfl]
theorem put_put {α : Type} {f : Nat → α} {i : Nat} {x y : α} : put (put f i x) i y = put f i y := by funext j; unfold put; split <;> rfl
theorem put_ne {α : Type} {f : Nat → α} {i j : Nat} {x : α} (h : j ≠ i) : put f i x j = f j := by unfold put; rw [if_neg h]

section
variable {h₀ h h' : Heap} {L l : Addr} {m : Str → Option Value} {n : Nat} {as ds : Nat → Addr} {os os' : Nat → Obj} {st : Nat → Inf} {own : List (Addr × Obj)}
theorem Mods.dicts (M : Mods n ds h h' os') (d : DictsAre n os' st) : DictsAt h' n ds st := fun i hi => ⟨_, M.here i hi, d i hi⟩
theorem dictsAt_news (N : News h₀ L h own) (hs : ∀ p ∈ dl n ds os, p ∈ own) (d : DictsAre n os st) : DictsAt h n ds st := fun i hi => ⟨_, (N _ (hs _ (at_dl hi))).1, d i hi⟩
theorem fr_mods (F : Fr h₀ L h m) (N : News h₀ L h own) (hs : ∀ p ∈ dl n ds os, p ∈ own) (M : Mods n ds h h' os') : Fr h₀ L h' m := by
  obtain ⟨oL, es, ep, hL, r⟩ := F.ns
  refine ⟨⟨oL, es, ep, M.keep _ _ hL fun j hj e => (N _ (hs _ (at_dl hj))).2.1 e.symm, r⟩, fun b o e => M.keep _ _ (F.keep b o e) fun j hj q => ?_, F.above⟩
  have := (N _ (hs _ (at_dl hj))).2.2
  rw [← q, e] at this
  cases this
theorem news_mods (N : News h₀ L h own) (hs : ∀ p ∈ dl n ds os, p ∈ own) (M : Mods n ds h h' os') : News h₀ L h' (dl n ds os') := by
  intro p hp
  obtain ⟨i, hi, rfl⟩ := mem_dl.mp hp
  exact ⟨M.here i hi, (N _ (hs _ (at_dl hi))).2⟩
theorem news_off {rest : List (Addr × Obj)} (N : News h₀ L h rest) (off : ∀ p ∈ rest, ∀ j, j < n → p.1 ≠ ds j) (M : Mods n ds h h' os') : News h₀ L h' rest := fun p hp =>
  ⟨M.keep _ _ (N p hp).1 (off p hp), (N p hp).2⟩
theorem off_of {own : List (Addr × Obj)} (h : OwnOff own ((dl n ds os).map (·.1))) : ∀ p ∈ own, ∀ j, j < n → p.1 ≠ ds j := fun p hp j hj => h p hp _ (by rw [keys_dl]; exact List.mem_map.mpr ⟨j, List.mem_range.mpr hj, rfl⟩)
theorem Mods.trans {h'' : Heap} {os'' : Nat → Obj} (M : Mods n ds h h' os') (M' : Mods n ds h' h'' os'') : Mods n ds h h'' os'' := ⟨fun b o e k => M'.keep b o (M.keep b o e k) k, M'.here⟩

/-- the row's heads are not its tables -/
theorem row_off (R : RowAt h l n as ds) (D : DictsAt h n ds st) : (∀ j, j < n → l ≠ ds j) ∧ ∀ i, i < n → ∀ j, j < n → as i ≠ ds j := by
  constructor
  · intro j hj e
    obtain ⟨o, ho, hc, _⟩ := R.list
    obtain ⟨o', ho', es, k, _, _, _, rfl, _⟩ := D j hj
    rw [e, ho'] at ho
    have h1 := (congrArg Obj.cls (Option.some.inj ho)).trans hc
    exact absurd h1 (by simp)
  · intro i hi j hj e
    have h1 := R.inst i hi
    obtain ⟨o', ho', es, k, _, _, _, rfl, _⟩ := D j hj
    rw [e, ho'] at h1
    have := congrArg Obj.cls (Option.some.inj h1)
    cases this
theorem RowAt.mods (R : RowAt h l n as ds) (D : DictsAt h n ds st) (M : Mods n ds h h' os') : RowAt h' l n as ds :=
  ⟨R.list.at fun o e => M.keep _ _ e (row_off R D).1, fun i hi => M.keep _ _ (R.inst i hi) ((row_off R D).2 i hi)⟩
theorem RowAt.hidden {g : Heap} (R : RowAt h l n as ds) (D : DictsAt h n ds st) (G : GSub h g ((dl n ds os).map (·.1))) : RowAt g l n as ds := by
  have off : ∀ b, (∀ j, j < n → b ≠ ds j) → b ∉ (dl n ds os).map (·.1) := by
    intro b hb hm
    rw [keys_dl] at hm
    obtain ⟨j, hj, e⟩ := List.mem_map.mp hm
    exact hb j (List.mem_range.mp hj) e.symm
  exact ⟨R.list.at fun o e => G _ _ e (off _ (row_off R D).1), fun i hi => G _ _ (R.inst i hi) (off _ ((row_off R D).2 i hi))⟩
end

theorem isStr_self (x : Str) (t : Tok) : (Value.str x t).isStr x = true := by simp [Value.isStr]
theorem isStr_two {v : Value} {x y : Str} (h : v.isStr x = true) (e : v.isStr y = true) : x = y := by
  cases v <;> simp [Value.isStr] at h e
  rw [← h, ← e]
theorem refKey_str {d : DictEntry} {x : Str} (h : d.key.isStr x = true) : d.refKey = false := by
  obtain ⟨hs, k, v⟩ := d
  cases k <;> simp [Value.isStr] at h
  rfl
theorem getL_isSome {x : Str} {es : List DictEntry} {v : Value} (h : getL x es = some (some v)) : es.any (fun d => d.key.isStr x) = true := by
  unfold getL at h
  split at h
  · rename_i e he
    have h1 := List.find?_some he
    have h2 := List.mem_of_find?_eq_some he
    exact List.any_eq_true.mpr ⟨e, h2, h1⟩
  · split at h <;> cases h
theorem putL_length {x : Str} {hs : Int} {k v : Value} : ∀ {es : List DictEntry}, es.any (fun d => d.key.isStr x) = true → (putL x hs k v es).length = es.length
  | [], h => by simp at h
  | e :: r, h => by
    unfold putL
    cases q : e.key.isStr x with
    | true => simp
    | false =>
      simp only [Bool.false_eq_true, if_false]
      have h' : r.any (fun d => d.key.isStr x) = true := by simpa [q] using h
      simp [putL_length (es := r) h']
theorem find_putL_same {x : Str} {hs : Int} {k v : Value} (hk : k.isStr x = true) : ∀ {es : List DictEntry}, ∃ d, (putL x hs k v es).find? (fun d => d.key.isStr x) = some d ∧ d.val = v
  | [] => ⟨⟨hs, k, v⟩, by simp [putL, hk], rfl⟩
  | e :: r => by
    unfold putL
    cases q : e.key.isStr x with
    | true => exact ⟨⟨e.hash, e.key, v⟩, by simp [q], rfl⟩
    | false =>
      simp only [Bool.false_eq_true, if_false]
      obtain ⟨d, h1, h2⟩ := find_putL_same (hs := hs) (v := v) (es := r) hk
      exact ⟨d, by simp [q, h1], h2⟩
theorem getL_put_same {x : Str} {hs : Int} {k v : Value} (hk : k.isStr x = true) {es : List DictEntry} : getL x (putL x hs k v es) = some (some v) := by
  obtain ⟨d, h1, h2⟩ := find_putL_same (hs := hs) (v := v) (es := es) hk
  unfold getL
  rw [h1]
  simp [h2]
theorem find_putL_ne {x y : Str} (hxy : y ≠ x) {hs : Int} {k v : Value} (hk : k.isStr x = true) : ∀ {es : List DictEntry} {d : DictEntry}, es.find? (fun d => d.key.isStr y) = some d → (putL x hs k v es).find? (fun d => d.key.isStr y) = some d
  | [], d, h => by simp at h
  | e :: r, d, h => by
    unfold putL
    cases q : e.key.isStr x with
    | true =>
      have h1 : e.key.isStr y = false := by
        cases z : e.key.isStr y with
        | true => exact absurd (isStr_two z q) hxy
        | false => rfl
      simp [h1] at h
      simp [h1]
      exact h
    | false =>
      simp only [Bool.false_eq_true, if_false]
      cases z : e.key.isStr y with
      | true => simpa [z] using h
      | false =>
        simp [z] at h ⊢
        exact find_putL_ne (es := r) hxy hk h
theorem getL_put_ne {x y : Str} (hxy : y ≠ x) {hs : Int} {k v u : Value} (hk : k.isStr x = true) {es : List DictEntry} (h : getL y es = some (some u)) : getL y (putL x hs k v es) = some (some u) := by
  unfold getL at h
  split at h
  · rename_i d hd
    have := find_putL_ne (hs := hs) (v := v) hxy hk hd
    unfold getL
    rw [this]
    exact h
  · split at h <;> cases h

/-- a step that turns the Infos' tables alone -/
structure Turns (h₀ : Heap) (L : Addr) (m : Str → Option Value) (n : Nat) (ds : Nat → Addr) (h h' : Heap) (os' : Nat → Obj) : Prop where
  fr : Fr h₀ L h' m
  dl : News h₀ L h' (dl n ds os')
  off : ∀ rest : List (Addr × Obj), News h₀ L h rest → (∀ p ∈ rest, ∀ j, j < n → p.1 ≠ ds j) → News h₀ L h' rest
theorem Mods.turns {h₀ h h' : Heap} {L : Addr} {m : Str → Option Value} {n : Nat} {ds : Nat → Addr} {os os' : Nat → Obj} {own : List (Addr × Obj)} (M : Mods n ds h h' os') (F : Fr h₀ L h m) (N : News h₀ L h own) (hs : ∀ p ∈ Mine.dl n ds os, p ∈ own) : Turns h₀ L m n ds h h' os' :=
  ⟨fr_mods F N hs M, news_mods N hs M, fun rest Nr off => news_off Nr off M⟩

section
variable {prog : Program} {w : World} {A : Around} {E : Value → Shared → Prop} {s : Shared} {h₀ : Heap} {L l : Addr} {m : Str → Option Value} {n : Nat} {as ds : Nat → Addr} {os : Nat → Obj} {st : Nat → Inf} {i : Nat} {Q : Unit → Shared → Prop} {news : List (Addr × Obj)}

/-- all that stands in a heap, but a base, a frame and one object -/
def others (h₀ h : Heap) (L d : Addr) : List (Addr × Obj) := (List.range h.objs.size).filterMap fun b => if b = d ∨ b = L ∨ (h₀.get? b).isSome = true then none else (h.get? b).map fun o => (b, o)
theorem mem_others {h h₀ : Heap} {L d : Addr} {p : Addr × Obj} : p ∈ others h₀ h L d ↔ h.get? p.1 = some p.2 ∧ p.1 ≠ d ∧ p.1 ≠ L ∧ h₀.get? p.1 = none := by
  unfold others
  rw [List.mem_filterMap]
  constructor
  · rintro ⟨b, _, e⟩
    split at e
    · cases e
    · rename_i q
      obtain ⟨o, ho, rfl⟩ := Option.map_eq_some_iff.mp e
      simp only [not_or, Bool.not_eq_true, Option.isSome_eq_false_iff, Option.isNone_iff_eq_none] at q
      exact ⟨ho, q.1, q.2.1, q.2.2⟩
  · rintro ⟨h1, h2, h3, h4⟩
    refine ⟨p.1, List.mem_range.mpr (Heap.lt_size h1), ?_⟩
    rw [if_neg (by simp [h2, h3, h4]), h1]
    rfl

theorem set_at {name : Str} {v : Value} {es : List DictEntry} {k : Nat} (F : Fr h₀ L s.heap m) (X : (hd.heap_39 w.params).In h₀) (R : RowAt s.heap l n as ds) (J : Inj n ds) (N : News h₀ L s.heap news) (hsub : ∀ p ∈ dl n ds os, p ∈ news) (hi : i < n)
    (ht : takerIn (hd.heap_39 w.params) 87 name = some none) (ho : os i = dictOf es k) {u : Value} (hl : getL name es = some (some u)) (hz : es.length ≤ 100)
    (h : ∀ h', Turns h₀ L m n ds s.heap h' (put os i (dictOf (putL name (PyData.keyHash w.params name) (.str name (s.toks + 1)) v es) k)) → Q () { s with heap := h', toks := s.toks + 2 }) :
    wpAny (model prog w) A (setAttr (.ref (as i)) name v) Q E s := by
  have hany := getL_isSome hl
  have Ni := N _ (hsub _ (at_dl hi))
  rw [ho] at Ni
  have N1 : News h₀ L s.heap ([] ++ (ds i, dictOf es k) :: others h₀ s.heap L (ds i)) := fun p hp => by
    rcases List.mem_cons.mp hp with rfl | hp
    · exact Ni
    · have := mem_others.mp hp
      exact ⟨this.1, this.2.2.1, this.2.2.2⟩
  have hk : putN name es k = k := by unfold putN; rw [if_pos hany]
  refine set_plain (X.keeps F.keep) (inst_row R hi Ni.1) (fs_87 _) (osa_dict (s := { s with toks := s.toks + 1 }) F N1 (X.keeps F.keep) (inst_row R hi Ni.1) rfl (po_87 _) ht (hd_87 _) (by rw [lookIn_dict, hl]; rfl) (fun p hp => nomatch hp) (fun p hp => (mem_others.mp hp).2.1) (by rw [putName_dict, hk]) rfl (by rw [putL_length hany]; omega) fun h' F' N' => ?_)
  refine h h' ⟨F', fun p hp => ?_, fun rest Nr off p hp => ?_⟩
  · obtain ⟨j, hj, rfl⟩ := mem_dl.mp hp
    by_cases e : j = i
    · subst e
      rw [put_same]
      exact N' _ (.head _)
    · rw [put_ne e]
      have Nj := N _ (hsub _ (at_dl (os := os) hj))
      exact N' _ (.tail _ (mem_others.mpr ⟨Nj.1, fun q => e (J j i hj hi q), Nj.2.1, Nj.2.2⟩))
  · have Np := Nr p hp
    exact N' _ (.tail _ (mem_others.mpr ⟨Np.1, off p hp i hi, Np.2.1, Np.2.2⟩))

theorem dicts_put {o : Obj} {x : Inf} (d : DictsAre n os st) (h : DictIs o x) : DictsAre n (put os i o) (put st i x) := fun j hj => by
  by_cases e : j = i
  · subst e; rw [put_same, put_same]; exact h
  · rw [put_ne e, put_ne e]; exact d j hj

theorem set_pS {v : Int} {t : Tok} (F : Fr h₀ L s.heap m) (X : (hd.heap_39 w.params).In h₀) (R : RowAt s.heap l n as ds) (J : Inj n ds) (N : News h₀ L s.heap news) (hsub : ∀ p ∈ dl n ds os, p ∈ news) (d : DictsAre n os st) (hi : i < n)
    (h : ∀ h' os', Turns h₀ L m n ds s.heap h' os' → DictsAre n os' (put st i ⟨v, (st i).b, (st i).y⟩) → Q () { s with heap := h', toks := s.toks + 2 }) :
    wpAny (model prog w) A (setAttr (.ref (as i)) sParent (.int v t)) Q E s := by
  obtain ⟨es, k, tp, tb, ty, ho, hz, h1, h2, h3⟩ := d i hi
  refine set_at F X R J N hsub hi (ti_p _) ho h1 hz fun h' S => h h' _ S (dicts_put d ⟨_, k, t, tb, ty, rfl, ?_, getL_put_same (isStr_self _ _), getL_put_ne (by decide) (isStr_self _ _) h2, getL_put_ne (by decide) (isStr_self _ _) h3⟩)
  rw [putL_length (getL_isSome h1)]; exact hz
theorem set_bS {v : Str} {t : Tok} (F : Fr h₀ L s.heap m) (X : (hd.heap_39 w.params).In h₀) (R : RowAt s.heap l n as ds) (J : Inj n ds) (N : News h₀ L s.heap news) (hsub : ∀ p ∈ dl n ds os, p ∈ news) (d : DictsAre n os st) (hi : i < n)
    (h : ∀ h' os', Turns h₀ L m n ds s.heap h' os' → DictsAre n os' (put st i ⟨(st i).p, v, (st i).y⟩) → Q () { s with heap := h', toks := s.toks + 2 }) :
    wpAny (model prog w) A (setAttr (.ref (as i)) sBond (.str v t)) Q E s := by
  obtain ⟨es, k, tp, tb, ty, ho, hz, h1, h2, h3⟩ := d i hi
  refine set_at F X R J N hsub hi (ti_b _) ho h2 hz fun h' S => h h' _ S (dicts_put d ⟨_, k, tp, t, ty, rfl, ?_, getL_put_ne (by decide) (isStr_self _ _) h1, getL_put_same (isStr_self _ _), getL_put_ne (by decide) (isStr_self _ _) h3⟩)
  rw [putL_length (getL_isSome h2)]; exact hz
theorem set_yS {v : Int} {t : Tok} (F : Fr h₀ L s.heap m) (X : (hd.heap_39 w.params).In h₀) (R : RowAt s.heap l n as ds) (J : Inj n ds) (N : News h₀ L s.heap news) (hsub : ∀ p ∈ dl n ds os, p ∈ news) (d : DictsAre n os st) (hi : i < n)
    (h : ∀ h' os', Turns h₀ L m n ds s.heap h' os' → DictsAre n os' (put st i ⟨(st i).p, (st i).b, v⟩) → Q () { s with heap := h', toks := s.toks + 2 }) :
    wpAny (model prog w) A (setAttr (.ref (as i)) sY (.int v t)) Q E s := by
  obtain ⟨es, k, tp, tb, ty, ho, hz, h1, h2, h3⟩ := d i hi
  refine set_at F X R J N hsub hi (ti_y _) ho h3 hz fun h' S => h h' _ S (dicts_put d ⟨_, k, tp, tb, t, rfl, ?_, getL_put_ne (by decide) (isStr_self _ _) h1, getL_put_ne (by decide) (isStr_self _ _) h2, getL_put_same (isStr_self _ _)⟩)
  rw [putL_length (getL_isSome h3)]; exact hz
theorem set_p {v : Int} {t : Tok} (F : Fr h₀ L s.heap m) (X : (hd.heap_39 w.params).In h₀) (R : RowAt h₀ l n as ds) (J : Inj n ds) (N : News h₀ L s.heap news) (hsub : ∀ p ∈ dl n ds os, p ∈ news) (d : DictsAre n os st) (hi : i < n)
    (h : ∀ h' os', Turns h₀ L m n ds s.heap h' os' → DictsAre n os' (put st i ⟨v, (st i).b, (st i).y⟩) → Q () { s with heap := h', toks := s.toks + 2 }) :
    wpAny (model prog w) A (setAttr (.ref (as i)) sParent (.int v t)) Q E s := set_pS F X (R.keeps F.keep) J N hsub d hi h
theorem set_b {v : Str} {t : Tok} (F : Fr h₀ L s.heap m) (X : (hd.heap_39 w.params).In h₀) (R : RowAt h₀ l n as ds) (J : Inj n ds) (N : News h₀ L s.heap news) (hsub : ∀ p ∈ dl n ds os, p ∈ news) (d : DictsAre n os st) (hi : i < n)
    (h : ∀ h' os', Turns h₀ L m n ds s.heap h' os' → DictsAre n os' (put st i ⟨(st i).p, v, (st i).y⟩) → Q () { s with heap := h', toks := s.toks + 2 }) :
    wpAny (model prog w) A (setAttr (.ref (as i)) sBond (.str v t)) Q E s := set_bS F X (R.keeps F.keep) J N hsub d hi h
theorem set_y {v : Int} {t : Tok} (F : Fr h₀ L s.heap m) (X : (hd.heap_39 w.params).In h₀) (R : RowAt h₀ l n as ds) (J : Inj n ds) (N : News h₀ L s.heap news) (hsub : ∀ p ∈ dl n ds os, p ∈ news) (d : DictsAre n os st) (hi : i < n)
    (h : ∀ h' os', Turns h₀ L m n ds s.heap h' os' → DictsAre n os' (put st i ⟨(st i).p, (st i).b, v⟩) → Q () { s with heap := h', toks := s.toks + 2 }) :
    wpAny (model prog w) A (setAttr (.ref (as i)) sY (.int v t)) Q E s := set_yS F X (R.keeps F.keep) J N hsub d hi h
end
end Mine

end NzMut

section NzLoosen
open PySem PySem.Spec PySem.Calls PySem.W PyProof.Rows
namespace Mine
example : PySem.Challenge.rw_nz0114_01 = PySem.Challenge.rw_nz0114_01 ∧ hd.heap_39 = hd.heap_39 := by
  k_fill
  exact ⟨rfl, rfl⟩

theorem mods_of {g h h' : Heap} {L : Addr} {m : Str → Option Value} {n : Nat} {ds : Nat → Addr} {os os' : Nat → Obj} {own : List (Addr × Obj)} (F : Fr g L h' m) (N : News g L h' own) (hs : ∀ p ∈ dl n ds os', p ∈ own) (G : GSub h g ((dl n ds os).map (·.1))) : Mods n ds h h' os' :=
  ⟨fun b o e k => F.keep b o (G b o e fun hm => by
    rw [keys_dl] at hm
    obtain ⟨j, hj, q⟩ := List.mem_map.mp hm
    exact k j (List.mem_range.mp hj) q.symm), fun i hi => (N _ (hs _ (at_dl hi))).1⟩

def loose (x : Inf) : Inf := ⟨0, Str.ofString "", x.y⟩

local macro_rules | `(tactic| walk_at "setAttr ref") => `(tactic| (k_here; (first | (with_reducible refine' set_p ?k1 ?k2 ?k3 ?k4 ?k5 ?k6 ?k7 ?k8 ?_) | (with_reducible refine' set_b ?k1 ?k2 ?k3 ?k4 ?k5 ?k6 ?k7 ?k8 ?_) | (with_reducible refine' set_y ?k1 ?k2 ?k3 ?k4 ?k5 ?k6 ?k7 ?k8 ?_)); (case k1 => k_asm); (case k2 => k_asm); (case k3 => assumption); (case k4 => assumption); (case k5 => k_asm); (case k6 => exact fun _ hp => hp); (case k7 => assumption); (case k8 => assumption); k_whole; intro h' os' S' hos'; (have F' := S'.fr); (have N' := S'.dl); clear S'; (try dsimp only); (try k_sweep)))

theorem loosen_spec (prog : Program) (w : World) : Enters prog w 28 1 8 (fun h₀ L s vs Q => ∃ (l : Addr) (n : Nat) (as ds : Nat → Addr) (os : Nat → Obj) (st : Nat → Inf) (i : Nat), vs = [.ref (as i)] ∧ RowAt s.heap l n as ds ∧ Inj n ds ∧ News h₀ L s.heap (dl n ds os) ∧ DictsAre n os st ∧ i < n ∧
   (∀ (os' : Nat → Obj) (tk' : Nat) (h' : Heap), Mods n ds s.heap h' os' → DictsAre n os' (put st i (loose (st i))) → Q .none { s with heap := h', toks := tk' })) := by
  intro p loose_ mean mg mb dp un gd cn cs a₀ ccd cl outer A₀ base h₀ L m s vs Q E B F X T hk hdp hun ⟨l, n, as, ds, os, st, i, hvs, R, J, N, d, hi, hret⟩
  subst hvs
  refine wpAny_call ?_
  k_dflt (refine' enter ?k1 ?k2 ?k3 N ?k5 ?kA ?kF ?kK ?k6 ?k7 ?k8 ?k9 ?kB ?_ ?c2 ?c3 ?c4 ?c5; (case kA => exact rfl); (case kF => exact rfl); (case kK => assumption); (case k1 => k_asm); (case k2 => k_asm); (case k3 => k_asm); (case k5 => k_asm); (case k6 => k_is); (case k7 => k_is); (case k8 => ktr_room); (case k9 => exact BindsTo.of_eq rfl); (case c5 => decide); (case kB => exact locs rfl); (case c2 => exact rfl); (case c3 => exact rfl); (case c4 => exact rfl); k_whole; intro g' L' h' F' N' B' X' T' G' S'; (try dsimp only); (try k_fold))
  replace R := R.hidden (dictsAt_news N (fun _ hp => hp) d) G'
  clear F B X T S' N
  k_steps
  rename_i h9 os9 d9 F9 N9
  refine hret os9 _ h9 (mods_of F9 N9 (fun _ hp => hp) G') ?_
  simp only [put_same, put_put] at d9
  exact d9
theorem loosen_use {prog : Program} {w : World} {p : Program} {loo : List Str} {mean : ExcName → Option Value} {mg mb : Str → Option Value} {dp un : Nat} {gd : Option (List Code)} {cn : Str} {cs : Scope} {a : Addr} {ccd : Value} {cl : List (Str × Addr)} {outer : List Env} {A₀ : Around} {base h₀ : Heap} {L : Addr} {m : Str → Option Value} {s : Shared} {Q E : Value → Shared → Prop}
    {l : Addr} {n : Nat} {as ds : Nat → Addr} {os : Nat → Obj} {st : Nat → Inf} {i : Nat} {news : List (Addr × Obj)}
    (B : Below A₀ base outer h₀) (F : Fr h₀ L s.heap m) (X : (hd.heap_39 w.params).In h₀) (T : Top p loo mean mg mb h₀) (hk : cs.kind = .function) (hd : dp + 1 < recursionLimit) (hu : un + 8 < cLine)
    (R : RowAt h₀ l n as ds) (J : Inj n ds) (N : News h₀ L s.heap news) (hsub : ∀ p ∈ dl n ds os, p ∈ news) (d : DictsAre n os st) (hi : i < n)
    (hret : ∀ (os' : Nat → Obj) (tk' : Nat) (h' : Heap), Turns h₀ L m n ds s.heap h' os' → DictsAre n os' (put st i (loose (st i))) → Q .none { s with heap := h', toks := tk' }) :
    wpAny (model prog w) (ktrTop dp un gd cn cs L a ccd cl outer) (call (.ref 28) [.ref (as i)]) Q E s :=
  loosen_spec prog w p loo mean mg mb dp un gd cn cs a ccd cl outer A₀ base h₀ L m s _ Q E B F X T hk hd hu
    ⟨l, n, as, ds, os, st, i, rfl, R.keeps F.keep, J, fun q hq => N q (hsub q hq), d, hi, fun os' tk' h' M d' => hret os' tk' h' (M.turns F N hsub) d'⟩
end Mine

end NzLoosen

section NzBreak
open PySem PySem.Spec PySem.Calls PySem.W PyProof.Rows
namespace Mine
example : PySem.Challenge.rw_nz0114_01 = PySem.Challenge.rw_nz0114_01 ∧ hd.heap_39 = hd.heap_39 := by
  k_fill
  exact ⟨rfl, rfl⟩

/-- z is reached from a in k steps, and none of the steps goes to c -/
inductive StepsOff (f : Nat → Option Nat) (c a : Nat) : Nat → Nat → Prop
  | zero : StepsOff f c a 0 a
  | succ {k y z : Nat} : StepsOff f c a k y → f y = some z → z ≠ c → StepsOff f c a (k + 1) z

def breakJ (l : Addr) (n : Nat) (ds : Nat → Addr) (os : Nat → Obj) (st : Nat → Inf) (c a : Nat) (i : Nat) (m : Str → Option Value) (nx : List (Addr × Obj)) : Prop :=
  ∃ (z : Nat) (th tc : Tok), nx = dl n ds os ∧ m (Str.ofString "row") = some (.ref l) ∧ m (Str.ofString "here") = some (.int (z : Int) th) ∧ m (Str.ofString "child") = some (.int (c : Int) tc) ∧ z < n ∧ StepsOff (nextOf st) c a i z

/-- what break_ring makes of a row -/
inductive Broken (n : Nat) (st : Nat → Inf) (c a : Nat) : (Nat → Inf) → Prop
  | ended {i z : Nat} : i < n → z < n → StepsOff (nextOf st) c a i z → nextOf st z = none → Broken n st c a st
  | hit {i z : Nat} : i < n → z < n → StepsOff (nextOf st) c a i z → nextOf st z = some c → Broken n st c a (put st z ⟨0, Str.ofString "", 0⟩)
  | long {z : Nat} : z < n → StepsOff (nextOf st) c a n z → Broken n st c a st

local macro_rules | `(tactic| walk_at "subscriptTail Name") => `(tactic| (k_here; (with_reducible show wpAny _ _ (subscriptTail _ _ (Value.ref _) (Value.int _ _)) _ _ _); (refine' item_row ?k1 ?k2 ?k3 ?k4 ?_ ?k6; (case k1 => k_asm); (case k2 => assumption); (case k3 => assumption); (case k4 => assumption); (case k6 => with_unfolding_all rfl); k_whole)))
local macro_rules | `(tactic| walk_at "getAttr ref") => `(tactic| (k_here; (first | (with_reducible refine' get_p ?k1 ?k2 ?k3 ?k4 ?k5 ?_) | (with_reducible refine' get_b ?k1 ?k2 ?k3 ?k4 ?k5 ?_) | (with_reducible refine' get_y ?k1 ?k2 ?k3 ?k4 ?k5 ?_)); (case k1 => k_asm); (case k2 => k_asm); (case k3 => assumption); (case k4 => exact dictsAt_news (by k_asm) (fun _ hp => List.mem_append_left _ hp) (by assumption)); (case k5 => assumption); k_whole; intro ta'; (try dsimp only)))
local macro_rules | `(tactic| walk_at "call builtin:len") => `(tactic| (k_here; refine' len_row ?k1 ?k2 ?k3 ?_; (case k1 => k_asm); (case k2 => assumption); (case k3 => assumption); k_whole; intro tl'; (try dsimp only)))
local macro_rules | `(tactic| walk_at "call type:range") => `(tactic| (k_here; refine' range1_rows ?k1 ?k2 ?_; (case k1 => k_asm); (case k2 => k_asm); k_whole; intro h' tk' tr' ur' vr' rg' F' N' kk'; (try k_sweep)))
local macro_rules | `(tactic| walk_at "pyIter ref") => `(tactic| (refine Halt.out ?_))
local macro_rules | `(tactic| walk_at "call ref") => `(tactic| (k_here; k_dflt (refine' loosen_use ?k1 ?k2 ?k3 ?k4 ?k5 ?k6 ?k7 ?k8 ?k9 ?ka ?kb ?kc ?kd ?_); (case k1 => k_asm); (case k2 => k_asm); (case k3 => k_asm); (case k4 => k_asm); (case k5 => exact rfl); (case k8 => assumption); (case k9 => assumption); (case ka => k_asm); (case kb => exact fun _ hp => List.mem_append_left _ hp); (case kc => assumption); (case kd => assumption); (case k6 => ktr_room); (case k7 => ktr_units); k_whole; intro os' tk' h' S' hos'; (have F' := S'.fr); (have N' := (News.append S'.dl (S'.off _ (News.right (by k_asm)) (off_of (by assumption))))); clear S'; (try dsimp only); (try k_sweep)))
local macro_rules | `(tactic| walk_at "setAttr ref") => `(tactic| (k_here; (first | (with_reducible refine' set_p ?k1 ?k2 ?k3 ?k4 ?k5 ?k6 ?k7 ?k8 ?_) | (with_reducible refine' set_b ?k1 ?k2 ?k3 ?k4 ?k5 ?k6 ?k7 ?k8 ?_) | (with_reducible refine' set_y ?k1 ?k2 ?k3 ?k4 ?k5 ?k6 ?k7 ?k8 ?_)); (case k1 => k_asm); (case k2 => k_asm); (case k3 => assumption); (case k4 => assumption); (case k5 => k_asm); (case k6 => exact fun _ hp => List.mem_append_left _ hp); (case k7 => assumption); (case k8 => assumption); k_whole; intro h' os' S' hos'; (have F' := S'.fr); (have N' := S'.dl); clear S'; (try dsimp only); (try k_sweep)))

theorem break_spec (prog : Program) (w : World) : Enters prog w 42 2 16 (fun h₀ L s vs Q => ∃ (l : Addr) (n : Nat) (as ds : Nat → Addr) (os : Nat → Obj) (st : Nat → Inf) (c a : Nat) (t u : Tok), vs = [.ref l, .int (c : Int) t, .int (a : Int) u] ∧ RowAt s.heap l n as ds ∧ Inj n ds ∧ News h₀ L s.heap (dl n ds os) ∧ DictsAre n os st ∧ Valid n st ∧ c < n ∧ a < n ∧ n ≤ 7 ∧
   (∀ (os' : Nat → Obj) (st' : Nat → Inf) (tk' : Nat) (h' : Heap), Mods n ds s.heap h' os' → DictsAre n os' st' → Broken n st c a st' → Q .none { s with heap := h', toks := tk' })) := by
  intro p loose_ mean mg mb dp un gd cn cs a₀ ccd cl outer A₀ base h₀ L m s vs Q E B F X T hk hdp hun ⟨l, n, as, ds, os, st, c, a, t, u, hvs, R, J, N, d, V, hc, ha, hn, hret⟩
  subst hvs
  refine wpAny_call ?_
  k_dflt (refine' enter ?k1 ?k2 ?k3 N ?k5 ?kA ?kF ?kK ?k6 ?k7 ?k8 ?k9 ?kB ?_ ?c2 ?c3 ?c4 ?c5; (case kA => exact rfl); (case kF => exact rfl); (case kK => assumption); (case k1 => k_asm); (case k2 => k_asm); (case k3 => k_asm); (case k5 => k_asm); (case k6 => k_is); (case k7 => k_is); (case k8 => ktr_room); (case k9 => exact BindsTo.of_eq rfl); (case c5 => decide); (case kB => exact locs rfl); (case c2 => exact rfl); (case c3 => exact rfl); (case c4 => exact rfl); k_whole; intro g' L' h' F' N' B' X' T' G' S'; (try dsimp only); (try k_fold))
  replace R := R.hidden (dictsAt_news N (fun _ hp => hp) d) G'
  clear F B X T S' N
  k_steps
  refine Halt.goOn ?_
  rename_i rg F1 N1 _
  refine iter_rangeJ (breakJ l n ds os st c a) rfl rg rfl (by omega) F1 N1 ⟨a, _, _, rfl, by with_unfolding_all rfl, by with_unfolding_all rfl, by with_unfolding_all rfl, ha, .zero⟩ ?_ ?_
  · clear F1 N1 rg
    rintro i ti m₁ nx h₁ tk₁ own hi hoff ⟨z, th, tc, rfl, e1, e2, e3, hz, hs⟩ F1 N1
    rw [canon3 e1 e2 e3] at F1
    dsimp only
    k_steps
    · exact hret os st _ h₁ (mods_of F1 N1 (fun _ hp => List.mem_append_left _ hp) G') d (.ended hi hz hs (next_none (by assumption)))
    · rename_i d9 F9 N9
      obtain ⟨y, hy, hyn, ey⟩ := V.is_next hz (by assumption : (st z).p ≠ 0)
      have ec : (z : Int) + (st z).p = (c : Int) := by assumption
      have : y = c := by omega
      subst this
      simp only [put_same, put_put, loose] at d9
      exact hret _ _ _ _ (mods_of F9 N9 (fun _ hp => hp) G') d9 (.hit hi hz hs hy)
    · obtain ⟨y, hy, hyn, ey⟩ := V.is_next hz (by assumption : (st z).p ≠ 0)
      have ec : (z : Int) + (st z).p ≠ (c : Int) := by assumption
      refine InvEndN.intro (by assumption) (by assumption) (nx := dl n ds os) ⟨y, _, _, rfl, by with_unfolding_all rfl, read_int_eq (by with_unfolding_all rfl) ey, by with_unfolding_all rfl, hyn, hs.succ hy (by omega)⟩ rfl (fun _ hp => List.mem_append_left _ hp) (fun _ hp => List.mem_append_right _ hp)
  · clear F1 N1 rg
    rintro m₁ nx h₁ tk₁ ⟨z, th, tc, rfl, e1, e2, e3, hz, hs⟩ F1 N1
    rw [canon3 e1 e2 e3] at F1
    k_steps
    exact hret os st _ h₁ (mods_of F1 N1 (fun _ hp => hp) G') d (.long hz hs)
end Mine

end NzBreak

section NzTC
open PySem PySem.Spec PySem.Calls PySem.W PyProof.Rows
namespace Mine
/-! turn_chain: the plain law of it -/

/-- the way that the loop has gone: vis are let go, it stands at z -/
structure TP (f : Nat → Option Nat) (n a : Nat) (vis : List Nat) (z : Nat) : Prop where
  head : (vis ++ [z]).head? = some a
  nodup : vis.Nodup
  below : ∀ x ∈ vis ++ [z], x < n
  link : ∀ (i x y : Nat), (vis ++ [z])[i]? = some x → (vis ++ [z])[i + 1]? = some y → f x = some y

theorem TP.one {f : Nat → Option Nat} {n a : Nat} (h : a < n) : TP f n a [] a := by
  refine ⟨rfl, List.nodup_nil, by simp [h], ?_⟩
  intro i x y _ hy
  simp at hy
theorem snoc_link {f : Nat → Option Nat} {c : List Nat} {z y : Nat} (hl : c.getLast? = some z) (h : f z = some y) (k : ∀ (i x y : Nat), c[i]? = some x → c[i + 1]? = some y → f x = some y) : ∀ (i x w : Nat), (c ++ [y])[i]? = some x → (c ++ [y])[i + 1]? = some w → f x = some w := by
  intro i x w hx hw
  by_cases h1 : i + 1 < c.length
  · rw [List.getElem?_append_left (by omega)] at hx
    rw [List.getElem?_append_left h1] at hw
    exact k i x w hx hw
  · have h2 : i + 1 < (c ++ [y]).length := by
      rcases Nat.lt_or_ge (i + 1) (c ++ [y]).length with h | h
      · exact h
      · rw [List.getElem?_eq_none h] at hw; cases hw
    have h3 : i + 1 = c.length := by simp at h2; omega
    rw [List.getElem?_append_right (by omega)] at hw
    rw [h3] at hw
    simp at hw
    subst hw
    rw [List.getElem?_append_left (by omega)] at hx
    rw [List.getLast?_eq_getElem?] at hl
    have : c.length - 1 = i := by omega
    rw [this, hx] at hl
    cases hl
    exact h
theorem TP.more {f : Nat → Option Nat} {n a z y : Nat} {vis : List Nat} (P : TP f n a vis z) (hz : z ∉ vis) (h : f z = some y) (hy : y < n) : TP f n a (vis ++ [z]) y := by
  refine ⟨?_, ?_, ?_, snoc_link (by simp) h P.link⟩
  · have := P.head
    cases vis with
    | nil => simpa using this
    | cons b r => simpa using this
  · rw [List.nodup_append]
    refine ⟨P.nodup, by simp, ?_⟩
    intro x hx b hb e
    rw [List.mem_singleton.mp hb] at e
    exact hz (e ▸ hx)
  · intro x hx
    rcases List.mem_append.mp hx with h1 | h1
    · exact P.below x h1
    · rw [List.mem_singleton.mp h1]; exact hy
theorem TP.length_le {f : Nat → Option Nat} {n a z : Nat} {vis : List Nat} (P : TP f n a vis z) : vis.length ≤ n := nodup_length n vis P.nodup fun x hx => P.below x (List.mem_append_left _ hx)
theorem TP.reach {f : Nat → Option Nat} {n a z : Nat} {vis : List Nat} (P : TP f n a vis z) {x : Nat} (hx : x ∈ vis ++ [z]) : Reach f a x := by
  obtain ⟨i, hi, e⟩ := List.mem_iff_getElem.mp hx
  clear hx
  induction i generalizing x with
  | zero =>
    have h0 := P.head
    rw [List.head?_eq_getElem?, List.getElem?_eq_getElem hi, e] at h0
    cases h0
    exact .refl
  | succ i ih =>
    have hi' : i < (vis ++ [z]).length := by omega
    refine .step (ih hi' rfl) (P.link i _ x ?_ ?_)
    · exact List.getElem?_eq_getElem hi'
    · rw [List.getElem?_eq_getElem hi, e]

def looseAll (st : Nat → Inf) (V : List Nat) : Nat → Inf := fun i => if i ∈ V then loose (st i) else st i
theorem looseAll_nil {st : Nat → Inf} : looseAll st [] = st := by funext i; unfold looseAll; simp
theorem looseAll_snoc {st : Nat → Inf} {V : List Nat} {z : Nat} (hz : z ∉ V) : put (looseAll st V) z (loose (looseAll st V z)) = looseAll st (V ++ [z]) := by
  funext i
  unfold put looseAll
  by_cases e : i = z
  · subst e; simp [hz]
  · simp [e]

/-- a link that is to be laid: where its tuple lies, and what it says -/
structure Lk where
  T : Addr
  c : Nat
  d : Int
  y : Int
  t1 : Tok
  t2 : Tok
  t3 : Tok
def Lk.inf (k : Lk) : Inf := ⟨k.d, sCur, k.y⟩
def LkAre (st : Nat → Inf) (vis : List Nat) (z : Nat) (lk : List Lk) : Prop := lk.length = vis.length ∧
  ∀ (i x y : Nat) (k : Lk), (vis ++ [z])[i]? = some x → (vis ++ [z])[i + 1]? = some y → lk[i]? = some k → k.c = y ∧ k.d = (x : Int) - (y : Int) ∧ k.y = -(st x).y
theorem LkAre.nil {st : Nat → Inf} {z : Nat} : LkAre st [] z [] := ⟨rfl, fun i x y k _ h _ => by simp at h⟩
theorem LkAre.more {st : Nat → Inf} {vis : List Nat} {z y : Nat} {lk : List Lk} {k : Lk} (h : LkAre st vis z lk) (h1 : k.c = y) (h2 : k.d = (z : Int) - (y : Int)) (h3 : k.y = -(st z).y) : LkAre st (vis ++ [z]) y (lk ++ [k]) := by
  refine ⟨by simp [h.1], ?_⟩
  intro i x w k' hx hw hk
  by_cases q : i < lk.length
  · rw [List.getElem?_append_left q] at hk
    have q' : i + 1 < (vis ++ [z]).length := by have := h.1; simp; omega
    rw [List.getElem?_append_left (by omega)] at hx
    rw [List.getElem?_append_left q'] at hw
    exact h.2 i x w k' hx hw hk
  · have q' : i < (lk ++ [k]).length := by
      rcases Nat.lt_or_ge i (lk ++ [k]).length with h | h
      · exact h
      · rw [List.getElem?_eq_none h] at hk; cases hk
    have e : i = lk.length := by simp at q'; omega
    subst e
    simp at hk
    subst hk
    have e2 := h.1
    rw [e2] at hx hw
    have e3 : ((vis ++ [z]) ++ [y])[vis.length + 1]? = some y := by
      have : vis.length + 1 = (vis ++ [z]).length := by simp
      rw [this, List.getElem?_append_right (by omega)]
      simp
    have e4 : ((vis ++ [z]) ++ [y])[vis.length]? = some z := by
      rw [List.getElem?_append_left (by simp), List.getElem?_append_right (by omega)]
      simp
    rw [e3] at hw
    rw [e4] at hx
    cases hw
    cases hx
    exact ⟨h1, h2, h3⟩

/-- the links are laid, one after the other -/
def laid (lk : List Lk) (st : Nat → Inf) : Nat → Inf := lk.foldl (fun s k => put s k.c k.inf) st
theorem laid_snoc {lk : List Lk} {k : Lk} {st : Nat → Inf} : laid (lk ++ [k]) st = put (laid lk st) k.c k.inf := by unfold laid; rw [List.foldl_append]; rfl
theorem laid_off {st : Nat → Inf} {i : Nat} : ∀ {lk : List Lk}, (∀ k ∈ lk, k.c ≠ i) → laid lk st i = st i := by
  intro lk
  induction lk generalizing st with
  | nil => intro _; rfl
  | cons k r ih =>
    intro h
    show laid r (put st k.c k.inf) i = st i
    rw [ih fun k' hk => h k' (.tail _ hk), put_ne (fun e => h k (.head _) e.symm)]
theorem laid_mem {st : Nat → Inf} {i : Nat} : ∀ {lk : List Lk}, (∃ k, k ∈ lk ∧ k.c = i) → ∃ k, k ∈ lk ∧ k.c = i ∧ laid lk st i = k.inf := by
  intro lk
  induction lk generalizing st with
  | nil => rintro ⟨k, h, _⟩; cases h
  | cons k r ih =>
    intro h
    by_cases q : ∃ k', k' ∈ r ∧ k'.c = i
    · obtain ⟨k', h1, h2, h3⟩ := ih (st := put st k.c k.inf) q
      exact ⟨k', .tail _ h1, h2, h3⟩
    · obtain ⟨k', h1, h2⟩ := h
      rcases List.mem_cons.mp h1 with rfl | h1
      · refine ⟨k', .head _, h2, ?_⟩
        show laid r (put st k'.c k'.inf) i = k'.inf
        rw [laid_off fun k'' hk e => q ⟨k'', hk, e⟩, ← h2, put_same]
      · exact absurd ⟨k', h1, h2⟩ q

/-- what turn_chain makes of a row -/
def Turned (n : Nat) (st : Nat → Inf) (a : Nat) (st' : Nat → Inf) : Prop := ∃ C : Nat → Prop, (∀ i, C i → Reach (curOf st) a i) ∧ (∀ i, ¬ C i → st' i = st i) ∧ (∀ i j, C i → nextOf st' i = some j → C j) ∧ Valid n st' ∧
  (Ends (nextOf st) a → ∀ i, C i → Ends (nextOf st') i)

theorem turned_of {n : Nat} {st : Nat → Inf} {a z : Nat} {vis V : List Nat} {lk : List Lk} (S : Valid n st) (P : TP (curOf st) n a vis z) (K : LkAre st vis z lk) (hV : V = vis ∨ V = vis ++ [z]) : Turned n st a (laid lk (looseAll st V)) := by
  have sub : ∀ x, x ∈ V → x ∈ vis ++ [z] := by
    intro x hx
    rcases hV with rfl | rfl
    · exact List.mem_append_left _ hx
    · exact hx
  have visV : ∀ x, x ∈ vis → x ∈ V := by
    intro x hx
    rcases hV with rfl | rfl
    · exact hx
    · exact List.mem_append_left _ hx
  -- what a link says
  have says : ∀ k, k ∈ lk → ∃ i x : Nat, lk[i]? = some k ∧ (vis ++ [z])[i]? = some x ∧ x ∈ vis ∧ (vis ++ [z])[i + 1]? = some k.c ∧ k.d = (x : Int) - (k.c : Int) := by
    intro k hk
    obtain ⟨i, hi, e⟩ := List.mem_iff_getElem.mp hk
    have hi' : i < vis.length := by rw [← K.1]; exact hi
    have hx : (vis ++ [z])[i]? = some vis[i] := by rw [List.getElem?_append_left hi']; exact List.getElem?_eq_getElem hi'
    have hy0 : i + 1 < (vis ++ [z]).length := by simp; omega
    have hy : (vis ++ [z])[i + 1]? = some (vis ++ [z])[i + 1] := List.getElem?_eq_getElem hy0
    have hk' : lk[i]? = some k := by rw [List.getElem?_eq_getElem hi, e]
    obtain ⟨h1, h2, _⟩ := K.2 i _ _ k hx hy hk'
    exact ⟨i, vis[i], hk', hx, List.getElem_mem hi', by rw [h1]; exact hy, by rw [h1]; exact h2⟩
  have inC : ∀ k, k ∈ lk → k.c ∈ vis ++ [z] := by
    intro k hk
    obtain ⟨i, x, _, _, _, h, _⟩ := says k hk
    exact List.mem_of_getElem? h
  -- what is at a place of the chain
  have at_ : ∀ i, (i ∈ V ∨ ∃ k, k ∈ lk ∧ k.c = i) → (laid lk (looseAll st V) i).p = 0 ∨ ∃ x : Nat, x ∈ vis ∧ (i : Int) + (laid lk (looseAll st V) i).p = (x : Int) := by
    intro i hi
    by_cases q : ∃ k, k ∈ lk ∧ k.c = i
    · obtain ⟨k, h1, h2, h3⟩ := laid_mem (st := looseAll st V) q
      obtain ⟨_, x, _, _, hx, _, hd⟩ := says k h1
      refine .inr ⟨x, hx, ?_⟩
      rw [h3]
      show (i : Int) + k.d = _
      rw [hd, h2]; omega
    · left
      rw [laid_off fun k hk e => q ⟨k, hk, e⟩]
      rcases hi with h | h
      · unfold looseAll; rw [if_pos h]; rfl
      · exact absurd h q
  have off_ : ∀ i, ¬ (i ∈ V ∨ ∃ k, k ∈ lk ∧ k.c = i) → laid lk (looseAll st V) i = st i := by
    intro i hi
    rw [laid_off fun k hk e => hi (.inr ⟨k, hk, e⟩)]
    unfold looseAll
    rw [if_neg fun h => hi (.inl h)]
  have below : ∀ x, x ∈ vis → x < n := fun x hx => P.below x (List.mem_append_left _ hx)
  refine ⟨fun i => i ∈ V ∨ ∃ k, k ∈ lk ∧ k.c = i, ?_, off_, ?_, ?_, ?_⟩
  · rintro i (h | ⟨k, hk, rfl⟩)
    · exact P.reach (sub i h)
    · exact P.reach (inC k hk)
  · intro i j hi hj
    rcases at_ i hi with h | ⟨x, hx, h⟩
    · rw [next_none h] at hj; cases hj
    · have hp : (laid lk (looseAll st V) i).p ≠ 0 := by
        intro q; rw [next_none q] at hj; cases hj
      unfold nextOf at hj
      rw [if_neg hp, h] at hj
      have : x = j := by simpa using hj
      exact .inl (visV _ (this ▸ hx))
  · intro i hi hp
    by_cases hc : i ∈ V ∨ ∃ k, k ∈ lk ∧ k.c = i
    · rcases at_ i hc with h | ⟨x, hx, h⟩
      · exact absurd h hp
      · have := below x hx
        omega
    · rw [off_ i hc] at hp ⊢
      exact S i hi hp
  · intro hE
    have hz : z ∉ vis := by
      intro hz
      have ha : a ∈ vis := by
        have h0 := P.head
        cases vis with
        | nil => cases hz
        | cons b r => simp at h0; rw [h0]; exact .head _
      refine not_ends_of_ring (S := fun x => x ∈ vis) (fun x hx => ?_) hE ha
      obtain ⟨i, hi, e⟩ := List.mem_iff_getElem.mp hx
      have hy0 : i + 1 < (vis ++ [z]).length := by simp; omega
      have hl := P.link i x (vis ++ [z])[i + 1] (by rw [List.getElem?_append_left hi, List.getElem?_eq_getElem hi, e]) (List.getElem?_eq_getElem hy0)
      refine ⟨_, ?_, cur_next hl⟩
      have := List.getElem_mem hy0
      rcases List.mem_append.mp this with h | h
      · exact h
      · rw [List.mem_singleton.mp h]; exact hz
    have nd : (vis ++ [z]).Nodup := by
      rw [List.nodup_append]
      refine ⟨P.nodup, by simp, ?_⟩
      intro x hx b hb e
      rw [List.mem_singleton.mp hb] at e
      exact hz (e ▸ hx)
    -- each place of the chain, by its number
    have all : ∀ i x : Nat, (vis ++ [z])[i]? = some x → (x ∈ V ∨ ∃ k, k ∈ lk ∧ k.c = x) → Ends (nextOf (laid lk (looseAll st V))) x := by
      intro i
      induction i with
      | zero =>
        intro x hx hc
        refine .stop (next_none ?_)
        have nok : ¬ ∃ k, k ∈ lk ∧ k.c = x := by
          rintro ⟨k, hk, e⟩
          obtain ⟨j, _, _, _, _, h, _⟩ := says k hk
          rw [e] at h
          have h0 : 0 < (vis ++ [z]).length := by simp
          have := (List.getElem?_inj h0 nd).mp (hx.trans h.symm)
          omega
        rcases hc with h | h
        · rw [laid_off fun k hk e => nok ⟨k, hk, e⟩]
          unfold looseAll; rw [if_pos h]; rfl
        · exact absurd h nok
      | succ i ih =>
        intro x hx hc
        have hi1 : i + 1 < (vis ++ [z]).length := by
          rcases Nat.lt_or_ge (i + 1) (vis ++ [z]).length with h | h
          · exact h
          · rw [List.getElem?_eq_none h] at hx; cases hx
        have hi : i < vis.length := by simp at hi1; exact hi1
        have hli : i < lk.length := by rw [K.1]; exact hi
        have hxi : (vis ++ [z])[i]? = some vis[i] := by rw [List.getElem?_append_left hi]; exact List.getElem?_eq_getElem hi
        have hk := List.getElem?_eq_getElem hli
        obtain ⟨h1, _, _⟩ := K.2 i _ _ _ hxi hx hk
        obtain ⟨k, g1, g2, g3⟩ := laid_mem (st := looseAll st V) (i := x) ⟨_, List.getElem_mem hli, h1⟩
        obtain ⟨j, w, e1, e2, e3, e4, e5⟩ := says k g1
        rw [g2] at e4
        have hij := (List.getElem?_inj hi1 nd).mp (hx.trans e4.symm)
        have : i = j := by omega
        subst this
        rw [hxi] at e2
        cases e2
        have hne : vis[i] ≠ x := by
          intro q
          have := (List.getElem?_inj (by omega) nd).mp (hxi.trans (q ▸ hx.symm))
          omega
        refine .step (y := vis[i]) ?_ (ih _ hxi (.inl (visV _ (List.getElem_mem hi))))
        unfold nextOf
        rw [g3]
        show (if k.d = 0 then none else some ((x : Int) + k.d).toNat) = some vis[i]
        rw [e5, g2, if_neg (by omega)]
        congr 1
        omega
    intro i hc
    have hm : i ∈ vis ++ [z] := by
      rcases hc with h | ⟨k, hk, rfl⟩
      · exact sub _ h
      · exact inC k hk
    obtain ⟨j, hj, e⟩ := List.mem_iff_getElem.mp hm
    exact all j i (by rw [List.getElem?_eq_getElem hj, e]) hc
theorem Turned.valid {n : Nat} {st st' : Nat → Inf} {a : Nat} (h : Turned n st a st') : Valid n st' := by
  obtain ⟨_, _, _, _, V, _⟩ := h
  exact V

/-- what tie makes of a row -/
def Tied (n : Nat) (st : Nat → Inf) (c a : Nat) (y : Int) (st' : Nat → Inf) : Prop := ∃ s1 s2, Turned n st c s1 ∧ Broken n s1 c a s2 ∧ st' = put s2 c ⟨(a : Int) - (c : Int), sCur, y⟩

end Mine

end NzTC

section NzTurn
open PySem PySem.Spec PySem.Calls PySem.W PyProof.Rows
namespace Mine
example : PySem.Challenge.rw_nz0114_01 = PySem.Challenge.rw_nz0114_01 ∧ hd.heap_39 = hd.heap_39 := by
  k_fill
  exact ⟨rfl, rfl⟩

section
variable {prog : Program} {w : World} {A : Around} {E : Value → Shared → Prop} {s : Shared} {env : Env} {h₀ : Heap} {elts : List PySem.Expr} {x1 : Nat} {tpos : Pos} {body : List Stmt} {Q : Flow → Shared → Prop}
/-- a loop over a list that the call has made, with any target -/
theorem iter_listT {l L : Addr} {items : Array Value} {m₀ : Str → Option Value} {news : List (Addr × Obj)} (J : Nat → (Str → Option Value) → List (Addr × Obj) → Prop)
    (hh : A.handled = none) (hl : s.heap.IsList l items) (hlL : l ≠ L) (hll : ∀ p ∈ news, p.1 ≠ l) (F : Fr h₀ L s.heap m₀) (N : News h₀ L s.heap news) (hj : J 0 m₀ news)
    (turn : ∀ i v m₁ nx h tk own, items[i]? = some v → (∀ p ∈ own, p.1 = l ∨ s.heap.get? p.1 = none) → J i m₁ nx → Fr h₀ L h m₁ → News h₀ L h (nx ++ own) →
      wpAny (model prog w) A (assign (.Tuple elts x1 tpos) env v) (fun _ s₂ => wpAny (model prog w) A (execs body env) (InvPostN h₀ L (J (i + 1)) own (news.map (·.1)) { s with heap := h, toks := tk } Q) E s₂) E { s with heap := h, toks := tk })
    (done : ∀ m₁ nx h tk, J items.size m₁ nx → Fr h₀ L h m₁ → News h₀ L h nx → Q .next { s with heap := h, toks := tk })
    (hL : env.locals = L := by rfl) :
    wpAny (model prog w) A (pyIter (.ref l)) (fun it s₂ => TurnsAt prog w A h₀ env (.Tuple elts x1 tpos) body Q E it s₂) E s := by
  subst hL
  obtain ⟨ol, hol, _⟩ := id hl
  have hlt : l < s.heap.objs.size := Heap.lt_size hol
  have hne : l ≠ s.heap.objs.size := Nat.ne_of_lt hlt
  refine wpAny_pyIter_list hl ?_
  have W := Walks.list (prog := prog) (w := w) hh s.heap.objs.size l hne items
  let J' : Nat → (Str → Option Value) → List (Addr × Obj) → Prop := fun i m₁ nx => nx.map (·.1) = news.map (·.1) ∧ J i m₁ nx
  have KT := KTurns.ofWalks (target := .Tuple elts x1 tpos) W (fun i v s' Q E st hQ => by
    cases v with
    | ref T => exact wpAny_letOwnedTupleGo_listiter st.1 hQ
    | _ => exact wpAny_pure hQ)
  refine ⟨_, _, _, items.size, _, _, _, m₀, news, J', rfl, KT, ?_, ?_, ?_, ⟨⟨_, Heap.get?_push_size _ rfl, rfl, rfl⟩, hl.at fun o e => Heap.get?_push_of_some _ e⟩, F.push _, (fun p hp => ⟨Heap.get?_push_of_some _ (N p hp).1, (N p hp).2⟩), ⟨rfl, hj⟩, ?_, ?_⟩
  · intro hm
    rcases List.mem_cons.mp hm with e | hm
    · exact absurd F.ns.lt (e ▸ Nat.lt_irrefl _)
    · exact hlL (List.mem_singleton.mp hm).symm
  · intro b hb
    rw [List.mem_singleton.mp hb]
    exact next_is_new F
  · intro p hp hI
    exact absurd (Heap.lt_size (N p hp).1) ((List.mem_singleton.mp hI) ▸ Nat.lt_irrefl _)
  · rintro i v m₁ nx h₁ tk₁ own hi hP ⟨hadr, hJ⟩ hoff hown _ _ _ F₁ N₁
    have N₂ : News h₀ env.locals h₁ (nx ++ own) := fun p hp => N₁ p ((List.mem_append.mp hp).elim (fun h => List.mem_append.mpr (.inr h)) fun h => List.mem_append.mpr (.inl h))
    have hsep : ∀ p ∈ own, p.1 = l ∨ s.heap.get? p.1 = none := by
      intro p hp
      rcases List.mem_cons.mp (hown p hp) with e | e
      · right
        rw [e]
        cases q : s.heap.get? s.heap.objs.size with
        | none => rfl
        | some o => exact absurd (Heap.lt_size q) (Nat.lt_irrefl _)
      · exact .inl (List.mem_singleton.mp e)
    refine wpAny_mono (turn i v m₁ nx h₁ tk₁ own hP hsep hJ F₁ N₂) (fun _ s₂ p => wpAny_mono p (fun f s₃ p => ?_) fun _ _ e => e) fun _ _ e => e
    have fin : InvEndN h₀ env.locals (J (i + 1)) own (news.map (·.1)) { s with heap := h₁, toks := tk₁ } s₃ → LoopStepU h₀ env.locals [s.heap.objs.size] own (J' (i + 1)) { s with heap := h₁, toks := tk₁ } .next s₃ := by
      rintro ⟨h', tk, m', news', nx', e, F', N', hn, ho, ha, hm⟩
      refine ⟨rfl, h', tk, m', nx', e, F', fun p hp => N' p ((List.mem_append.mp hp).elim (ho p) (hn p)), fun p hp hq => ?_, ha, hm⟩
      have h1 : p.1 ∈ nx'.map (·.1) := List.mem_map.mpr ⟨p, hp, rfl⟩
      rw [ha] at h1
      obtain ⟨q, hq1, hq2⟩ := List.mem_map.mp h1
      have := Heap.lt_size (N q hq1).1
      rw [hq2, List.mem_singleton.mp hq] at this
      exact absurd this (Nat.lt_irrefl _)
    cases f with
    | ret v => exact .ret p
    | brk => exact .brk p
    | next => exact .next (fin p)
    | cont => exact .cont (fin p)
  · rintro h' tk m' nx F' N' _ ⟨_, hJ⟩
    exact done m' nx h' tk hJ F' N'
end

def Lk.obj (k : Lk) : Obj := { cls := .type "tuple", data := .seq #[.int (k.c : Int) k.t1, .int k.d k.t2, .int k.y k.t3] }
def lkl (lk : List Lk) : List (Addr × Obj) := lk.map fun k => (k.T, k.obj)

/-- the ledger's shape within the loop -/
abbrev tcL (q : Addr) (n : Nat) (ds : Nat → Addr) (os : Nat → Obj) (lk : List Lk) (cap : Nat) : List (Addr × Obj) := (q, W.listOf (lk.map fun k => Value.ref k.T).toArray cap) :: (dl n ds os ++ lkl lk)

structure TcOff (q : Addr) (n : Nat) (ds : Nat → Addr) (lk : List Lk) : Prop where
  q_ds : ∀ j, j < n → q ≠ ds j
  lk_ds : ∀ p ∈ lkl lk, ∀ j, j < n → p.1 ≠ ds j
  lk_q : ∀ p ∈ lkl lk, p.1 ≠ q

def tcJ (q l : Addr) (n : Nat) (ds : Nat → Addr) (st : Nat → Inf) (a par : Nat) (k : Nat) (m : Str → Option Value) (nx : List (Addr × Obj)) : Prop :=
  ∃ (vis : List Nat) (z : Nat) (lk : List Lk) (os : Nat → Obj) (cap : Nat) (th tp : Tok), nx = tcL q n ds os lk cap ∧ m (Str.ofString "row") = some (.ref l) ∧ m (Str.ofString "parent") = some (.int (par : Int) tp) ∧ m (Str.ofString "links") = some (.ref q) ∧ m (Str.ofString "here") = some (.int (z : Int) th) ∧
    DictsAre n os (looseAll st vis) ∧ TcOff q n ds lk ∧ TP (curOf st) n a vis z ∧ LkAre st vis z lk ∧ k = n - vis.length

/-- behind the loop -/
def tcMid (g' : Heap) (L' q l : Addr) (n : Nat) (ds : Nat → Addr) (st : Nat → Inf) (a : Nat) (s : Shared) (f : Flow) (s' : Shared) : Prop :=
  f = .next ∧ ∃ (h' : Heap) (tk' : Nat) (m' : Str → Option Value) (vis V : List Nat) (z : Nat) (lk : List Lk) (os : Nat → Obj) (cap : Nat), s' = { s with heap := h', toks := tk' } ∧ Fr g' L' h' m' ∧ News g' L' h' (tcL q n ds os lk cap) ∧ m' (Str.ofString "row") = some (.ref l) ∧ m' (Str.ofString "links") = some (.ref q) ∧
    DictsAre n os (looseAll st V) ∧ TcOff q n ds lk ∧ TP (curOf st) n a vis z ∧ LkAre st vis z lk ∧ (V = vis ∨ V = vis ++ [z])

def linkJ (l : Addr) (n : Nat) (ds : Nat → Addr) (st : Nat → Inf) (lk : List Lk) (V : List Nat) (i : Nat) (m : Str → Option Value) (nx : List (Addr × Obj)) : Prop :=
  ∃ os : Nat → Obj, nx = dl n ds os ++ lkl lk ∧ m (Str.ofString "row") = some (.ref l) ∧ DictsAre n os (laid (lk.take i) (looseAll st V))

theorem LkAre.c_mem {st : Nat → Inf} {vis : List Nat} {z : Nat} {lk : List Lk} (K : LkAre st vis z lk) : ∀ k ∈ lk, k.c ∈ vis ++ [z] := by
  intro k hk
  obtain ⟨i, hi, e⟩ := List.mem_iff_getElem.mp hk
  have hi' : i < vis.length := by rw [← K.1]; exact hi
  have hx0 : i < (vis ++ [z]).length := by simp; omega
  have hy0 : i + 1 < (vis ++ [z]).length := by simp; omega
  have hk' : lk[i]? = some k := by rw [List.getElem?_eq_getElem hi, e]
  obtain ⟨h1, _⟩ := K.2 i _ _ k (List.getElem?_eq_getElem hx0) (List.getElem?_eq_getElem hy0) hk'
  rw [h1]
  exact List.getElem_mem hy0

theorem canon4 {m : Str → Option Value} {x y z v : Str} {a b c d : Value} (h1 : m x = some a) (h2 : m y = some b) (h3 : m z = some c) (h4 : m v = some d) : m = kstB m [(x, a), (y, b), (z, c), (v, d)] := canon _ (by
  intro p hp
  rcases List.mem_cons.mp hp with rfl | hp
  · exact h1
  · rcases List.mem_cons.mp hp with rfl | hp
    · exact h2
    · rcases List.mem_cons.mp hp with rfl | hp
      · exact h3
      · rcases List.mem_cons.mp hp with rfl | hp
        · exact h4
        · cases hp)

theorem tc_turns {h₀ h h' : Heap} {L q : Addr} {m : Str → Option Value} {n : Nat} {ds : Nat → Addr} {os os' : Nat → Obj} {lk : List Lk} {cap : Nat} (S : Turns h₀ L m n ds h h' os') (N : News h₀ L h (tcL q n ds os lk cap)) (O : TcOff q n ds lk) : News h₀ L h' (tcL q n ds os' lk cap) := by
  have N1 : News h₀ L h ((q, W.listOf (lk.map fun k => Value.ref k.T).toArray cap) :: lkl lk) := fun p hp => by
    rcases List.mem_cons.mp hp with rfl | hp
    · exact N _ (.head _)
    · exact N _ (.tail _ (List.mem_append_right _ hp))
  have N2 := S.off _ N1 (fun p hp j hj => by
    rcases List.mem_cons.mp hp with rfl | hp
    · exact O.q_ds j hj
    · exact O.lk_ds p hp j hj)
  intro p hp
  rcases List.mem_cons.mp hp with rfl | hp
  · exact N2 _ (.head _)
  · rcases List.mem_append.mp hp with hp | hp
    · exact S.dl p hp
    · exact N2 _ (.tail _ hp)

theorem allLt_mem {d : Addr} : ∀ {l : List (Addr × Obj)}, AllLt d l → ∀ p ∈ l, p.1 < d
  | [], _, p, hp => nomatch hp
  | q :: r, h, p, hp => by
    rcases List.mem_cons.mp hp with rfl | hp
    · exact h.1
    · exact allLt_mem h.2 p hp
theorem tc_more {h₀ h : Heap} {L T q : Addr} {n : Nat} {ds : Nat → Addr} {os : Nat → Obj} {lk : List Lk} {cap y : Nat} {x1 x2 x3 : Int} {t1 t2 t3 : Tok}
    (N : News h₀ L h ((T, { cls := .type "tuple", data := .seq #[.int x1 t1, .int x2 t2, .int x3 t3] }) :: (q, W.listOf ((lk.map fun k => Value.ref k.T).toArray.push (.ref T)) (cap + 1)) :: (dl n ds os ++ lkl lk))) (e : x1 = (y : Int)) :
    News h₀ L h (tcL q n ds os (lk ++ [⟨T, y, x2, x3, t1, t2, t3⟩]) (cap + 1)) := by
  subst e
  intro p hp
  refine N p ?_
  simp only [tcL, lkl, List.map_append, List.map_cons, List.map_nil, List.mem_cons, List.mem_append, List.push_toArray, List.not_mem_nil, or_false] at hp ⊢
  rcases hp with h | h | h | h
  · exact .inr (.inl h)
  · exact .inr (.inr (.inl h))
  · exact .inr (.inr (.inr h))
  · exact .inl h
theorem tc_off_more {q : Addr} {n : Nat} {ds : Nat → Addr} {os : Nat → Obj} {lk : List Lk} {k : Lk} (O : TcOff q n ds lk) (h1 : q < k.T) (h2 : AllLt k.T (dl n ds os ++ lkl lk)) : TcOff q n ds (lk ++ [k]) := by
  refine ⟨O.q_ds, ?_, ?_⟩
  · intro p hp j hj
    simp only [lkl, List.map_append, List.map_cons, List.map_nil, List.mem_append, List.mem_singleton] at hp
    rcases hp with hp | rfl
    · exact O.lk_ds p hp j hj
    · exact Ne.symm (Nat.ne_of_lt (allLt_mem h2 _ (List.mem_append_left _ (at_dl (os := os) hj))))
  · intro p hp
    simp only [lkl, List.map_append, List.map_cons, List.map_nil, List.mem_append, List.mem_singleton] at hp
    rcases hp with hp | rfl
    · exact O.lk_q p hp
    · exact Ne.symm (Nat.ne_of_lt h1)

theorem tc_append {prog : Program} {w : World} {A : Around} {E : Value → Shared → Prop} {s : Shared} {h₀ : Heap} {L T q : Addr} {o : Obj} {m : Str → Option Value} {n : Nat} {ds : Nat → Addr} {os : Nat → Obj} {lk : List Lk} {cap : Nat} {x : Value} {Q : Value → Shared → Prop}
    (F : Fr h₀ L s.heap m) (N : News h₀ L s.heap ((T, o) :: tcL q n ds os lk cap)) (O : TcOff q n ds lk) (hT : T ≠ q) (hz : lk.length ≤ 100)
    (h : ∀ h', Fr h₀ L h' m → News h₀ L h' ((T, o) :: (q, W.listOf ((lk.map fun k => Value.ref k.T).toArray.push x) (cap + 1)) :: (dl n ds os ++ lkl lk)) → Q .none { s with heap := h' }) :
    wpAny (model prog w) A (call (.builtin "list.append") [.ref q, x]) Q E s :=
  append_K F N (.tail hT (.head fun p hp => by
    rcases List.mem_append.mp hp with hp | hp
    · obtain ⟨j, hj, rfl⟩ := mem_dl.mp hp
      exact fun e => O.q_ds j hj e.symm
    · exact O.lk_q p hp)) h (by simp [PySem.sizeLine_eq]; omega)

local macro_rules | `(tactic| walk_at "subscriptTail Name") => `(tactic| (k_here; (with_reducible show wpAny _ _ (subscriptTail _ _ (Value.ref _) (Value.int _ _)) _ _ _); (refine' item_row ?k1 ?k2 ?k3 ?k4 ?_ ?k6; (case k1 => k_asm); (case k2 => assumption); (case k3 => assumption); (case k4 => assumption); (case k6 => with_unfolding_all rfl); k_whole)))
local macro_rules | `(tactic| walk_at "getAttr ref") => `(tactic| (k_here; (first | (with_reducible refine' get_p ?k1 ?k2 ?k3 ?k4 ?k5 ?_) | (with_reducible refine' get_b ?k1 ?k2 ?k3 ?k4 ?k5 ?_) | (with_reducible refine' get_y ?k1 ?k2 ?k3 ?k4 ?k5 ?_)); (case k1 => k_asm); (case k2 => k_asm); (case k3 => assumption); (case k4 => first | exact dictsAt_news (by k_asm) (fun _ hp => .tail _ (List.mem_append_left _ hp)) (by assumption) | exact dictsAt_news (by k_asm) (fun _ hp => List.mem_append_left _ hp) (by assumption)); (case k5 => assumption); k_whole; intro ta'; (try dsimp only)))
local macro_rules | `(tactic| walk_at "call ref") => `(tactic| (k_here; k_dflt (refine' loosen_use ?k1 ?k2 ?k3 ?k4 ?k5 ?k6 ?k7 ?k8 ?k9 ?ka ?kb ?kc ?kd ?_); (case k1 => k_asm); (case k2 => k_asm); (case k3 => k_asm); (case k4 => k_asm); (case k5 => exact rfl); (case k8 => assumption); (case k9 => assumption); (case ka => k_asm); (case kb => exact fun _ hp => .tail _ (List.mem_append_left _ hp)); (case kc => assumption); (case kd => assumption); (case k6 => ktr_room); (case k7 => ktr_units); k_whole; intro os' tk' h' S' hos'; (have F' := S'.fr); (have N' := tc_turns S' (by k_asm) (by assumption)); clear S'; (try dsimp only); (try k_sweep)))
local macro_rules | `(tactic| walk_at "call builtin:list.append") => `(tactic| (k_here; (refine' tc_append ?k1 ?k2 ?k3 ?k4 ?k5 ?_; (case k1 => k_asm); (case k2 => k_asm); (case k3 => assumption); (case k4 => k_ne); (case k5 => omega); k_whole); intro h' F' N'; (try k_sweep)))
local macro_rules | `(tactic| walk_at "exec While BoolOp cons nil") => `(tactic| (refine Halt.out ?_))
local macro_rules | `(tactic| walk_at "setAttr ref") => `(tactic| (k_here; (first | (with_reducible refine' set_p ?k1 ?k2 ?k3 ?k4 ?k5 ?k6 ?k7 ?k8 ?_) | (with_reducible refine' set_b ?k1 ?k2 ?k3 ?k4 ?k5 ?k6 ?k7 ?k8 ?_) | (with_reducible refine' set_y ?k1 ?k2 ?k3 ?k4 ?k5 ?k6 ?k7 ?k8 ?_)); (case k1 => k_asm); (case k2 => k_asm); (case k3 => assumption); (case k4 => assumption); (case k5 => k_asm); (case k6 => exact fun _ hp => List.mem_append_left _ hp); (case k7 => assumption); (case k8 => assumption); k_whole; intro h' os' S' hos'; (have F' := S'.fr); (have N' := (News.append S'.dl (S'.off _ (News.right (by k_asm)) (by assumption)))); clear S'; (try dsimp only); (try k_sweep)))
local macro_rules | `(tactic| walk_at "pyIter ref") => `(tactic| (refine Halt.out ?_))
local macro_rules | `(tactic| walk_at "exec For Tuple Name cons nil") => `(tactic| (refine Halt.out ?_))

theorem turn_spec (prog : Program) (w : World) : Enters prog w 35 2 16 (fun h₀ L s vs Q => ∃ (l : Addr) (n : Nat) (as ds : Nat → Addr) (os : Nat → Obj) (st : Nat → Inf) (a par : Nat) (t u : Tok), vs = [.ref l, .int (a : Int) t, .int (par : Int) u] ∧ RowAt s.heap l n as ds ∧ Inj n ds ∧ News h₀ L s.heap (dl n ds os) ∧ DictsAre n os st ∧ Valid n st ∧ a < n ∧ n ≤ 7 ∧
   (∀ (os' : Nat → Obj) (st' : Nat → Inf) (tk' : Nat) (h' : Heap), Mods n ds s.heap h' os' → DictsAre n os' st' → Turned n st a st' → Q .none { s with heap := h', toks := tk' })) := by
  intro p loose_ mean mg mb dp un gd cn cs a₀ ccd cl outer A₀ base h₀ L m s vs Q E B F X T hk hdp hun ⟨l, n, as, ds, os, st, a, par, t, u, hvs, R, J, N, d, V, ha, hn, hret⟩
  subst hvs
  refine wpAny_call ?_
  k_dflt (refine' enter ?k1 ?k2 ?k3 N ?k5 ?kA ?kF ?kK ?k6 ?k7 ?k8 ?k9 ?kB ?_ ?c2 ?c3 ?c4 ?c5; (case kA => exact rfl); (case kF => exact rfl); (case kK => assumption); (case k1 => k_asm); (case k2 => k_asm); (case k3 => k_asm); (case k5 => k_asm); (case k6 => k_is); (case k7 => k_is); (case k8 => ktr_room); (case k9 => exact BindsTo.of_eq rfl); (case c5 => decide); (case kB => exact locs rfl); (case c2 => exact rfl); (case c3 => exact rfl); (case c4 => exact rfl); k_whole; intro g' L' h' F' N' B' X' T' G' S'; (try dsimp only); (try k_fold))
  replace R := R.hidden (dictsAt_news N (fun _ hp => hp) d) G'
  clear F B X T S' N
  k_steps
  refine Halt.goOn ?_
  rename_i q _ hq _ _ F1 N1
  refine wpAny_mono (Q := tcMid g' L' q l n ds st a s) ?_ ?_ (fun _ _ e => e)
  · refine While_inv2 (tcJ q l n ds st a par) F1 (news := tcL q n ds os [] 0) (by simpa [tcL, lkl] using N1) ⟨[], a, [], os, _, _, _, rfl, by with_unfolding_all rfl, by with_unfolding_all rfl, by with_unfolding_all rfl, by with_unfolding_all rfl, looseAll_nil ▸ d, ⟨fun j hj e => ?_, fun p hp => (by cases hp), fun p hp => (by cases hp)⟩, TP.one ha, LkAre.nil, rfl⟩ ?_
    · have := hq _ (at_dl (os := os) hj)
      rw [← e] at this
      exact absurd this (Nat.lt_irrefl _)
    · clear F1 N1 hq
      rintro k m₁ nx h₁ tk₁ F1 N1 ⟨vis, z, lk, os1, cap, th, tp, rfl, e1, e2, e3, e4, d1, O, P, K, rfl⟩
      have hz : z < n := P.below z (List.mem_append_right _ (.head _))
      obtain ⟨st1, hst1⟩ : ∃ f, f = looseAll st vis := ⟨_, rfl⟩
      rw [← hst1] at d1
      rw [canon4 e1 e2 e3 e4] at F1
      have hlk := K.1
      have hvl := P.length_le
      k_steps
      · have hzv : z ∉ vis := by
          intro q
          have hp0 : (st1 z).p ≠ 0 := by assumption
          rw [hst1] at hp0
          unfold looseAll at hp0
          rw [if_pos q] at hp0
          exact hp0 rfl
        refine ⟨rfl, _, _, _, vis, vis ++ [z], z, lk, _, cap, rfl, by assumption, by assumption, by with_unfolding_all rfl, by with_unfolding_all rfl, ?_, O, P, K, .inr rfl⟩
        rw [← looseAll_snoc hzv, ← hst1]
        assumption
      · rename_i F9 N9
        rename q < _ ∧ AllLt _ _ => l9
        rename DictsAre n _ (put st1 z (loose (st1 z))) => d9
        have hp0 : (st1 z).p ≠ 0 := by assumption
        have hb0 : (st1 z).b = sCur := by simpa using (by assumption : ((st1 z).b == Str.ofString "cursive") = true)
        have hzv : z ∉ vis := by
          intro q
          rw [hst1] at hp0
          unfold looseAll at hp0
          rw [if_pos q] at hp0
          exact hp0 rfl
        have hsz : st1 z = st z := by rw [hst1]; unfold looseAll; rw [if_neg hzv]
        obtain ⟨y, hy, hyn, ey⟩ := V.is_next hz (hsz ▸ hp0)
        have ey' : (z : Int) + (st1 z).p = (y : Int) := by rw [hsz]; exact ey
        have hc := cur_of hy (hsz ▸ hb0)
        have P' := P.more hzv hc hyn
        refine ⟨_, _, _, _, n - (vis ++ [z]).length, rfl, F9, tc_more N9 ey', ?_, vis ++ [z], y, _, _, _, _, _, rfl, by with_unfolding_all rfl, by with_unfolding_all rfl, by with_unfolding_all rfl, read_int_eq (by with_unfolding_all rfl) ey', ?_, tc_off_more O l9.1 l9.2, P', K.more rfl ?_ ?_, rfl⟩
        · have := P'.length_le
          simp at this ⊢
          omega
        · rw [← looseAll_snoc hzv, ← hst1]
          exact d9
        · show -(st1 z).p = _
          omega
        · show -(put st1 z (loose (st1 z)) z).y = _
          rw [put_same, hsz]
          rfl
      · exact ⟨rfl, _, _, _, vis, vis, z, lk, os1, cap, rfl, F1, N1, by with_unfolding_all rfl, by with_unfolding_all rfl, hst1 ▸ d1, O, P, K, .inl rfl⟩
      · exact ⟨rfl, _, _, _, vis, vis, z, lk, os1, cap, rfl, F1, N1, by with_unfolding_all rfl, by with_unfolding_all rfl, hst1 ▸ d1, O, P, K, .inl rfl⟩
  · rintro f s' ⟨rfl, h₁, tk₁, m₁, vis, V', z, lk, os1, cap, rfl, F1, N1, e1, e2, d1, O, P, K, hV⟩
    rw [canon2 e1 e2] at F1
    dsimp only
    k_steps
    refine Halt.goOn ?_
    refine For_turns F1 ?_
    k_steps
    refine Halt.goOn ?_
    refine iter_listT (linkJ l n ds st lk V') rfl (N1.isList (.head _)) (N1 _ (.head _)).2.1 ?_ F1 (news := dl n ds os1 ++ lkl lk) (fun p hp => N1 p (.tail _ hp)) ⟨os1, rfl, by with_unfolding_all rfl, d1⟩ ?_ ?_
    · intro p hp
      rcases List.mem_append.mp hp with hp | hp
      · obtain ⟨j, hj, rfl⟩ := mem_dl.mp hp
        exact fun e => O.q_ds j hj e.symm
      · exact O.lk_q p hp
    · rintro i v m₂ nx h₂ tk₂ own hv hown ⟨os2, rfl, e1, d2⟩ F2 N2
      have hi : i < lk.length := by
        rcases Nat.lt_or_ge i lk.length with h | h
        · exact h
        · rw [Array.getElem?_eq_none (by simpa using h)] at hv; cases hv
      have hk : lk[i]? = some lk[i] := List.getElem?_eq_getElem hi
      have hv' : v = .ref lk[i].T := by
        simp [hi] at hv
        exact hv.symm
      obtain ⟨k, hk0⟩ : ∃ k, k = lk[i] := ⟨_, rfl⟩
      rw [← hk0] at hk hv'
      have hkm : k ∈ lk := by rw [hk0]; exact List.getElem_mem hi
      have hkl : (k.T, k.obj) ∈ lkl lk := List.mem_map.mpr ⟨k, hkm, rfl⟩
      have hkn : k.c < n := P.below _ (K.c_mem k hkm)
      subst hv'
      obtain ⟨rest, hrest⟩ : ∃ r, r = lkl lk ++ own := ⟨_, rfl⟩
      have hoff : ∀ p ∈ rest, ∀ j, j < n → p.1 ≠ ds j := by
        intro p hp j hj
        rw [hrest] at hp
        rcases List.mem_append.mp hp with hp | hp
        · exact O.lk_ds p hp j hj
        · rcases hown p hp with h | h
          · rw [h]; exact O.q_ds j hj
          · intro e
            have := (N1 _ (.tail _ (List.mem_append_left _ (at_dl (os := os1) hj)))).1
            rw [e] at h
            exact absurd (h.symm.trans this) (by simp)
      rw [List.append_assoc, ← hrest] at N2
      clear F1 N1
      have ht : IsTup h₂ k.T #[.int (k.c : Int) k.t1, .int k.d k.t2, .int k.y k.t3] := N2.isTup (List.mem_append_right _ (hrest ▸ List.mem_append_left _ hkl))
      rw [canon (m := m₂) [(Str.ofString "row", Value.ref l)] (by intro p hp; rw [List.mem_singleton.mp hp]; exact e1)] at F2
      refine unpackN_ F2 N2 ht rfl rfl rfl ?_
      clear F2 N2 ht
      intro h₃ F3 N3
      k_steps
      rename_i os9 d9 F9 N9
      simp only [put_same, put_put] at d9
      refine InvEndN.intro F9 N9 (nx := dl n ds os9 ++ lkl lk) ⟨os9, rfl, by with_unfolding_all rfl, ?_⟩ (by simp only [List.map_append, keys_dl]) (fun p hp => ?_) (fun p hp => List.mem_append_right _ (hrest ▸ List.mem_append_right _ hp))
      · rw [show lk.take (i + 1) = lk.take i ++ [k] from by rw [List.take_add_one, hk]; rfl, laid_snoc]
        exact d9
      · rcases List.mem_append.mp hp with hp | hp
        · exact List.mem_append_left _ hp
        · exact List.mem_append_right _ (hrest ▸ List.mem_append_left _ hp)
    · clear F1 N1
      rintro m₂ nx h₂ tk₂ ⟨os2, rfl, e1, d2⟩ F2 N2
      dsimp only
      k_steps
      have e9 : (List.map (fun k => Value.ref k.T) lk).toArray.size = lk.length := by simp
      rw [e9, List.take_length] at d2
      exact hret os2 _ _ h₂ (mods_of F2 N2 (fun _ hp => List.mem_append_left _ hp) G') d2 (turned_of V P K hV)
end Mine

end NzTurn

section NzTie
open PySem PySem.Spec PySem.Calls PySem.W PyProof.Rows
namespace Mine
example : PySem.Challenge.rw_nz0114_01 = PySem.Challenge.rw_nz0114_01 ∧ hd.heap_39 = hd.heap_39 := by
  k_fill
  exact ⟨rfl, rfl⟩

section
variable {prog : Program} {w : World} {p : Program} {loo : List Str} {mean : ExcName → Option Value} {mg mb : Str → Option Value} {dp un : Nat} {gd : Option (List Code)} {cn : Str} {cs : Scope} {a₀ : Addr} {ccd : Value} {cl : List (Str × Addr)} {outer : List Env} {A₀ : Around} {base h₀ : Heap} {L : Addr} {m : Str → Option Value} {s : Shared} {Q E : Value → Shared → Prop}
    {l : Addr} {n : Nat} {as ds : Nat → Addr} {os : Nat → Obj} {st : Nat → Inf} {a c par : Nat} {t u v : Tok} {news : List (Addr × Obj)}
theorem turn_use (B : Below A₀ base outer h₀) (F : Fr h₀ L s.heap m) (X : (hd.heap_39 w.params).In h₀) (T : Top p loo mean mg mb h₀) (hk : cs.kind = .function) (hd : dp + 2 < recursionLimit) (hu : un + 16 < cLine)
    (R : RowAt h₀ l n as ds) (J : Inj n ds) (N : News h₀ L s.heap news) (hsub : ∀ p ∈ dl n ds os, p ∈ news) (d : DictsAre n os st) (V : Valid n st) (ha : a < n) (hn : n ≤ 7)
    (hret : ∀ (os' : Nat → Obj) (st' : Nat → Inf) (tk' : Nat) (h' : Heap), Turns h₀ L m n ds s.heap h' os' → DictsAre n os' st' → Turned n st a st' → Q .none { s with heap := h', toks := tk' }) :
    wpAny (model prog w) (ktrTop dp un gd cn cs L a₀ ccd cl outer) (call (.ref 35) [.ref l, .int (a : Int) t, .int (par : Int) u]) Q E s :=
  turn_spec prog w p loo mean mg mb dp un gd cn cs a₀ ccd cl outer A₀ base h₀ L m s _ Q E B F X T hk hd hu
    ⟨l, n, as, ds, os, st, a, par, t, u, rfl, R.keeps F.keep, J, fun q hq => N q (hsub q hq), d, V, ha, hn, fun os' st' tk' h' M d' ht => hret os' st' tk' h' (M.turns F N hsub) d' ht⟩
theorem break_use (B : Below A₀ base outer h₀) (F : Fr h₀ L s.heap m) (X : (hd.heap_39 w.params).In h₀) (T : Top p loo mean mg mb h₀) (hk : cs.kind = .function) (hd : dp + 2 < recursionLimit) (hu : un + 16 < cLine)
    (R : RowAt h₀ l n as ds) (J : Inj n ds) (N : News h₀ L s.heap news) (hsub : ∀ p ∈ dl n ds os, p ∈ news) (d : DictsAre n os st) (V : Valid n st) (hc : c < n) (ha : a < n) (hn : n ≤ 7)
    (hret : ∀ (os' : Nat → Obj) (st' : Nat → Inf) (tk' : Nat) (h' : Heap), Turns h₀ L m n ds s.heap h' os' → DictsAre n os' st' → Broken n st c a st' → Q .none { s with heap := h', toks := tk' }) :
    wpAny (model prog w) (ktrTop dp un gd cn cs L a₀ ccd cl outer) (call (.ref 42) [.ref l, .int (c : Int) t, .int (a : Int) u]) Q E s :=
  break_spec prog w p loo mean mg mb dp un gd cn cs a₀ ccd cl outer A₀ base h₀ L m s _ Q E B F X T hk hd hu
    ⟨l, n, as, ds, os, st, c, a, t, u, rfl, R.keeps F.keep, J, fun q hq => N q (hsub q hq), d, V, hc, ha, hn, fun os' st' tk' h' M d' ht => hret os' st' tk' h' (M.turns F N hsub) d' ht⟩
end

local macro_rules | `(tactic| walk_at "subscriptTail Name") => `(tactic| (k_here; (with_reducible show wpAny _ _ (subscriptTail _ _ (Value.ref _) (Value.int _ _)) _ _ _); (refine' item_row ?k1 ?k2 ?k3 ?k4 ?_ ?k6; (case k1 => k_asm); (case k2 => assumption); (case k3 => assumption); (case k4 => assumption); (case k6 => with_unfolding_all rfl); k_whole)))
local macro_rules | `(tactic| walk_at "call ref") => `(tactic| (k_here; k_dflt (refine' turn_use ?k1 ?k2 ?k3 ?k4 ?k5 ?k6 ?k7 ?k8 ?k9 ?ka ?kb ?kc ?kd ?ke ?kf ?_); (case k1 => k_asm); (case k2 => k_asm); (case k3 => k_asm); (case k4 => k_asm); (case k5 => exact rfl); (case k8 => assumption); (case k9 => assumption); (case ka => k_asm); (case kb => exact fun _ hp => hp); (case kc => assumption); (case kd => assumption); (case ke => assumption); (case kf => assumption); (case k6 => ktr_room); (case k7 => ktr_units); k_whole; intro os' st' tk' h' S' hos' hT'; (have V' := hT'.valid); (have F' := S'.fr); (have N' := S'.dl); clear S'; (try dsimp only); (try k_sweep)))
local macro_rules | `(tactic| walk_at "call ref") => `(tactic| (k_here; k_dflt (refine' break_use ?k1 ?k2 ?k3 ?k4 ?k5 ?k6 ?k7 ?k8 ?k9 ?ka ?kb ?kc ?kd ?ke ?kf ?kg ?_); (case k1 => k_asm); (case k2 => k_asm); (case k3 => k_asm); (case k4 => k_asm); (case k5 => exact rfl); (case k8 => assumption); (case k9 => assumption); (case ka => k_asm); (case kb => exact fun _ hp => hp); (case kc => assumption); (case kd => assumption); (case ke => assumption); (case kf => assumption); (case kg => assumption); (case k6 => ktr_room); (case k7 => ktr_units); k_whole; intro os' st' tk' h' S' hos' hB'; (have F' := S'.fr); (have N' := S'.dl); clear S'; (try dsimp only); (try k_sweep)))
local macro_rules | `(tactic| walk_at "setAttr ref") => `(tactic| (k_here; (first | (with_reducible refine' set_p ?k1 ?k2 ?k3 ?k4 ?k5 ?k6 ?k7 ?k8 ?_) | (with_reducible refine' set_b ?k1 ?k2 ?k3 ?k4 ?k5 ?k6 ?k7 ?k8 ?_) | (with_reducible refine' set_y ?k1 ?k2 ?k3 ?k4 ?k5 ?k6 ?k7 ?k8 ?_)); (case k1 => k_asm); (case k2 => k_asm); (case k3 => assumption); (case k4 => assumption); (case k5 => k_asm); (case k6 => exact fun _ hp => hp); (case k7 => assumption); (case k8 => assumption); k_whole; intro h' os' S' hos'; (have F' := S'.fr); (have N' := S'.dl); clear S'; (try dsimp only); (try k_sweep)))

theorem tie_spec (prog : Program) (w : World) : Enters prog w 49 3 24 (fun h₀ L s vs Q => ∃ (l : Addr) (n : Nat) (as ds : Nat → Addr) (os : Nat → Obj) (st : Nat → Inf) (c a : Nat) (y : Int) (t u v : Tok), vs = [.ref l, .int (c : Int) t, .int (a : Int) u, .int y v] ∧ RowAt s.heap l n as ds ∧ Inj n ds ∧ News h₀ L s.heap (dl n ds os) ∧ DictsAre n os st ∧ Valid n st ∧ c < n ∧ a < n ∧ n ≤ 7 ∧
   (∀ (os' : Nat → Obj) (st' : Nat → Inf) (tk' : Nat) (h' : Heap), Mods n ds s.heap h' os' → DictsAre n os' st' → Tied n st c a y st' → Q .none { s with heap := h', toks := tk' })) := by
  intro p loose_ mean mg mb dp un gd cn cs a₀ ccd cl outer A₀ base h₀ L m s vs Q E B F X T hk hdp hun ⟨l, n, as, ds, os, st, c, a, y, t, u, v, hvs, R, J, N, d, V, hc, ha, hn, hret⟩
  subst hvs
  refine wpAny_call ?_
  k_dflt (refine' enter ?k1 ?k2 ?k3 N ?k5 ?kA ?kF ?kK ?k6 ?k7 ?k8 ?k9 ?kB ?_ ?c2 ?c3 ?c4 ?c5; (case kA => exact rfl); (case kF => exact rfl); (case kK => assumption); (case k1 => k_asm); (case k2 => k_asm); (case k3 => k_asm); (case k5 => k_asm); (case k6 => k_is); (case k7 => k_is); (case k8 => ktr_room); (case k9 => exact BindsTo.of_eq rfl); (case c5 => decide); (case kB => exact locs rfl); (case c2 => exact rfl); (case c3 => exact rfl); (case c4 => exact rfl); k_whole; intro g' L' h' F' N' B' X' T' G' S'; (try dsimp only); (try k_fold))
  replace R := R.hidden (dictsAt_news N (fun _ hp => hp) d) G'
  clear F B X T S' N
  k_steps
  rename_i os9 d9 F9 N9
  simp only [put_same, put_put] at d9
  exact hret os9 _ _ _ (mods_of F9 N9 (fun _ hp => hp) G') d9 ⟨_, _, by assumption, by assumption, rfl⟩
end Mine

end NzTie

section NzLaw1
open PySem PySem.Spec PySem.Calls PySem.W PyProof.Rows
namespace Mine
/-! The plain law: what tie makes of a row. -/

theorem Steps.reach {f : Nat → Option Nat} {a k z : Nat} (h : Steps f a k z) : Reach f a z := by
  induction h with
  | zero => exact .refl
  | succ _ hf ih => exact .step ih hf
theorem StepsOff.steps {f : Nat → Option Nat} {c a k z : Nat} (h : StepsOff f c a k z) : Steps f a k z := by
  induction h with
  | zero => exact .zero
  | succ _ hf _ ih => exact .succ ih hf
theorem StepsOff.ne {f : Nat → Option Nat} {c a k z : Nat} (ha : a ≠ c) (h : StepsOff f c a k z) : z ≠ c := by
  cases h with
  | zero => exact ha
  | succ _ _ hz => exact hz

/-- a way of k steps, as a list -/
theorem Steps.list {f : Nat → Option Nat} {a k z : Nat} (h : Steps f a k z) : ∃ c : List Nat, c.length = k + 1 ∧ c.head? = some a ∧ c.getLast? = some z ∧ ∀ (i x y : Nat), c[i]? = some x → c[i + 1]? = some y → f x = some y := by
  induction h with
  | zero => exact ⟨[a], rfl, rfl, rfl, fun i x y _ hy => by simp at hy⟩
  | succ _ hf ih =>
    obtain ⟨c, h1, h2, h3, h4⟩ := ih
    refine ⟨c ++ [_], by simp [h1], ?_, by simp, snoc_link h3 hf h4⟩
    cases c with
    | nil => cases h2
    | cons b r => simpa using h2

/-- no ring: a way does not come twice to a place -/
theorem Ends.steps_ne {f : Nat → Option Nat} {x k : Nat} (e : Ends f x) (h : Steps f x (k + 1) x) : False := by
  -- the places of the way are a ring
  have ring : ∀ y, (∃ i, i ≤ k ∧ Steps f x i y) → ∃ w, (∃ i, i ≤ k ∧ Steps f x i w) ∧ f y = some w := by
    rintro y ⟨i, hi, hy⟩
    by_cases q : i = k
    · subst q
      cases h with
      | succ h1 h2 =>
        have : ∀ {j u v}, Steps f x j u → Steps f x j v → u = v := by
          intro j
          induction j with
          | zero => intro u v hu hv; cases hu; cases hv; rfl
          | succ j ih =>
            intro u v hu hv
            cases hu with
            | succ a1 a2 =>
              cases hv with
              | succ b1 b2 =>
                have := ih a1 b1
                subst this
                rw [a2] at b2
                cases b2
                rfl
        have := this hy h1
        subst this
        exact ⟨x, ⟨0, Nat.zero_le _, .zero⟩, h2⟩
    · -- the way goes on
      have : ∀ j, i < j → ∀ u, Steps f x j u → ∃ w, f y = some w ∧ Steps f x (i + 1) w := by
        intro j
        induction j with
        | zero => intro h0; omega
        | succ j ih =>
          intro hj u hu
          cases hu with
          | succ a1 a2 =>
            by_cases q2 : i = j
            · subst q2
              have same : ∀ {j u v}, Steps f x j u → Steps f x j v → u = v := by
                intro j
                induction j with
                | zero => intro u v hu hv; cases hu; cases hv; rfl
                | succ j ih =>
                  intro u v hu hv
                  cases hu with
                  | succ a1 a2 =>
                    cases hv with
                    | succ b1 b2 =>
                      have := ih a1 b1
                      subst this
                      rw [a2] at b2
                      cases b2
                      rfl
              have := same hy a1
              subst this
              exact ⟨_, a2, .succ a1 a2⟩
            · exact ih (by omega) _ a1
      obtain ⟨w, h1, h2⟩ := this (k + 1) (by omega) x h
      exact ⟨w, ⟨i + 1, by omega, h2⟩, h1⟩
  exact not_ends_of_ring (S := fun y => ∃ i, i ≤ k ∧ Steps f x i y) ring e ⟨0, Nat.zero_le _, .zero⟩

theorem Ends.next {f : Nat → Option Nat} {x y : Nat} (e : Ends f x) (h : f x = some y) : Ends f y := by
  cases e with
  | stop h0 => rw [h] at h0; cases h0
  | step h1 h2 => rw [h] at h1; cases h1; exact h2
theorem Ends.reach {f : Nat → Option Nat} {x y : Nat} (e : Ends f x) (r : Reach f x y) : Ends f y := by
  induction r with
  | refl => exact e
  | step _ hf ih => exact ih.next hf

/-- a way with n steps among fewer places comes twice to one -/
theorem Steps.short {f : Nat → Option Nat} {n a z k : Nat} (e : Ends f a) (h : Steps f a k z) (hb : ∀ x y, x < n → f x = some y → y < n) (ha : a < n) : k < n := by
  obtain ⟨c, h1, h2, h3, h4⟩ := h.list
  have below : ∀ (i x : Nat), c[i]? = some x → x < n ∧ Reach f a x := by
    intro i
    induction i with
    | zero =>
      intro x hx
      rw [List.head?_eq_getElem?, hx] at h2
      cases h2
      exact ⟨ha, .refl⟩
    | succ i ih =>
      intro x hx
      have hi : i < c.length := by
        rcases Nat.lt_or_ge (i + 1) c.length with h | h
        · omega
        · rw [List.getElem?_eq_none h] at hx; cases hx
      have h5 := List.getElem?_eq_getElem hi
      have := ih _ h5
      exact ⟨hb _ _ this.1 (h4 i _ _ h5 hx), .step this.2 (h4 i _ _ h5 hx)⟩
  have nd : c.Nodup := by
    rw [List.nodup_iff_pairwise_ne, List.pairwise_iff_getElem]
    intro i j hi hj hij q
    -- from place i, j - i steps lead back
    have way : ∀ d, ∀ (hd : i + d < c.length), Steps f c[i] d c[i + d] := by
      intro d
      induction d with
      | zero => intro hd; exact .zero
      | succ d ih =>
        intro hd
        exact .succ (ih (by omega)) (h4 (i + d) _ _ (List.getElem?_eq_getElem (by omega)) (List.getElem?_eq_getElem (by omega)))
    have h6 := way (j - i - 1 + 1) (by omega)
    have h7 : i + (j - i - 1 + 1) = j := by omega
    have h8 : c[i + (j - i - 1 + 1)]'(by omega) = c[i] := by
      rw [q]
      congr 1
    rw [h8] at h6
    have h9 := (below i _ (List.getElem?_eq_getElem hi)).2
    exact (e.reach h9).steps_ne h6
  have := nodup_length n c nd fun x hx => by
    obtain ⟨i, hi, q⟩ := List.mem_iff_getElem.mp hx
    exact (below i x (by rw [List.getElem?_eq_getElem hi, q])).1
  omega

def Forest (n : Nat) (st : Nat → Inf) : Prop := ∀ i, i < n → Ends (nextOf st) i

theorem next_congr {st st' : Nat → Inf} {i : Nat} (h : st' i = st i) : nextOf st' i = nextOf st i := by unfold nextOf; rw [h]

theorem Turned.forest {n : Nat} {st s1 : Nat → Inf} {c : Nat} (T : Turned n st c s1) (V : Valid n st) (hc : c < n) (hf : Forest n st) : Forest n s1 := by
  obtain ⟨C, h1, h2, h3, h4, h5⟩ := T
  have hC := h5 (hf c hc)
  intro i hi
  have key : ∀ x, Ends (nextOf st) x → Ends (nextOf s1) x := by
    intro x e
    induction e with
    | @stop x h0 =>
      by_cases q : C x
      · exact hC x q
      · exact .stop ((next_congr (h2 x q)).trans h0)
    | @step x y h0 _ ih =>
      by_cases q : C x
      · exact hC x q
      · exact .step ((next_congr (h2 x q)).trans h0) ih
  exact key i (hf i hi)

/-- from x an end is reached, and c is not met -/
inductive EndsOff (f : Nat → Option Nat) (c : Nat) : Nat → Prop
  | stop {x : Nat} : x ≠ c → f x = none → EndsOff f c x
  | step {x y : Nat} : x ≠ c → f x = some y → EndsOff f c y → EndsOff f c x
theorem EndsOff.of_steps {f : Nat → Option Nat} {c a k z : Nat} (ha : a ≠ c) (h : StepsOff f c a k z) (e : EndsOff f c z) : EndsOff f c a := by
  induction h with
  | zero => exact e
  | succ h1 hf _ ih => exact ih (.step (h1.ne ha) hf e)

theorem put_ends {st : Nat → Inf} {z : Nat} {y : Int} {x : Nat} (e : Ends (nextOf st) x) : Ends (nextOf (put st z ⟨0, Str.ofString "", y⟩)) x := by
  induction e with
  | @stop x h0 =>
    by_cases q : x = z
    · subst q; exact .stop (next_none (by rw [put_same]))
    · exact .stop ((next_congr (put_ne q)).trans h0)
  | @step x w h0 _ ih =>
    by_cases q : x = z
    · subst q; exact .stop (next_none (by rw [put_same]))
    · exact .step ((next_congr (put_ne q)).trans h0) ih

theorem Valid.step {n : Nat} {st : Nat → Inf} (V : Valid n st) : ∀ x y, x < n → nextOf st x = some y → y < n := fun x y hx h => (V.next hx h).1

theorem Broken.forest {n : Nat} {s1 s2 : Nat → Inf} {c a : Nat} (B : Broken n s1 c a s2) (V : Valid n s1) (ha : a < n) (hac : a ≠ c) (hf : Forest n s1) : Forest n s2 ∧ EndsOff (nextOf s2) c a := by
  cases B with
  | ended hi hz hs h0 => exact ⟨hf, .of_steps hac hs (.stop (hs.ne hac) h0)⟩
  | @hit i z hi hz hs h0 =>
    refine ⟨fun x hx => put_ends (hf x hx), ?_⟩
    -- the way to z does not come to z before
    have go : ∀ k y, StepsOff (nextOf s1) c a k y → y = z ∨ StepsOff (nextOf (put s1 z ⟨0, Str.ofString "", 0⟩)) c a k y ∨ ∃ j, j < k ∧ Steps (nextOf s1) a j z := by
      intro k
      induction k with
      | zero => intro y h; cases h; exact .inr (.inl .zero)
      | succ k ih =>
        intro y h
        cases h with
        | @succ _ u _ h1 h2 h3 =>
          by_cases q : u = z
          · exact .inr (.inr ⟨k, Nat.lt_succ_self _, q ▸ h1.steps⟩)
          · rcases ih u h1 with h | h | ⟨j, hj, h⟩
            · exact absurd h q
            · exact .inr (.inl (.succ h ((next_congr (put_ne q)).trans h2) h3))
            · exact .inr (.inr ⟨j, by omega, h⟩)
    -- the first time that the way is at z
    have first : ∃ k, StepsOff (nextOf (put s1 z ⟨0, Str.ofString "", 0⟩)) c a k z := by
      clear go
      have aux : ∀ k y, StepsOff (nextOf s1) c a k y → (∃ j, StepsOff (nextOf (put s1 z ⟨0, Str.ofString "", 0⟩)) c a j z) ∨ StepsOff (nextOf (put s1 z ⟨0, Str.ofString "", 0⟩)) c a k y := by
        intro k
        induction k with
        | zero => intro y h; cases h; exact .inr .zero
        | succ k ih =>
          intro y h
          cases h with
          | @succ _ u _ h1 h2 h3 =>
            rcases ih u h1 with h | h
            · exact .inl h
            · by_cases q : u = z
              · exact .inl ⟨k, q ▸ h⟩
              · exact .inr (.succ h ((next_congr (put_ne q)).trans h2) h3)
      rcases aux i z hs with h | h
      · exact h
      · exact ⟨_, h⟩
    obtain ⟨k, hk⟩ := first
    exact .of_steps hac hk (.stop (hk.ne hac) (next_none (by rw [put_same])))
  | long hz hs => exact absurd (hs.steps.short (hf a ha) V.step ha) (Nat.lt_irrefl _)

theorem EndsOff.put {s2 : Nat → Inf} {c x : Nat} {v : Inf} (o : EndsOff (nextOf s2) c x) : Ends (nextOf (put s2 c v)) x := by
  induction o with
  | stop hx h0 => exact .stop ((next_congr (put_ne hx)).trans h0)
  | step hx h0 _ ih => exact .step ((next_congr (put_ne hx)).trans h0) ih

/-- WHERE NO INFO HUNG ON ITSELF BEFORE, NONE DOES BEHIND -/
theorem Tied.forest {n : Nat} {st st' : Nat → Inf} {c a : Nat} {y : Int} (T : Tied n st c a y st') (V : Valid n st) (hc : c < n) (ha : a < n) (hac : a ≠ c) (hf : Forest n st) : Forest n st' := by
  obtain ⟨s1, s2, h1, h2, rfl⟩ := T
  obtain ⟨f2, o2⟩ := h2.forest h1.valid ha hac (h1.forest V hc hf)
  have hnc : nextOf (put s2 c ⟨(a : Int) - (c : Int), sCur, y⟩) c = some a := by
    unfold nextOf
    rw [put_same]
    rw [if_neg (by show ¬ ((a : Int) - (c : Int)) = 0; omega)]
    congr 1
    show ((c : Int) + ((a : Int) - (c : Int))).toNat = a
    omega
  have ea : Ends (nextOf (put s2 c ⟨(a : Int) - (c : Int), sCur, y⟩)) a := o2.put
  intro i hi
  have e := f2 i hi
  clear hi
  induction e with
  | @stop x h0 =>
    by_cases q : x = c
    · subst q; exact .step hnc ea
    · exact .stop ((next_congr (put_ne q)).trans h0)
  | @step x w h0 _ ih =>
    by_cases q : x = c
    · subst q; exact .step hnc ea
    · exact .step ((next_congr (put_ne q)).trans h0) ih

/-- ONLY WHAT THE CHILD HANGS ON BY CURSIVE LINKS, AND WHAT LIES ON A WAY FROM THE PARENT, IS TOUCHED -/
theorem Tied.off {n : Nat} {st st' : Nat → Inf} {c a : Nat} {y : Int} (T : Tied n st c a y st') {i : Nat} (h1 : ¬ Reach (curOf st) c i) (h2 : ¬ Reach (nextOf st) a i) : st' i = st i := by
  obtain ⟨s1, s2, ⟨C, c1, c2, c3, _, _⟩, B, rfl⟩ := T
  have hic : i ≠ c := fun e => h1 (e ▸ .refl)
  rw [put_ne hic]
  have e1 : s1 i = st i := c2 i fun q => h1 (c1 i q)
  have way : ∀ k z, StepsOff (nextOf s1) c a k z → C z ∨ Reach (nextOf st) a z := by
    intro k
    induction k with
    | zero => intro z h; cases h; exact .inr .refl
    | succ k ih =>
      intro z h
      cases h with
      | @succ _ u _ g1 g2 g3 =>
        rcases ih u g1 with h | h
        · exact .inl (c3 u z h g2)
        · by_cases q : C u
          · exact .inl (c3 u z q g2)
          · exact .inr (.step h ((next_congr (c2 u q)).symm.trans g2))
  cases B with
  | ended => exact e1
  | @hit k z _ _ hs _ =>
    have hiz : i ≠ z := by
      intro e
      rcases way k z hs with h | h
      · exact h1 (e ▸ c1 z h)
      · exact h2 (e ▸ h)
    rw [put_ne hiz]
    exact e1
  | long => exact e1

theorem Tied.at {n : Nat} {st st' : Nat → Inf} {c a : Nat} {y : Int} (T : Tied n st c a y st') : st' c = ⟨(a : Int) - (c : Int), sCur, y⟩ := by
  obtain ⟨_, _, _, _, rfl⟩ := T
  exact put_same

theorem cur_of_next_ends {st : Nat → Inf} {x : Nat} (e : Ends (nextOf st) x) : Ends (curOf st) x := by
  induction e with
  | @stop x h0 =>
    refine .stop ?_
    cases q : curOf st x with
    | none => rfl
    | some y => rw [cur_next q] at h0; cases h0
  | @step x y h0 _ ih =>
    cases q : curOf st x with
    | none => exact .stop q
    | some z =>
      have := cur_next q
      rw [h0] at this
      cases this
      exact .step q ih

theorem Steps.same {f : Nat → Option Nat} {x j u v : Nat} (hu : Steps f x j u) (hv : Steps f x j v) : u = v := by
  induction j generalizing u v with
  | zero => cases hu; cases hv; rfl
  | succ j ih =>
    cases hu with
    | succ a1 a2 =>
      cases hv with
      | succ b1 b2 =>
        have := ih a1 b1
        subst this
        rw [a2] at b2
        cases b2
        rfl
theorem Steps.past {f : Nat → Option Nat} {x i j u v : Nat} (hu : Steps f x i u) (h0 : f u = none) (hv : Steps f x j v) : j ≤ i := by
  induction j generalizing v with
  | zero => exact Nat.zero_le _
  | succ j ih =>
    cases hv with
    | succ b1 b2 =>
      have := ih b1
      by_cases q : j = i
      · subst q
        have := hu.same b1
        subst this
        rw [h0] at b2
        cases b2
      · omega
theorem Way.steps {f : Nat → Option Nat} {n a z : Nat} {c : List Nat} (W : Way f n a c z) : Steps f a (c.length - 1) z := by
  have all : ∀ i x, c[i]? = some x → Steps f a i x := by
    intro i
    induction i with
    | zero =>
      intro x hx
      have := W.head
      rw [List.head?_eq_getElem?, hx] at this
      cases this
      exact .zero
    | succ i ih =>
      intro x hx
      have hi : i < c.length := by
        rcases Nat.lt_or_ge (i + 1) c.length with h | h
        · omega
        · rw [List.getElem?_eq_none h] at hx; cases hx
      exact .succ (ih _ (List.getElem?_eq_getElem hi)) (W.link i _ _ (List.getElem?_eq_getElem hi) hx)
  have := W.last
  rw [List.getLast?_eq_getElem?] at this
  exact all _ _ this

/-- root_of ends where the joined way ends -/
theorem root_joined {n : Nat} {st : Nat → Inf} {a z i z' : Nat} {c : List Nat} (V : Valid n st) (ha : a < n) (e : Ends (nextOf st) a) (hs : Steps (curOf st) a i z) (h0 : curOf st z = none ∨ i = n) (W : Way (curOf st) n a c z') (h1 : curOf st z' = none ∨ ∃ y, y ∈ c ∧ curOf st z' = some y) : z = z' := by
  have ec := cur_of_next_ends e
  have h1' : curOf st z' = none := by
    rcases h1 with h | ⟨y, hy, hf⟩
    · exact h
    · exact absurd ec (W.ring hf hy)
  have h0' : curOf st z = none := by
    rcases h0 with h | h
    · exact h
    · subst h
      have := hs.short ec (fun x y hx h => V.step x y hx (cur_next h)) ha
      exact absurd this (Nat.lt_irrefl _)
  have l1 := hs.past h0' W.steps
  have l2 := W.steps.past h1' hs
  have l3 : c.length - 1 = i := by omega
  have := W.steps
  rw [l3] at this
  exact hs.same this
end Mine

end NzLaw1

section NzDraw
open PySem PySem.Spec PySem.Calls PySem.W PyProof.Rows
namespace Mine
example : PySem.Challenge.rw_nz0114_01 = PySem.Challenge.rw_nz0114_01 ∧ hd.heap_39 = hd.heap_39 := by
  k_fill
  exact ⟨rfl, rfl⟩

theorem ints_at {vs : List Value} {ns : List Int} (h : IntsAre vs ns) : ∀ {i : Nat}, i < ns.length → ∃ t, vs[i]? = some (.int (ns.getD i 0) t) := by
  induction h with
  | nil => intro i hi; simp at hi
  | cons n t _ ih =>
    intro i hi
    cases i with
    | zero => exact ⟨t, by simp⟩
    | succ i =>
      obtain ⟨t', e⟩ := ih (i := i) (by simpa using hi)
      exact ⟨t', by simpa using e⟩

theorem item_ints {prog : Program} {w : World} {A : Around} {E : Value → Shared → Prop} {s : Shared} {value slice : PySem.Expr} {l : Addr} {vs : List Value} {ns : List Int} {k : Int} {u : Tok} {Q : Value → Shared → Prop} {h₀ : Heap} {L : Addr} {m : Str → Option Value}
    (F : Fr h₀ L s.heap m) (hl : h₀.IsList l vs.toArray) (hi : IntsAre vs ns) (h0 : 0 ≤ k) (h1 : k < (ns.length : Int)) (h2 : ns.length ≤ 100) (h : ∀ x t, Q (.int x t) s)
    (hs : subscripted slice false (.ref l) (.int k u) = operate [.ref l, .int k u] (getItem (.ref l) (.int k u)) := by with_unfolding_all rfl) :
    wpAny (model prog w) A (subscriptTail value slice (.ref l) (.int k u)) Q E s := by
  obtain ⟨t, e⟩ := ints_at hi (i := k.toNat) (by omega)
  exact item_list F hl h0 (by omega) e (h _ _) hs

theorem draw_spec (prog : Program) (w : World) : Enters prog w 98 1 8 (fun h₀ L s vs Q => ∃ (src cl : Addr) (xs : List Value) (ns : List Int) (a lim : Int) (k : Nat) (t u : Tok), vs = [.ref src, .int lim u] ∧ News h₀ L s.heap [(src, W.listOf #[.ref cl, .int a t] k)] ∧ s.heap.IsList cl (List.toArray xs) ∧ IntsAre xs ns ∧ 0 < ns.length ∧ ns.length ≤ 100 ∧ 0 ≤ a ∧ a ≤ 1000 ∧ 0 < lim ∧ lim ≤ 1000 ∧
   (∀ (v : Int) (t' t'' : Tok) (k' : Nat) (tk' : Nat) (h' : Heap), 0 ≤ v → v < lim → (∀ b o, s.heap.get? b = some o → b ≠ src → h'.get? b = some o) → h'.get? src = some (W.listOf #[.ref cl, .int (a + 1) t''] k') → Q (.int v t') { s with heap := h', toks := tk' })) := by
  intro p loose_ mean mg mb dp un gd cn cs a₀ ccd cl' outer A₀ base h₀ L m s vs Q E B F X T hk hdp hun ⟨src, cl, xs, ns, a, lim, k, t, u, hvs, N, hl, hi, hn0, hn1, ha0, ha1, hl0, hl1, hret⟩
  subst hvs
  refine wpAny_call ?_
  k_dflt (refine' enter ?k1 ?k2 ?k3 N ?k5 ?kA ?kF ?kK ?k6 ?k7 ?k8 ?k9 ?kB ?_ ?c2 ?c3 ?c4 ?c5; (case kA => exact rfl); (case kF => exact rfl); (case kK => assumption); (case k1 => k_asm); (case k2 => k_asm); (case k3 => k_asm); (case k5 => k_asm); (case k6 => k_is); (case k7 => k_is); (case k8 => ktr_room); (case k9 => exact BindsTo.of_eq rfl); (case c5 => decide); (case kB => exact locs rfl); (case c2 => exact rfl); (case c3 => exact rfl); (case c4 => exact rfl); k_whole; intro g' L' h' F' N' B' X' T' G' S'; (try dsimp only); (try k_fold))
  have hne : cl ≠ src := by
    intro e
    obtain ⟨o, ho, _, n, hd⟩ := hl
    rw [e, (N _ (.head _)).1] at ho
    have h9 := congrArg Obj.data (Option.some.inj ho)
    rw [hd] at h9
    have h8 : #[Value.ref cl, Value.int a t] = xs.toArray := by injection h9
    have h7 : [Value.ref cl, Value.int a t] = xs := by simpa using congrArg Array.toList h8
    rw [← h7] at hi
    cases hi
  have hlg : g'.IsList cl (List.toArray xs) := hl.at fun o e => G' cl o e (by simpa using hne)
  have hxl := hi.length
  clear F B X T S' N
  k_steps
  rename_i F9 N9 _
  have e9 := Int.fmod_eq_emod_of_nonneg (ns.getD (a.fmod ↑ns.length).toNat 0 + 11 * a.fdiv ↑ns.length) (Int.le_of_lt hl0)
  refine hret _ _ _ _ _ _ ?_ ?_ (fun b o e hb => F9.keep b o (G' b o e (by simpa using hb))) (N9 _ (.head _)).1
  · rw [e9]; exact Int.emod_nonneg _ (by omega)
  · rw [e9]; exact Int.emod_lt_of_pos _ hl0

theorem draw_use {prog : Program} {w : World} {p : Program} {loo : List Str} {mean : ExcName → Option Value} {mg mb : Str → Option Value} {dp un : Nat} {gd : Option (List Code)} {cn : Str} {cs : Scope} {a₀ : Addr} {ccd : Value} {cl₀ : List (Str × Addr)} {outer : List Env} {A₀ : Around} {base h₀ : Heap} {L : Addr} {m : Str → Option Value} {s : Shared} {Q E : Value → Shared → Prop}
    {src cl : Addr} {xs : List Value} {ns : List Int} {a lim : Int} {k : Nat} {t u : Tok}
    (B : Below A₀ base outer h₀) (F : Fr h₀ L s.heap m) (X : (hd.heap_39 w.params).In h₀) (T : Top p loo mean mg mb h₀) (hk : cs.kind = .function) (hd : dp + 1 < recursionLimit) (hu : un + 8 < cLine)
    (N : News h₀ L s.heap [(src, W.listOf #[.ref cl, .int a t] k)]) (hl : s.heap.IsList cl (List.toArray xs)) (hi : IntsAre xs ns) (h1 : 0 < ns.length) (h2 : ns.length ≤ 100) (h3 : 0 ≤ a) (h4 : a ≤ 1000) (h5 : 0 < lim) (h6 : lim ≤ 1000)
    (hret : ∀ (v : Int) (t' t'' : Tok) (k' : Nat) (tk' : Nat) (h' : Heap), 0 ≤ v → v < lim → (∀ b o, s.heap.get? b = some o → b ≠ src → h'.get? b = some o) → h'.get? src = some (W.listOf #[.ref cl, .int (a + 1) t''] k') → Q (.int v t') { s with heap := h', toks := tk' }) :
    wpAny (model prog w) (ktrTop dp un gd cn cs L a₀ ccd cl₀ outer) (call (.ref 98) [.ref src, .int lim u]) Q E s :=
  draw_spec prog w p loo mean mg mb dp un gd cn cs a₀ ccd cl₀ outer A₀ base h₀ L m s _ Q E B F X T hk hd hu ⟨src, cl, xs, ns, a, lim, k, t, u, rfl, N, hl, hi, h1, h2, h3, h4, h5, h6, hret⟩
end Mine

end NzDraw

section NzSource
open PySem PySem.Spec PySem.Calls PySem.W PyProof.Rows
namespace Mine
example : PySem.Challenge.rw_nz0114_01 = PySem.Challenge.rw_nz0114_01 ∧ hd.heap_39 = hd.heap_39 := by
  k_fill
  exact ⟨rfl, rfl⟩

theorem source_spec (prog : Program) (w : World) : Enters prog w 103 1 8 (fun h₀ L s vs Q => ∃ (l : Addr) (xs : List Value) (ns : List Int), vs = [.ref l] ∧ s.heap.IsList l (List.toArray xs) ∧ IntsAre xs ns ∧ ns.length ≤ 63 ∧
   (∀ (src cl : Addr) (xs' : List Value) (ns' : List Int) (k : Nat) (t : Tok) (tk' : Nat) (h' : Heap), s.heap.StaysIn h' → s.heap.get? src = none → s.heap.get? cl = none → cl ≠ src → h'.get? src = some (W.listOf #[.ref cl, .int 0 t] k) → h'.IsList cl (List.toArray xs') → IntsAre xs' ns' → 0 < ns'.length → ns'.length ≤ 100 → Q (.ref src) { s with heap := h', toks := tk' })) := by
  intro p loose_ mean mg mb dp un gd cn cs a₀ ccd cl' outer A₀ base h₀ L m s vs Q E B F X T hk hdp hun ⟨l, xs, ns, hvs, hl, hi, hn1, hret⟩
  subst hvs
  refine wpAny_call ?_
  k_dflt (refine' enter ?k1 ?k2 ?k3 (News.nil) ?k5 ?kA ?kF ?kK ?k6 ?k7 ?k8 ?k9 ?kB ?_ ?c2 ?c3 ?c4 ?c5; (case kA => exact rfl); (case kF => exact rfl); (case kK => assumption); (case k1 => k_asm); (case k2 => k_asm); (case k3 => k_asm); (case k5 => k_asm); (case k6 => k_is); (case k7 => k_is); (case k8 => ktr_room); (case k9 => exact BindsTo.of_eq rfl); (case c5 => decide); (case kB => exact locs rfl); (case c2 => exact rfl); (case c3 => exact rfl); (case c4 => exact rfl); k_whole; intro g' L' h' F' N' B' X' T' G' S'; (try dsimp only); (try k_fold))
  have Gk : ∀ b o, s.heap.get? b = some o → g'.get? b = some o := fun b o e => G' b o e (by simp)
  have hlg : g'.IsList l (List.toArray xs) := hl.at fun o e => Gk l o e
  have hxl := hi.length
  clear F B X T S' hl
  k_steps
  · rename_i hpos src h9 F9 N9 _
    show Q (.ref src) _
    refine hret src _ _ _ _ _ _ h9 (fun b o e => F9.keep b o (Gk b o e)) (none_back Gk (N9 _ (.head _)).2.2) (none_back Gk (N9 _ (.tail _ (.head _))).2.2) (by k_ne) (N9 _ (.head _)).1 ⟨_, (N9 _ (.tail _ (.head _))).1, rfl, _, rfl⟩ (by assumption) hpos ?_
    simp only [List.length_map, List.length_take]
    omega
  · rename_i src h9 F9 N9 _
    show Q (.ref src) _
    exact hret src _ _ _ _ _ _ h9 (fun b o e => F9.keep b o (Gk b o e)) (none_back Gk (N9 _ (.head _)).2.2) (none_back Gk (N9 _ (.tail _ (.head _))).2.2) (by k_ne) (N9 _ (.head _)).1 ⟨_, (N9 _ (.tail _ (.head _))).1, rfl, _, rfl⟩ (.cons _ _ .nil) (by decide) (by decide)
end Mine

end NzSource

section NzParents
open PySem PySem.Spec PySem.Calls PySem.W PyProof.Rows
namespace Mine
example : PySem.Challenge.rw_nz0114_01 = PySem.Challenge.rw_nz0114_01 ∧ hd.heap_39 = hd.heap_39 := by
  k_fill
  exact ⟨rfl, rfl⟩

section
variable {prog : Program} {w : World} {A A₀ : Around} {E : Value → Shared → Prop} {s : Shared} {K : Frag} {L : Addr} {h₀ base : Heap} {m mg mb : Str → Option Value} {news : List (Addr × Obj)} {p : Program} {loose : List Str} {mean : ExcName → Option Value}

/-- a call of a def with cells that reads alone -/
theorem enterC {env : Env} {outer : List Env} {R : Result → Shared → Prop} {name qual : Str} {params : Arguments} {body : List Stmt} {scope : Scope} {dV kV doc pm cdv ct oc : Value} {an od : Option Addr} {osl : Array (Option Value)} {f : Addr} {args : Args} {binds : List (Str × Value)}
    (B : Below A₀ base outer h₀) (F : Fr h₀ L s.heap m) (X₀ : K.In h₀) (T : Top p loose mean mg mb h₀) (hA : A.frames = some (env :: outer)) (hf : env.frame = some L) (hke : env.scope.kind = .function)
    (ho : K.lookup f = some ⟨oc, od, .func (fnOf name qual params body scope dV kV doc pm an cdv ct), osl⟩) (hcd : codeIn K cdv qual = true) (hroom : A.depth < recursionLimit)
    (hbind : BindsTo s (fnOf name qual params body scope dV kV doc pm an cdv ct) args binds) (hkind : (binds.all fun y => scope.names.lookup y.1 == some .local || scope.names.lookup y.1 == some .cell) = true)
    (hnd : ((cellsFrom 0 scope.names []).map (·.1)).Nodup)
    (h : ∀ L' h₁ tk cells, Fr s.heap L' h₁ (bindL (envOfC qual scope L' f cdv).kindOf binds fun _ => none) → News s.heap L' h₁ cells →
      CellsAre (bindC (envOfC qual scope L' f cdv).kindOf binds fun _ => none) (cellsFrom (L' + 1) scope.names []) cells → Below A base (env :: outer) s.heap → K.In s.heap → Top p loose mean mg mb s.heap →
      wpAny (model prog w) (A.deeper (envOfC qual scope L' f cdv)) (execs body (envOfC qual scope L' f cdv))
        (fun fl s' => R (.ok (.ret (match fl with | .ret v => v | _ => .none))) s')
        (fun e s' => wpAny (model prog w) (A.deeper (envOfC qual scope L' f cdv)) (leaving (envOfC qual scope L' f cdv) e) (fun _ s'' => R (.error e) s'') (fun e' s'' => R (.error e') s'') s')
        { s with heap := h₁, toks := tk })
    (hco : scope.isCoroutine = false) (hgen : scope.isGenerator = false) (hk : scope.kind = .function) : codeAny (model prog w) A (.call (.ref f) args) R s := by
  have X := X₀.keeps F.keep
  have T' := T.keeps F.keep
  have P := pushX B F hf hke
  refine codeAny_call_function hroom (X _ _ ho) rfl hco hgen rfl (codeRec_of X hcd) (hbind _ _ _ _ ?_)
  refine wpAny_newFunctionEnv_cells hk (kindsX hkind _) fun env' he s' x => ?_
  subst he
  refine ⟨T'.nolimit.keeps x.toInCall.keep, codeAny_func ?_⟩
  obtain ⟨h₁, tk, rfl⟩ := x.toInCall.same
  obtain ⟨cells, NC, Y⟩ := Cl.news (h₀ := s.heap) (Nat.le_refl _) fun n c hm => ⟨x.cell n c (lookup_of_mem_nodup (cellsFrom_names scope.names 0 (s.heap.objs.size + 1) [] [] rfl ▸ hnd) hm), x.above n c hm⟩
  exact h s.heap.objs.size h₁ tk cells ⟨x.toInCall.ns, x.toInCall.keep, Nat.le_refl _⟩ NC Y ⟨hA, P.stays, P.frames⟩ X T'
end

def liftP (p : Nat → Bool) (v : Value) : Bool := match v with | .int k _ => p k.toNat | _ => false
def liftF (F : Nat → Value → Prop) (v y : Value) : Prop := ∃ (i : Nat) (t : Tok), v = Value.int (i : Int) t ∧ F i y
/-- what a comprehension over a range asks, its turns read alone -/
theorem comp_range {prog : Program} {w : World} {A : Around} {E : Value → Shared → Prop} {s : Shared} {env : Env} {scope : Scope} {cl : List (Str × Addr)} {x : Str} {ifs : List PySem.Expr} {elt : PySem.Expr} {r : Addr} {b₀ : Int} {t₀ u₀ v₀ : Tok} {n : Nat} {Q : Value → Shared → Prop}
    (p : Nat → Bool) (F : Nat → Value → Prop) (hh : A.handled = none) (hr : IsRange s.heap r 0 b₀ 1 t₀ u₀ v₀) (hn : b₀ = (n : Int)) (hs : n ≤ 1000)
    (tests : ∀ C (i : Nat) t s₃ m₃ E', s.heap.objs.size ≤ C → i < n → s₃.heap.Ns C m₃ → m₃ x = some (.int (i : Int) t) → (∀ b o, s.heap.get? b = some o → s₃.heap.get? b = some o) →
      wpAny (model prog w) A (forIn ifs true fun c r => if r = true then do let ok ← isTrue c (compEnvC scope cl C env) (eval c (compEnvC scope cl C env)); pure (ForInStep.yield ok) else pure (ForInStep.yield r))
        (fun ok s₄ => ok = p i ∧ Keeps s₃ s₄) E' s₃)
    (elts : ∀ C (i : Nat) t s₃ m₃ E', s.heap.objs.size ≤ C → i < n → p i = true → s₃.heap.Ns C m₃ → m₃ x = some (.int (i : Int) t) → (∀ b o, s.heap.get? b = some o → s₃.heap.get? b = some o) →
      wpAny (model prog w) A (eval elt (compEnvC scope cl C env)) (fun y s₄ => F i y ∧ Keeps s₃ s₄) E' s₃)
    (done : ∀ D h' tk (ys : List Value), s.heap.get? D = none → h'.IsList D ys.toArray → Paired F ((List.range n).filter p) ys → (∀ b o, s.heap.get? b = some o → h'.get? b = some o) → Q (.ref D) { s with heap := h', toks := tk }) :
    wpAny (model prog w) A (pyIter (.ref r)) (fun it s₂ => ∃ I fp wr n P St, it = .ref I ∧ Walks prog w A I fp wr n P St ∧ n ≤ sizeLine ∧ St 0 s₂.heap ∧ (∀ b ∈ fp, b < s₂.heap.objs.size) ∧
      QuietOnC prog w A env scope cl x ifs elt wr P (liftP p) (liftF F) s₂ ∧
      (∀ D h' tk ys (vs : List Value), s₂.heap.get? D = none → h'.IsList D ys → h'.PlainList D ys → vs.length = n → (∀ j v, vs[j]? = some v → P j v) → Paired (liftF F) (vs.filter (liftP p)) ys.toList →
        (∀ b o, b ∉ wr → s₂.heap.get? b = some o → h'.get? b = some o) → Q (.ref D) { s₂ with heap := h', toks := tk })) E s := by
  subst hn
  have hsz : Builtin.Range.rangeSize 0 (n : Int) 1 = (n : Int) := by have := rangeSize_nat 0 n; simpa using this
  refine wpAny_pyIter_range hr (small_one (by omega) (by omega) (by omega) (by omega)) ?_
  have W : Walks prog w A s.heap.objs.size [s.heap.objs.size] [s.heap.objs.size] n (fun i v => i < n ∧ ∃ t, v = .int (0 + i * 1) t)
      (fun i h => IsRangeIter h s.heap.objs.size (0 + (i : Nat) * 1) ((n : Int) - (i : Nat)) 1) := (Walks.range hh _ 0 1 n).bound
  have up : ∀ (h : Heap), (∀ b o, b ∉ [s.heap.objs.size] → (s.heap.push { cls := .type "range_iterator", data := .fields #[rawInt 0, rawInt (Builtin.Range.rangeSize 0 (n : Int) 1), rawInt 1] }).get? b = some o → h.get? b = some o) → ∀ b o, s.heap.get? b = some o → h.get? b = some o := by
    intro h hk b o e
    refine hk b o ?_ (Heap.get?_push_of_some _ e)
    intro hm
    have := Heap.lt_size e
    rw [List.mem_singleton.mp hm] at this
    exact absurd this (Nat.lt_irrefl _)
  have up2 : ∀ C, (s.heap.push { cls := .type "range_iterator", data := .fields #[rawInt 0, rawInt (Builtin.Range.rangeSize 0 (n : Int) 1), rawInt 1] }).objs.size ≤ C → s.heap.objs.size ≤ C := by
    intro C h
    rw [Heap.size_push] at h
    exact Nat.le_of_succ_le h
  refine ⟨_, _, _, n, _, _, rfl, W, by rw [PySem.sizeLine_eq]; omega, by show IsRangeIter _ _ _ _ _; rw [hsz]; simpa using Heap.get?_push_size _ rfl, ?_, ⟨?_, ?_⟩, ?_⟩
  · intro b hb
    rw [List.mem_singleton.mp hb, Heap.size_push]
    exact Nat.lt_succ_self _
  · rintro C i v s₃ m₃ E' hC ⟨hi, t, rfl⟩ hns hm hk _
    have e1 : (0 : Int) + (i : Int) * 1 = (i : Int) := by omega
    rw [e1] at hm ⊢
    have := tests C i t s₃ m₃ E' (up2 C hC) hi hns hm (up _ hk)
    simpa [liftP] using this
  · rintro C i v s₃ m₃ E' hC ⟨hi, t, rfl⟩ hp hns hm hk _
    have e1 : (0 : Int) + (i : Int) * 1 = (i : Int) := by omega
    rw [e1] at hm hp ⊢
    exact wpAny_mono (elts C i t s₃ m₃ E' (up2 C hC) hi (by simpa [liftP] using hp) hns hm (up _ hk)) (fun y s₄ q => ⟨⟨i, t, rfl, q.1⟩, q.2⟩) fun _ _ e => e
  · intro D h' tk ys vs hD hl _ hlen hP hF hk
    refine done D h' tk ys.toList ?_ (by simpa using hl) ?_ (up _ hk)
    · cases q : s.heap.get? D with
      | none => rfl
      | some o => rw [Heap.get?_push_of_some _ q] at hD; cases hD
    · -- the items are the range's numbers
      have hvs : ∀ (k : Nat) (ws : List Value), ws.length = k → (∀ j v, ws[j]? = some v → ∃ t, v = Value.int ((j + (n - k) : Nat) : Int) t) → k ≤ n → ∀ zs : List Value, Paired (liftF F) (ws.filter (liftP p)) zs → Paired F ((List.range' (n - k) k).filter p) zs := by
        intro k
        induction k with
        | zero =>
          intro ws h0 _ _ zs hz
          have : ws = [] := List.length_eq_zero_iff.mp h0
          subst this
          cases hz
          exact .nil
        | succ k ih =>
          intro ws h0 hv hkn zs hz
          cases ws with
          | nil => simp at h0
          | cons v ws =>
            obtain ⟨t, rfl⟩ := hv 0 v rfl
            rw [List.range'_succ]
            have rest := ih ws (by simpa using h0) (fun j u hu => by
              obtain ⟨t', e⟩ := hv (j + 1) u (by simpa using hu)
              refine ⟨t', ?_⟩
              rw [e]
              congr 2
              omega) (by omega)
            have e2 : n - (k + 1) + 1 = n - k := by omega
            rw [e2]
            have e3 : ((0 + (n - (k + 1)) : Nat) : Int).toNat = n - (k + 1) := by omega
            cases hp : p (n - (k + 1)) with
            | true =>
              rw [List.filter_cons_of_pos (by simpa [liftP, e3] using hp)] at hz
              rw [List.filter_cons_of_pos hp]
              cases hz with
              | cons hF hz =>
                obtain ⟨i, t', e, hFi⟩ := hF
                injection e with e _
                have : i = n - (k + 1) := by omega
                subst this
                exact .cons hFi (rest _ hz)
            | false =>
              rw [List.filter_cons_of_neg (by simpa [liftP, e3] using hp)] at hz
              rw [List.filter_cons_of_neg (by simp [hp])]
              exact rest _ hz
      have := hvs n vs hlen (fun j v hv => by
        obtain ⟨_, t, e⟩ := hP j v hv
        refine ⟨t, ?_⟩
        rw [e]
        congr 1
        omega) (Nat.le_refl _) ys.toList hF
      rw [List.range_eq_range']
      simpa using this

section
variable {M : Model} {A : Around} {E : Value → Shared → Prop} {s : Shared} {h₀ : Heap} {L C : Addr} {m : Str → Option Value} {sc : Scope} {cl : List (Str × Addr)} {env : Env} {x : Str} {pos : Pos} {v : Value} {Q : Value → Shared → Prop} {news : List (Addr × Obj)} {c : Addr} {o : Obj}
theorem nameZ_L (F : Fr h₀ C s.heap m) (hv : m x = some v) (h : Q v s) (hk : (compEnvC sc cl C env).scope.kind = .function) (hx : (compEnvC sc cl C env).kindOf x = some .local) (hd : (x == ("__debug__" : Str)) = false := by decide) :
    wpAny M A (eval (.Name x pos) (compEnvC sc cl C env)) Q E s := wpAny_Name (wpAny_loadName_local hk hx F.ns hv h) hd
theorem nameZ_C (N : News h₀ L s.heap news) (hc : cl.lookup x = some c) (hm : (c, o) ∈ news) (hdt : o.data = .cell (some v)) (h : Q v s) (hk : (compEnvC sc cl C env).scope.kind = .function) (hx : (compEnvC sc cl C env).kindOf x = some .cell) (hd : (x == ("__debug__" : Str)) = false := by decide) :
    wpAny M A (eval (.Name x pos) (compEnvC sc cl C env)) Q E s := wpAny_Name (wpAny_loadName_cell hk hx hc ⟨o, N.get hm, hdt⟩ h) hd
end

def parF (n : Nat) (st : Nat → Inf) (i : Nat) (y : Value) : Prop := (nextOf st i = none ∧ y = .none) ∨ ∃ (j : Nat) (t : Tok), nextOf st i = some j ∧ j < n ∧ y = .int (j : Int) t

theorem opts_of {n : Nat} {st : Nat → Inf} {ys : List Value} (h : Paired (parF n st) ((List.range n).filter fun _ => true) ys) : OptsAre n ys (nextOf st) := by
  have h1 : (List.range n).filter (fun _ => true) = List.range n := List.filter_eq_self.mpr fun _ _ => rfl
  rw [h1] at h
  have len : ∀ {l : List Nat} {zs : List Value}, Paired (parF n st) l zs → zs.length = l.length ∧ ∀ (i x : Nat), l[i]? = some x → ∃ y, zs[i]? = some y ∧ parF n st x y := by
    intro l zs h
    induction h with
    | nil => exact ⟨rfl, fun i x hx => by simp at hx⟩
    | cons hf _ ih =>
      refine ⟨by simp [ih.1], ?_⟩
      intro i x hx
      cases i with
      | zero => simp at hx; subst hx; exact ⟨_, rfl, hf⟩
      | succ i => simpa using ih.2 i x (by simpa using hx)
  obtain ⟨h2, h3⟩ := len h
  refine ⟨by simpa using h2, fun i hi => ?_⟩
  obtain ⟨y, hy, hf⟩ := h3 i i (by simp [hi])
  rcases hf with ⟨e1, e2⟩ | ⟨j, t, e1, e2, e3⟩
  · exact .inl ⟨e1, e2 ▸ hy⟩
  · exact .inr ⟨j, t, e1, e2, e3 ▸ hy⟩

local macro_rules | `(tactic| walk_at "eval Name") => `(tactic| (k_here; k_dflt (first | (refine' nameZ_L ?F ?v ?_ ?a ?b; (case F => k_asm); (case a => rfl); (case b => rfl); (case v => assumption); k_whole) | (refine' nameZ_C ?N ?c ?m ?d ?_ ?a ?b; (case a => rfl); (case b => rfl); (case N => k_asm); (case c => rfl); (case m => k_mem); (case d => k_asm); k_whole))))
local macro_rules | `(tactic| walk_at "subscriptTail Name") => `(tactic| (k_here; (with_reducible show wpAny _ _ (subscriptTail _ _ (Value.ref _) (Value.int _ _)) _ _ _); (refine' item_row ?k1 ?k2 ?k3 ?k4 ?_ ?k6; (case k1 => k_asm); (case k2 => assumption); (case k3 => assumption); (case k4 => assumption); (case k6 => with_unfolding_all rfl); k_whole)))
local macro_rules | `(tactic| walk_at "getAttr ref") => `(tactic| (k_here; (first | (with_reducible refine' get_p ?k1 ?k2 ?k3 ?k4 ?k5 ?_) | (with_reducible refine' get_b ?k1 ?k2 ?k3 ?k4 ?k5 ?_) | (with_reducible refine' get_y ?k1 ?k2 ?k3 ?k4 ?k5 ?_)); (case k1 => k_asm); (case k2 => k_asm); (case k3 => assumption); (case k4 => exact DictsAt.keeps (by assumption) (Fr.keep (by k_asm))); (case k5 => assumption); k_whole; intro ta'; (try dsimp only)))
local macro_rules | `(tactic| walk_at "call builtin:len") => `(tactic| (k_here; refine' len_row ?k1 ?k2 ?k3 ?_; (case k1 => k_asm); (case k2 => assumption); (case k3 => assumption); k_whole; intro tl'; (try dsimp only)))
local macro_rules | `(tactic| walk_at "call type:range") => `(tactic| (k_here; refine' range1_rows ?k1 ?k2 ?_; (case k1 => k_asm); (case k2 => k_asm); k_whole; intro h' tk' tr' ur' vr' rg' F' N' kk'; (try k_sweep)))
local macro_rules | `(tactic| walk_at "pyIter ref") => `(tactic| (refine Halt.out ?_))
local macro_rules | `(tactic| walk_at "eval ListComp") => `(tactic| (refine Halt.out ?_))

theorem parents_spec (prog : Program) (w : World) : Enters prog w 122 1 8 (fun h₀ L s vs Q => ∃ (l : Addr) (n : Nat) (as ds : Nat → Addr) (st : Nat → Inf), vs = [.ref l] ∧ RowAt s.heap l n as ds ∧ DictsAt s.heap n ds st ∧ Valid n st ∧ n ≤ 7 ∧
   (∀ (q : Addr) (ys : List Value) (tk' : Nat) (h' : Heap), s.heap.StaysIn h' → s.heap.get? q = none → h'.IsList q (List.toArray ys) → OptsAre n ys (nextOf st) → Q (.ref q) { s with heap := h', toks := tk' })) := by
  intro p loose mean mg mb dp un gd cn cs a₀ ccd cl outer A₀ base h₀ L m s vs Q E B F X T hk hdp hun ⟨l, n, as, ds, st, hvs, R, D, V, hn, hret⟩
  subst hvs
  refine wpAny_call ?_
  k_dflt (refine' enterC ?k1 ?k2 ?k3 ?k5 ?kA ?kF ?kK ?k6 ?k7 ?k8 ?k9 ?kB ?kD ?_ ?c2 ?c3 ?c4; (case kA => exact rfl); (case kF => exact rfl); (case kK => assumption); (case k1 => k_asm); (case k2 => k_asm); (case k3 => k_asm); (case k5 => k_asm); (case k6 => k_is); (case k7 => k_is); (case k8 => ktr_room); (case k9 => exact BindsTo.of_eq rfl); (case kB => exact rfl); (case kD => decide +kernel); (case c2 => exact rfl); (case c3 => exact rfl); (case c4 => exact rfl); k_whole; intro L' h' tk' cells' F' N' Y' B' X' T'; k_cells Y'; (try simp only [List.cons_append, List.nil_append] at N'); (try dsimp only); (try k_fold))
  clear F B X T
  k_steps
  refine Halt.goOn ?_
  rename_i oc hoc
  refine wpAny_ListComp_free (cl := [(Str.ofString "row", L' + 1)]) (liftP fun _ => true) (liftF (parF n st)) (by with_unfolding_all rfl) (by decide) rfl (by decide) (by with_unfolding_all rfl) ?_ (fun _ => by with_unfolding_all rfl)
  k_steps
  refine Halt.goOn ?_
  rename_i rg F9 N9 _

  refine comp_range (fun _ => true) (parF n st) rfl rg rfl (by omega) ?_ ?_ ?_
  · intro C i t s₃ m₃ E' _ _ _ _ _
    rw [List.forIn_nil]
    exact wpAny_pure ⟨rfl, s₃.heap, s₃.toks, rfl, fun _ _ e => e⟩
  · intro C i t s₃ m₃ E' hC hi _ hns hm hk
    have F3 : Fr s.heap C s₃.heap m₃ := ⟨hns, fun b o e => hk b o (F9.keep b o e), Nat.le_trans F9.above (Nat.le_trans (Nat.le_of_lt F9.ns.lt) hC)⟩
    have N3 : News s.heap C s₃.heap [(L' + 1, oc)] := fun q hq => ⟨hk _ _ (N9 q hq).1, Nat.ne_of_lt (Nat.lt_of_lt_of_le (Heap.lt_size (N9 q hq).1) hC), (N9 q hq).2.2⟩
    clear F9 N9 rg
    k_steps
    · obtain ⟨j, hj, hjn, ej⟩ := V.is_next hi (by assumption : (st i).p ≠ 0)
      exact .inr ⟨j, _, hj, hjn, by rw [ej]⟩
    · exact ⟨_, _, rfl, fun _ _ e => e⟩
    · exact .inl ⟨next_none (by assumption), rfl⟩
    · exact ⟨_, _, rfl, fun _ _ e => e⟩
  · intro C h' tk ys hD hl hP hk
    exact hret C ys _ h' (fun b o e => hk b o (F9.keep b o e)) (none_back (fun b o e => F9.keep b o e) hD) hl (opts_of hP)
end Mine

end NzParents

section NzInfo
open PySem PySem.Spec PySem.Calls PySem.W PyProof.Rows
namespace Mine
example : PySem.Challenge.rw_nz0114_01 = PySem.Challenge.rw_nz0114_01 ∧ hd.heap_39 = hd.heap_39 := by
  k_fill
  exact ⟨rfl, rfl⟩

theorem mk_87 (P : Params) : makesIn (hd.heap_39 P) 87 = true := by k_is
theorem in_87 (P : Params) : findIn (hd.heap_39 P) (.ref 87) "__init__" = some (some (.ref 70)) := by k_is
theorem ty_70 (P : Params) : typeIn (hd.heap_39 P) (.ref 70) = some (.type "function") := by k_is

theorem info_spec (prog : Program) (w : World) : Enters prog w 87 1 16 (fun h₀ L s vs Q => ∃ (c1 c2 c3 : Int) (t1 t2 t3 : Tok), vs = [.int c1 t1, .int c2 t2, .int c3 t3] ∧
   (∀ (x dx : Addr) (od : Obj) (tk' : Nat) (h' : Heap), s.heap.StaysIn h' → h'.get? x = some (instObj 87 dx) → h'.get? dx = some od → DictIs od ⟨0, Str.ofString "", 0⟩ → s.heap.get? x = none → s.heap.get? dx = none → x ≠ dx → Q (.ref x) { s with heap := h', toks := tk' })) := by
  intro p loose_ mean mg mb dp un gd cn cs a₀ ccd cl' outer A₀ base h₀ L m s vs Q E B F X T hk hdp hun ⟨c1, c2, c3, t1, t2, t3, hvs, hret⟩
  subst hvs
  obtain ⟨hh, g, d, tok, os⟩ := s
  refine wpAny_call ?_
  have XX := X.keeps F.keep
  refine make_core (makes_of XX (mk_87 _)) (looks_findIn XX (in_87 _)) (fun self => bind_fn XX self (ty_70 _)) (.inl rfl) ?_
  have F1 := (F.push emptyDict).push (instObj 87 hh.objs.size)
  have N1 : News h₀ L ((hh.push emptyDict).push (instObj 87 hh.objs.size)) [(hh.objs.size + 1, instObj 87 hh.objs.size), (hh.objs.size, emptyDict)] := by
    have := ((News.nil (h₀ := h₀) (L := L) (h := hh)).push F emptyDict).push (F.push _) (instObj 87 hh.objs.size)
    rwa [Heap.size_push] at this
  obtain ⟨dx, hdx⟩ : ∃ dx, dx = hh.objs.size := ⟨_, rfl⟩
  obtain ⟨x, hx⟩ : ∃ x, x = hh.objs.size + 1 := ⟨_, rfl⟩
  have ndx : hh.get? dx = none := by
    cases q : hh.get? dx with
    | none => rfl
    | some o => have := Heap.lt_size q; rw [hdx] at this; exact absurd this (Nat.lt_irrefl _)
  have nx : hh.get? x = none := by
    cases q : hh.get? x with
    | none => rfl
    | some o => have := Heap.lt_size q; rw [hx] at this; exact absurd (Nat.lt_of_succ_lt this) (Nat.lt_irrefl _)
  have lt' : dx < x := by rw [hx, hdx]; exact Nat.lt_succ_self _
  have keep1 : ∀ b o, hh.get? b = some o → ((hh.push emptyDict).push (instObj 87 dx)).get? b = some o := fun b o e => Heap.get?_push_of_some _ (Heap.get?_push_of_some _ e)
  rw [← hx, ← hdx] at N1
  rw [← hdx] at F1
  rw [← hx, ← hdx]
  obtain ⟨H, hH⟩ : ∃ H, H = ((hh.push emptyDict).push (instObj 87 dx)) := ⟨_, rfl⟩
  rw [← hH] at F1 N1 keep1 ⊢
  clear hH hx hdx F
  k_dflt (refine' enter ?k1 ?k2 ?k3 N1 ?k5 ?kA ?kF ?kK ?k6 ?k7 ?k8 ?k9 ?kB ?_ ?c2 ?c3 ?c4 ?c5; (case kA => exact rfl); (case kF => exact rfl); (case kK => assumption); (case k1 => k_asm); (case k2 => k_asm); (case k3 => k_asm); (case k5 => k_asm); (case k6 => k_is); (case k7 => k_is); (case k8 => ktr_room); (case k9 => exact BindsTo.of_eq rfl); (case c5 => decide); (case kB => exact locs rfl); (case c2 => exact rfl); (case c3 => exact rfl); (case c4 => exact rfl); k_whole; intro g' L' h' F' N' B' X' T' G' S'; (try dsimp only); (try k_fold))
  clear F1 N1 B X T S' XX
  k_steps
  rename_i h9 F9 N9
  refine ⟨rfl, ?_⟩
  show Q (.ref x) _
  refine hret x dx _ _ h9 (fun b o e => F9.keep b o (G' b o (keep1 b o e) ?_)) (N9 _ (.head _)).1 (N9 _ (.tail _ (.head _))).1 ⟨_, 16, _, _, _, rfl, Nat.le_of_ble_eq_true rfl, by with_unfolding_all rfl, by with_unfolding_all rfl, by with_unfolding_all rfl⟩ nx ndx (Ne.symm (Nat.ne_of_lt lt'))
  intro hm
  have e' : hh.get? b = some o := e
  rcases List.mem_cons.mp hm with q | hm
  · have q' : b = x := q
    rw [q', nx] at e'; cases e'
  · have q' : b = dx := List.mem_singleton.mp hm
    rw [q', ndx] at e'; cases e'

theorem info_use {prog : Program} {w : World} {p : Program} {loo : List Str} {mean : ExcName → Option Value} {mg mb : Str → Option Value} {dp un : Nat} {gd : Option (List Code)} {cn : Str} {cs : Scope} {a₀ : Addr} {ccd : Value} {cl₀ : List (Str × Addr)} {outer : List Env} {A₀ : Around} {base h₀ : Heap} {L : Addr} {m : Str → Option Value} {s : Shared} {Q E : Value → Shared → Prop}
    {c1 c2 c3 : Int} {t1 t2 t3 : Tok}
    (B : Below A₀ base outer h₀) (F : Fr h₀ L s.heap m) (X : (hd.heap_39 w.params).In h₀) (T : Top p loo mean mg mb h₀) (hk : cs.kind = .function) (hd : dp + 1 < recursionLimit) (hu : un + 16 < cLine)
    (hret : ∀ (x dx : Addr) (od : Obj) (tk' : Nat) (h' : Heap), s.heap.StaysIn h' → h'.get? x = some (instObj 87 dx) → h'.get? dx = some od → DictIs od ⟨0, Str.ofString "", 0⟩ → s.heap.get? x = none → s.heap.get? dx = none → x ≠ dx → Q (.ref x) { s with heap := h', toks := tk' }) :
    wpAny (model prog w) (ktrTop dp un gd cn cs L a₀ ccd cl₀ outer) (call (.ref 87) [.int c1 t1, .int c2 t2, .int c3 t3]) Q E s :=
  info_spec prog w p loo mean mg mb dp un gd cn cs a₀ ccd cl₀ outer A₀ base h₀ L m s _ Q E B F X T hk hd hu ⟨c1, c2, c3, t1, t2, t3, rfl, hret⟩
end Mine

end NzInfo

section NzComp
open PySem PySem.Spec PySem.Calls PySem.W PyProof.Rows
namespace Mine
section
variable {prog : Program} {w : World} {A : Around} {E : Value → Shared → Prop} {env : Env}

/-- a turn's element may make objects: what they are is told by G -/
def EltMakes (prog : Program) (w : World) (A : Around) (env : Env) (scope : Scope) (cl : List (Str × Addr)) (x : Str) (elt : PySem.Expr) (wr : List Addr) (n : Nat) (P : Nat → Value → Prop) (G : Nat → List Value → List (Addr × Obj) → Prop) (s₂ : Shared) : Prop :=
  ∀ C i v ys made s₃ m₃ E', s₂.heap.objs.size ≤ C → i < n → P i v → G i ys made → s₃.heap.Ns C m₃ → m₃ x = some v → (∀ b o, b ∉ wr → s₂.heap.get? b = some o → s₃.heap.get? b = some o) → (∀ p ∈ made, s₃.heap.get? p.1 = some p.2) →
    wpAny (model prog w) A (eval elt (compEnvC scope cl C env)) (fun y s₄ => Keeps s₃ s₄ ∧ ∃ more, G (i + 1) (ys ++ [y]) (made ++ more) ∧ ∀ p ∈ more, s₄.heap.get? p.1 = some p.2 ∧ s₃.heap.get? p.1 = none) E' s₃

theorem comp_made {elt iter : PySem.Expr} {x : Str} {px : Pos} {scope : Scope} {cl : List (Str × Addr)} {pos : Pos} {s₂ : Shared} {I : Addr} {fp wr : List Addr} {n : Nat} {P : Nat → Value → Prop}
    {St : Nat → Heap → Prop} (W : Walks prog w A I fp wr n P St) (hsz : n ≤ 1000) (G : Nat → List Value → List (Addr × Obj) → Prop) {RR : Value → Addr → Result → Shared → Prop}
    (hcell : ∀ y ∈ scope.names, y.2 ≠ .cell) (hkind : scope.kind = .function) (hx : scope.names.lookup x = some .local) (hst : St 0 s₂.heap) (hfp : ∀ b ∈ fp, b < s₂.heap.objs.size)
    (hwr : ∀ i h, St i h → ∀ b ∈ wr, ∃ o, h.get? b = some o) (h0 : G 0 [] []) (hlen : ∀ i ys made, G i ys made → ys.length = i)
    (elts : EltMakes prog w A env scope cl x elt wr n P G s₂)
    (hRR : ∀ D C h' tk m' (ys : List Value) made, s₂.heap.get? D = none → s₂.heap.get? C = none → D ≠ C → h'.Ns C m' → h'.IsList D ys.toArray → G n ys made → (∀ p ∈ made, h'.get? p.1 = some p.2 ∧ s₂.heap.get? p.1 = none ∧ p.1 ≠ C ∧ p.1 ≠ D) →
      (∀ b o, b ∉ wr → s₂.heap.get? b = some o → h'.get? b = some o) → RR (.ref D) C (.ok .next) { s₂ with heap := h', toks := tk }) :
    wpAny (model prog w) A (newList []) (fun acc s₃ => wpAny (model prog w) A (newFunctionEnv scope env.globals cl [] env.qual none .none (some env)) (fun cenv s₄ =>
      codeAny (model prog w) A (.compStart (.ListComp elt [⟨.Name x px, iter, [], 0⟩] scope pos) 0 (.ref I) acc { cenv with scope := relabel scope env }) (RR acc cenv.locals) s₄) E s₃) E s₂ := by
  have nw : ∀ b, s₂.heap.objs.size ≤ b → s₂.heap.get? b = none := fun b hb => by
    cases q : s₂.heap.get? b with
    | none => rfl
    | some o => exact absurd (Heap.lt_size q) (Nat.not_lt.mpr hb)
  refine wpAny_newObj_type (wpAny_newFunctionEnv hcell (by intro y hy; simp at hy) (fun h₁ hns₁ hsb₁ => ?_) hkind)
  dsimp only at hns₁ hsb₁ ⊢
  obtain ⟨D, hD⟩ : ∃ D, D = s₂.heap.objs.size := ⟨_, rfl⟩
  obtain ⟨C, hC⟩ : ∃ C, C = (s₂.heap.push { cls := .type "list", dict := none, data := .seq ([] : List Value).toArray }).objs.size := ⟨_, rfl⟩
  have hC2 : C = s₂.heap.objs.size + 1 := by rw [hC, Heap.size_push]
  rw [← hC] at hns₁ hsb₁
  have hDC : D ≠ C := by rw [hC2, hD]; exact Nat.ne_of_lt (Nat.lt_succ_self _)
  have up1 : ∀ b o, s₂.heap.get? b = some o → h₁.get? b = some o := fun b o e => by
    have hb := Heap.lt_size e
    refine hsb₁.extBut b o ?_ (Heap.get?_push_of_some _ (Heap.get?_push_of_some _ e))
    rw [hC2]; exact Nat.ne_of_lt (Nat.lt_succ_of_lt hb)
  have hacc : h₁.IsList D (List.toArray []) := by
    refine ⟨_, hsb₁.extBut D _ hDC (Heap.get?_push_of_some _ (hD ▸ Heap.get?_push_size _ rfl)), rfl, 0, rfl⟩
  have hDf : D ∉ fp := fun hm => Nat.lt_irrefl _ (hD ▸ hfp D hm)
  have hCf : C ∉ fp := fun hm => by have := hfp _ hm; rw [hC2] at this; exact absurd (Nat.lt_of_succ_lt this) (Nat.lt_irrefl _)
  have hst₁ : St 0 h₁ := W.frame _ _ _ hst fun b _ o e => up1 b o e
  have hDw : D ∉ wr := fun h => hDf (W.sub _ h)
  have hCw : C ∉ wr := fun h => hCf (W.sub _ h)
  have loop : ∀ tk₁, codeAny (model prog w) A (.compLoop (.ListComp elt [⟨.Name x px, iter, [], 0⟩] scope pos) 0 (.ref I) (.ref D) (compEnvC scope cl C env)) (RR (.ref D) C) { s₂ with heap := h₁, toks := tk₁ } := by
    intro tk₁
    refine codeAny_compLoop_list (fun k s' => ∃ i h' tk m' ys made, s' = { s₂ with heap := h', toks := tk } ∧ St i h' ∧ h'.IsList D (List.toArray ys) ∧ h'.Ns C m' ∧ G i ys made ∧
      (∀ p ∈ made, h'.get? p.1 = some p.2 ∧ s₂.heap.get? p.1 = none ∧ p.1 ≠ C ∧ p.1 ≠ D ∧ p.1 ∉ wr) ∧ (∀ b o, b ∉ wr → s₂.heap.get? b = some o → h'.get? b = some o) ∧ i ≤ n ∧ k = n + 1 - i) ?_ (n + 1)
      ⟨0, h₁, tk₁, _, [], [], rfl, hst₁, hacc, hns₁, h0, fun p hp => (nomatch hp), fun b o _ e => up1 b o e, Nat.zero_le _, rfl⟩ (fun _ => rfl)
    rintro k s' ⟨i, h', tk, m', ys, made, rfl, hst', hl', hn', hG, hm', hk', hin, rfl⟩
    by_cases hlt : i < n
    · refine W.item i _ _ _ hlt hst' fun v h₂ tk₂ hP hst₂ hk₂ => ?_
      dsimp only
      refine wpAny_assign_Name (wpAny_storeName_local (env := compEnvC scope cl C env) (lookup_relabel_local hx) (hn'.at' fun o e => hk₂ _ o hCw e) (fun h₃ hn₃ hs₃ => ?_) (by simp [compEnvC, relabel, hkind]))
      have hs3 : ∀ b o, b ≠ C → h₂.get? b = some o → h₃.get? b = some o := fun b o hb e => (hs₃.2 b hb).trans e
      have hst₃ : St (i + 1) h₃ := W.frame _ _ _ hst₂ fun b hb o e => hs3 b o (fun q => hCf (q ▸ hb)) e
      have old3 : ∀ b o, b ∉ wr → s₂.heap.get? b = some o → h₃.get? b = some o := fun b o hb e => by
        refine hs3 b o ?_ (hk₂ b o hb (hk' b o hb e))
        intro q; rw [q, nw C (by rw [hC2]; exact Nat.le_succ _)] at e; cases e
      have made3 : ∀ p ∈ made, h₃.get? p.1 = some p.2 := fun p hp => by
        obtain ⟨a1, a2, a3, a4, a5⟩ := hm' p hp
        exact hs3 _ _ a3 (hk₂ _ _ a5 a1)
      refine wpAny_mono (elts C i v ys made { s₂ with heap := h₃, toks := tk₂ + 1 } _ _ (by rw [hC2]; exact Nat.le_succ _) hlt hP hG hn₃ (by simp) old3 made3) (fun y s₄ q => ?_) fun _ _ e => e
      obtain ⟨⟨h₄, tk₄, rfl, hk₄⟩, more, hG', hmore⟩ := q
      have hl₄ : h₄.IsList D (List.toArray ys) := (hl'.at fun o e => hk₄ D o (hs3 D o hDC (hk₂ D o hDw e)))
      have hn₄ := hn₃.keeps hk₄
      have hyl : ys.length ≤ sizeLine := by rw [hlen _ _ _ hG, PySem.sizeLine_eq]; omega
      refine wpAny_list_append hl₄ (fun h₅ hl₅ hs₅ => ?_) (by simpa using hyl)
      refine ⟨n + 1 - (i + 1), by omega, i + 1, h₅, tk₄, _, ys ++ [y], made ++ more, rfl, ?_, by simpa using hl₅, hn₄.at' fun o e => (hs₅.2 C (Ne.symm hDC)).trans e, hG', ?_, ?_, hlt, rfl⟩
      · exact W.frame _ _ _ hst₃ fun b hb o e => (hs₅.2 b (fun q => hDf (q ▸ hb))).trans (hk₄ b o e)
      · intro p hp
        rcases List.mem_append.mp hp with hp | hp
        · obtain ⟨a1, a2, a3, a4, a5⟩ := hm' p hp
          exact ⟨(hs₅.2 _ a4).trans (hk₄ _ _ (made3 p hp)), a2, a3, a4, a5⟩
        · obtain ⟨b1, b2⟩ := hmore p hp
          have b2' : h₃.get? p.1 = none := b2
          have neC : p.1 ≠ C := by
            intro q
            obtain ⟨o, _, _, e, _⟩ := hn₃
            have e' : h₃.get? C = some o := e
            rw [q, e'] at b2'; cases b2'
          have neD : p.1 ≠ D := by
            intro q
            obtain ⟨o, e, _⟩ := hl'
            have := hs3 D o hDC (hk₂ D o hDw e)
            rw [q, this] at b2'; cases b2'
          have neW : p.1 ∉ wr := by
            intro q
            obtain ⟨o, e⟩ := hwr _ _ hst₃ _ q
            rw [e] at b2'; cases b2'
          refine ⟨(hs₅.2 _ neD).trans b1, ?_, neC, neD, neW⟩
          cases q : s₂.heap.get? p.1 with
          | none => rfl
          | some o => rw [old3 _ _ neW q] at b2'; cases b2'
      · intro b o hb e
        refine (hs₅.2 b ?_).trans (hk₄ b o (old3 b o hb e))
        intro q; rw [q, nw D (Nat.le_of_eq hD.symm)] at e; cases e
    · have hie : i = n := by omega
      subst hie
      refine W.done _ _ _ hst' fun h₂ tk₂ hk₂ => ?_
      refine hRR D C h₂ tk₂ m' ys made (nw D (Nat.le_of_eq hD.symm)) (nw C (by rw [hC2]; exact Nat.le_succ _)) hDC (hn'.at' fun o e => hk₂ _ o hCw e) (hl'.at fun o e => hk₂ _ o hDw e) hG ?_ (fun b o hb e => hk₂ b o hb (hk' b o hb e))
      intro p hp
      obtain ⟨a1, a2, a3, a4, a5⟩ := hm' p hp
      exact ⟨hk₂ _ _ a5 a1, a2, a3, a4⟩
  rw [← hD, ← hC]
  exact codeAny_compStart_list (loop _) (W.self 0 _ _ _ hst₁ (loop _))

theorem ListComp_obj {s : Shared} {elt iter : PySem.Expr} {x : Str} {px : Pos} {scope : Scope} {cl : List (Str × Addr)} {pos : Pos} {Q : Value → Shared → Prop}
    (hclos : closureFor scope env = pure cl) (hcell : ∀ y ∈ scope.names, y.2 ≠ .cell) (hkind : scope.kind = .function)
    (hnames : ∀ y ∈ scope.names, y.2 = .local → scope.names.lookup y.1 = some .local) (hx : scope.names.lookup x = some .local)
    (h : wpAny (model prog w) A (eval iter env) (fun xv s₁ => wpAny (model prog w) A (pyIter xv) (fun it s₂ => ∃ I fp wr n P St G, it = .ref I ∧ Walks prog w A I fp wr n P St ∧ n ≤ 1000 ∧ St 0 s₂.heap ∧ (∀ b ∈ fp, b < s₂.heap.objs.size) ∧
      (∀ i h, St i h → ∀ b ∈ wr, ∃ o, h.get? b = some o) ∧ G 0 [] [] ∧ (∀ i ys made, G i ys made → ys.length = i) ∧ EltMakes prog w A env scope cl x elt wr n P G s₂ ∧
      (∀ D h' tk (ys : List Value) made, s₂.heap.get? D = none → h'.IsList D ys.toArray → G n ys made → (∀ p ∈ made, h'.get? p.1 = some p.2 ∧ s₂.heap.get? p.1 = none ∧ p.1 ≠ D) →
        (∀ b o, b ∉ wr → s₂.heap.get? b = some o → h'.get? b = some o) → Q (.ref D) { s₂ with heap := h', toks := tk })) E s₁) E s)
    (hs : ∀ x, foldedSetIterable iter env x = pure x := by intro _; rfl) :
    wpAny (model prog w) A (eval (.ListComp elt [⟨.Name x px, iter, [], 0⟩] scope pos) env) Q E s := by
  rw [eval_ListComp]
  refine wpAny_comprehension_free (use := none) rfl hs hclos hkind hnames (wpAny_mono h (fun xv s₁ h₁ => wpAny_mono h₁ (fun it s₂ h₂ => ?_) fun _ _ e => e) fun _ _ e => e)
  obtain ⟨I, fp, wr, n, P, St, G, rfl, W, hsz, hst, hfp, hwr, h0, hlen, he, hQ⟩ := h₂
  refine comp_made (RR := fun acc C => compPost (model prog w) A E none Q acc C) W hsz G hcell hkind hx hst hfp hwr h0 hlen he ?_
  intro D C h' tk m' ys made hD hC hDC hn hl hG hm hk
  refine ⟨m', hn, fun h'' hs'' => hQ D h'' tk ys made hD (hl.at fun o e => (hs''.2 D hDC).trans e) hG ?_ ?_⟩
  · intro p hp
    obtain ⟨a1, a2, a3, a4⟩ := hm p hp
    exact ⟨(hs''.2 _ a3).trans a1, a2, a4⟩
  · intro b o hb e
    refine (hs''.2 b ?_).trans (hk b o hb e)
    intro q; rw [q, hC] at e; cases e
end
end Mine

end NzComp

section NzUse
open PySem PySem.Spec PySem.Calls PySem.W PyProof.Rows
namespace Mine
section
variable {prog : Program} {w : World} {p : Program} {loo : List Str} {mean : ExcName → Option Value} {mg mb : Str → Option Value} {dp un : Nat} {gd : Option (List Code)} {cn : Str} {cs : Scope} {a₀ : Addr} {ccd : Value} {cl₀ : List (Str × Addr)} {outer : List Env} {A₀ : Around} {base h₀ : Heap} {L : Addr} {m : Str → Option Value} {s : Shared} {Q E : Value → Shared → Prop}
theorem source_use {l : Addr} {xs : List Value} {ns : List Int}
    (B : Below A₀ base outer h₀) (F : Fr h₀ L s.heap m) (X : (hd.heap_39 w.params).In h₀) (T : Top p loo mean mg mb h₀) (hk : cs.kind = .function) (hd : dp + 1 < recursionLimit) (hu : un + 8 < cLine)
    (hl : s.heap.IsList l (List.toArray xs)) (hi : IntsAre xs ns) (h1 : ns.length ≤ 63)
    (hret : ∀ (src cl : Addr) (xs' : List Value) (ns' : List Int) (k : Nat) (t : Tok) (tk' : Nat) (h' : Heap), s.heap.StaysIn h' → s.heap.get? src = none → s.heap.get? cl = none → cl ≠ src → h'.get? src = some (W.listOf #[.ref cl, .int 0 t] k) → h'.IsList cl (List.toArray xs') → IntsAre xs' ns' → 0 < ns'.length → ns'.length ≤ 100 → Q (.ref src) { s with heap := h', toks := tk' }) :
    wpAny (model prog w) (ktrTop dp un gd cn cs L a₀ ccd cl₀ outer) (call (.ref 103) [.ref l]) Q E s :=
  source_spec prog w p loo mean mg mb dp un gd cn cs a₀ ccd cl₀ outer A₀ base h₀ L m s _ Q E B F X T hk hd hu ⟨l, xs, ns, rfl, hl, hi, h1, hret⟩
theorem way_use {l : Addr} {xs : List Value} {n : Nat} {f : Nat → Option Nat} {a : Nat} {t : Tok}
    (B : Below A₀ base outer h₀) (F : Fr h₀ L s.heap m) (X : (hd.heap_39 w.params).In h₀) (T : Top p loo mean mg mb h₀) (hk : cs.kind = .function) (hd : dp + 1 < recursionLimit) (hu : un + 8 < cLine)
    (hl : s.heap.IsList l (List.toArray xs)) (ho : OptsAre n xs f) (ha : a < n) (hn : n ≤ 7)
    (hret : ∀ (r q : Addr) (b : Bool) (ms : List Value) (c : List Nat) (tk' : Nat) (h' : Heap), s.heap.StaysIn h' → s.heap.get? q = none → IsTup h' r #[.ref q, .bool b] → h'.IsList q (List.toArray ms) → IntsAre ms (c.map Int.ofNat) → c.length ≤ n → a ∈ c → (∀ x y, x ∈ c → f x = some y → y ∈ c) → (b = true ↔ Ends f a) → Q (.ref r) { s with heap := h', toks := tk' }) :
    wpAny (model prog w) (ktrTop dp un gd cn cs L a₀ ccd cl₀ outer) (call (.ref 110) [.ref l, .int (a : Int) t]) Q E s :=
  way_spec prog w p loo mean mg mb dp un gd cn cs a₀ ccd cl₀ outer A₀ base h₀ L m s _ Q E B F X T hk hd hu ⟨l, xs, n, f, a, t, rfl, hl, ho, ha, hn, hret⟩
theorem root_use {l : Addr} {n : Nat} {as ds : Nat → Addr} {st : Nat → Inf} {a : Nat} {t : Tok}
    (B : Below A₀ base outer h₀) (F : Fr h₀ L s.heap m) (X : (hd.heap_39 w.params).In h₀) (T : Top p loo mean mg mb h₀) (hk : cs.kind = .function) (hd : dp + 1 < recursionLimit) (hu : un + 8 < cLine)
    (R : RowAt s.heap l n as ds) (D : DictsAt s.heap n ds st) (V : Valid n st) (ha : a < n) (hn : n ≤ 7)
    (hret : ∀ (z i : Nat) (u : Tok) (tk' : Nat) (h' : Heap), s.heap.StaysIn h' → z < n → i ≤ n → Steps (curOf st) a i z → (curOf st z = none ∨ i = n) → Q (.int (z : Int) u) { s with heap := h', toks := tk' }) :
    wpAny (model prog w) (ktrTop dp un gd cn cs L a₀ ccd cl₀ outer) (call (.ref 56) [.ref l, .int (a : Int) t]) Q E s :=
  root_spec prog w p loo mean mg mb dp un gd cn cs a₀ ccd cl₀ outer A₀ base h₀ L m s _ Q E B F X T hk hd hu ⟨l, n, as, ds, st, a, t, rfl, R, D, V, ha, hn, hret⟩
theorem join_use {l : Addr} {n : Nat} {as ds : Nat → Addr} {st : Nat → Inf} {a : Nat} {t : Tok}
    (B : Below A₀ base outer h₀) (F : Fr h₀ L s.heap m) (X : (hd.heap_39 w.params).In h₀) (T : Top p loo mean mg mb h₀) (hk : cs.kind = .function) (hd : dp + 1 < recursionLimit) (hu : un + 8 < cLine)
    (R : RowAt s.heap l n as ds) (D : DictsAt s.heap n ds st) (V : Valid n st) (ha : a < n) (hn : n ≤ 7)
    (hret : ∀ (q : Addr) (ms : List Value) (c : List Nat) (z : Nat) (tk' : Nat) (h' : Heap), s.heap.StaysIn h' → s.heap.get? q = none → h'.IsList q (List.toArray ms) → IntsAre ms (c.map Int.ofNat) → Way (curOf st) n a c z → (curOf st z = none ∨ ∃ y, y ∈ c ∧ curOf st z = some y) → Q (.ref q) { s with heap := h', toks := tk' }) :
    wpAny (model prog w) (ktrTop dp un gd cn cs L a₀ ccd cl₀ outer) (call (.ref 117) [.ref l, .int (a : Int) t]) Q E s :=
  join_spec prog w p loo mean mg mb dp un gd cn cs a₀ ccd cl₀ outer A₀ base h₀ L m s _ Q E B F X T hk hd hu ⟨l, n, as, ds, st, a, t, rfl, R, D, V, ha, hn, hret⟩
theorem parents_use {l : Addr} {n : Nat} {as ds : Nat → Addr} {st : Nat → Inf}
    (B : Below A₀ base outer h₀) (F : Fr h₀ L s.heap m) (X : (hd.heap_39 w.params).In h₀) (T : Top p loo mean mg mb h₀) (hk : cs.kind = .function) (hd : dp + 1 < recursionLimit) (hu : un + 8 < cLine)
    (R : RowAt s.heap l n as ds) (D : DictsAt s.heap n ds st) (V : Valid n st) (hn : n ≤ 7)
    (hret : ∀ (q : Addr) (ys : List Value) (tk' : Nat) (h' : Heap), s.heap.StaysIn h' → s.heap.get? q = none → h'.IsList q (List.toArray ys) → OptsAre n ys (nextOf st) → Q (.ref q) { s with heap := h', toks := tk' }) :
    wpAny (model prog w) (ktrTop dp un gd cn cs L a₀ ccd cl₀ outer) (call (.ref 122) [.ref l]) Q E s :=
  parents_spec prog w p loo mean mg mb dp un gd cn cs a₀ ccd cl₀ outer A₀ base h₀ L m s _ Q E B F X T hk hd hu ⟨l, n, as, ds, st, rfl, R, D, V, hn, hret⟩
theorem tie_use {l : Addr} {n : Nat} {as ds : Nat → Addr} {os : Nat → Obj} {st : Nat → Inf} {c a : Nat} {y : Int} {t u v : Tok}
    (B : Below A₀ base outer h₀) (F : Fr h₀ L s.heap m) (X : (hd.heap_39 w.params).In h₀) (T : Top p loo mean mg mb h₀) (hk : cs.kind = .function) (hd : dp + 3 < recursionLimit) (hu : un + 24 < cLine)
    (R : RowAt s.heap l n as ds) (J : Inj n ds) (N : News h₀ L s.heap (dl n ds os)) (d : DictsAre n os st) (V : Valid n st) (hc : c < n) (ha : a < n) (hn : n ≤ 7)
    (hret : ∀ (os' : Nat → Obj) (st' : Nat → Inf) (tk' : Nat) (h' : Heap), Mods n ds s.heap h' os' → DictsAre n os' st' → Tied n st c a y st' → Q .none { s with heap := h', toks := tk' }) :
    wpAny (model prog w) (ktrTop dp un gd cn cs L a₀ ccd cl₀ outer) (call (.ref 49) [.ref l, .int (c : Int) t, .int (a : Int) u, .int y v]) Q E s :=
  tie_spec prog w p loo mean mg mb dp un gd cn cs a₀ ccd cl₀ outer A₀ base h₀ L m s _ Q E B F X T hk hd hu ⟨l, n, as, ds, os, st, c, a, y, t, u, v, rfl, R, J, N, d, V, hc, ha, hn, hret⟩
end
end Mine

end NzUse

section NzLed
open PySem PySem.Spec PySem.Calls PySem.W PyProof.Rows
namespace Mine
/-- an object that is a list -/
def IsL (o : Obj) (xs : List Value) : Prop := o.cls = .type "list" ∧ ∃ n, o.data = .seq xs.toArray n
def ListIn (X : List (Addr × Obj)) (q : Addr) (xs : List Value) : Prop := ∃ o, (q, o) ∈ X ∧ IsL o xs
structure RowIn (X : List (Addr × Obj)) (l : Addr) (n : Nat) (as ds : Nat → Addr) : Prop where
  list : ListIn X l ((List.range n).map fun i => Value.ref (as i))
  inst : ∀ i, i < n → (as i, instObj 87 (ds i)) ∈ X
/-- X lies in a ledger -/
def Sub (X Y : List (Addr × Obj)) : Prop := ∀ p ∈ X, p ∈ Y
theorem Sub.refl {X : List (Addr × Obj)} : Sub X X := fun _ h => h
theorem Sub.cons {X Y : List (Addr × Obj)} {q : Addr × Obj} (h : Sub X Y) : Sub X (q :: Y) := fun p hp => .tail _ (h p hp)
theorem Sub.left {X Y Z : List (Addr × Obj)} (h : Sub X Y) : Sub X (Y ++ Z) := fun p hp => List.mem_append_left _ (h p hp)
theorem Sub.right {X Y Z : List (Addr × Obj)} (h : Sub X Z) : Sub X (Y ++ Z) := fun p hp => List.mem_append_right _ (h p hp)
theorem Sub.trans {X Y Z : List (Addr × Obj)} (h : Sub X Y) (g : Sub Y Z) : Sub X Z := fun p hp => g p (h p hp)
section
variable {h₀ h h' : Heap} {L l q src c : Addr} {m : Str → Option Value} {n : Nat} {as ds : Nat → Addr} {os : Nat → Obj} {st : Nat → Inf} {X Y led rest own : List (Addr × Obj)} {xs : List Value} {o o' : Obj}
theorem ListIn.at (z : ListIn X q xs) (N : News h₀ L h led) (s : Sub X led) : h.IsList q (List.toArray xs) := let ⟨o, hm, hc, k, hd⟩ := z; ⟨o, (N _ (s _ hm)).1, hc, k, hd⟩
theorem ListIn.sub (z : ListIn X q xs) (s : Sub X Y) : ListIn Y q xs := let ⟨o, hm, r⟩ := z; ⟨o, s _ hm, r⟩
theorem RowIn.at (z : RowIn X l n as ds) (N : News h₀ L h led) (s : Sub X led) : RowAt h l n as ds := ⟨z.list.at N s, fun i hi => (N _ (s _ (z.inst i hi))).1⟩
theorem RowIn.sub (z : RowIn X l n as ds) (s : Sub X Y) : RowIn Y l n as ds := ⟨z.list.sub s, fun i hi => s _ (z.inst i hi)⟩
theorem is_l (z : h.IsList q (List.toArray xs)) (e : h.get? q = some o) : IsL o xs := by
  obtain ⟨o', e', hc, k, hd⟩ := z
  rw [e] at e'
  cases e'
  exact ⟨hc, k, hd⟩
def Off (X : List (Addr × Obj)) (c : Addr) : Prop := ∀ p ∈ X, p.1 ≠ c
def OffD (X : List (Addr × Obj)) (n : Nat) (ds : Nat → Addr) : Prop := ∀ p ∈ X, ∀ j, j < n → p.1 ≠ ds j
theorem Off.nil : Off [] c := fun _ h => nomatch h
theorem Off.cons {p : Addr × Obj} (h : p.1 ≠ c) (r : Off X c) : Off (p :: X) c := fun q hq => by
  rcases List.mem_cons.mp hq with rfl | hq
  · exact h
  · exact r q hq
theorem Off.app (a : Off X c) (b : Off Y c) : Off (X ++ Y) c := fun q hq => by
  rcases List.mem_append.mp hq with hq | hq
  · exact a q hq
  · exact b q hq
theorem OffD.nil : OffD [] n ds := fun _ h => nomatch h
theorem OffD.cons {p : Addr × Obj} (h : ∀ j, j < n → p.1 ≠ ds j) (r : OffD X n ds) : OffD (p :: X) n ds := fun q hq => by
  rcases List.mem_cons.mp hq with rfl | hq
  · exact h
  · exact r q hq
theorem OffD.app (a : OffD X n ds) (b : OffD Y n ds) : OffD (X ++ Y) n ds := fun q hq => by
  rcases List.mem_append.mp hq with hq | hq
  · exact a q hq
  · exact b q hq
theorem off_dl (h : ∀ j, j < n → c ≠ ds j) : Off (dl n ds os) c := fun p hp => by
  obtain ⟨i, hi, rfl⟩ := mem_dl.mp hp
  exact fun e => h i hi e.symm
/-- one object of the ledger is another now -/
theorem fr_one (F : Fr h₀ L h m) (N : News h₀ L h (own ++ (c, o) :: rest)) (k : ∀ b ob, h.get? b = some ob → b ≠ c → h'.get? b = some ob) : Fr h₀ L h' m := by
  have hm := N (c, o) (List.mem_append_right _ (.head _))
  obtain ⟨oL, es, ep, hL, r⟩ := F.ns
  refine ⟨⟨oL, es, ep, k _ _ hL (Ne.symm hm.2.1), r⟩, fun b ob e => k _ _ (F.keep b ob e) fun q => ?_, F.above⟩
  rw [q, hm.2.2] at e; cases e
theorem news_one (N : News h₀ L h (own ++ (c, o) :: rest)) (h1 : Off own c) (h2 : Off rest c) (k : ∀ b ob, h.get? b = some ob → b ≠ c → h'.get? b = some ob) (hc : h'.get? c = some o') : News h₀ L h' (own ++ (c, o') :: rest) := by
  intro p hp
  rcases List.mem_append.mp hp with hp | hp
  · have := N p (List.mem_append_left _ hp); exact ⟨k _ _ this.1 (h1 p hp), this.2⟩
  · rcases List.mem_cons.mp hp with rfl | hp
    · exact ⟨hc, (N (c, o) (List.mem_append_right _ (.head _))).2⟩
    · have := N p (List.mem_append_right _ (.tail _ hp)); exact ⟨k _ _ this.1 (h2 p hp), this.2⟩
theorem News.only {own : List (Addr × Obj)} (N : News h₀ L h led) (s : Sub own led) : News h₀ L h own := fun p hp => N p (s p hp)
theorem news_keep (N : News h₀ L h led) (k : ∀ b o, h.get? b = some o → h'.get? b = some o) : News h₀ L h' led := fun p hp => ⟨k _ _ (N p hp).1, (N p hp).2⟩
theorem fr_keep (F : Fr h₀ L h m) (k : ∀ b o, h.get? b = some o → h'.get? b = some o) : Fr h₀ L h' m := by
  obtain ⟨oL, es, ep, hL, r⟩ := F.ns
  exact ⟨⟨oL, es, ep, k _ _ hL, r⟩, fun b ob e => k _ _ (F.keep b ob e), F.above⟩
theorem news_new (N : News h₀ L h led) (F : Fr h₀ L h m) (e : h.get? q = none) (k : ∀ b o, h.get? b = some o → h'.get? b = some o) (e' : h'.get? q = some o) : News h₀ L h' ((q, o) :: led) := by
  intro p hp
  rcases List.mem_cons.mp hp with rfl | hp
  · refine ⟨e', ?_, none_back (fun b o e => F.keep b o e) e⟩
    intro z
    obtain ⟨oL, es, ep, hL, r⟩ := F.ns
    have z' : q = L := z
    rw [z', hL] at e; cases e
  · exact news_keep N k p hp
end

section
variable {prog : Program} {w : World} {p : Program} {loo : List Str} {mean : ExcName → Option Value} {mg mb : Str → Option Value} {dp un : Nat} {gd : Option (List Code)} {cn : Str} {cs : Scope} {a₀ : Addr} {ccd : Value} {cl₀ : List (Str × Addr)} {outer : List Env} {A₀ : Around} {base h₀ : Heap} {L : Addr} {m : Str → Option Value} {s : Shared} {Q E : Value → Shared → Prop}
theorem draw_N {src cl : Addr} {xs : List Value} {ns : List Int} {a lim : Int} {k : Nat} {t u : Tok} {own rest X : List (Addr × Obj)}
    (B : Below A₀ base outer h₀) (F : Fr h₀ L s.heap m) (K : (hd.heap_39 w.params).In h₀) (T : Top p loo mean mg mb h₀) (hk : cs.kind = .function) (hd : dp + 1 < recursionLimit) (hu : un + 8 < cLine)
    (N : News h₀ L s.heap (own ++ (src, W.listOf #[.ref cl, .int a t] k) :: rest)) (o1 : Off own src) (o2 : Off rest src) (hl : ListIn X cl xs) (hs : Sub X rest) (hi : IntsAre xs ns) (h1 : 0 < ns.length) (h2 : ns.length ≤ 100) (h3 : 0 ≤ a) (h4 : a ≤ 1000) (h5 : 0 < lim) (h6 : lim ≤ 1000)
    (hret : ∀ (v : Int) (t' t'' : Tok) (k' : Nat) (tk' : Nat) (h' : Heap), 0 ≤ v → v < lim → Fr h₀ L h' m → News h₀ L h' (own ++ (src, W.listOf #[.ref cl, .int (a + 1) t''] k') :: rest) → Q (.int v t') { s with heap := h', toks := tk' }) :
    wpAny (model prog w) (ktrTop dp un gd cn cs L a₀ ccd cl₀ outer) (call (.ref 98) [.ref src, .int lim u]) Q E s := by
  have N1 : News h₀ L s.heap [(src, W.listOf #[.ref cl, .int a t] k)] := fun p hp => by
    cases List.mem_singleton.mp hp
    exact N _ (List.mem_append_right _ (.head _))
  refine draw_use B F K T hk hd hu N1 (hl.at N (Sub.trans hs (Sub.trans (Sub.cons Sub.refl) (Sub.right Sub.refl)))) hi h1 h2 h3 h4 h5 h6 ?_
  intro v t' t'' k' tk' h' v0 v1 kp hs'
  exact hret v t' t'' k' tk' h' v0 v1 (fr_one F N kp) (news_one N o1 o2 kp hs')
end
end Mine

end NzLed

section NzMade
open PySem PySem.Spec PySem.Calls PySem.W PyProof.Rows
namespace Mine
abbrev inf0 : Inf := ⟨0, Str.ofString "", 0⟩
def Made (i : Nat) (ys : List Value) (made : List (Addr × Obj)) : Prop := ∃ (as ds : Nat → Addr) (os : Nat → Obj), ys = ((List.range i).map fun j => Value.ref (as j)) ∧ (∀ j, j < i → (as j, instObj 87 (ds j)) ∈ made) ∧ (∀ j, j < i → (ds j, os j) ∈ made) ∧ Inj i ds ∧ DictsAre i os fun _ => inf0
theorem Made.zero : Made 0 [] [] := ⟨fun _ => 0, fun _ => 0, fun _ => instObj 0 0, rfl, fun _ h => absurd h (Nat.not_lt_zero _), fun _ h => absurd h (Nat.not_lt_zero _), fun _ _ h => absurd h (Nat.not_lt_zero _), fun _ h => absurd h (Nat.not_lt_zero _)⟩
theorem Made.step {i : Nat} {ys : List Value} {made : List (Addr × Obj)} {x dx : Addr} {od : Obj} (M : Made i ys made) (h : ∀ p ∈ made, p.1 ≠ dx) (d : DictIs od inf0) : Made (i + 1) (ys ++ [.ref x]) (made ++ [(x, instObj 87 dx), (dx, od)]) := by
  obtain ⟨as, ds, os, rfl, h1, h2, J, D⟩ := M
  refine ⟨put as i x, put ds i dx, put os i od, ?_, ?_, ?_, ?_, ?_⟩
  · rw [List.range_succ, List.map_append]
    congr 1
    · refine List.map_congr_left fun j hj => ?_
      rw [put_ne (Nat.ne_of_lt (List.mem_range.mp hj))]
    · simp [put_same]
  · intro j hj
    by_cases e : j = i
    · subst e; rw [put_same, put_same]; simp
    · rw [put_ne e, put_ne e]; exact List.mem_append_left _ (h1 j (by omega))
  · intro j hj
    by_cases e : j = i
    · subst e; rw [put_same, put_same]; simp
    · rw [put_ne e, put_ne e]; exact List.mem_append_left _ (h2 j (by omega))
  · intro j k hj hk e
    by_cases ej : j = i
    · by_cases ek : k = i
      · rw [ej, ek]
      · subst ej
        rw [put_same, put_ne ek] at e
        exact absurd e.symm (h _ (h2 k (by omega)))
    · by_cases ek : k = i
      · subst ek
        rw [put_same, put_ne ej] at e
        exact absurd e (h _ (h2 j (by omega)))
      · rw [put_ne ej, put_ne ek] at e
        exact J j k (by omega) (by omega) e
  · intro j hj
    by_cases e : j = i
    · subst e; rw [put_same]; exact d
    · rw [put_ne e]; exact D j (by omega)

theorem infos_range {prog : Program} {w : World} {A : Around} {E : Value → Shared → Prop} {s : Shared} {env : Env} {scope : Scope} {cl : List (Str × Addr)} {x : Str} {elt : PySem.Expr} {r : Addr} {b₀ : Int} {t₀ u₀ v₀ : Tok} {n : Nat} {Q : Value → Shared → Prop}
    (hh : A.handled = none) (hr : IsRange s.heap r 0 b₀ 1 t₀ u₀ v₀) (hn : b₀ = (n : Int)) (hs : n ≤ 1000)
    (elts : ∀ C (i : Nat) t s₃ m₃ E', s.heap.objs.size ≤ C → i < n → s₃.heap.Ns C m₃ → m₃ x = some (.int (i : Int) t) → (∀ b o, s.heap.get? b = some o → s₃.heap.get? b = some o) →
      wpAny (model prog w) A (eval elt (compEnvC scope cl C env)) (fun y s₄ => Keeps s₃ s₄ ∧ ∃ (z dz : Addr) (od : Obj), y = .ref z ∧ s₄.heap.get? z = some (instObj 87 dz) ∧ s₄.heap.get? dz = some od ∧ DictIs od inf0 ∧ s₃.heap.get? z = none ∧ s₃.heap.get? dz = none) E' s₃)
    (done : ∀ D h' tk (as ds : Nat → Addr) (os : Nat → Obj), s.heap.get? D = none → h'.IsList D (List.toArray ((List.range n).map fun i => Value.ref (as i))) → (∀ i, i < n → h'.get? (as i) = some (instObj 87 (ds i)) ∧ s.heap.get? (as i) = none ∧ as i ≠ D) →
      (∀ i, i < n → h'.get? (ds i) = some (os i) ∧ s.heap.get? (ds i) = none ∧ ds i ≠ D) → Inj n ds → (DictsAre n os fun _ => inf0) → (∀ b o, s.heap.get? b = some o → h'.get? b = some o) → Q (.ref D) { s with heap := h', toks := tk }) :
    wpAny (model prog w) A (pyIter (.ref r)) (fun it s₂ => ∃ I fp wr n P St G, it = .ref I ∧ Walks prog w A I fp wr n P St ∧ n ≤ 1000 ∧ St 0 s₂.heap ∧ (∀ b ∈ fp, b < s₂.heap.objs.size) ∧
      (∀ i h, St i h → ∀ b ∈ wr, ∃ o, h.get? b = some o) ∧ G 0 [] [] ∧ (∀ i ys made, G i ys made → ys.length = i) ∧ EltMakes prog w A env scope cl x elt wr n P G s₂ ∧
      (∀ D h' tk (ys : List Value) made, s₂.heap.get? D = none → h'.IsList D ys.toArray → G n ys made → (∀ p ∈ made, h'.get? p.1 = some p.2 ∧ s₂.heap.get? p.1 = none ∧ p.1 ≠ D) →
        (∀ b o, b ∉ wr → s₂.heap.get? b = some o → h'.get? b = some o) → Q (.ref D) { s₂ with heap := h', toks := tk })) E s := by
  subst hn
  have hsz : Builtin.Range.rangeSize 0 (n : Int) 1 = (n : Int) := by have := rangeSize_nat 0 n; simpa using this
  refine wpAny_pyIter_range hr (small_one (by omega) (by omega) (by omega) (by omega)) ?_
  have W : Walks prog w A s.heap.objs.size [s.heap.objs.size] [s.heap.objs.size] n (fun i v => i < n ∧ ∃ t, v = .int (0 + i * 1) t)
      (fun i h => IsRangeIter h s.heap.objs.size (0 + (i : Nat) * 1) ((n : Int) - (i : Nat)) 1) := (Walks.range hh _ 0 1 n).bound
  have up0 : ∀ b o, s.heap.get? b = some o → (s.heap.push { cls := .type "range_iterator", data := .fields #[rawInt 0, rawInt (Builtin.Range.rangeSize 0 (n : Int) 1), rawInt 1] }).get? b = some o := fun b o e => Heap.get?_push_of_some _ e
  have up : ∀ (h : Heap), (∀ b o, b ∉ [s.heap.objs.size] → (s.heap.push { cls := .type "range_iterator", data := .fields #[rawInt 0, rawInt (Builtin.Range.rangeSize 0 (n : Int) 1), rawInt 1] }).get? b = some o → h.get? b = some o) → ∀ b o, s.heap.get? b = some o → h.get? b = some o := by
    intro h hk b o e
    refine hk b o ?_ (up0 b o e)
    intro hm
    have := Heap.lt_size e
    rw [List.mem_singleton.mp hm] at this
    exact absurd this (Nat.lt_irrefl _)
  have up2 : ∀ C, (s.heap.push { cls := .type "range_iterator", data := .fields #[rawInt 0, rawInt (Builtin.Range.rangeSize 0 (n : Int) 1), rawInt 1] }).objs.size ≤ C → s.heap.objs.size ≤ C := by
    intro C h
    rw [Heap.size_push] at h
    exact Nat.le_of_succ_le h
  refine ⟨_, _, _, n, _, _, Made, rfl, W, hs, by show IsRangeIter _ _ _ _ _; rw [hsz]; simpa using Heap.get?_push_size _ rfl, ?_, ?_, Made.zero, ?_, ?_, ?_⟩
  · intro b hb
    rw [List.mem_singleton.mp hb, Heap.size_push]
    exact Nat.lt_succ_self _
  · intro i h e b hb
    rw [List.mem_singleton.mp hb]
    exact ⟨_, e⟩
  · rintro i ys made ⟨as, ds, os, rfl, _⟩
    simp
  · rintro C i v ys made s₃ m₃ E' hC hi ⟨_, t, rfl⟩ hG hns hm hk hmade
    have e1 : (0 : Int) + (i : Int) * 1 = (i : Int) := by omega
    rw [e1] at hm
    refine wpAny_mono (elts C i t s₃ m₃ E' (up2 C hC) hi hns hm (up _ hk)) (fun y s₄ q => ?_) fun _ _ e => e
    obtain ⟨hk4, z, dz, od, rfl, e2, e3, d, n1, n2⟩ := q
    refine ⟨hk4, [(z, instObj 87 dz), (dz, od)], hG.step (fun p hp e => ?_) d, ?_⟩
    · have := hmade p hp
      rw [e, n2] at this; cases this
    · intro p hp
      rcases List.mem_cons.mp hp with rfl | hp
      · exact ⟨e2, n1⟩
      · cases List.mem_singleton.mp hp
        exact ⟨e3, n2⟩
  · rintro D h' tk ys made hD hl ⟨as, ds, os, rfl, h1, h2, J, D1⟩ hm hk
    exact done D h' tk as ds os (none_back up0 hD) hl (fun i hi => ⟨(hm _ (h1 i hi)).1, none_back up0 (hm _ (h1 i hi)).2.1, (hm _ (h1 i hi)).2.2⟩) (fun i hi => ⟨(hm _ (h2 i hi)).1, none_back up0 (hm _ (h2 i hi)).2.1, (hm _ (h2 i hi)).2.2⟩) J D1 (up _ hk)
theorem hideQ {α : Type} {M : Model} {A : Around} {e : Sem α} {Q : α → Shared → Prop} {E : Value → Shared → Prop} {s : Shared} (h : ∀ QQ : α → Shared → Prop, (∀ v s', Q v s' → QQ v s') → wpAny M A e QQ E s) : wpAny M A e Q E s := h Q fun _ _ h => h

def al (n : Nat) (as ds : Nat → Addr) : List (Addr × Obj) := (List.range n).map fun i => (as i, instObj 87 (ds i))
theorem mem_al {n : Nat} {as ds : Nat → Addr} {p : Addr × Obj} : p ∈ al n as ds ↔ ∃ i, i < n ∧ p = (as i, instObj 87 (ds i)) := by
  unfold al
  rw [List.mem_map]
  constructor
  · rintro ⟨i, hi, rfl⟩; exact ⟨i, List.mem_range.mp hi, rfl⟩
  · rintro ⟨i, hi, rfl⟩; exact ⟨i, List.mem_range.mpr hi, rfl⟩
theorem ne_old {h : Heap} {a b : Addr} {o : Obj} (e : h.get? a = none) (e' : h.get? b = some o) : a ≠ b := fun q => by rw [q, e'] at e; cases e

theorem row_ledger {h₀ h h' : Heap} {L D src cN cB cR : Addr} {so o1 o2 o3 : Obj} {m : Str → Option Value} {n : Nat} {as ds : Nat → Addr} {os : Nat → Obj} {st : Nat → Inf} {X : List (Addr × Obj)}
    (F : Fr h₀ L h m) (N : News h₀ L h ((src, so) :: (cN, o1) :: (cB, o2) :: (cR, o3) :: X)) (hk : ∀ b o, h.get? b = some o → h'.get? b = some o) (eD : h.get? D = none)
    (hl : h'.IsList D (List.toArray ((List.range n).map fun i => Value.ref (as i)))) (has : ∀ i, i < n → h'.get? (as i) = some (instObj 87 (ds i)) ∧ h.get? (as i) = none ∧ as i ≠ D)
    (hds : ∀ i, i < n → h'.get? (ds i) = some (os i) ∧ h.get? (ds i) = none ∧ ds i ≠ D) (d : DictsAre n os st)
    (xs : Off X src) (xN : Off X cN) (xB : Off X cB) (xR : Off X cR) :
    ∃ X', News h₀ L h' ((src, so) :: (cN, o1) :: (cB, o2) :: (cR, o3) :: (dl n ds os ++ X')) ∧ Fr h₀ L h' m ∧ RowIn X' D n as ds ∧ Sub X X' ∧ Off X' src ∧ Off X' cN ∧ Off X' cB ∧ Off X' cR ∧ OffD X' n ds ∧
      (∀ j, j < n → src ≠ ds j) ∧ (∀ j, j < n → cN ≠ ds j) ∧ (∀ j, j < n → cB ≠ ds j) ∧ (∀ j, j < n → cR ≠ ds j) := by
  obtain ⟨oD, eD', rD⟩ := hl
  have F' := fr_keep F hk
  have hR : RowAt h' D n as ds := ⟨⟨oD, eD', rD⟩, fun i hi => (has i hi).1⟩
  have hD : DictsAt h' n ds st := fun i hi => ⟨_, (hds i hi).1, d i hi⟩
  have off := row_off hR hD
  have e1 := (N _ (.head _)).1
  have e2 := (N _ (.tail _ (.head _))).1
  have e3 := (N _ (.tail _ (.tail _ (.head _)))).1
  have e4 := (N _ (.tail _ (.tail _ (.tail _ (.head _))))).1
  have fresh : ∀ q ob, h.get? q = none → h'.get? q = some ob → News h₀ L h' [(q, ob)] := fun q ob e e' p hp => by
    cases List.mem_singleton.mp hp
    exact news_new N F e hk e' _ (.head _)
  have offA : ∀ c o, h.get? c = some o → Off (al n as ds) c := fun c o e p hp => by
    obtain ⟨i, hi, rfl⟩ := mem_al.mp hp
    exact ne_old (has i hi).2.1 e
  have offX : ∀ c o, h.get? c = some o → Off X c → Off ((D, oD) :: (al n as ds ++ X)) c := fun c o e x => Off.cons (ne_old eD e) (Off.app (offA c o e) x)
  refine ⟨(D, oD) :: (al n as ds ++ X), ?_, F', ⟨⟨oD, .head _, rD⟩, fun i hi => .tail _ (List.mem_append_left _ (mem_al.mpr ⟨i, hi, rfl⟩))⟩, Sub.cons (Sub.right Sub.refl), offX _ _ e1 xs, offX _ _ e2 xN, offX _ _ e3 xB, offX _ _ e4 xR, ?_, ?_, ?_, ?_, ?_⟩
  · have N4 := news_keep N hk
    intro p hp
    rcases List.mem_append.mp (show p ∈ [(src, so), (cN, o1), (cB, o2), (cR, o3)] ++ (dl n ds os ++ ((D, oD) :: (al n as ds ++ X))) from hp) with hp | hp
    · exact N4 p (show p ∈ [(src, so), (cN, o1), (cB, o2), (cR, o3)] ++ X from List.mem_append_left _ hp)
    · rcases List.mem_append.mp hp with hp | hp
      · obtain ⟨i, hi, rfl⟩ := mem_dl.mp hp
        exact fresh _ _ (hds i hi).2.1 (hds i hi).1 _ (.head _)
      · rcases List.mem_cons.mp hp with rfl | hp
        · exact fresh _ _ eD eD' _ (.head _)
        · rcases List.mem_append.mp hp with hp | hp
          · obtain ⟨i, hi, rfl⟩ := mem_al.mp hp
            exact fresh _ _ (has i hi).2.1 (has i hi).1 _ (.head _)
          · exact N4 p (show p ∈ [(src, so), (cN, o1), (cB, o2), (cR, o3)] ++ X from List.mem_append_right _ hp)
  · refine OffD.cons (fun j hj => off.1 j hj) (OffD.app ?_ ?_)
    · intro p hp
      obtain ⟨i, hi, rfl⟩ := mem_al.mp hp
      exact off.2 i hi
    · intro p hp j hj
      exact Ne.symm (ne_old (hds j hj).2.1 (N p (show p ∈ [(src, so), (cN, o1), (cB, o2), (cR, o3)] ++ X from List.mem_append_right _ hp)).1)
  · exact fun j hj => Ne.symm (ne_old (hds j hj).2.1 e1)
  · exact fun j hj => Ne.symm (ne_old (hds j hj).2.1 e2)
  · exact fun j hj => Ne.symm (ne_old (hds j hj).2.1 e3)
  · exact fun j hj => Ne.symm (ne_old (hds j hj).2.1 e4)
end Mine

end NzMade

section NzSet
open PySem PySem.Spec PySem.Calls PySem.W PyProof.Rows
namespace Mine
theorem turns_led {h₀ h h' : Heap} {L : Addr} {m : Str → Option Value} {n : Nat} {ds : Nat → Addr} {os os' : Nat → Obj} {A B : List (Addr × Obj)} (S : Turns h₀ L m n ds h h' os') (N : News h₀ L h (A ++ (dl n ds os ++ B))) (a : OffD A n ds) (b : OffD B n ds) : News h₀ L h' (A ++ (dl n ds os' ++ B)) := by
  have NA := S.off A (Mine.News.only N (Sub.left Sub.refl)) a
  have NB := S.off B (Mine.News.only N (Sub.right (Sub.right Sub.refl))) b
  intro p hp
  rcases List.mem_append.mp hp with hp | hp
  · exact NA p hp
  · rcases List.mem_append.mp hp with hp | hp
    · exact S.dl p hp
    · exact NB p hp
section
variable {prog : Program} {w : World} {A : Around} {E : Value → Shared → Prop} {s : Shared} {h₀ : Heap} {L l c1 c2 c3 c4 : Addr} {ob1 ob2 ob3 ob4 : Obj} {m : Str → Option Value} {n : Nat} {as ds : Nat → Addr} {os : Nat → Obj} {st : Nat → Inf} {i : Nat} {Q : Unit → Shared → Prop} {X B : List (Addr × Obj)}
theorem off4 (y1 : ∀ j, j < n → c1 ≠ ds j) (y2 : ∀ j, j < n → c2 ≠ ds j) (y3 : ∀ j, j < n → c3 ≠ ds j) (y4 : ∀ j, j < n → c4 ≠ ds j) : OffD [(c1, ob1), (c2, ob2), (c3, ob3), (c4, ob4)] n ds := OffD.cons y1 (OffD.cons y2 (OffD.cons y3 (OffD.cons y4 OffD.nil)))
theorem set_pN {v : Int} {t : Tok} (F : Fr h₀ L s.heap m) (K : (hd.heap_39 w.params).In h₀) (N : News h₀ L s.heap ((c1, ob1) :: (c2, ob2) :: (c3, ob3) :: (c4, ob4) :: (dl n ds os ++ B))) (R : RowIn X l n as ds) (sX : Sub X B) (J : Inj n ds) (b : OffD B n ds)
    (y1 : ∀ j, j < n → c1 ≠ ds j) (y2 : ∀ j, j < n → c2 ≠ ds j) (y3 : ∀ j, j < n → c3 ≠ ds j) (y4 : ∀ j, j < n → c4 ≠ ds j) (d : DictsAre n os st) (hi : i < n)
    (h : ∀ h' os', Fr h₀ L h' m → News h₀ L h' ((c1, ob1) :: (c2, ob2) :: (c3, ob3) :: (c4, ob4) :: (dl n ds os' ++ B)) → DictsAre n os' (put st i ⟨v, (st i).b, (st i).y⟩) → Q () { s with heap := h', toks := s.toks + 2 }) :
    wpAny (model prog w) A (setAttr (.ref (as i)) sParent (.int v t)) Q E s :=
  have N' : News h₀ L s.heap ([(c1, ob1), (c2, ob2), (c3, ob3), (c4, ob4)] ++ (dl n ds os ++ B)) := N
  set_pS F K (R.at N' (Sub.right (Sub.right sX))) J N' (Sub.right (Sub.left Sub.refl)) d hi fun h' os' S d' => h h' os' S.fr (turns_led S N' (off4 y1 y2 y3 y4) b) d'
theorem set_bN {v : Str} {t : Tok} (F : Fr h₀ L s.heap m) (K : (hd.heap_39 w.params).In h₀) (N : News h₀ L s.heap ((c1, ob1) :: (c2, ob2) :: (c3, ob3) :: (c4, ob4) :: (dl n ds os ++ B))) (R : RowIn X l n as ds) (sX : Sub X B) (J : Inj n ds) (b : OffD B n ds)
    (y1 : ∀ j, j < n → c1 ≠ ds j) (y2 : ∀ j, j < n → c2 ≠ ds j) (y3 : ∀ j, j < n → c3 ≠ ds j) (y4 : ∀ j, j < n → c4 ≠ ds j) (d : DictsAre n os st) (hi : i < n)
    (h : ∀ h' os', Fr h₀ L h' m → News h₀ L h' ((c1, ob1) :: (c2, ob2) :: (c3, ob3) :: (c4, ob4) :: (dl n ds os' ++ B)) → DictsAre n os' (put st i ⟨(st i).p, v, (st i).y⟩) → Q () { s with heap := h', toks := s.toks + 2 }) :
    wpAny (model prog w) A (setAttr (.ref (as i)) sBond (.str v t)) Q E s :=
  have N' : News h₀ L s.heap ([(c1, ob1), (c2, ob2), (c3, ob3), (c4, ob4)] ++ (dl n ds os ++ B)) := N
  set_bS F K (R.at N' (Sub.right (Sub.right sX))) J N' (Sub.right (Sub.left Sub.refl)) d hi fun h' os' S d' => h h' os' S.fr (turns_led S N' (off4 y1 y2 y3 y4) b) d'
theorem set_yN {v : Int} {t : Tok} (F : Fr h₀ L s.heap m) (K : (hd.heap_39 w.params).In h₀) (N : News h₀ L s.heap ((c1, ob1) :: (c2, ob2) :: (c3, ob3) :: (c4, ob4) :: (dl n ds os ++ B))) (R : RowIn X l n as ds) (sX : Sub X B) (J : Inj n ds) (b : OffD B n ds)
    (y1 : ∀ j, j < n → c1 ≠ ds j) (y2 : ∀ j, j < n → c2 ≠ ds j) (y3 : ∀ j, j < n → c3 ≠ ds j) (y4 : ∀ j, j < n → c4 ≠ ds j) (d : DictsAre n os st) (hi : i < n)
    (h : ∀ h' os', Fr h₀ L h' m → News h₀ L h' ((c1, ob1) :: (c2, ob2) :: (c3, ob3) :: (c4, ob4) :: (dl n ds os' ++ B)) → DictsAre n os' (put st i ⟨(st i).p, (st i).b, v⟩) → Q () { s with heap := h', toks := s.toks + 2 }) :
    wpAny (model prog w) A (setAttr (.ref (as i)) sY (.int v t)) Q E s :=
  have N' : News h₀ L s.heap ([(c1, ob1), (c2, ob2), (c3, ob3), (c4, ob4)] ++ (dl n ds os ++ B)) := N
  set_yS F K (R.at N' (Sub.right (Sub.right sX))) J N' (Sub.right (Sub.left Sub.refl)) d hi fun h' os' S d' => h h' os' S.fr (turns_led S N' (off4 y1 y2 y3 y4) b) d'
end
section
variable {prog : Program} {w : World} {A : Around} {E : Value → Shared → Prop} {s : Shared} {h₀ : Heap} {L l : Addr} {m : Str → Option Value} {n : Nat} {as ds : Nat → Addr} {i : Nat} {Q : Value → Shared → Prop} {X led : List (Addr × Obj)}
theorem item_rowN {value slice : PySem.Expr} {u : Tok} (N : News h₀ L s.heap led) (R : RowIn X l n as ds) (sX : Sub X led) (hi : i < n) (hn : n ≤ 7) (h : Q (.ref (as i)) s)
    (hs : subscripted slice false (.ref l) (.int (i : Int) u) = operate [.ref l, .int (i : Int) u] (getItem (.ref l) (.int (i : Int) u)) := by with_unfolding_all rfl) :
    wpAny (model prog w) A (subscriptTail value slice (.ref l) (.int (i : Int) u)) Q E s := item_rowS (R.at N sX) hi hn h hs
end
theorem item_two {prog : Program} {w : World} {A : Around} {E : Value → Shared → Prop} {s : Shared} {value slice : PySem.Expr} {h₀ : Heap} {L D : Addr} {o : Obj} {led : List (Addr × Obj)} {Q : Value → Shared → Prop} {b0 b1 : Str} {t0 t1 u : Tok} {v : Int} {k : Nat}
    (N : News h₀ L s.heap ((D, o) :: led)) (hc : o.cls = .type "tuple") (hd : o.data = .seq [Value.str b0 t0, Value.str b1 t1].toArray k) (h0 : 0 ≤ v) (h1 : v < 2) (b0k : PyData.strOk b0 = true) (b1k : PyData.strOk b1 = true) (h : ∀ b t, PyData.strOk b = true → Q (.str b t) s)
    (hs : subscripted slice false (.ref D) (.int v u) = operate [.ref D, .int v u] (getItem (.ref D) (.int v u)) := by with_unfolding_all rfl) :
    wpAny (model prog w) A (subscriptTail value slice (.ref D) (.int v u)) Q E s := by
  have ht : IsTup s.heap D [Value.str b0 t0, Value.str b1 t1].toArray := ⟨o, (N _ (.head _)).1, hc, k, hd⟩
  have hn : v < (([Value.str b0 t0, Value.str b1 t1].toArray.size : Nat) : Int) := h1
  by_cases e : v = 0
  · subst e
    exact tail_any ht.typeIs slot_tuple_getitem.lookup (getItem_tuple ht (by omega) (by omega) (seqIndex_of h0 hn) (x := .str b0 t0) rfl (h _ _ b0k)) hs
  · have e1 : v = 1 := by omega
    subst e1
    exact tail_any ht.typeIs slot_tuple_getitem.lookup (getItem_tuple ht (by omega) (by omega) (seqIndex_of h0 hn) (x := .str b1 t1) rfl (h _ _ b1k)) hs
/-- every bond is a sound text -/
def Bonds (n : Nat) (st : Nat → Inf) : Prop := ∀ i, i < n → PyData.strOk (st i).b = true
/-- the drawn row, turn by turn -/
def drawJ (src cl cN cB cR : Addr) (o1 o2 o3 : Obj) (n : Nat) (ds : Nat → Addr) (X : List (Addr × Obj)) (i : Nat) (m : Str → Option Value) (nx : List (Addr × Obj)) : Prop :=
  ∃ (a : Int) (t : Tok) (k : Nat) (os : Nat → Obj) (st : Nat → Inf) (tn : Tok), nx = (src, W.listOf #[.ref cl, .int a t] k) :: (cN, o1) :: (cB, o2) :: (cR, o3) :: (dl n ds os ++ X) ∧ 0 ≤ a ∧ a ≤ 1 + 4 * (i : Int) ∧ DictsAre n os st ∧ Valid n st ∧ Bonds n st ∧
    m "source" = some (.ref src) ∧ m "size" = some (.int (n : Int) tn)
theorem valid_zero {n : Nat} : Valid n fun _ => inf0 := fun i _ h => absurd rfl h
theorem own_off {own : List (Addr × Obj)} {c1 c2 c3 c4 : Addr} {o1 o2 o3 o4 : Obj} {n : Nat} {ds : Nat → Addr} {os : Nat → Obj} {X : List (Addr × Obj)} (h : OwnOff own (((c1, o1) :: (c2, o2) :: (c3, o3) :: (c4, o4) :: (dl n ds os ++ X)).map (·.1))) : Off own c1 ∧ Off own c2 ∧ Off own c3 ∧ Off own c4 ∧ OffD own n ds := by
  refine ⟨fun p hp => h p hp _ (.head _), fun p hp => h p hp _ (.tail _ (.head _)), fun p hp => h p hp _ (.tail _ (.tail _ (.head _))), fun p hp => h p hp _ (.tail _ (.tail _ (.tail _ (.head _)))), fun p hp j hj => h p hp _ (.tail _ (.tail _ (.tail _ (.tail _ ?_))))⟩
  rw [List.map_append]
  refine List.mem_append_left _ ?_
  rw [keys_dl]
  exact List.mem_map.mpr ⟨j, List.mem_range.mpr hj, rfl⟩
theorem valid_put {n i : Nat} {st : Nat → Inf} {x : Inf} (V : Valid n st) (hi : i < n) (h : x.p ≠ 0 → 0 ≤ (i : Int) + x.p ∧ (i : Int) + x.p < (n : Int)) : Valid n (put st i x) := by
  intro j hj hp
  by_cases e : j = i
  · subst e
    rw [put_same] at hp ⊢
    exact h hp
  · rw [put_ne e] at hp ⊢
    exact V j hj hp
theorem bonds_put {n i : Nat} {st : Nat → Inf} {x : Inf} (V : Bonds n st) (h : PyData.strOk x.b = true) : Bonds n (put st i x) := by
  intro j hj
  by_cases e : j = i
  · subst e; rw [put_same]; exact h
  · rw [put_ne e]; exact V j hj
theorem bonds_zero {n : Nat} : Bonds n fun _ => inf0 := fun _ _ => by with_unfolding_all rfl
theorem fmod_in {x : Int} {n : Nat} (h : 0 < n) : 0 ≤ x.fmod (n : Int) ∧ x.fmod (n : Int) < (n : Int) := by
  rw [Int.fmod_eq_emod_of_nonneg _ (by omega)]
  exact ⟨Int.emod_nonneg _ (by omega), Int.emod_lt_of_pos _ (by omega)⟩
theorem drawJ_end {h₀ h' : Heap} {L src cl cN cB cR : Addr} {o1 o2 o3 so0 : Obj} {m' : Str → Option Value} {n i : Nat} {ds : Nat → Addr} {os0 os' : Nat → Obj} {st' : Nat → Inf} {X own : List (Addr × Obj)} {a' : Int} {t' tn : Tok} {k' tk : Nat} {s₁ : Shared}
    (F : Fr h₀ L h' m') (N : News h₀ L h' ((src, W.listOf #[.ref cl, .int a' t'] k') :: (cN, o1) :: (cB, o2) :: (cR, o3) :: (dl n ds os' ++ (X ++ own)))) (d : DictsAre n os' st') (V : Valid n st') (Bo : Bonds n st') (a0 : 0 ≤ a') (a1 : a' ≤ 1 + 4 * ((i + 1 : Nat) : Int))
    (m1 : m' "source" = some (.ref src)) (m2 : m' "size" = some (.int (n : Int) tn)) :
    InvEndN h₀ L (drawJ src cl cN cB cR o1 o2 o3 n ds X (i + 1)) own (((src, so0) :: (cN, o1) :: (cB, o2) :: (cR, o3) :: (dl n ds os0 ++ X)).map (·.1)) s₁ { s₁ with heap := h', toks := tk } := by
  have e : (src, W.listOf #[.ref cl, .int a' t'] k') :: (cN, o1) :: (cB, o2) :: (cR, o3) :: (dl n ds os' ++ (X ++ own)) = ((src, W.listOf #[.ref cl, .int a' t'] k') :: (cN, o1) :: (cB, o2) :: (cR, o3) :: (dl n ds os' ++ X)) ++ own := by simp
  rw [e] at N
  refine InvEndN.intro F N (nx := (src, W.listOf #[.ref cl, .int a' t'] k') :: (cN, o1) :: (cB, o2) :: (cR, o3) :: (dl n ds os' ++ X)) ⟨a', t', k', os', st', tn, rfl, a0, a1, d, V, Bo, m1, m2⟩ ?_ (fun p hp => List.mem_append_left _ hp) (fun p hp => List.mem_append_right _ hp)
  simp only [List.map_cons, List.map_append, keys_dl]
theorem goal_in1 {x : Int} {n i : Nat} (h : 0 < n) : 0 ≤ (i : Int) + (x.fmod (n : Int) - (i : Int)) ∧ (i : Int) + (x.fmod (n : Int) - (i : Int)) < (n : Int) := by
  have := @fmod_in x n h
  omega
theorem goal_in2 {x : Int} {n i : Nat} (h : i < n) (hx : x < (n : Int)) : 0 ≤ (i : Int) + ((if 0 > x then 0 else x) - (i : Int)) ∧ (i : Int) + ((if 0 > x then 0 else x) - (i : Int)) < (n : Int) := by
  split <;> omega
end Mine

end NzSet

section NzLay
open PySem PySem.Spec PySem.Calls PySem.W PyProof.Rows
namespace Mine
theorem reads4 {h₀ h : Heap} {L : Addr} {m : Str → Option Value} {x1 x2 x3 x4 : Str} {v1 v2 v3 v4 : Value} (F : Fr h₀ L h m) (h1 : m x1 = some v1) (h2 : m x2 = some v2) (h3 : m x3 = some v3) (h4 : m x4 = some v4) : ∃ m', Fr h₀ L h (kstB m' [(x1, v1), (x2, v2), (x3, v3), (x4, v4)]) :=
  ⟨m, canon [(x1, v1), (x2, v2), (x3, v3), (x4, v4)] (by
    intro p hp
    simp only [List.mem_cons, List.not_mem_nil, or_false] at hp
    rcases hp with rfl | rfl | rfl | rfl <;> assumption) ▸ F⟩
theorem ne_goal {c n p : Nat} {v : Int} (hn2 : 2 ≤ n) (hn7 : n ≤ 7) (hc : c < n) (h0 : 0 ≤ v) (h1 : v < (n : Int) - 1) (h : ((c : Int) + 1 + v).fmod (n : Int) = (p : Int)) : p ≠ c := by
  rw [Int.fmod_eq_emod_of_nonneg _ (by omega)] at h
  intro e
  subst e
  have : n = 2 ∨ n = 3 ∨ n = 4 ∨ n = 5 ∨ n = 6 ∨ n = 7 := by omega
  rcases this with rfl | rfl | rfl | rfl | rfl | rfl <;> omega
/-- the law's ledger but for its cells and tables: what stands there and does not turn -/
structure Lay (L : Addr) (n : Nat) (as ds : Nat → Addr) (D : Addr) (X : List (Addr × Obj)) : Prop where
  R : RowIn X D n as ds
  J : Inj n ds
  xN : Off X (L + 1 + 1 + 1)
  xB : Off X (L + 1 + 1)
  xR : Off X (L + 1)
  xD : OffD X n ds
  yN : ∀ j, j < n → L + 1 + 1 + 1 ≠ ds j
  yB : ∀ j, j < n → L + 1 + 1 ≠ ds j
  yR : ∀ j, j < n → L + 1 ≠ ds j
abbrev led (L : Addr) (o1 o2 o3 : Obj) (n : Nat) (ds : Nat → Addr) (os : Nat → Obj) (X : List (Addr × Obj)) : List (Addr × Obj) := (L + 1 + 1 + 1, o1) :: (L + 1 + 1, o2) :: (L + 1, o3) :: (dl n ds os ++ X)
section
variable {h₀ h h' : Heap} {L D q : Addr} {o1 o2 o3 oq : Obj} {m : Str → Option Value} {n : Nat} {as ds : Nat → Addr} {os os' : Nat → Obj} {X : List (Addr × Obj)}
theorem sub_led : Sub X (led L o1 o2 o3 n ds os X) := Sub.cons (Sub.cons (Sub.cons (Sub.right Sub.refl)))
theorem sub_dl : Sub (dl n ds os) (led L o1 o2 o3 n ds os X) := Sub.cons (Sub.cons (Sub.cons (Sub.left Sub.refl)))
theorem sub_led2 {X' : List (Addr × Obj)} (s : Sub X X') : Sub (led L o1 o2 o3 n ds os X) (led L o1 o2 o3 n ds os X') := fun p hp => by
  rcases List.mem_append.mp (show p ∈ [(L + 1 + 1 + 1, o1), (L + 1 + 1, o2), (L + 1, o3)] ++ (dl n ds os ++ X) from hp) with hp | hp
  · exact (List.mem_append_left _ hp : p ∈ [(L + 1 + 1 + 1, o1), (L + 1 + 1, o2), (L + 1, o3)] ++ (dl n ds os ++ X'))
  · rcases List.mem_append.mp hp with hp | hp
    · exact sub_dl _ hp
    · exact sub_led _ (s _ hp)
theorem Lay.add (Y : Lay L n as ds D X) (F : Fr h₀ L h m) (N : News h₀ L h (led L o1 o2 o3 n ds os X)) (kp : ∀ b o, h.get? b = some o → h'.get? b = some o) (e : h.get? q = none) (e' : h'.get? q = some oq) :
    ∃ X', News h₀ L h' (led L o1 o2 o3 n ds os X') ∧ Lay L n as ds D X' ∧ Sub X X' ∧ (q, oq) ∈ X' := by
  have N1 := news_new N F e kp e'
  refine ⟨(q, oq) :: X, ?_, ⟨Y.R.sub (Sub.cons Sub.refl), Y.J, Off.cons (ne_old e (N _ (.head _)).1) Y.xN, Off.cons (ne_old e (N _ (.tail _ (.head _))).1) Y.xB, Off.cons (ne_old e (N _ (.tail _ (.tail _ (.head _)))).1) Y.xR, OffD.cons (fun j hj => ne_old e (N _ (sub_dl _ (at_dl hj))).1) Y.xD, Y.yN, Y.yB, Y.yR⟩, Sub.cons Sub.refl, .head _⟩
  intro p hp
  rcases List.mem_append.mp (show p ∈ [(L + 1 + 1 + 1, o1), (L + 1 + 1, o2), (L + 1, o3)] ++ (dl n ds os ++ (q, oq) :: X) from hp) with hp | hp
  · exact N1 p (.tail _ (List.mem_append_left _ hp : p ∈ [(L + 1 + 1 + 1, o1), (L + 1 + 1, o2), (L + 1, o3)] ++ (dl n ds os ++ X)))
  · rcases List.mem_append.mp hp with hp | hp
    · exact N1 p (.tail _ (sub_dl _ hp))
    · rcases List.mem_cons.mp hp with rfl | hp
      · exact N1 _ (.head _)
      · exact N1 p (.tail _ (sub_led _ hp))
theorem Lay.addL {ys : List Value} (Y : Lay L n as ds D X) (F : Fr h₀ L h m) (N : News h₀ L h (led L o1 o2 o3 n ds os X)) (kp : ∀ b o, h.get? b = some o → h'.get? b = some o) (e : h.get? q = none) (z : h'.IsList q (List.toArray ys)) :
    ∃ X', News h₀ L h' (led L o1 o2 o3 n ds os X') ∧ Lay L n as ds D X' ∧ Sub X X' ∧ ListIn X' q ys := by
  obtain ⟨oq, e', r⟩ := z
  obtain ⟨X', a, b, c, d⟩ := Y.add F N kp e e'
  exact ⟨X', a, b, c, ⟨oq, d, r⟩⟩
theorem Lay.turn (Y : Lay L n as ds D X) (F : Fr h₀ L h m) (N : News h₀ L h (led L o1 o2 o3 n ds os X)) (M : Mods n ds h h' os') : Fr h₀ L h' m ∧ News h₀ L h' (led L o1 o2 o3 n ds os' X) :=
  ⟨fr_mods F N sub_dl M, turns_led (A := [(L + 1 + 1 + 1, o1), (L + 1 + 1, o2), (L + 1, o3)]) (M.turns F N sub_dl) N (OffD.cons Y.yN (OffD.cons Y.yB (OffD.cons Y.yR OffD.nil))) Y.xD⟩
theorem Lay.front (Y : Lay L n as ds D X) (N : News h₀ L h ((q, oq) :: led L o1 o2 o3 n ds os X)) (lt : ∀ p ∈ led L o1 o2 o3 n ds os X, p.1 < q) :
    ∃ X', News h₀ L h (led L o1 o2 o3 n ds os X') ∧ Lay L n as ds D X' ∧ Sub X X' ∧ (q, oq) ∈ X' := by
  have ne : ∀ c o, (c, o) ∈ led L o1 o2 o3 n ds os X → q ≠ c := fun c o hm e => by
    have := lt _ hm
    rw [← e] at this
    exact absurd this (Nat.lt_irrefl _)
  refine ⟨(q, oq) :: X, ?_, ⟨Y.R.sub (Sub.cons Sub.refl), Y.J, Off.cons (ne _ _ (.head _)) Y.xN, Off.cons (ne _ _ (.tail _ (.head _))) Y.xB, Off.cons (ne _ _ (.tail _ (.tail _ (.head _)))) Y.xR, OffD.cons (fun j hj => ne _ _ (sub_dl _ (at_dl hj))) Y.xD, Y.yN, Y.yB, Y.yR⟩, Sub.cons Sub.refl, .head _⟩
  intro p hp
  rcases List.mem_append.mp (show p ∈ [(L + 1 + 1 + 1, o1), (L + 1 + 1, o2), (L + 1, o3)] ++ (dl n ds os ++ (q, oq) :: X) from hp) with hp | hp
  · exact N p (.tail _ (List.mem_append_left _ hp : p ∈ [(L + 1 + 1 + 1, o1), (L + 1 + 1, o2), (L + 1, o3)] ++ (dl n ds os ++ X)))
  · rcases List.mem_append.mp hp with hp | hp
    · exact N p (.tail _ (sub_dl _ hp))
    · rcases List.mem_cons.mp hp with rfl | hp
      · exact N _ (.head _)
      · exact N p (.tail _ (sub_led _ hp))
end
end Mine

end NzLay

section NzKept
open PySem PySem.Spec PySem.Calls PySem.W PyProof.Rows
namespace Mine
section
variable {prog : Program} {w : World} {A : Around} {E : Value → Shared → Prop} {env : Env}
/-- the same, kept under a name -/
theorem Assign_ListComp_obj {s : Shared} {elt iter : PySem.Expr} {x y : Str} {px py : Pos} {scope : Scope} {cl : List (Str × Addr)} {pos spos : Pos} {Q : Flow → Shared → Prop}
    (hsw : swapsWith (.ListComp elt [⟨.Name x px, iter, [], 0⟩] scope pos) (some (.Name y py)) spos.line env = pure true)
    (hclos : closureFor scope env = pure cl) (hcell : ∀ z ∈ scope.names, z.2 ≠ .cell) (hkind : scope.kind = .function)
    (hnames : ∀ z ∈ scope.names, z.2 = .local → scope.names.lookup z.1 = some .local) (hx : scope.names.lookup x = some .local)
    (hy : env.kindOf y = some .local) (hp : (env.scope.kind == .class || (env.scope.kind == .module && env.locals != env.globals)) = false)
    (h : wpAny (model prog w) A (eval iter env) (fun xv s₁ => wpAny (model prog w) A (pyIter xv) (fun it s₂ => ∃ I fp wr n P St G m, it = .ref I ∧ Walks prog w A I fp wr n P St ∧ n ≤ 1000 ∧ St 0 s₂.heap ∧ (∀ b ∈ fp, b < s₂.heap.objs.size) ∧
      (∀ i h, St i h → ∀ b ∈ wr, ∃ o, h.get? b = some o) ∧ G 0 [] [] ∧ (∀ i ys made, G i ys made → ys.length = i) ∧ env.locals ∉ wr ∧ s₂.heap.Ns env.locals m ∧ EltMakes prog w A env scope cl x elt wr n P G s₂ ∧
      (∀ D h' tk (ys : List Value) made, s₂.heap.get? D = none → h'.IsList D ys.toArray → G n ys made → (∀ p ∈ made, h'.get? p.1 = some p.2 ∧ s₂.heap.get? p.1 = none ∧ p.1 ≠ D) →
        h'.Ns env.locals (fun z => if z = y then some (.ref D) else m z) → (∀ b o, b ≠ env.locals → b ∉ wr → s₂.heap.get? b = some o → h'.get? b = some o) → Q .next { s₂ with heap := h', toks := tk })) E s₁) E s)
    (hs : ∀ x, foldedSetIterable iter env x = pure x := by intro _; rfl) :
    wpAny (model prog w) A (exec (.Assign [.Name y py] (.ListComp elt [⟨.Name x px, iter, [], 0⟩] scope pos) spos) env) Q E s := by
  rw [exec_Assign_Name_used _ _ _ _ hsw]
  refine wpAny_bind (wpAny_standAt (wpAny_bind ?_))
  show wpAny _ A (do let _ ← comprehension (.ListComp elt [⟨.Name x px, iter, [], 0⟩] scope pos) scope env _ (newList []) false (eval iter env) (some (assign (.Name y py) env))) _ _ s
  refine wpAny_bind (wpAny_mono (wpAny_comprehension_free (use := some (assign (.Name y py) env)) (Q := fun _ s' => Q .next s') rfl hs hclos hkind hnames
    (wpAny_mono h (fun xv s₁ h₁ => wpAny_mono h₁ (fun it s₂ h₂ => ?_) fun _ _ e => e) fun _ _ e => e)) (fun _ s' hq => wpAny_pure (wpAny_pure hq)) fun _ _ e => e)
  obtain ⟨I, fp, wr, n, P, St, G, m, rfl, W, hsz, hst, hfp, hwr, h0, hlen, hLf, hn, he, hQ⟩ := h₂
  refine comp_made (RR := fun acc C => compPost (model prog w) A E (some (assign (.Name y py) env)) (fun _ s' => Q .next s') acc C) W hsz G hcell hkind hx hst hfp hwr h0 hlen he ?_
  intro D C h' tk m' ys made hD hC hDC hnC hlD hG hm hk
  have hLC : env.locals ≠ C := by rintro rfl; obtain ⟨o, _, _, ho, _⟩ := hn; rw [hC] at ho; cases ho
  have hLD : env.locals ≠ D := by rintro rfl; obtain ⟨o, _, _, ho, _⟩ := hn; rw [hD] at ho; cases ho
  have hLm : ∀ p ∈ made, p.1 ≠ env.locals := by
    intro p hp e
    obtain ⟨o, _, _, ho, _⟩ := hn
    have := (hm p hp).2.1
    rw [e, ho] at this; cases this
  show wpAny _ A (assign (.Name y py) env (.ref D)) _ _ _
  refine wpAny_assign_Name (wpAny_storeName_local hy (hn.at' fun o e => hk _ o hLf e) (fun h₂ hn₂ hs₂ => ?_) hp)
  refine ⟨m', hnC.sameBut hs₂ (Ne.symm hLC), fun h₃ hs₃ => ?_⟩
  refine hQ D h₃ _ ys made hD ((hlD.extBut hs₂.extBut (Ne.symm hLD)).extBut hs₃.extBut hDC) hG ?_ (hn₂.sameBut hs₃ hLC) fun b o hbL hbf e =>
    hs₃.extBut b o (by rintro rfl; rw [hC] at e; cases e) (hs₂.extBut b o hbL (hk b o hbf e))
  intro p hp
  obtain ⟨a1, a2, a3, a4⟩ := hm p hp
  exact ⟨hs₃.extBut _ _ a3 (hs₂.extBut _ _ (hLm p hp) a1), a2, a4⟩
end

def TupIs (o : Obj) (x : Inf) : Prop := ∃ (ta tb tc : Tok) (k : Nat), o.cls = .type "tuple" ∧ o.data = .seq [Value.int x.p ta, Value.str x.b tb, Value.int x.y tc].toArray k
def KeptAt (st : Nat → Inf) (i : Nat) (ys : List Value) (made : List (Addr × Obj)) : Prop := ∃ (tp : Nat → Addr) (os : Nat → Obj), ys = ((List.range i).map fun j => Value.ref (tp j)) ∧ ∀ j, j < i → (tp j, os j) ∈ made ∧ TupIs (os j) (st j)
theorem KeptAt.zero {st : Nat → Inf} : KeptAt st 0 [] [] := ⟨fun _ => 0, fun _ => instObj 0 0, rfl, fun _ h => absurd h (Nat.not_lt_zero _)⟩
theorem KeptAt.step {st : Nat → Inf} {i : Nat} {ys : List Value} {made : List (Addr × Obj)} {t : Addr} {o : Obj} (M : KeptAt st i ys made) (d : TupIs o (st i)) : KeptAt st (i + 1) (ys ++ [.ref t]) (made ++ [(t, o)]) := by
  obtain ⟨tp, os, rfl, h⟩ := M
  refine ⟨put tp i t, put os i o, ?_, ?_⟩
  · rw [List.range_succ, List.map_append]
    congr 1
    · refine List.map_congr_left fun j hj => ?_
      rw [put_ne (Nat.ne_of_lt (List.mem_range.mp hj))]
    · simp [put_same]
  · intro j hj
    by_cases e : j = i
    · subst e; rw [put_same, put_same]; exact ⟨by simp, d⟩
    · rw [put_ne e, put_ne e]; exact ⟨List.mem_append_left _ (h j (by omega)).1, (h j (by omega)).2⟩

theorem kept_list {prog : Program} {w : World} {A : Around} {E : Value → Shared → Prop} {s : Shared} {env : Env} {scope : Scope} {cl : List (Str × Addr)} {x y : Str} {elt : PySem.Expr} {l : Addr} {n : Nat} {as : Nat → Addr} {st : Nat → Inf} {m : Str → Option Value} {Q : Flow → Shared → Prop}
    (hh : A.handled = none) (hl : s.heap.IsList l (List.toArray ((List.range n).map fun i => Value.ref (as i)))) (hs : n ≤ 1000) (hns : s.heap.Ns env.locals m)
    (elts : ∀ C (i : Nat) s₃ m₃ E', s.heap.objs.size ≤ C → i < n → s₃.heap.Ns C m₃ → m₃ x = some (.ref (as i)) → (∀ b o, s.heap.get? b = some o → s₃.heap.get? b = some o) →
      wpAny (model prog w) A (eval elt (compEnvC scope cl C env)) (fun y s₄ => Keeps s₃ s₄ ∧ ∃ (t : Addr) (o : Obj), y = .ref t ∧ s₄.heap.get? t = some o ∧ TupIs o (st i) ∧ s₃.heap.get? t = none) E' s₃)
    (done : ∀ D h' tk (tp : Nat → Addr) (os : Nat → Obj), s.heap.get? D = none → h'.IsList D (List.toArray ((List.range n).map fun i => Value.ref (tp i))) → (∀ i, i < n → h'.get? (tp i) = some (os i) ∧ s.heap.get? (tp i) = none ∧ TupIs (os i) (st i)) →
      h'.Ns env.locals (fun z => if z = y then some (.ref D) else m z) → (∀ b o, b ≠ env.locals → s.heap.get? b = some o → h'.get? b = some o) → Q .next { s with heap := h', toks := tk }) :
    wpAny (model prog w) A (pyIter (.ref l)) (fun it s₂ => ∃ I fp wr n P St G m, it = .ref I ∧ Walks prog w A I fp wr n P St ∧ n ≤ 1000 ∧ St 0 s₂.heap ∧ (∀ b ∈ fp, b < s₂.heap.objs.size) ∧
      (∀ i h, St i h → ∀ b ∈ wr, ∃ o, h.get? b = some o) ∧ G 0 [] [] ∧ (∀ i ys made, G i ys made → ys.length = i) ∧ env.locals ∉ wr ∧ s₂.heap.Ns env.locals m ∧ EltMakes prog w A env scope cl x elt wr n P G s₂ ∧
      (∀ D h' tk (ys : List Value) made, s₂.heap.get? D = none → h'.IsList D ys.toArray → G n ys made → (∀ p ∈ made, h'.get? p.1 = some p.2 ∧ s₂.heap.get? p.1 = none ∧ p.1 ≠ D) →
        h'.Ns env.locals (fun z => if z = y then some (.ref D) else m z) → (∀ b o, b ≠ env.locals → b ∉ wr → s₂.heap.get? b = some o → h'.get? b = some o) → Q .next { s₂ with heap := h', toks := tk })) E s := by
  refine wpAny_pyIter_list hl ?_
  have hlt : l < s.heap.objs.size := by obtain ⟨o, e, _⟩ := hl; exact Heap.lt_size e
  have hne : l ≠ s.heap.objs.size := Nat.ne_of_lt hlt
  have hLlt : env.locals < s.heap.objs.size := hns.lt
  have W := Walks.list (prog := prog) (w := w) (A := A) hh s.heap.objs.size l hne (List.toArray ((List.range n).map fun i => Value.ref (as i)))
  have hz : (List.toArray ((List.range n).map fun i => Value.ref (as i))).size = n := by simp
  rw [hz] at W
  have up0 : ∀ b o, s.heap.get? b = some o → (s.heap.push { cls := .type "list_iterator", data := .fields #[.ref l, .int 0 0] }).get? b = some o := fun b o e => Heap.get?_push_of_some _ e
  have nw : ∀ b, b < s.heap.objs.size → b ∉ [s.heap.objs.size] := fun b hb hm => by
    rw [List.mem_singleton.mp hm] at hb
    exact absurd hb (Nat.lt_irrefl _)
  have up : ∀ (h : Heap), (∀ b o, b ∉ [s.heap.objs.size] → (s.heap.push { cls := .type "list_iterator", data := .fields #[.ref l, .int 0 0] }).get? b = some o → h.get? b = some o) → ∀ b o, s.heap.get? b = some o → h.get? b = some o :=
    fun h hk b o e => hk b o (nw b (Heap.lt_size e)) (up0 b o e)
  have up2 : ∀ C, (s.heap.push { cls := .type "list_iterator", data := .fields #[.ref l, .int 0 0] }).objs.size ≤ C → s.heap.objs.size ≤ C := by
    intro C h
    rw [Heap.size_push] at h
    exact Nat.le_of_succ_le h
  refine ⟨_, _, _, n, _, _, KeptAt st, m, rfl, W, hs, ⟨⟨_, Heap.get?_push_size _ rfl, rfl, rfl⟩, hl.push _⟩, ?_, ?_, KeptAt.zero, ?_, nw _ hLlt, hns.at' fun o e => up0 _ o e, ?_, ?_⟩
  · intro b hb
    rw [Heap.size_push]
    rcases List.mem_cons.mp hb with rfl | hb
    · exact Nat.lt_succ_self _
    · rw [List.mem_singleton.mp hb]; exact Nat.lt_succ_of_lt hlt
  · intro i h e b hb
    rw [List.mem_singleton.mp hb]
    obtain ⟨⟨o, e, _⟩, _⟩ := e
    exact ⟨o, e⟩
  · rintro i ys made ⟨tp, os, rfl, _⟩
    simp
  · rintro C i v ys made s₃ m₃ E' hC hi hv hG hns₃ hm hk hmade
    have hv' : v = .ref (as i) := by
      have : (List.toArray ((List.range n).map fun i => Value.ref (as i)))[i]? = some v := hv
      simp [hi] at this
      exact this.symm
    subst hv'
    refine wpAny_mono (elts C i s₃ m₃ E' (up2 C hC) hi hns₃ hm (up _ hk)) (fun y s₄ q => ?_) fun _ _ e => e
    obtain ⟨hk4, t, o, rfl, e1, d, n1⟩ := q
    refine ⟨hk4, [(t, o)], hG.step d, ?_⟩
    intro p hp
    cases List.mem_singleton.mp hp
    exact ⟨e1, n1⟩
  · rintro D h' tk ys made hD hl' ⟨tp, os, rfl, h1⟩ hm hns' hk
    exact done D h' tk tp os (none_back up0 hD) hl' (fun i hi => ⟨(hm _ (h1 i hi).1).1, none_back up0 (hm _ (h1 i hi).1).2.1, (h1 i hi).2⟩) hns' fun b o hb e => hk b o hb (nw b (Heap.lt_size e)) (up0 b o e)

section
variable {h₀ h h' : Heap} {L D : Addr} {o1 o2 o3 : Obj} {m : Str → Option Value} {n : Nat} {as ds : Nat → Addr} {os : Nat → Obj} {X new : List (Addr × Obj)}
theorem Lay.addAll (Y : Lay L n as ds D X) (F : Fr h₀ L h m) (N : News h₀ L h (led L o1 o2 o3 n ds os X)) (kp : ∀ b o, b ≠ L → h.get? b = some o → h'.get? b = some o) (e : ∀ p ∈ new, h.get? p.1 = none ∧ h'.get? p.1 = some p.2) :
    News h₀ L h' (led L o1 o2 o3 n ds os (new ++ X)) ∧ Lay L n as ds D (new ++ X) := by
  have old : ∀ p ∈ led L o1 o2 o3 n ds os X, h'.get? p.1 = some p.2 ∧ p.1 ≠ L ∧ h₀.get? p.1 = none := fun p hp => ⟨kp _ _ (N p hp).2.1 (N p hp).1, (N p hp).2⟩
  have nw : ∀ p ∈ new, h'.get? p.1 = some p.2 ∧ p.1 ≠ L ∧ h₀.get? p.1 = none := fun p hp => by
    refine ⟨(e p hp).2, fun z => ?_, none_back (fun b o e => F.keep b o e) (e p hp).1⟩
    obtain ⟨oL, es, ep, hL, r⟩ := F.ns
    have := (e p hp).1
    rw [z, hL] at this; cases this
  have offN : ∀ c o, h.get? c = some o → Off new c := fun c o z p hp => ne_old (e p hp).1 z
  refine ⟨fun p hp => ?_, ⟨Y.R.sub (Sub.right Sub.refl), Y.J, Off.app (offN _ _ (N _ (.head _)).1) Y.xN, Off.app (offN _ _ (N _ (.tail _ (.head _))).1) Y.xB, Off.app (offN _ _ (N _ (.tail _ (.tail _ (.head _)))).1) Y.xR, OffD.app (fun p hp j hj => ne_old (e p hp).1 (N _ (sub_dl _ (at_dl hj))).1) Y.xD, Y.yN, Y.yB, Y.yR⟩⟩
  rcases List.mem_append.mp (show p ∈ [(L + 1 + 1 + 1, o1), (L + 1 + 1, o2), (L + 1, o3)] ++ (dl n ds os ++ (new ++ X)) from hp) with hp | hp
  · exact old p (List.mem_append_left _ hp : p ∈ [(L + 1 + 1 + 1, o1), (L + 1 + 1, o2), (L + 1, o3)] ++ (dl n ds os ++ X))
  · rcases List.mem_append.mp hp with hp | hp
    · exact old p (sub_dl _ hp)
    · rcases List.mem_append.mp hp with hp | hp
      · exact nw p hp
      · exact old p (sub_led _ hp)
theorem fr_ns {m' : Str → Option Value} (F : Fr h₀ L h m) (kp : ∀ b o, b ≠ L → h.get? b = some o → h'.get? b = some o) (hn : h'.Ns L m') : Fr h₀ L h' m' :=
  ⟨hn, fun b o e => kp _ _ (Nat.ne_of_lt (Nat.lt_of_lt_of_le (Heap.lt_size e) F.above)) (F.keep b o e), F.above⟩
end
/-- what was kept of the row -/
def KeptIn (X : List (Addr × Obj)) (q : Addr) (n : Nat) (st : Nat → Inf) : Prop := ∃ (tp : Nat → Addr) (os : Nat → Obj), ListIn X q ((List.range n).map fun i => Value.ref (tp i)) ∧ ∀ i, i < n → (tp i, os i) ∈ X ∧ TupIs (os i) (st i)
theorem KeptIn.sub {X X' : List (Addr × Obj)} {q : Addr} {n : Nat} {st : Nat → Inf} (k : KeptIn X q n st) (s : Sub X X') : KeptIn X' q n st := let ⟨tp, os, a, b⟩ := k; ⟨tp, os, a.sub s, fun i hi => ⟨s _ (b i hi).1, (b i hi).2⟩⟩
end Mine

end NzKept

section NzTests
open PySem PySem.Spec PySem.Calls PySem.W PyProof.Rows
namespace Mine
theorem test_one {M : Model} {A : Around} {E : Value → Shared → Prop} {s : Shared} {c : PySem.Expr} {env : Env} {Q : Bool → Shared → Prop} (h : wpAny M A (isTrue c env (eval c env)) Q E s) :
    wpAny M A (forIn [c] true fun c r => if r = true then do let ok ← isTrue c env (eval c env); pure (ForInStep.yield ok) else pure (ForInStep.yield r)) Q E s := by
  simp only [List.forIn_cons, List.forIn_nil]
  refine wpAny_bind ?_
  rw [if_pos trivial]
  refine wpAny_bind (wpAny_mono h (fun b s' q => wpAny_pure ?_) fun _ _ e => e)
  exact wpAny_pure q
theorem item_tup {prog : Program} {w : World} {A : Around} {E : Value → Shared → Prop} {s : Shared} {value slice : PySem.Expr} {r : Addr} {vs : List Value} {u : Tok} {j : Nat} {x : Value} {Q : Value → Shared → Prop}
    (ht : IsTup s.heap r vs.toArray) (hj : j < vs.length) (hs7 : j < 1000) (hx : vs[j]? = some x) (h : Q x s)
    (hs : subscripted slice false (.ref r) (.int (j : Int) u) = operate [.ref r, .int (j : Int) u] (getItem (.ref r) (.int (j : Int) u)) := by with_unfolding_all rfl) :
    wpAny (model prog w) A (subscriptTail value slice (.ref r) (.int (j : Int) u)) Q E s := by
  have hn : (j : Int) < ((vs.toArray.size : Nat) : Int) := by rw [List.size_toArray]; omega
  exact tail_any ht.typeIs slot_tuple_getitem.lookup (getItem_tuple ht (by omega) (by omega) (seqIndex_of (by omega) hn) (x := x) (by simpa using hx) h) hs
def ItIs (i : Nat) (y : Value) : Prop := ∃ t, y = Value.int (i : Int) t
theorem ints_of_paired {l : List Nat} {ys : List Value} (h : Paired ItIs l ys) : IntsAre ys (l.map Int.ofNat) := by
  induction h with
  | nil => exact .nil
  | cons hf _ ih => obtain ⟨t, rfl⟩ := hf; exact .cons _ _ ih
theorem none_paired {l : List Nat} {ys : List Value} {F : Nat → Value → Prop} (h : Paired F (l.filter fun _ => false) ys) : ys = [] := by
  have e : l.filter (fun _ => false) = [] := List.filter_eq_nil_iff.mpr fun _ _ => by simp
  rw [e] at h
  cases h
  rfl
theorem none_left {n : Nat} {p : Nat → Bool} : ((List.range n).filter p).map Int.ofNat = [] ↔ ∀ i, i < n → p i = false := by
  rw [List.map_eq_nil_iff, List.filter_eq_nil_iff]
  constructor
  · intro h i hi
    have := h i (List.mem_range.mpr hi)
    simpa using this
  · intro h i hi
    rw [h i (List.mem_range.mp hi)]
    simp
open Classical in
noncomputable def notEnds (f : Nat → Option Nat) (i : Nat) : Bool := decide (¬ Ends f i)
theorem notEnds_false {f : Nat → Option Nat} {i : Nat} (h : Ends f i) : notEnds f i = false := by unfold notEnds; simp [h]
theorem notEnds_iff {f : Nat → Option Nat} {i : Nat} : notEnds f i = false ↔ Ends f i := by unfold notEnds; simp
theorem notEnds_of {f : Nat → Option Nat} {i : Nat} {b : Bool} (h : b = true ↔ Ends f i) : (!b) = notEnds f i := by
  cases b with
  | true => rw [notEnds_false (h.mp rfl)]; rfl
  | false =>
    have : ¬ Ends f i := fun e => by have := h.mpr e; cases this
    unfold notEnds
    simp [this]
/-- the forest's list is empty just if it is one -/
theorem forest_iff {n : Nat} {st : Nat → Inf} : decide ((((List.range n).filter (notEnds (nextOf st))).map Int.ofNat) = []) = true ↔ Forest n st := by
  rw [decide_eq_true_iff, none_left]
  exact ⟨fun h i hi => notEnds_iff.mp (h i hi), fun h i hi => notEnds_iff.mpr (h i hi)⟩
theorem item_last {prog : Program} {w : World} {A : Around} {E : Value → Shared → Prop} {s : Shared} {value slice : PySem.Expr} {q : Addr} {ms : List Value} {f : Nat → Option Nat} {n a z : Nat} {c : List Nat} {k : Int} {u : Tok} {Q : Value → Shared → Prop}
    (hl : s.heap.IsList q (List.toArray ms)) (hms : IntsAre ms (c.map Int.ofNat)) (W : Way f n a c z) (hk : k = -1) (h : ∀ t, Q (.int (z : Int) t) s)
    (hs : subscripted slice false (.ref q) (.int k u) = operate [.ref q, .int k u] (getItem (.ref q) (.int k u)) := by with_unfolding_all rfl) :
    wpAny (model prog w) A (subscriptTail value slice (.ref q) (.int k u)) Q E s := by
  have hp := W.length_pos
  have hlen := hms.length
  rw [List.length_map] at hlen
  obtain ⟨t, e⟩ := ints_at hms (i := c.length - 1) (by rw [List.length_map]; omega)
  have e2 : (c.map Int.ofNat).getD (c.length - 1) 0 = (z : Int) := by
    have := W.last
    rw [List.getLast?_eq_getElem?] at this
    rw [List.getD_eq_getElem?_getD, List.getElem?_map, this]
    rfl
  rw [e2] at e
  have hidx : (k + (ms.length : Int)).toNat = c.length - 1 := by omega
  refine kde_neg hl (by omega) (by omega) (seqIndex_neg (by omega) (by omega)) (v := .int (z : Int) t) ?_ (h t) hs
  rw [hidx]
  exact e

theorem reads7 {h₀ h : Heap} {L : Addr} {m : Str → Option Value} {x1 x2 x3 x4 x5 x6 x7 : Str} {v1 v2 v3 v4 v5 v6 v7 : Value} (F : Fr h₀ L h m) (h1 : m x1 = some v1) (h2 : m x2 = some v2) (h3 : m x3 = some v3) (h4 : m x4 = some v4) (h5 : m x5 = some v5) (h6 : m x6 = some v6) (h7 : m x7 = some v7) :
    ∃ m', Fr h₀ L h (kstB m' [(x1, v1), (x2, v2), (x3, v3), (x4, v4), (x5, v5), (x6, v6), (x7, v7)]) :=
  ⟨m, canon [(x1, v1), (x2, v2), (x3, v3), (x4, v4), (x5, v5), (x6, v6), (x7, v7)] (by
    intro p hp
    simp only [List.mem_cons, List.not_mem_nil, or_false] at hp
    rcases hp with rfl | rfl | rfl | rfl | rfl | rfl | rfl <;> assumption) ▸ F⟩
/-- the law's state between two statements -/
def At (s₁ : Shared) (L : Addr) (m : Str → Option Value) (l : List (Addr × Obj)) (s' : Shared) : Prop := ∃ h tk, s' = ⟨h, s₁.gens, s₁.drawn, tk, s₁.os⟩ ∧ Fr s₁.heap L h m ∧ News s₁.heap L h l
theorem mid_at {M : Model} {A : Around} {E : Value → Shared → Prop} {s s₁ : Shared} {h : Heap} {L : Addr} {m : Str → Option Value} {l : List (Addr × Obj)} {t : Sem Flow} {Q : Flow → Shared → Prop} (F : Fr s₁.heap L h m) (N : News s₁.heap L h l)
    (h1 : wpAny M A t (fun f s' => f = .next ∧ At s₁ L m l s') E s) (h2 : ∀ s', At s₁ L m l s' → Q .next s') : wpAny M A t Q E s :=
  wpAny_mono h1 (fun f s' q => by obtain ⟨rfl, a⟩ := q; exact h2 s' a) fun _ _ e => e
theorem Tied.valid {n : Nat} {st st' : Nat → Inf} {c a : Nat} {y : Int} (T : Tied n st c a y st') (hc : c < n) (ha : a < n) : Valid n st' := by
  obtain ⟨s1, s2, T1, B, rfl⟩ := T
  have V1 := T1.valid
  have V2 : Valid n s2 := by
    cases B with
    | ended => exact V1
    | @hit k z _ _ _ _ =>
      intro j hj hp
      by_cases e : j = z
      · subst e; rw [put_same] at hp; exact absurd rfl hp
      · rw [put_ne e] at hp ⊢; exact V1 j hj hp
    | long => exact V1
  exact valid_put V2 hc fun _ => by dsimp only; omega
abbrev d3 (x : Inf) : PyData := .tuple [.int x.p, .str x.b, .int x.y]
theorem d3_shaped {x : Inf} (h : PyData.strOk x.b = true) : SeqAt.shaped (d3 x) = true := by
  unfold SeqAt.shaped d3
  simp [PyData.canLay0, PyData.canLayAll0, PyData.depth, PyData.depthAll, h]
theorem d3_eqv {x : Inf} : PyData.eqv (d3 x) (d3 x) = true := by
  simp [d3, PyData.eqv, PyData.eqvAll]
theorem reads_d3 {h : Heap} {t : Addr} {o : Obj} {x : Inf} (e : h.get? t = some o) (d : TupIs o x) : Reads h (.ref t) (d3 x) [] := by
  obtain ⟨ta, tb, tc, k, hc, hd⟩ := d
  exact .tuple e hc hd (.cons (.int _ _) (.cons (.str _ _) (.cons (.int _ _) .nil)))
theorem ne_tup_same {prog : Program} {w : World} {A : Around} {E : Value → Shared → Prop} {s : Shared} {t1 t2 : Addr} {ob1 ob2 : Obj} {x : Inf} {Q : Value → Shared → Prop}
    (e1 : s.heap.get? t1 = some ob1) (d1 : TupIs ob1 x) (e2 : s.heap.get? t2 = some ob2) (d2 : TupIs ob2 x) (hb : PyData.strOk x.b = true) (hu : A.units + 64 < cLine) (h : Q (.bool false) s) :
    wpAny (model prog w) A (compareOp .NotEq (.ref t1) (.ref t2)) Q E s := by
  refine ne_dataH (reads_d3 e1 d1) (reads_d3 e2 d2) (d3_shaped hb) (d3_shaped hb) hu ?_
  rw [d3_eqv]
  exact h
/-- the last loop, turn by turn -/
def lawJ (qk qm : Addr) (l : List (Addr × Obj)) (i : Nat) (m : Str → Option Value) (nx : List (Addr × Obj)) : Prop := nx = l ∧ m "kept" = some (.ref qk) ∧ m "met" = some (.ref qm)
theorem item_keptN {prog : Program} {w : World} {A : Around} {E : Value → Shared → Prop} {s : Shared} {value slice : PySem.Expr} {h₀ : Heap} {L q : Addr} {n i : Nat} {st : Nat → Inf} {u : Tok} {Q : Value → Shared → Prop} {X l : List (Addr × Obj)}
    (N : News h₀ L s.heap l) (k : KeptIn X q n st) (sX : Sub X l) (hi : i < n) (hn : n ≤ 7) (h : ∀ t o, s.heap.get? t = some o → TupIs o (st i) → Q (.ref t) s)
    (hs : subscripted slice false (.ref q) (.int (i : Int) u) = operate [.ref q, .int (i : Int) u] (getItem (.ref q) (.int (i : Int) u)) := by with_unfolding_all rfl) :
    wpAny (model prog w) A (subscriptTail value slice (.ref q) (.int (i : Int) u)) Q E s := by
  obtain ⟨tp, os, hl, ht⟩ := k
  have hl' := hl.at N sX
  exact tail_any hl'.typeIs slot_list_getitem.lookup (wpAny_getItem_list hl' (by omega) (by omega) (x := .ref (tp i)) (by simp [hi]) (h _ _ (N _ (sX _ (ht i hi).1)).1 (ht i hi).2)) hs
theorem not_any {c : List Nat} {ns : List Int} {i : Nat} (e : ns = c.map Int.ofNat) : (!(ns.any (· == (i : Int)))) = true ↔ i ∉ c := by
  subst e
  constructor
  · intro h hm
    have : ((List.map Int.ofNat c).any fun x => x == (i : Int)) = true := List.any_eq_true.mpr ⟨(i : Int), List.mem_map.mpr ⟨i, hm, rfl⟩, by simp⟩
    rw [this] at h
    cases h
  · intro h
    cases q : ((List.map Int.ofNat c).any fun x => x == (i : Int)) with
    | false => rfl
    | true => exact absurd (mem_of_any q) h
end Mine

end NzTests

section NzLaw
open PySem PySem.Spec PySem.Calls PySem.W PyProof.Rows
namespace Mine
example : PySem.Challenge.rw_nz0114_01 = PySem.Challenge.rw_nz0114_01 ∧ hd.heap_39 = hd.heap_39 := by
  k_fill
  exact ⟨rfl, rfl⟩

local macro_rules | `(tactic| walk_at "call ref") => `(tactic| (refine Halt.out ?_))
local macro_rules | `(tactic| walk_at "call ref") => `(tactic| (k_here; k_dflt (refine' draw_N (own := [(_, _)]) ?k1 ?k2 ?k3 ?k4 ?k5 ?k6 ?k7 ?k8 ?k9 ?ka ?kb ?kc ?kd ?ke ?kf ?kg ?kh ?ki ?kj ?_); (case k2 => k_asm); (case k8 => (simp only [List.cons_append, List.nil_append]; k_asm)); (case k1 => k_asm); (case k3 => k_asm); (case k4 => k_asm); (case k5 => exact rfl); (case k6 => ktr_room); (case k7 => ktr_units); (case k9 => exact Off.cons (Nat.ne_of_gt (And.left (by assumption))) Off.nil); (case ka => (first | assumption | (repeat (first | assumption | exact Off.nil | (refine Off.cons ?_ ?_; (show _ ≠ _; assumption)) | refine Off.app ?_ ?_ | (refine off_dl ?_; assumption))))); (case kb => assumption); (case kc => (repeat (first | exact Sub.refl | (refine Sub.left ?_; exact Sub.refl) | refine Sub.cons ?_ | refine Sub.right ?_))); (case kd => assumption); (case ke => assumption); (case kf => assumption); (case kg => omega); (case kh => omega); (case ki => omega); (case kj => omega); k_whole; intro v' ta' tb' k' tk' h' v0' v1' F' N'; (try simp only [List.cons_append, List.nil_append] at N'); (try dsimp only); (try k_sweep)))
local macro_rules | `(tactic| walk_at "call ref") => `(tactic| (k_here; k_dflt (refine' draw_N (own := []) ?k1 ?k2 ?k3 ?k4 ?k5 ?k6 ?k7 ?k8 ?k9 ?ka ?kb ?kc ?kd ?ke ?kf ?kg ?kh ?ki ?kj ?_); (case k2 => k_asm); (case k8 => (simp only [List.nil_append]; k_asm)); (case k1 => k_asm); (case k3 => k_asm); (case k4 => k_asm); (case k5 => exact rfl); (case k6 => ktr_room); (case k7 => ktr_units); (case k9 => exact Off.nil); (case ka => (first | assumption | (repeat (first | assumption | exact Off.nil | (refine Off.cons ?_ ?_; (show _ ≠ _; assumption)) | refine Off.app ?_ ?_ | (refine off_dl ?_; assumption))))); (case kb => assumption); (case kc => (repeat (first | exact Sub.refl | (refine Sub.left ?_; exact Sub.refl) | refine Sub.cons ?_ | refine Sub.right ?_))); (case kd => assumption); (case ke => assumption); (case kf => assumption); (case kg => omega); (case kh => omega); (case ki => omega); (case kj => omega); k_whole; intro v' ta' tb' k' tk' h' v0' v1' F' N'; (try simp only [List.nil_append] at N'); (try dsimp only); (try k_sweep)))
local macro_rules | `(tactic| walk_at "eval Name") => `(tactic| (k_here; k_dflt (first | (refine' nameZ_L ?F ?v ?_ ?a ?b; (case F => k_asm); (case a => rfl); (case b => rfl); (case v => assumption); k_whole) | (refine' nameZ_C ?N ?c ?m ?d ?_ ?a ?b; (case a => rfl); (case b => rfl); (case N => k_asm); (case c => rfl); (case m => k_mem); (case d => k_asm); k_whole))))
local macro_rules | `(tactic| walk_at "eval ListComp") => `(tactic| (refine Halt.out ?_))
local macro_rules | `(tactic| walk_at "exec Assign cons ListComp") => `(tactic| (k_here; (with_reducible show wpAny _ _ (exec (PySem.Stmt.Assign [PySem.Expr.Name (PySem.Str.ofString "kept") _] _ _) _) _ _ _); refine Halt.out ?_))
local macro_rules | `(tactic| walk_at "compareOp Eq ref ref") => `(tactic| (refine Halt.out ?_))
local macro_rules | `(tactic| walk_at "compareOp NotEq ref ref") => `(tactic| (refine Halt.out ?_))
local macro_rules | `(tactic| walk_at "subscriptTail Call") => `(tactic| (refine Halt.out ?_))
local macro_rules | `(tactic| walk_at "binaryOp Add ref ref") => `(tactic| (refine Halt.out ?_))
local macro_rules | `(tactic| walk_at "exec If") => `(tactic| ((have : Halt (1 = 1) := by assumption); clear this; refine Halt.out ?_))
local macro_rules | `(tactic| walk_at "newTuple") => `(tactic| ((have : Halt True := by assumption); clear this; refine Halt.out ?_))
local macro_rules | `(tactic| walk_at "getAttr ref") => `(tactic| (k_here; (first | (with_reducible refine' get_pS ?k1 ?k2 ?k3 ?k4 ?k5 ?_) | (with_reducible refine' get_bS ?k1 ?k2 ?k3 ?k4 ?k5 ?_) | (with_reducible refine' get_yS ?k1 ?k2 ?k3 ?k4 ?k5 ?_)); (case k1 => k_asm); (case k2 => k_asm); (case k3 => assumption); (case k4 => assumption); (case k5 => assumption); k_whole; intro ta'; (try dsimp only)))
local macro_rules | `(tactic| walk_at "getAttr ref") => `(tactic| (k_here; (first | (with_reducible refine' get_pS ?k1 ?k2 ?k3 ?k4 ?k5 ?_) | (with_reducible refine' get_bS ?k1 ?k2 ?k3 ?k4 ?k5 ?_) | (with_reducible refine' get_yS ?k1 ?k2 ?k3 ?k4 ?k5 ?_)); (case k1 => k_asm); (case k2 => k_asm); (case k3 => exact RowIn.at (by assumption) (by k_asm) (by repeat (first | exact Sub.refl | (refine Sub.left ?_; exact Sub.refl) | refine Sub.cons ?_ | refine Sub.right ?_))); (case k4 => exact dictsAt_news (by k_asm) (by (show Sub _ _); repeat (first | exact Sub.refl | (refine Sub.left ?_; exact Sub.refl) | refine Sub.cons ?_ | refine Sub.right ?_)) (by assumption)); (case k5 => assumption); k_whole; intro ta'; (try dsimp only)))
local macro_rules | `(tactic| walk_at "subscriptTail Name") => `(tactic| (k_here; (with_reducible show wpAny _ _ (subscriptTail _ _ (Value.ref _) (Value.int _ _)) _ _ _); (refine' item_keptN ?k1 ?k2 ?k3 ?k4 ?k5 ?_ ?k6; (case k1 => k_asm); (case k2 => assumption); (case k3 => (repeat (first | exact Sub.refl | (refine Sub.left ?_; exact Sub.refl) | refine Sub.cons ?_ | refine Sub.right ?_))); (case k4 => assumption); (case k5 => assumption); (case k6 => with_unfolding_all rfl); k_whole; intro tq' oq' eq' dq'; (try dsimp only))))
local macro_rules | `(tactic| walk_at "compareOp NotIn int ref") => `(tactic| (refine Halt.out ?_))
local macro_rules | `(tactic| walk_at "exec For") => `(tactic| (refine Halt.out ?_))
local macro_rules | `(tactic| walk_at "setAttr ref") => `(tactic| (k_here; (first | (with_reducible refine' set_pN ?k1 ?k2 ?k3 ?k4 ?k5 ?k6 ?k7 ?y1 ?y2 ?y3 ?y4 ?k8 ?k9 ?_) | (with_reducible refine' set_bN ?k1 ?k2 ?k3 ?k4 ?k5 ?k6 ?k7 ?y1 ?y2 ?y3 ?y4 ?k8 ?k9 ?_) | (with_reducible refine' set_yN ?k1 ?k2 ?k3 ?k4 ?k5 ?k6 ?k7 ?y1 ?y2 ?y3 ?y4 ?k8 ?k9 ?_)); (case k1 => k_asm); (case k2 => k_asm); (case k4 => assumption); (case k6 => assumption); (case k3 => (first | k_asm | exact Mine.News.only (by k_asm) (fun _ h => .tail _ h))); (case k5 => (repeat (first | exact Sub.refl | (refine Sub.left ?_; exact Sub.refl) | refine Sub.cons ?_ | refine Sub.right ?_))); (case k7 => (first | assumption | exact OffD.app (by assumption) (by assumption))); (case y1 => assumption); (case y2 => assumption); (case y3 => assumption); (case y4 => assumption); (case k8 => assumption); (case k9 => assumption); k_whole; intro h' os' F' N' d'; (try dsimp only); (try k_sweep)))
local macro_rules | `(tactic| walk_at "subscriptTail Name") => `(tactic| (k_here; (with_reducible show wpAny _ _ (subscriptTail _ _ (Value.ref _) (Value.int _ _)) _ _ _); (refine' item_rowN ?k1 ?k2 ?k3 ?k4 ?k5 ?_ ?k6; (case k1 => k_asm); (case k2 => assumption); (case k3 => (repeat (first | exact Sub.refl | (refine Sub.left ?_; exact Sub.refl) | refine Sub.cons ?_ | refine Sub.right ?_))); (case k4 => assumption); (case k5 => assumption); (case k6 => with_unfolding_all rfl); k_whole)))
local macro_rules | `(tactic| walk_at "subscriptTail Tuple") => `(tactic| (k_here; (with_reducible show wpAny _ _ (subscriptTail (PySem.Expr.Tuple _ _ _) _ (Value.ref _) (Value.int _ _)) _ _ _); (refine' item_two ?k1 ?k2 ?k3 ?k4 ?k5 ?k7 ?k8 ?_ ?k6; (case k1 => k_asm); (case k2 => exact rfl); (case k3 => exact rfl); (case k4 => assumption); (case k5 => assumption); (case k6 => with_unfolding_all rfl); (case k7 => with_unfolding_all rfl); (case k8 => with_unfolding_all rfl); k_whole; intro b' t' hb'; (try dsimp only))))
local macro_rules | `(tactic| walk_at "subscriptTail") => `(tactic| (k_here; (with_reducible show wpAny _ _ (subscriptTail (PySem.Expr.Tuple _ _ _) _ (Value.ref _) (Value.int _ _)) _ _ _); (refine' item_two ?k1 ?k2 ?k3 ?k4 ?k5 ?k7 ?k8 ?_ ?k6; (case k1 => k_asm); (case k2 => exact rfl); (case k3 => exact rfl); (case k4 => assumption); (case k5 => assumption); (case k6 => with_unfolding_all rfl); (case k7 => with_unfolding_all rfl); (case k8 => with_unfolding_all rfl); k_whole; intro b' t' hb'; (try dsimp only))))
local macro_rules | `(tactic| walk_at "pyIter ref") => `(tactic| (refine Halt.out ?_))
theorem law_holds : PySem.Challenge.rw_nz0114_01.Holds := hd (by
  w_strict (k_go0
            rename_i w s₀ s₁ mg mb G Y fa o pm doc ho hg KX X V GL KT B TE TW _ _ M _ _ hcd ns hs hlay0 hL1 hr1 hl2 _ _ l xs _ hL ra w1 r0 hI hr hc1 hc2 K0 hD h₁ tk₁ F o1 o2 o3 left1 left0 right N0 X0
            have e1 : o1.data = .cell none := by rw [left1]; rfl
            have e2 : o2.data = .cell none := by rw [left0]; rfl
            have e3 : o3.data = .cell none := by rw [right]; rfl
            clear left1 left0 right
            have hlen : ns.length ≤ 63 := by omega
            clear hcd hD G Y X V GL B TE TW M hs hlay0 hL1 hr1 hl2 ra w1 r0 hr hc2 X0 hc1
            have K1 : Below callerA s₁.heap [] s₁.heap := K0
            clear K0
            obtain ⟨L, hLs⟩ : ∃ L, L = s₁.heap.objs.size := ⟨_, rfl⟩
            rw [← hLs] at F N0 ⊢
            k_steps
            refine Halt.goOn ?_
            k_dflt (refine' source_use K1 F KX KT ?k5 ?k6 ?k7 (hL.at fun o e => F.keep _ o e) hI hlen ?_; (case k5 => exact rfl); (case k6 => ktr_room); (case k7 => ktr_units))
            intro src cl xs' ns' k t tk' h' kp nsrc ncl hne esrc hcl hI' hp1 hp2
            obtain ⟨ocl, ecl, hcl2⟩ : ∃ ocl, h'.get? cl = some ocl ∧ IsL ocl xs' := by
              obtain ⟨ocl, ecl, r⟩ := hcl
              exact ⟨ocl, ecl, r⟩
            have F1 := fr_keep F kp
            have Na := news_new N0 F nsrc kp esrc
            have Nb := news_new N0 F ncl kp ecl
            obtain ⟨X, hX⟩ : ∃ X, X = [(cl, ocl)] := ⟨_, rfl⟩
            have N1 : News s₁.heap L h' ((src, listOf #[.ref cl, .int 0 t] k) :: (L + 1 + 1 + 1, o1) :: (L + 1 + 1, o2) :: (L + 1, o3) :: X) := by
              subst hX
              intro p hp
              rcases List.mem_append.mp (show p ∈ [(src, listOf #[.ref cl, .int 0 t] k), (L + 1 + 1 + 1, o1), (L + 1 + 1, o2), (L + 1, o3)] ++ [(cl, ocl)] from hp) with hp | hp
              · exact Na p hp
              · cases List.mem_singleton.mp hp
                exact Nb _ (.head _)
            have q1 : (L + 1 + 1 + 1 : Nat) ≠ src := by intro e; have := (N0 _ (.head _)).1; rw [e, nsrc] at this; cases this
            have q2 : (L + 1 + 1 : Nat) ≠ src := by intro e; have := (N0 _ (.tail _ (.head _))).1; rw [e, nsrc] at this; cases this
            have q3 : (L + 1 : Nat) ≠ src := by intro e; have := (N0 _ (.tail _ (.tail _ (.head _)))).1; rw [e, nsrc] at this; cases this
            have x1 : Off X (L + 1 + 1 + 1) := by subst hX; exact Off.cons (by intro e; have e' : cl = L + 1 + 1 + 1 := e; have := (N0 _ (.head _)).1; rw [← e', ncl] at this; cases this) Off.nil
            have x2 : Off X (L + 1 + 1) := by subst hX; exact Off.cons (by intro e; have e' : cl = L + 1 + 1 := e; have := (N0 _ (.tail _ (.head _))).1; rw [← e', ncl] at this; cases this) Off.nil
            have x3 : Off X (L + 1) := by subst hX; exact Off.cons (by intro e; have e' : cl = L + 1 := e; have := (N0 _ (.tail _ (.tail _ (.head _)))).1; rw [← e', ncl] at this; cases this) Off.nil
            have x4 : Off X src := by subst hX; exact Off.cons hne Off.nil
            have lX : ListIn X cl xs' := by subst hX; exact ⟨ocl, .head _, hcl2⟩
            clear hX Na Nb kp nsrc ncl hne esrc hcl ecl hcl2 N0 F
            dsimp only
            k_steps
            rename_i v9 _ _ _ _ _ v0 v1 h8 F9 N9
            obtain ⟨n, hn⟩ : ∃ n : Nat, 2 + v9 = (n : Int) := ⟨(2 + v9).toNat, by omega⟩
            have hn2 : 2 ≤ n := by omega
            have hn7 : n ≤ 7 := by omega
            rw [hn] at F9
            clear v0 v1 hn
            refine Halt.goOn ?_
            refine hideQ fun QQ hQQ => ?_
            refine ListComp_obj (cl := []) (by with_unfolding_all rfl) (by decide) rfl (by decide) (by with_unfolding_all rfl) ?_ (fun _ => by with_unfolding_all rfl)
            k_steps
            refine Halt.goOn ?_
            rename_i rg F8 N8 _
            dsimp only at rg F8 N8

            refine' infos_range (n := n) ?c1 ?rg ?c2 ?c3 ?_ ?_
            case rg => exact rg
            case c1 => rfl
            case c2 => rfl
            case c3 => omega
            · intro C i t s₃ m₃ E' hC hi hns hm hk
              have FL := fr_keep F8 hk
              have F3 : Fr s₁.heap C s₃.heap m₃ := ⟨hns, fun b o e => hk b o (F8.keep b o e), Nat.le_trans F8.above (Nat.le_trans (Nat.le_of_lt F8.ns.lt) hC)⟩
              have N3 : News s₁.heap C s₃.heap [] := News.nil
              clear F8 N8 rg
              k_steps
              refine Halt.goOn ?_

              k_dflt (refine' info_use K1 FL KX KT ?c4 ?c5 ?c6 ?_; (case c4 => exact rfl); (case c5 => ktr_room); (case c6 => ktr_units))
              intro z dz od tk' h' kp ez edz d nz ndz _
              exact ⟨⟨h', _, rfl, kp⟩, z, dz, od, rfl, ez, edz, d, nz, ndz⟩
            · intro D h' tk as ds os eD hl1 has hds J DA hk
              obtain ⟨X', N1, F1, RI, sX, x1', x2', x3', x4', oX, y1, y2, y3, y4⟩ := row_ledger F8 N8 hk eD hl1 has hds DA x4 x1 x2 x3
              replace lX := lX.sub sX
              clear rg F8 N8 eD hl1 has hds hk sX x1 x2 x3 x4
              refine hQQ _ _ ?_
              clear hQQ
              have nc1 : (L + 1 + 1 + 1 : Nat) ≠ L + 1 + 1 := by omega
              have nc2 : (L + 1 + 1 + 1 : Nat) ≠ L + 1 := by omega
              have nc3 : (L + 1 + 1 : Nat) ≠ L + 1 := by omega
              refine stCN (own := [(src, _), (L + 1 + 1 + 1, o1), (L + 1 + 1, o2)]) F1 N1 rfl e3 ?_ ?_ ?_
              · exact Off.cons (Ne.symm q3) (Off.cons nc2 (Off.cons nc3 Off.nil))
              · exact Off.app (off_dl y4) x4'
              intro h9 o9 F9 N9 e9
              clear F1 N1 e3
              simp only [List.cons_append, List.nil_append] at N9
              dsimp only
              k_steps
              refine Halt.goOn ?_
              rename_i rg F8 N8 _
              dsimp only at rg F8 N8
              refine' iter_rangeJ (n := n) (drawJ src cl (L + 1 + 1 + 1) (L + 1 + 1) (L + 1) o1 o2 o9 n ds X') ?c1 ?rg ?c2 ?c3 F8 N8 ?c4 ?_ ?_
              case c1 => rfl
              case rg => exact rg
              case c2 => rfl
              case c3 => omega
              case c4 => exact ⟨1, _, _, _, _, _, rfl, by omega, by omega, DA, valid_zero, bonds_zero, by with_unfolding_all rfl, by with_unfolding_all rfl⟩
              · rintro i ti m₁ nx h tk own hi hoff ⟨a, ta, ka, osi, sti, tn, rfl, ha0, ha1, di, Vi, Bi, hm1, hm2⟩ Fi Ni
                obtain ⟨w1, w2, w3, w4, w5⟩ := own_off hoff
                simp only [List.cons_append, List.append_assoc] at Ni
                have z1 : Off X' src := x1'
                have hin : ((i : Nat) : Int) < (n : Int) := by omega
                rw [canon2 (m := m₁) hm1 hm2] at Fi
                clear F8 N8 DA rg
                k_steps
                all_goals
                  rename_i F8 N8 d8
                  try simp only [put_same, put_put] at d8
                  refine drawJ_end F8 N8 d8 (valid_put Vi hi ?_) (bonds_put Bi (by first | exact Bi i hi | assumption)) (by omega) (by omega) (by with_unfolding_all rfl) (by with_unfolding_all rfl)
                  first
                    | exact fun hp => Vi i hi hp
                    | exact fun _ => goal_in1 (by omega)
                    | exact fun _ => goal_in2 hi (by omega)
              · rintro m₁ nx h tk ⟨a, ta, ka, os, st, tn, rfl, ha0, ha1, di, Vi, Bi, hm1, hm2⟩ Fi Ni
                rw [canon2 (m := m₁) hm1 hm2] at Fi
                clear rg F8 N8 DA

                dsimp only
                k_steps
                refine Halt.goOn ?_
                rename_i vc _ _ _ _ _ vc0 vc1 _ _ vp _ _ _ _ _ vp0 vp1 _ _ vh _ _ _ _ _ vh0 vh1 h8 F8 N8
                obtain ⟨c, rfl⟩ : ∃ c : Nat, vc = (c : Int) := Int.eq_ofNat_of_zero_le vc0
                have hc : c < n := by omega
                obtain ⟨p, hp⟩ : ∃ p : Nat, ((c : Int) + 1 + vp).fmod (n : Int) = (p : Int) := Int.eq_ofNat_of_zero_le (fmod_in (by omega)).1
                have hpn : p < n := by have := (@fmod_in ((c : Int) + 1 + vp) n (by omega)).2; omega
                have hpc : p ≠ c := ne_goal hn2 hn7 hc vp0 vp1 hp
                rw [hp] at F8
                obtain ⟨m2, F9⟩ := reads4 (x1 := Str.ofString "size") (x2 := Str.ofString "child") (x3 := Str.ofString "parent") (x4 := Str.ofString "height") F8 (by with_unfolding_all rfl) (by with_unfolding_all rfl) (by with_unfolding_all rfl) (by with_unfolding_all rfl)
                obtain ⟨y, hy⟩ : ∃ y : Int, y = vh - 20 := ⟨_, rfl⟩
                rw [← hy] at F9
                have Y : Lay L n as ds D X' := ⟨RI, J, x2', x3', x4', oX, y2, y3, y4⟩
                have N9 : News s₁.heap L h8 (led L o1 o2 o9 n ds os X') := Mine.News.only N8 (Sub.cons Sub.refl)
                clear F8 N8 hy vh0 vh1 vp0 vp1 vc0 vc1 hp lX q1 q2 q3 hI' hp1 hp2 x1' x2' x3' x4' oX y1 y2 y3 y4 RI J hm1 hm2 ha0 ha1
                k_dflt (refine' parents_use K1 F9 KX KT ?c5 ?c6 ?c7 (Y.R.at N9 sub_led) (dictsAt_news N9 sub_dl di) Vi ?c8 ?_; (case c5 => exact rfl); (case c6 => ktr_room); (case c7 => ktr_units); (case c8 => exact hn7))
                intro qb yb tk' h10 kp nq hqb hob
                obtain ⟨X2, N10, Y2, sX2, lb⟩ := Y.addL F9 N9 kp nq hqb
                have F10 := fr_keep F9 kp
                clear F9 N9 Y kp nq hqb
                refine stCN (own := [(L + 1 + 1 + 1, o1)]) F10 N10 rfl e2 ?_ ?_ ?_
                · exact Off.cons nc1 Off.nil
                · exact Off.cons (Ne.symm nc3) (Off.app (off_dl Y2.yB) Y2.xB)
                intro h11 oB F11 N11 eB
                clear F10 N10 e2
                simp only [List.cons_append, List.nil_append] at N11
                dsimp only
                k_steps
                refine Halt.goOn ?_
                refine hideQ fun QQ hQQ => ?_
                refine Assign_ListComp_obj (cl := []) (by with_unfolding_all rfl) (by with_unfolding_all rfl) (by decide) rfl (by decide) (by with_unfolding_all rfl) (by with_unfolding_all rfl) (by with_unfolding_all rfl) ?_ (fun _ => by with_unfolding_all rfl)
                k_steps
                refine Halt.goOn ?_
                refine' kept_list (n := n) (as := as) (st := st) ?c1 ?c2 ?c3 F11.ns ?_ ?_
                case c1 => rfl
                case c2 => exact Y2.R.list.at N11 sub_led
                case c3 => omega
                · intro C i s₃ m₃ E' hC hi hns hm hk
                  have F3 : Fr s₁.heap C s₃.heap m₃ := ⟨hns, fun b o e => hk b o (F11.keep b o e), Nat.le_trans F11.above (Nat.le_trans (Nat.le_of_lt F11.ns.lt) hC)⟩
                  have N3 : News s₁.heap C s₃.heap [] := News.nil
                  have NL := news_keep N11 hk
                  have R3 := Y2.R.at NL sub_led
                  have D3 := dictsAt_news NL sub_dl di
                  clear F11 N11
                  have mark : Halt True := trivial
                  k_steps
                  refine Halt.goOn ?_
                  refine wpAny_newTuple ?_
                  refine ⟨⟨_, _, rfl, fun b o e => Heap.get?_push_of_some _ e⟩, _, _, rfl, Heap.get?_push_size _ rfl, ⟨_, _, _, _, rfl, rfl⟩, ?_⟩
                  exact Heap.get?_none_of_le (Nat.le_refl _)
                · intro qk h12 tk tp ot eqk hqk htp hns12 hk12
                  obtain ⟨ok, ek, rk⟩ := hqk
                  obtain ⟨N12, Y3⟩ := Y2.addAll (new := (qk, ok) :: (List.range n).map fun i => (tp i, ot i)) F11 N11 hk12 (by
                    intro p hp
                    rcases List.mem_cons.mp hp with rfl | hp
                    · exact ⟨eqk, ek⟩
                    · obtain ⟨i, hi, rfl⟩ := List.mem_map.mp hp
                      have := htp i (List.mem_range.mp hi)
                      exact ⟨this.2.1, this.1⟩)
                  have F12 := fr_ns F11 hk12 hns12
                  obtain ⟨X3, hX3⟩ : ∃ X3, X3 = ((qk, ok) :: (List.range n).map fun i => (tp i, ot i)) ++ X2 := ⟨_, rfl⟩
                  have sX3 : Sub X2 X3 := hX3 ▸ Sub.right Sub.refl
                  have kI : KeptIn X3 qk n st := ⟨tp, ot, ⟨ok, hX3 ▸ .head _, rk⟩, fun i hi => ⟨hX3 ▸ .tail _ (List.mem_append_left _ (List.mem_map.mpr ⟨i, List.mem_range.mpr hi, rfl⟩)), (htp i hi).2.2⟩⟩
                  rw [← hX3] at N12 Y3
                  replace lb := lb.sub sX3
                  clear hX3 sX3 Y2 F11 N11 hk12 hns12 htp eqk ek rk sX2
                  refine hQQ _ _ ?_
                  clear hQQ
                  dsimp only
                  k_steps
                  refine Halt.goOn ?_
                  refine hideQ fun QQ hQQ => ?_
                  refine wpAny_ListComp_free (cl := [(Str.ofString "before", L + 1 + 1)]) (liftP (notEnds (nextOf st))) (liftF ItIs) (by with_unfolding_all rfl) (by decide) rfl (by decide) (by with_unfolding_all rfl) ?_ (fun _ => by with_unfolding_all rfl)
                  k_steps
                  refine Halt.goOn ?_
                  rename_i rg F13 N13 _
                  dsimp only at rg F13 N13
                  refine' comp_range (n := n) (notEnds (nextOf st)) ItIs ?c1 ?c2 ?c3 ?c4 ?_ ?_ ?_
                  case c1 => rfl
                  case c2 => exact rg
                  case c3 => rfl
                  case c4 => omega
                  · intro C i t s₃ m₃ E' hC hi hns hm hk
                    have FL := fr_keep F13 hk
                    have NL := news_keep N13 hk
                    have F3 : Fr s₁.heap C s₃.heap m₃ := ⟨hns, fun b o e => hk b o (F13.keep b o e), Nat.le_trans F13.above (Nat.le_trans (Nat.le_of_lt F13.ns.lt) hC)⟩
                    have N3 : News s₁.heap C s₃.heap [(L + 1 + 1, oB)] := by
                      intro q hq
                      cases List.mem_singleton.mp hq
                      have := NL _ (.tail _ (.head _))
                      exact ⟨this.1, Nat.ne_of_lt (Nat.lt_of_lt_of_le (Heap.lt_size (N13 _ (.tail _ (.head _))).1) hC), this.2.2⟩
                    refine test_one ?_
                    have lb3 := lb.at NL sub_led
                    clear rg F13 N13
                    k_steps
                    refine Halt.goOn ?_
                    k_dflt (refine' way_use K1 FL KX KT ?c5 ?c6 ?c7 lb3 hob hi hn7 ?_; (case c5 => exact rfl); (case c6 => ktr_room); (case c7 => ktr_units))
                    intro r q b ms cc tk' h' kp nq tup lst hms hlc hmem hcl hb
                    try dsimp only
                    k_steps
                    refine Halt.goOn ?_
                    refine item_tup (j := 1) (x := .bool b) tup (Nat.le_of_ble_eq_true rfl) (Nat.le_of_ble_eq_true rfl) rfl ?_ (by with_unfolding_all rfl)
                    k_steps
                    · exact notEnds_of hb
                    · exact ⟨_, _, rfl, kp⟩
                  · intro C i t s₃ m₃ E' hC hi _ hns hm hk
                    have F3 : Fr s₁.heap C s₃.heap m₃ := ⟨hns, fun b o e => hk b o (F13.keep b o e), Nat.le_trans F13.above (Nat.le_trans (Nat.le_of_lt F13.ns.lt) hC)⟩
                    have N3 : News s₁.heap C s₃.heap [] := News.nil
                    clear rg F13 N13
                    k_steps
                    · exact ⟨_, rfl⟩
                    · exact ⟨_, _, rfl, fun _ _ e => e⟩
                  · intro Dc h14 tk14 yc eDc hlc hPc hkc
                    obtain ⟨X4, N14, Y4, sX4, lc⟩ := Y3.addL F13 N13 hkc eDc hlc
                    have F14 := fr_keep F13 hkc
                    have hIc := ints_of_paired hPc
                    replace kI := kI.sub sX4
                    replace lb := lb.sub sX4
                    clear F13 N13 Y3 sX4 eDc hlc hPc hkc rg
                    refine hQQ _ _ ?_
                    clear hQQ
                    k_steps
                    refine Halt.goOn ?_
                    rename_i F15 N15 _
                    refine eq_intsK (vs := yc) (us := []) (lc.at N15 (Sub.cons sub_led)) hIc ⟨_, (N15 _ (.head _)).1, rfl, _, rfl⟩ .nil ?_ ?_
                    · units_room
                    obtain ⟨bf, hbf⟩ : ∃ b, b = decide ((((List.range n).filter (notEnds (nextOf st))).map Int.ofNat) = []) := ⟨_, rfl⟩
                    rw [← hbf]
                    replace hbf : bf = true ↔ Forest n st := by rw [hbf]; exact forest_iff
                    have N16 := Mine.News.only N15 (Sub.cons Sub.refl)
                    clear N15 lc hIc
                    k_steps
                    refine Halt.goOn ?_
                    rename_i F17 N17
                    k_dflt (refine' join_use K1 F17 KX KT ?c5 ?c6 ?c7 (Y4.R.at N17 sub_led) (dictsAt_news N17 sub_dl di) Vi hc hn7 ?_; (case c5 => exact rfl); (case c6 => ktr_room); (case c7 => ktr_units))
                    intro qj mj cj zj tkj h18 kp nq lst hmj Wj hzj
                    obtain ⟨X5, N18, Y5, sX5, lj⟩ := Y4.addL F17 N17 kp nq lst
                    have F18 := fr_keep F17 kp
                    replace kI := kI.sub sX5
                    replace lb := lb.sub sX5
                    clear F17 N17 Y4 sX5 kp nq lst
                    k_steps
                    refine Halt.goOn ?_
                    k_dflt (refine' way_use K1 F18 KX KT ?c5 ?c6 ?c7 (lb.at N18 sub_led) hob hpn hn7 ?_; (case c5 => exact rfl); (case c6 => ktr_room); (case c7 => ktr_units))
                    intro rw qw bw mw cw tkw h19 kp nq tup lst hmw hlw hmem hcl hbw
                    obtain ⟨X6, N19, Y6, sX6, lw⟩ := Y5.addL F18 N18 kp nq lst
                    have F19 := fr_keep F18 kp
                    replace kI := kI.sub sX6
                    replace lb := lb.sub sX6
                    replace lj := lj.sub sX6
                    clear F18 N18 Y5 sX6 kp nq lst
                    k_steps
                    refine Halt.goOn ?_
                    refine item_tup (j := 0) (x := .ref qw) tup (Nat.le_of_ble_eq_true rfl) (Nat.le_of_ble_eq_true rfl) rfl ?_ (by with_unfolding_all rfl)
                    k_steps
                    refine Halt.goOn ?_
                    refine kmk_add_ints F19 N19 (lj.at N19 sub_led) (lw.at N19 sub_led) hmj hmw ?_ ?_
                    rotate_left
                    · have := Wj.length_le
                      rw [PySem.sizeLine_eq, List.length_map, List.length_map]
                      omega
                    intro qm mm h20 F20 N20 lt20 hmm
                    obtain ⟨X7, N21, Y7, sX7, mq⟩ := Y6.front N20 lt20
                    have lm : ListIn X7 qm mm := ⟨_, mq, rfl, 0, rfl⟩
                    replace kI := kI.sub sX7
                    clear F19 N19 N20 lt20 lj lw lb sX7 mq Y6 hbw tup hmj hmw hlw
                    have mark : Halt (1 = 1) := rfl
                    k_steps
                    refine Halt.goOn ?_
                    rename_i F22 N22
                    clear mark
                    obtain ⟨m3, F23⟩ := reads7 (x1 := Str.ofString "size") (x2 := Str.ofString "child") (x3 := Str.ofString "parent") (x4 := Str.ofString "height") (x5 := Str.ofString "kept") (x6 := Str.ofString "is_forest") (x7 := Str.ofString "met") F22 (by with_unfolding_all rfl) (by with_unfolding_all rfl) (by with_unfolding_all rfl) (by with_unfolding_all rfl) (by with_unfolding_all rfl) (by with_unfolding_all rfl) (by with_unfolding_all rfl)
                    clear F22
                    refine mid_at F23 N22 ?_ ?_
                    · k_steps
                      · refine Halt.goOn ?_
                        have hf : Forest n st := hbf.mp (by assumption)
                        refine hideQ fun QQ hQQ => ?_
                        refine wpAny_ListComp_free (cl := [(Str.ofString "row", L + 1)]) (liftP fun _ => false) (liftF ItIs) (by with_unfolding_all rfl) (by decide) rfl (by decide) (by with_unfolding_all rfl) ?_ (fun _ => by with_unfolding_all rfl)
                        k_steps
                        refine Halt.goOn ?_
                        rename_i rg F13 N13 _
                        dsimp only at rg F13 N13
                        refine' comp_range (n := n) (fun _ => false) ItIs ?c1 ?c2 ?c3 ?c4 ?_ ?_ ?_
                        case c1 => rfl
                        case c2 => exact rg
                        case c3 => rfl
                        case c4 => omega
                        · intro C i t s₃ m₃ E' hC hi hns hm hk
                          have FL := fr_keep F13 hk
                          have NL := news_keep N13 hk
                          have F3 : Fr s₁.heap C s₃.heap m₃ := ⟨hns, fun b o e => hk b o (F13.keep b o e), Nat.le_trans F13.above (Nat.le_trans (Nat.le_of_lt F13.ns.lt) hC)⟩
                          have N3 : News s₁.heap C s₃.heap [(L + 1, o9)] := by
                            intro q hq
                            cases List.mem_singleton.mp hq
                            have := NL _ (.tail _ (.tail _ (.head _)))
                            exact ⟨this.1, Nat.ne_of_lt (Nat.lt_of_lt_of_le (Heap.lt_size (N13 _ (.tail _ (.tail _ (.head _)))).1) hC), this.2.2⟩
                          refine test_one ?_
                          clear rg F13 N13
                          k_steps
                          refine Halt.goOn ?_
                          k_dflt (refine' root_use K1 FL KX KT ?c5 ?c6 ?c7 (Y7.R.at NL sub_led) (dictsAt_news NL sub_dl di) Vi hi hn7 ?_; (case c5 => exact rfl); (case c6 => ktr_room); (case c7 => ktr_units))
                          intro z j u tk1 g1 kp1 hz hj hsteps hend
                          have FL1 := fr_keep FL kp1
                          have NL1 := news_keep NL kp1
                          have F31 := fr_keep F3 kp1
                          have N31 := news_keep N3 kp1
                          clear FL NL F3 N3
                          k_steps
                          refine Halt.goOn ?_
                          k_dflt (refine' join_use K1 FL1 KX KT ?c5 ?c6 ?c7 (Y7.R.at NL1 sub_led) (dictsAt_news NL1 sub_dl di) Vi hi hn7 ?_; (case c5 => exact rfl); (case c6 => ktr_room); (case c7 => ktr_units))
                          intro q ms cc z' tk2 g2 kp2 nq lst hms W hend2
                          have ez := root_joined Vi hi (hf i hi) hsteps hend W hend2
                          clear FL1 NL1 F31 N31
                          k_steps
                          refine Halt.goOn ?_
                          refine item_last lst hms W rfl ?_ (by with_unfolding_all rfl)
                          intro tz
                          k_steps
                          · rw [ez]; simp
                          · exact ⟨_, _, rfl, fun b o e => kp2 _ _ (kp1 _ _ e)⟩
                        · intro C i t s₃ m₃ E' hC hi hff
                          cases hff
                        · intro Dc h14 tk14 yc eDc hlc hPc hkc
                          have ey := none_paired hPc
                          subst ey
                          obtain ⟨X8, N14, Y8, sX8, lc⟩ := Y7.addL F13 N13 hkc eDc hlc
                          have F14 := fr_keep F13 hkc
                          clear F13 N13 Y8 eDc hlc hPc hkc rg
                          refine hQQ _ _ ?_
                          clear hQQ
                          k_steps
                          refine Halt.goOn ?_
                          rename_i F15 N15 _
                          refine ne_intsK (vs := []) (us := []) (lc.at N15 (Sub.cons sub_led)) .nil ⟨_, (N15 _ (.head _)).1, rfl, _, rfl⟩ .nil ?_ ?_
                          · units_room
                          have N16 := Mine.News.only N15 (Sub.cons (sub_led2 sX8))
                          clear N15
                          rw [show (!decide (([] : List Int) = [])) = false from rfl]
                          k_steps
                          exact ⟨_, _, rfl, by assumption, by assumption⟩
                      · exact ⟨_, _, rfl, by assumption, by assumption⟩
                    · rintro s' ⟨h25, tk25, rfl, F25, N25⟩
                      clear F23 N22
                      k_steps
                      refine Halt.goOn ?_
                      k_dflt (refine' tie_use K1 F25 KX KT ?c5 ?c6 ?c7 (Y7.R.at N25 sub_led) Y7.J (Mine.News.only N25 sub_dl) di Vi hc hpn hn7 ?_; (case c5 => exact rfl); (case c6 => ktr_room); (case c7 => ktr_units))
                      intro os1 st1 tk26 h26 M d1 TT
                      obtain ⟨F26, N26⟩ := Y7.turn F25 N25 M
                      have V1 := TT.valid hc hpn
                      have R7 := Y7.R
                      clear F25 N25 M di
                      k_steps
                      refine Halt.goOn ?_
                      rename_i F27 N27 _
                      refine ne_tup_same (x := st1 c) (N27 _ (.tail _ (.head _))).1 ⟨_, _, _, _, rfl, rfl⟩ (N27 _ (.head _)).1 (by rw [TT.at]; exact ⟨_, _, _, _, rfl, rfl⟩) (by rw [TT.at]; with_unfolding_all rfl) ?_ ?_
                      · units_room
                      have N28 := Mine.News.only N27 (Sub.cons (Sub.cons Sub.refl))
                      clear N27
                      k_steps
                      refine Halt.goOn ?_
                      k_dflt (refine' parents_use K1 F27 KX KT ?c5 ?c6 ?c7 (Y7.R.at N28 sub_led) (dictsAt_news N28 sub_dl d1) V1 ?c8 ?_; (case c5 => exact rfl); (case c6 => ktr_room); (case c7 => ktr_units); (case c8 => exact hn7))
                      intro qn yn tkn h30 kp nq hqn hon
                      obtain ⟨X8, N30, Y8, sX8, ln⟩ := Y7.addL F27 N28 kp nq hqn
                      have F30 := fr_keep F27 kp
                      replace kI := kI.sub sX8
                      replace lm := lm.sub sX8
                      have R8 := Y8.R
                      clear F27 N28 Y7 R7 sX8 kp nq hqn
                      refine stCN (own := []) F30 N30 rfl e1 ?_ ?_ ?_
                      · exact Off.nil
                      · exact Off.cons (Ne.symm nc1) (Off.cons (Ne.symm nc2) (Off.app (off_dl Y8.yN) Y8.xN))
                      intro h31 oN F31 N31 eN
                      simp only [List.nil_append] at N31
                      clear F30 N30 e1
                      have mark : Halt (1 = 1) := rfl
                      k_steps
                      refine Halt.goOn ?_
                      clear mark
                      refine mid_at F31 N31 ?_ ?_
                      · k_steps
                        · refine Halt.goOn ?_
                          have hf : Forest n st1 := TT.forest Vi hc hpn hpc (hbf.mp (by assumption))
                          refine hideQ fun QQ hQQ => ?_
                          refine wpAny_ListComp_free (cl := [(Str.ofString "now", L + 1 + 1 + 1)]) (liftP fun _ => false) (liftF ItIs) (by with_unfolding_all rfl) (by decide) rfl (by decide) (by with_unfolding_all rfl) ?_ (fun _ => by with_unfolding_all rfl)
                          k_steps
                          refine Halt.goOn ?_
                          rename_i rg F13 N13 _
                          dsimp only at rg F13 N13
                          refine' comp_range (n := n) (fun _ => false) ItIs ?c1 ?c2 ?c3 ?c4 ?_ ?_ ?_
                          case c1 => rfl
                          case c2 => exact rg
                          case c3 => rfl
                          case c4 => omega
                          · intro C i t s₃ m₃ E' hC hi hns hm hk
                            have FL := fr_keep F13 hk
                            have NL := news_keep N13 hk
                            have F3 : Fr s₁.heap C s₃.heap m₃ := ⟨hns, fun b o e => hk b o (F13.keep b o e), Nat.le_trans F13.above (Nat.le_trans (Nat.le_of_lt F13.ns.lt) hC)⟩
                            have N3 : News s₁.heap C s₃.heap [(L + 1 + 1 + 1, oN)] := by
                              intro q hq
                              cases List.mem_singleton.mp hq
                              have := NL _ (.head _)
                              exact ⟨this.1, Nat.ne_of_lt (Nat.lt_of_lt_of_le (Heap.lt_size (N13 _ (.head _)).1) hC), this.2.2⟩
                            refine test_one ?_
                            have ln3 := ln.at NL (sub_led (o1 := oN) (o2 := oB) (o3 := o9))
                            clear rg F13 N13
                            k_steps
                            refine Halt.goOn ?_
                            k_dflt (refine' way_use K1 FL KX KT ?c5 ?c6 ?c7 ln3 hon hi hn7 ?_; (case c5 => exact rfl); (case c6 => ktr_room); (case c7 => ktr_units))
                            intro r q b ms cc tk' h' kp nq tup lst hms hlc hmem hcl hb
                            try dsimp only
                            k_steps
                            refine Halt.goOn ?_
                            refine item_tup (j := 1) (x := .bool b) tup (Nat.le_of_ble_eq_true rfl) (Nat.le_of_ble_eq_true rfl) rfl ?_ (by with_unfolding_all rfl)
                            k_steps
                            · rw [hb.mpr (hf i hi)]; rfl
                            · exact ⟨_, _, rfl, kp⟩
                          · intro C i t s₃ m₃ E' hC hi hff
                            cases hff
                          · intro Dc h14 tk14 yc eDc hlc hPc hkc
                            have ey := none_paired hPc
                            subst ey
                            obtain ⟨X9, N14, Y9, sX9, lc⟩ := Y8.addL F13 N13 hkc eDc hlc
                            have F14 := fr_keep F13 hkc
                            clear F13 N13 Y9 eDc hlc hPc hkc rg
                            refine hQQ _ _ ?_
                            clear hQQ
                            k_steps
                            refine Halt.goOn ?_
                            rename_i F15 N15 _
                            refine ne_intsK (vs := []) (us := []) (lc.at N15 (Sub.cons sub_led)) .nil ⟨_, (N15 _ (.head _)).1, rfl, _, rfl⟩ .nil ?_ ?_
                            · units_room
                            have N16 := Mine.News.only N15 (Sub.cons (sub_led2 sX9))
                            clear N15
                            rw [show (!decide (([] : List Int) = [])) = false from rfl]
                            k_steps
                            exact ⟨_, _, rfl, by assumption, by assumption⟩
                        · exact ⟨_, _, rfl, by assumption, by assumption⟩
                      · rintro s' ⟨h35, tk35, rfl, F35, N35⟩
                        clear F31 N31
                        have hz7 : Halt (2 ≤ n ∧ n ≤ 7) := ⟨hn2, hn7⟩
                        clear hn2 hn7
                        k_steps
                        refine Halt.goOn ?_
                        rename_i rg F36 N36 _
                        have hn7 : n ≤ 7 := hz7.out.2
                        dsimp only at rg F36 N36
                        refine' iter_rangeJ (n := n) (lawJ qk qm (led L oN oB o9 n ds os1 X8)) ?c1 ?c2 ?c3 ?c4 F36 N36 ?c5 ?_ ?_
                        case c1 => rfl
                        case c2 => exact rg
                        case c3 => rfl
                        case c4 => omega
                        case c5 => exact ⟨rfl, by with_unfolding_all rfl, by with_unfolding_all rfl⟩
                        · rintro i ti m₁ nx h tk own hi hoff ⟨rfl, hm1, hm2⟩ Fi Ni
                          simp only [led, List.cons_append, List.append_assoc] at Ni
                          rw [canon2 (m := m₁) hm1 hm2] at Fi
                          clear F36 N36 rg
                          k_steps
                          refine Halt.goOn ?_
                          have en : cj.map Int.ofNat ++ cw.map Int.ofNat = (cj ++ cw).map Int.ofNat := by simp
                          refine notin_list_ints (lm.at Ni (Sub.cons (Sub.cons (Sub.cons (Sub.right (Sub.left Sub.refl)))))) hmm ?_
                          obtain ⟨bi, hbi⟩ : ∃ b, b = !((cj.map Int.ofNat ++ cw.map Int.ofNat).any (· == (i : Int))) := ⟨_, rfl⟩
                          rw [← hbi]
                          have hn1 : Sub (led L oN oB o9 n ds os1 X8) (led L oN oB o9 n ds os1 (X8 ++ own)) := sub_led2 (Sub.left Sub.refl)
                          have ho1 : Sub own (led L oN oB o9 n ds os1 (X8 ++ own)) := Sub.trans (Sub.right Sub.refl) sub_led
                          cases bi with
                          | false =>
                            clear hbi
                            k_steps
                            exact InvEndN.intro Fi Ni (nx := led L oN oB o9 n ds os1 X8) ⟨rfl, by with_unfolding_all rfl, by with_unfolding_all rfl⟩ rfl hn1 ho1
                          | true =>
                            have hnot := (not_any en).mp hbi.symm
                            have eo : st1 i = st i := by
                              refine TT.off (fun r => hnot (List.mem_append_left _ ?_)) (fun r => hnot (List.mem_append_right _ ?_))
                              · refine reach_closed (S := fun x => x ∈ cj) ?_ Wj.mem_first r
                                intro x y hx hy
                                rcases hzj with hz | ⟨y', hy', hz⟩
                                · exact Wj.closed_end hz x y hx hy
                                · exact Wj.closed_ring hz hy' x y hx hy
                              · exact reach_closed (S := fun x => x ∈ cw) hcl hmem r
                            clear hbi
                            k_steps
                            refine Halt.goOn ?_
                            rename_i F40 N40 l40 t40 ob40 e40 d40
                            refine ne_tup_same (x := st i) (N40 _ (.head _)).1 (by rw [← eo]; exact ⟨_, _, _, _, rfl, rfl⟩) e40 d40 (Bi i hi) ?_ ?_
                            · units_room
                            k_steps
                            exact InvEndN.intro F40 N40 (nx := led L oN oB o9 n ds os1 X8) ⟨rfl, by with_unfolding_all rfl, by with_unfolding_all rfl⟩ rfl (Sub.cons hn1) (Sub.cons ho1)
                        · rintro m₁ nx h tk ⟨rfl, hm1, hm2⟩ Fi Ni
                          clear F36 N36 rg
                          dsimp only
                          k_steps))
end Mine

end NzLaw

set_option maxRecDepth 100000 in
set_option maxHeartbeats 8000000 in
theorem PySem.Challenge.cw_nz0114_01_holds : PySem.Challenge.rw_nz0114_01.Holds := by
  exact Mine.law_holds
