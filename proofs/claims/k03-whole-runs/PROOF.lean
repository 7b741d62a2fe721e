import PyProof.Rows.All
import Wide.All
import OpenK.AllK
import Wide.FinOn
import HandS.ForMost
import HandS.Walk
import HandS.IsInst
import HandS.TupAny
import HandS.Codes
import KE.GoesMore
import PySem.Challenge.RW_taprows_k03_whole_runs
set_option Elab.async false
set_option linter.all false
set_option maxRecDepth 100000
set_option maxHeartbeats 4000000
/-! Taprows, law k03: the plain mathematics (no program in sight). -/
namespace Tap
/-- the products of the taps with the numbers behind, the nearest first -/
def prods (taps row : List Int) : List Int := List.zipWith (· * ·) taps row.reverse
/-- the number behind a row -/
def nx (p : Int) (taps row : List Int) : Int := (prods taps row).sum % p
/-- a row that goes on for n more numbers -/
def ext (p : Int) (taps row : List Int) : Nat → List Int
  | 0 => row
  | n + 1 => ext p taps row n ++ [nx p taps (ext p taps row n)]
/-- the first c numbers of a register -/
def runL (p : Int) (taps st : List Int) (c : Nat) : List Int := (ext p taps st (c - st.length)).take c
/-- all are numbers modulo p -/
def Nums (p : Int) (l : List Int) : Prop := ∀ x ∈ l, 0 ≤ x ∧ x < p
/-- the row goes on at k -/
def Fits (p : Int) (taps row : List Int) (k : Nat) : Prop := row[k]? = some (nx p taps (row.take k))
/-- b is the first place from j on at which the row does not go on -/
def Due (p : Int) (taps row : List Int) (j : Nat) : Option Nat → Prop
  | none => ∀ k, j ≤ k → k < row.length → Fits p taps row k
  | some b => j ≤ b ∧ b < row.length ∧ ¬ Fits p taps row b ∧ ∀ k, j ≤ k → k < b → Fits p taps row k

theorem nx_nums {p : Int} (hp : 0 < p) (taps row : List Int) : 0 ≤ nx p taps row ∧ nx p taps row < p :=
  ⟨Int.emod_nonneg _ (by omega), Int.emod_lt_of_pos _ hp⟩
theorem Nums.append {p : Int} {a b : List Int} (h : Nums p a) (k : Nums p b) : Nums p (a ++ b) := fun x hx =>
  (List.mem_append.mp hx).elim (h x) (k x)
theorem Nums.one {p x : Int} (h : 0 ≤ x ∧ x < p) : Nums p [x] := fun y hy => by
  rw [List.mem_singleton.mp hy]; exact h
theorem Nums.take {p : Int} {a : List Int} (h : Nums p a) (n : Nat) : Nums p (a.take n) := fun x hx => h x (List.mem_of_mem_take hx)
theorem Nums.drop {p : Int} {a : List Int} (h : Nums p a) (n : Nat) : Nums p (a.drop n) := fun x hx => h x (List.mem_of_mem_drop hx)
theorem Nums.nil {p : Int} : Nums p [] := fun _ h => nomatch h
theorem Nums.get {p : Int} {a : List Int} (h : Nums p a) {i : Nat} {x : Int} (e : a[i]? = some x) : 0 ≤ x ∧ x < p := h x (List.mem_of_getElem? e)

theorem ext_length (p : Int) (taps row : List Int) : ∀ n, (ext p taps row n).length = row.length + n
  | 0 => rfl
  | n + 1 => by
    show (ext p taps row n ++ [nx p taps (ext p taps row n)]).length = _
    rw [List.length_append, ext_length p taps row n, List.length_singleton]; omega
theorem ext_nums {p : Int} (hp : 0 < p) {taps row : List Int} (h : Nums p row) : ∀ n, Nums p (ext p taps row n)
  | 0 => h
  | n + 1 => (ext_nums hp h n).append (.one (nx_nums hp _ _))
theorem ext_take (p : Int) (taps row : List Int) : ∀ n m, m ≤ n → (ext p taps row n).take (row.length + m) = ext p taps row m
  | 0, m, h => by
    have e : m = 0 := by omega
    subst e
    show row.take (row.length + 0) = row
    rw [Nat.add_zero, List.take_length]
  | n + 1, m, h => by
    by_cases e : m = n + 1
    · subst e
      rw [← ext_length p taps row (n + 1), List.take_length]
    · show (ext p taps row n ++ [nx p taps (ext p taps row n)]).take (row.length + m) = _
      rw [List.take_append_of_le_length (by rw [ext_length]; omega)]
      exact ext_take p taps row n m (by omega)
theorem ext_get (p : Int) (taps row : List Int) : ∀ n i, i < n → (ext p taps row n)[row.length + i]? = some (nx p taps (ext p taps row i))
  | 0, i, h => absurd h (Nat.not_lt_zero _)
  | n + 1, i, h => by
    show (ext p taps row n ++ [nx p taps (ext p taps row n)])[row.length + i]? = _
    by_cases e : i = n
    · subst e
      rw [← ext_length p taps row i, List.getElem?_concat_length]
    · rw [List.getElem?_append_left (by rw [ext_length]; omega)]
      exact ext_get p taps row n i (by omega)

theorem runL_length (p : Int) (taps st : List Int) (c : Nat) : (runL p taps st c).length = c := by
  unfold runL
  rw [List.length_take, ext_length]; omega
theorem runL_nums {p : Int} (hp : 0 < p) {taps st : List Int} (h : Nums p st) (c : Nat) : Nums p (runL p taps st c) := (ext_nums hp h _).take _
/-- the row of a register goes on by its taps -/
theorem runL_fits (p : Int) (taps st : List Int) (c k : Nat) (hk : st.length ≤ k) (hc : k < c) : Fits p taps (runL p taps st c) k := by
  have e : runL p taps st c = ext p taps st (c - st.length) := by
    unfold runL
    exact List.take_of_length_le (by rw [ext_length]; omega)
  obtain ⟨i, rfl⟩ : ∃ i, k = st.length + i := ⟨k - st.length, by omega⟩
  unfold Fits
  rw [e, ext_get _ _ _ _ _ (by omega), ext_take _ _ _ _ _ (by omega)]
theorem runL_due (p : Int) (taps st : List Int) (c : Nat) (h : st.length = taps.length) : Due p taps (runL p taps st c) taps.length none := fun k h1 h2 => by
  rw [runL_length] at h2
  exact runL_fits p taps st c k (by omega) h2

theorem Due.inj {p : Int} {taps row : List Int} {j : Nat} : ∀ {a b : Option Nat}, Due p taps row j a → Due p taps row j b → a = b
  | none, none, _, _ => rfl
  | none, some _, h, ⟨h1, h2, h3, _⟩ => absurd (h _ h1 h2) h3
  | some _, none, ⟨h1, h2, h3, _⟩, h => absurd (h _ h1 h2) h3
  | some a, some b, ⟨a1, a2, a3, a4⟩, ⟨b1, b2, b3, b4⟩ => by
    have : ¬ a < b := fun h => a3 (b4 a a1 h)
    have : ¬ b < a := fun h => b3 (a4 b b1 h)
    have : a = b := by omega
    rw [this]
/-- one place further down -/
theorem Due.down_fits {p : Int} {taps row : List Int} {k : Nat} (f : Fits p taps row k) : ∀ {d : Option Nat}, Due p taps row (k + 1) d → Due p taps row k d
  | none, h => fun i h1 h2 => by
    by_cases e : i = k
    · rw [e]; exact f
    · exact h i (by omega) h2
  | some b, ⟨h1, h2, h3, h4⟩ => ⟨by omega, h2, h3, fun i i1 i2 => by
      by_cases e : i = k
      · rw [e]; exact f
      · exact h4 i (by omega) i2⟩
theorem Due.down_bent {p : Int} {taps row : List Int} {k : Nat} (f : ¬ Fits p taps row k) (hk : k < row.length) : Due p taps row k (some k) :=
  ⟨Nat.le_refl _, hk, f, fun i h1 h2 => absurd h1 (by omega)⟩
theorem Due.start (p : Int) (taps row : List Int) {j : Nat} (h : row.length ≤ j) : Due p taps row j none := fun k h1 h2 => by omega

/-- one number of a row that goes on is changed -/
theorem Due.bent {p : Int} {taps row : List Int} {k : Nat} {x y : Int} (hk : k < row.length) (hx : row[k]? = some x) (hy : y ≠ x) {j : Nat} (hj : j ≤ k) (h : Due p taps row j none) :
    Due p taps (row.take k ++ [y] ++ row.drop (k + 1)) j (some k) := by
  have hlen : (row.take k).length = k := by rw [List.length_take]; omega
  have tk : ∀ i, i ≤ k → (row.take k ++ [y] ++ row.drop (k + 1)).take i = row.take i := fun i hi => by
    rw [List.append_assoc, List.take_append_of_le_length (by omega), List.take_take]
    congr 1; omega
  have gt : ∀ i, i < k → (row.take k ++ [y] ++ row.drop (k + 1))[i]? = row[i]? := fun i hi => by
    rw [List.append_assoc, List.getElem?_append_left (by omega), List.getElem?_take, if_pos hi]
  refine ⟨hj, ?_, fun f => ?_, fun i h1 h2 => ?_⟩
  · rw [List.length_append, List.length_append, hlen, List.length_singleton]; omega
  · have e : (row.take k ++ [y] ++ row.drop (k + 1))[k]? = some y := by
      rw [List.append_assoc, List.getElem?_append_right (by omega), hlen, Nat.sub_self]; rfl
    have f' : (row.take k ++ [y] ++ row.drop (k + 1))[k]? = some (nx p taps ((row.take k ++ [y] ++ row.drop (k + 1)).take k)) := f
    rw [e, tk k (Nat.le_refl _)] at f'
    have g : row[k]? = some (nx p taps (row.take k)) := h k hj hk
    rw [← f', hx] at g
    exact hy (Option.some.inj g).symm
  · show _ = _
    rw [gt i h2, tk i (by omega)]
    exact h i h1 (by omega)
theorem bent_length {row : List Int} {k : Nat} {y : Int} (hk : k < row.length) : (row.take k ++ [y] ++ row.drop (k + 1)).length = row.length := by
  rw [List.length_append, List.length_append, List.length_take, List.length_singleton, List.length_drop]; omega
theorem bent_nums {p : Int} {row : List Int} {k : Nat} {y : Int} (h : Nums p row) (hy : 0 ≤ y ∧ y < p) : Nums p (row.take k ++ [y] ++ row.drop (k + 1)) :=
  ((h.take k).append (.one hy)).append (h.drop _)
/-- the changed number is another one -/
theorem bent_ne {p x t : Int} (hx : 0 ≤ x ∧ x < p) (ht : 0 ≤ t ∧ t < p - 1) : (x + 1 + t) % p ≠ x := fun e => by
  by_cases h : x + 1 + t < p
  · rw [Int.emod_eq_of_lt (by omega) h] at e; omega
  · have e2 : (x + 1 + t) % p = (x + 1 + t - p) % p := by
      rw [Int.sub_emod_right]
    rw [e2, Int.emod_eq_of_lt (by omega) (by omega)] at e; omega

theorem prods_length {taps row : List Int} (h : taps.length ≤ row.length) : (prods taps row).length = taps.length := by
  unfold prods
  rw [List.length_zipWith, List.length_reverse]; omega
/-- the i-th product over the first k numbers of a row -/
theorem prods_get {taps row : List Int} {i k : Nat} {t x : Int} (ht : taps[i]? = some t) (hik : i < k) (hk : k ≤ row.length) (hx : row[k - 1 - i]? = some x) : (prods taps (row.take k))[i]? = some (t * x) := by
  unfold prods
  have e : (row.take k).reverse[i]? = some x := by
    rw [List.getElem?_reverse (by rw [List.length_take]; omega), List.length_take, List.getElem?_take, if_pos (by omega), ← hx]
    congr 1; omega
  rw [List.getElem?_zipWith, ht, e]
theorem take_snoc {α : Type} {l : List α} {i : Nat} {x : α} (h : l[i]? = some x) : l.take i ++ [x] = l.take (i + 1) := by
  rw [List.take_add_one, h]; rfl
end Tap

/-! Taprows, law k03: one rule that the hand layer lacks: for i, x in enumerate(t) where t is a tuple. -/
namespace Tap
open PySem PySem.Spec PyProof.Rows L2
set_option maxHeartbeats 1000000 in
/-- enumerate(v) with one argument, v anything that begins -/
theorem enum_new1 {v : Value} {ob : Obj} {G : Heap → Prop} (B : Begins v ob G) :
    Meets (Builtin.«enumerate.__new__» ⟨[.type "enumerate", v], []⟩) fun _ R z => G z.heap ∧
      R (.ok (.ret (.ref (z.heap.push ob).objs.size))) { z with heap := (z.heap.push ob).push { cls := .type "enumerate", data := .fields #[.none, .bool false, .ref z.heap.objs.size, rawInt 0, .none, .none] } } :=
  .of_wp fun prog w A R z hz => by
    obtain ⟨hp, gg, dd, tt, oo⟩ := z; obtain ⟨hG, hz⟩ := hz; have hsub := sub_enumerate
    have it : ∀ {A' : Around} {E Q : Value → Shared → Prop}, Q (.ref hp.objs.size) ⟨hp.push ob, gg, dd, tt, oo⟩ → wpAny (model prog w) A' (pyIter v) Q E ⟨hp, gg, dd, tt, oo⟩ := fun q => B.iter prog w _ _ ⟨hp, gg, dd, tt, oo⟩ _ hG q
    wp_walk using it
    refine wpAny_stack_any fun st => wpAny_pure ?_
    split
    · rename_i c _ _ _ _ _; cases (c == Value.type "enumerate") <;> (wp_walk using it; exact ⟨_, rfl, hz⟩)
    · wp_walk using it; exact ⟨_, rfl, hz⟩
section
variable {prog : Program} {w : World} {A : Around} {E : Value → Shared → Prop} {z : Shared}
/-- enumerate(v): its two new cells -/
theorem enum_make1 {v : Value} {ob : Obj} {G : Heap → Prop} {Q : Value → Shared → Prop} (B : Begins v ob G) (hG : G z.heap)
    (h : ∀ g, IsEnum g (z.heap.objs.size + 1) z.heap.objs.size 0 .none → g.get? z.heap.objs.size = some ob → (∀ b u, z.heap.get? b = some u → g.get? b = some u) → Q (.ref (z.heap.objs.size + 1)) { z with heap := g }) :
    wpAny (model prog w) A (PySem.call (.type "enumerate") [v]) Q E z := by
  refine callType_new F.called_enumerate (by decide) (F.typeCall_enumerate_1 _) (F.newCall_enumerate_1 _) (fun obj => F.args_object_init_2 obj _) F.entry_enumerate_new (enum_new1 B) ⟨hG, ?_⟩
  have e1 : (z.heap.push ob).objs.size = z.heap.objs.size + 1 := Heap.size_push ..
  show _ ∧ _
  rw [e1]
  have e2 := Heap.get?_push_size (z.heap.push ob) (o := { cls := .type "enumerate", data := .fields #[.none, .bool false, .ref z.heap.objs.size, rawInt 0, .none, .none] }) rfl
  rw [e1] at e2
  exact ⟨⟨_, e2, rfl⟩, h _ e2 (Heap.get?_push_of_some _ (Heap.get?_push_size _ B.free)) fun b u q => Heap.get?_push_of_some _ (Heap.get?_push_of_some _ q)⟩
end
/-- the tuple at a, each item in a new pair with its number -/
def IteT (K : PySem.W.Frag) (a : Addr) : It where
  go := fun i H => ∃ (xs : List V) (x : V), SqT K H a xs ∧ xs[i]? = some x
  yld := fun i H v H' => ∃ T x, v = .ref T ∧ H T = none ∧ H' = upd H T (.tup [.int (i : Nat), x]) ∧ ∀ xs, SqT K H a xs → xs[i]? = some x
  stop := fun i H => ∃ xs : List V, SqT K H a xs ∧ xs.length = i
theorem tup_apart {h : Heap} {a b : Addr} {items : Array Value} {o : Obj} {n : String} (p : IsTup h a items) (e : h.get? b = some o) (c : o.cls = .type n) (hn : n ≠ "tuple") : a ≠ b := fun q => by
  subst q
  obtain ⟨o', e', c', _⟩ := p
  rw [e] at e'
  cases e'
  rw [c] at c'
  injection c' with c'
  exact hn c'
theorem turn_enumT {P : Program} {w : World} {K : PySem.W.Frag} {elts : List Expr} {kk : Nat} {tpos : Pos} (a e it : Addr) :
    Turn P w K (.Tuple elts kk tpos) (IteT K a) [e, it] e fun i h => (∃ old, IsEnum h e it ((i : Nat) : Int) old) ∧ h.IsTupleIter it a i ∧ e ≠ it where
  mem := List.mem_cons_self ..
  obj := fun i h ⟨⟨old, he⟩, ⟨o, ho, hc, hd⟩, _⟩ b hb => by
    rcases List.mem_cons.mp hb with q | q
    · rw [q]; exact ⟨_, he, fun v z => nomatch z⟩
    · rw [List.mem_singleton.mp q]; exact ⟨o, ho, fun v z => by rw [hd] at z; cases z⟩
  keep := fun i h h' ⟨⟨old, he⟩, ht, hne⟩ k => ⟨⟨old, k e (by simp) _ he⟩, ht.at fun o q => k it (by simp) o q, hne⟩
  item := by
    intro X hP hw hK hc i pins s σ H E I hf st hg
    subst hP hw hK
    obtain ⟨⟨old, he⟩, hit, hne⟩ := st
    obtain ⟨xs, x, hq, hx⟩ := hg
    obtain ⟨its, rv, p, hz⟩ := I.tuple hq
    obtain ⟨u, hu, ru⟩ := rv.get hx
    have hel : e < s.heap.objs.size := Heap.lt_size he
    obtain ⟨oi, hoi, hci, hdi⟩ := id hit
    have hil : it < s.heap.objs.size := Heap.lt_size hoi
    have hae : a ≠ e := tup_apart p he rfl (by decide)
    have hai : a ≠ it := tup_apart p hoi hci (by decide)
    have hi : i < its.toArray.size := by
      have := (List.getElem?_eq_some_iff.mp hu).1
      simpa using this
    refine wpAny_pyNext_enum_itemD (Draws.tuple (prog := X.prog) (w := X.w) (A := X.A.in1) (I.ok.hd hc) it a hai its.toArray) he ⟨hit, p⟩ hi hne (by simp [hne, hae.symm]) fun x' h' tk hx' ho hit' hT hsz hk => ?_
    have ex : x' = u := by
      have q : its[i]? = some x' := by simpa using hx'
      exact Option.some.inj (q.symm.trans hu)
    subst ex
    refine ⟨_, rfl, wpAny_letOwnedTupleGo_enum (s := { s with heap := h', toks := tk + 1 }) ho fun h'' he' sb => ?_⟩
    have hT2 : h''.get? s.heap.objs.size = some { cls := .type "tuple", data := .seq #[.int i tk, x'] } := (sb.2 _ (Nat.ne_of_gt hel)).trans hT
    have I1 : Inv X pins σ (upd H s.heap.objs.size (.tup [.int (i : Nat), x])) { s with heap := h'', toks := tk + 1 } := by
      refine I.turnedNew (ch := [e, it]) (fun b ob hb q => ?_) hf (Nat.le_refl _) ⟨by show 2 ≤ sizeLine; decide, [.int i tk, x'], .cons ⟨_, rfl⟩ (.cons ru .nil), ⟨_, hT2, rfl, _, rfl⟩⟩
      have b1 : b ≠ e := fun z => hb (by simp [z])
      have b2 : b ≠ it := fun z => hb (by simp [z])
      exact (sb.2 b b1).trans (hk b ob b1 b2 q)
    refine ⟨.ref s.heap.objs.size, _, I1, rfl, ⟨_, x, rfl, I.hok.fresh (Nat.le_refl _), rfl, fun ys hy => by rw [I.tuple_inj hy hq]; exact hx⟩, ⟨⟨x', ?_⟩, hit'.1.at fun o q => (sb.2 it (Ne.symm hne)).trans q, hne⟩, fun b hb => ?_⟩
    · have e1 : ((i + 1 : Nat) : Int) = (i : Int) + 1 := Int.natCast_succ i
      rw [e1]
      exact he'
    · have hb' : b < s.heap.objs.size := by
        rcases List.mem_cons.mp hb with z | z
        · rw [z]; exact hel
        · rw [List.mem_singleton.mp z]; exact hil
      rw [upd_ne (Nat.ne_of_lt hb')]
      exact (hf b hb).1
  done := by
    intro X hP hw hK hc i pins s σ H E I hf st hg
    subst hP hw hK
    obtain ⟨⟨old, he⟩, hit, hne⟩ := st
    obtain ⟨xs, hq, hx⟩ := hg
    obtain ⟨its, rv, p, hz⟩ := I.tuple hq
    obtain ⟨oi, hoi, hci, hdi⟩ := id hit
    have hai : a ≠ it := tup_apart p hoi hci (by decide)
    obtain ⟨f0, f1, f2, f3, f4, f5⟩ := hf it (by simp)
    have hl := rv.length
    have ei : i = its.toArray.size := by rw [List.size_toArray, ← hl, hx]
    exact wpAny_pyNext_enum_endD (Draws.tuple (prog := X.prog) (w := X.w) (A := X.A.in1) (I.ok.hd hc) it a hai its.toArray) he ⟨ei ▸ hit, p⟩ fun g hg => ⟨rfl, I.turned (t' := s.toks) (fun b o hb q => hg b o hb q) f0 f1 f3 f4 f5⟩
  self := fun A i s Q E st h => let ⟨⟨_, he⟩, _⟩ := st; wpAny_pyIter_enum he h
def iEnumT (K : PySem.W.Frag) (ta : TA) : TI := fun σ H R => ta σ H fun vs H1 => ∃ a xs, vs = [.ref a] ∧ SqT K H1 a xs ∧ R (IteT K a) H1
theorem pi_enumT {X : Cx} {e : Expr} {ta : TA} {p pos tpos : Pos} {elts : List Expr} {kk : Nat} (hg : Gl X "enumerate") (hm : X.mg "enumerate" = none) (ha : PA X [e] ta) (hs : starEach [e] X.env = [(false, eval e X.env)] := by rfl) :
    PI X (.Tuple elts kk tpos) (.Call (.Name "enumerate" p) [e] [] pos) (iEnumT X.K ta) := by
  refine ⟨fun pins s σ H R I h => Call_ (ld_blt I hg hm boot_enumerate (PyProof.Rows.callWith_type1 (thn (ha.run pos pins s σ H _ I h) fun us s1 ⟨vs, H1, I1, r1, a, xs, ex, hq, q⟩ => ?_) hs rfl))⟩
  subst ex
  obtain ⟨its, rv, p', hz⟩ := I1.tuple hq
  obtain ⟨u1, rfl, r2⟩ := Vals.one r1
  cases r2
  refine enum_make1 (begins_tuple a its.toArray) p' fun g he ho hk => wpAny_pyIter_enum he ?_
  refine ⟨s1.heap.objs.size + 1, [s1.heap.objs.size + 1, s1.heap.objs.size], _, _, H1, rfl, I1.kept (t' := s1.toks) hk, turn_enumT a (s1.heap.objs.size + 1) s1.heap.objs.size, ⟨⟨.none, he⟩, ⟨_, ho, rfl, rfl⟩, Nat.succ_ne_self _⟩, fun b hb => ?_, q⟩
  have hle : s1.heap.objs.size ≤ b := by
    rcases List.mem_cons.mp hb with z | z
    · rw [z]; exact Nat.le_add_right _ _
    · rw [List.mem_singleton.mp z]; exact Nat.le_refl _
  exact I1.fpOk hle (I1.hok.fresh hle)
theorem walk_enumT {K : PySem.W.Frag} {a : Addr} {xs : List V} : Walk (IteT K a) xs.length (fun H => SqT K H a xs) (YPair (fun i => some (.int (i : Nat))) fun i => xs[i]?) :=
  ⟨fun i _ hi q => ⟨xs, xs[i], q, List.getElem?_eq_getElem hi⟩, fun _ q => ⟨xs, q, rfl⟩, fun i H v H' _ q ⟨T, x, h1, h2, h3, h4⟩ => ⟨T, .int (i : Nat), x, h1, h2, h3, rfl, h4 xs q⟩⟩
end Tap

/-! Taprows, law k03: the text by places, what is asked of the top, the checks. -/
namespace Tap
open PySem PySem.Spec PyProof.Rows L2
def topS (i : Nat) : Stmt := PySem.Challenge.pw_taprows_k03_whole_runs.main.body.getD i (.Pass ⟨0, 0, 0, 0⟩)
abbrev sIsInt : Stmt := topS 11
abbrev sIsIn : Stmt := topS 12
abbrev sNeedPrime : Stmt := topS 13
abbrev sNeedNumber : Stmt := topS 14
abbrev sAreNumbers : Stmt := topS 15
abbrev sNeedRow : Stmt := topS 16
abbrev sNeedTaps : Stmt := topS 17
abbrev sNeedStart : Stmt := topS 18
abbrev sNextOf : Stmt := topS 20
abbrev sRunOf : Stmt := topS 21
abbrev sRun : Stmt := topS 22
abbrev sBreakOf : Stmt := topS 23
abbrev sFirstBreak : Stmt := topS 24
abbrev sTaken : Stmt := topS 26
abbrev sPick : Stmt := topS 27
abbrev sPrime : Stmt := topS 28
abbrev sTaps : Stmt := topS 29
abbrev sAlike : Stmt := topS 30
abbrev sLawRun : Stmt := topS 31
abbrev sRow : Stmt := topS 32
abbrev sLaw : Stmt := topS 33
abbrev iv (l : List Int) : List V := l.map V.int

/-- a def of the module, and what it promises, as a caller sees it -/
structure Cal (P : Program) (w : World) (K : PySem.W.Frag) (mg : Str → Option Value) (base : Heap) (j : Nat) (x : Str) (ps : List Str) (sp : Sp) : Prop where
  ex : ∃ (f : Addr) (fd : FuncData), FnOk P w K mg base CX0 j f fd ps sp ∧ mg x = some (.ref f) ∧ PySem.W.keepIn K (.ref f) = true ∧ Binds K fd ps []
theorem pe_c {X : Cx} {j k : Nat} {x : Str} {ps : List Str} {sp : Sp} {p pos : Pos} {e : Expr} {es : List Expr} {t : TA} (C : Cal X.prog X.w X.K X.mg X.base j x ps sp) (hr : Room k X.A) (hg : Gl X x) (ha : PA X (e :: es) t) (hjk : j ≤ k := by decide)
    (hdb : (x == ("__debug__" : Str)) = false := by decide) (he : starEach (e :: es) X.env = (false, eval e X.env) :: starEach es X.env := by rfl) (hpl : (backTo pos (starEach es X.env)).any (·.1) = false := by rfl) :
    PE X (.Call (.Name x p) (e :: es) [] pos) (tCall sp [] E0 t) := by
  obtain ⟨f, fd, F, hm, hk, hb⟩ := C.ex
  exact pe_call F (hr.mono hjk) hg hm hk hb .nil pass0 ha hdb he hpl
/-- a def as the top has left it -/
structure Df (K : PySem.W.Frag) (mg : Str → Option Value) (x : Str) (st : Stmt) (ps : List Str) (f : Addr) (fd : FuncData) : Prop where
  F : Fun K x x st f fd
  g : mg x = some (.ref f)
  b : Binds K fd ps []
/-- the built-in names that no row of the text binds -/
structure Bi (mg : Str → Option Value) : Prop where
  isi : mg "isinstance" = none
  int : mg "int" = none
  bool : mg "bool" = none
  str : mg "str" = none
  tuple : mg "tuple" = none
  list : mg "list" = none
  len : mg "len" = none
  sum : mg "sum" = none
  all : mg "all" = none
  range : mg "range" = none
  enum : mg "enumerate" = none
/-- the text's constants -/
structure Gb (K : PySem.W.Frag) (mg : Str → Option Value) : Prop where
  row : ∃ t, mg "MOST_ROW" = some (.int 400 t)
  taps : ∃ t, mg "MOST_TAPS" = some (.int 60 t)
  pr : ∃ a, mg "PRIMES" = some (.ref a) ∧ ∀ H, SqT K H a (iv [2, 3, 5, 7])

/-! ### small words -/
theorem ifT {c A B : Prop} [Decidable c] (hc : c) (h : A) : if decide c = true then A else B := by
  rw [if_pos (decide_eq_true hc)]; exact h
theorem ifF {c A B : Prop} [Decidable c] (hc : ¬ c) (h : B) : if decide c = true then A else B := by
  rw [if_neg (by rw [decide_eq_false hc]; decide)]; exact h
theorem same_upd {H : Hp} {p : Addr} {o : HO} (h : H p = none) : Same H (upd H p o) := fun b x e => by
  rw [upd_ne (ne_of_none e h)]; exact e
theorem iv_get {l : List Int} {i : Nat} {x : V} (h : (iv l)[i]? = some x) : ∃ n, x = .int n ∧ l[i]? = some n := by
  rw [List.getElem?_map] at h
  cases e : l[i]? with
  | none => rw [e] at h; cases h
  | some n => rw [e] at h; exact ⟨n, (Option.some.inj h).symm, rfl⟩
theorem iv_at {l : List Int} {i : Nat} {n : Int} (h : l[i]? = some n) : (iv l)[i]? = some (.int n) := by
  rw [List.getElem?_map, h]; rfl
theorem iv_len (l : List Int) : (iv l).length = l.length := List.length_map ..
theorem line {n : Nat} (h : n ≤ 1000) : n < sizeLine := small1000 h

section
variable {P : Program} {w : World} {K : PySem.W.Frag} {mg : Str → Option Value} {base : Heap} {f : Addr} {fd : FuncData}
theorem Df.cal {x : Str} {st : Stmt} {ps : List Str} {j : Nat} {sp : Sp} (D : Df K mg x st ps f fd) (h : FnOk P w K mg base CX0 j f fd ps sp) : Cal P w K mg base j x ps sp := ⟨f, fd, h, D.g, D.F.kp, D.b⟩
/-! ### is_int, is_in -/
theorem scIsInt : FnScope ["value"] ["value"] (defScope sIsInt) := ⟨rfl, rfl, rfl, by decide +kernel, rfl, by decide +kernel, by decide +kernel⟩
def spIsInt : Sp := fun vs H Q _ => ∃ i : Int, vs = [.int i] ∧ Q (.bl true) H
theorem ok_isInt (D : Df K mg "is_int" sIsInt ["value"] f fd) (T : Bi mg) : Cal P w K mg base 1 "is_int" ["value"] spIsInt := by
  refine D.cal (D.F.ok scIsInt (fun vs H Q E h => ?_) (fun cdv A outer s H vs Q E hr h => ?_))
  · obtain ⟨i, rfl, _⟩ := h
    rfl
  · obtain ⟨i, rfl, q⟩ := h
    -- isinstance(value, int) and (not isinstance(value, bool))
    refine ⟨_, pss_one (ps_ret (pe_and (pe_callB call_isi (by rfl) T.isi (by decide +kernel) (pa_cons (pv 0) (pa_cons (pe_bltn (v := .ty "int") (by rfl) T.int (by decide +kernel) rfl) pa_nil)))
      (pe_one (pe_not (pe_callB call_isi (by rfl) T.isi (by decide +kernel) (pa_cons (pv 0) (pa_cons (pe_bltn (v := .ty "bool") (by rfl) T.bool (by decide +kernel) rfl) pa_nil))))))), ?_⟩
    refine ⟨_, rfl, .int i, .ty "int", .type "int", .type "int", true, rfl, .ty _, .base (.int i), kit_ty (by decide +kernel), true, rfl, iteT ?_⟩
    exact ⟨_, rfl, .int i, .ty "bool", .type "int", .type "bool", false, rfl, .ty _, .base (.int i), kit_ty (by decide +kernel), false, rfl, q⟩
theorem scIsIn : FnScope ["value", "low", "high"] ["value", "low", "high"] (defScope sIsIn) := ⟨rfl, rfl, rfl, by decide +kernel, rfl, by decide +kernel, by decide +kernel⟩
def spIsIn : Sp := fun vs H Q _ => ∃ v lo hi : Int, vs = [.int v, .int lo, .int hi] ∧ lo ≤ v ∧ v ≤ hi ∧ Q (.bl true) H
theorem ok_isIn (D : Df K mg "is_in" sIsIn ["value", "low", "high"] f fd) (C1 : Cal P w K mg base 1 "is_int" ["value"] spIsInt) : Cal P w K mg base 2 "is_in" ["value", "low", "high"] spIsIn := by
  refine D.cal (D.F.ok scIsIn (fun vs H Q E h => ?_) (fun cdv A outer s H vs Q E hr h => ?_))
  · obtain ⟨v, lo, hi, rfl, _⟩ := h
    rfl
  · obtain ⟨v, lo, hi, rfl, h1, h2, q⟩ := h
    -- is_int(value) and low <= value <= high
    refine ⟨_, pss_one (ps_ret (pe_and (pe_c C1 hr (by rfl) (pa_cons (pv 0) pa_nil)) (pe_one (pe_chain op_le op_le (pv 1) (pv 0) (pv 2))))), ?_⟩
    refine ⟨_, rfl, v, rfl, true, rfl, iteT ?_⟩
    refine ⟨_, rfl, _, rfl, _, _, rfl, rfl, _, rfl, ifT h1 ⟨_, rfl, _, _, rfl, rfl, ?_⟩⟩
    show Q (.bl (decide (v ≤ hi))) H
    rw [decide_eq_true h2]
    exact q
/-! ### need_prime, need_number -/
theorem inV_prime {p : Int} (h : p = 2 ∨ p = 3 ∨ p = 5 ∨ p = 7) : inV (.int p) (iv [2, 3, 5, 7]) = true := by
  rcases h with rfl | rfl | rfl | rfl <;> decide
theorem scNeedPrime : FnScope ["value"] ["value"] (defScope sNeedPrime) := ⟨rfl, rfl, rfl, by decide +kernel, rfl, by decide +kernel, by decide +kernel⟩
def spNeedPrime : Sp := fun vs H Q _ => ∃ p : Int, vs = [.int p] ∧ (p = 2 ∨ p = 3 ∨ p = 5 ∨ p = 7) ∧ Q .non H
theorem ok_needPrime (D : Df K mg "need_prime" sNeedPrime ["value"] f fd) (C1 : Cal P w K mg base 1 "is_int" ["value"] spIsInt) (G : Gb K mg) : Cal P w K mg base 2 "need_prime" ["value"] spNeedPrime := by
  obtain ⟨a, ga, hA⟩ := G.pr
  refine D.cal (D.F.ok scNeedPrime (fun vs H Q E h => ?_) (fun cdv A outer s H vs Q E hr h => ?_))
  · obtain ⟨p, rfl, _⟩ := h
    rfl
  · obtain ⟨p, rfl, hp, q⟩ := h
    -- if not is_int(value) or value not in PRIMES: raise
    refine ⟨_, pss_one (ps_if (PW.pt (pw_or (pt_not (pt_val (pe_c C1 hr (by rfl) (pa_cons (pv 0) pa_nil)))) (pw_or1 (pt_cmpR op_notIn_seq (pv 0) (pe_glob (v := .ref a) (by rfl) ga rfl) (by rfl))))) pss_never pss_nil), ?_⟩
    refine ⟨_, rfl, p, rfl, true, rfl, iteF ?_⟩
    refine ⟨_, rfl, a, _, rfl, .inr (hA _), rfl, rfl, false, ?_, iteF q⟩
    rw [inV_prime hp]
    rfl
theorem scNeedNumber : FnScope ["value", "low", "high"] ["value", "low", "high"] (defScope sNeedNumber) := ⟨rfl, rfl, rfl, by decide +kernel, rfl, by decide +kernel, by decide +kernel⟩
def spNeedNumber : Sp := fun vs H Q _ => ∃ v lo hi : Int, vs = [.int v, .int lo, .int hi] ∧ lo ≤ v ∧ v ≤ hi ∧ Q .non H
theorem ok_needNumber (D : Df K mg "need_number" sNeedNumber ["value", "low", "high"] f fd) (C2 : Cal P w K mg base 2 "is_in" ["value", "low", "high"] spIsIn) : Cal P w K mg base 3 "need_number" ["value", "low", "high"] spNeedNumber := by
  refine D.cal (D.F.ok scNeedNumber (fun vs H Q E h => ?_) (fun cdv A outer s H vs Q E hr h => ?_))
  · obtain ⟨v, lo, hi, rfl, _⟩ := h
    rfl
  · obtain ⟨v, lo, hi, rfl, h1, h2, q⟩ := h
    refine ⟨_, pss_one (ps_if (pt_not (pt_val (pe_c C2 hr (by rfl) (pa_cons (pv 0) (pa_cons (pv 1) (pa_cons (pv 2) pa_nil)))))) pss_never pss_nil), ?_⟩
    exact ⟨_, rfl, _, rfl, _, rfl, v, lo, hi, rfl, h1, h2, true, rfl, iteF q⟩
/-! ### are_numbers -/
theorem scAreNumbers : FnScope ["prime", "value", "most", "number"] ["prime", "value", "most"] (defScope sAreNumbers) := ⟨rfl, rfl, rfl, by decide +kernel, rfl, by decide +kernel, by decide +kernel⟩
/-- a tuple of numbers modulo p, at most so many -/
def NumsAt (H : Hp) (p : Int) (a : Addr) (most : Int) : Prop := ∃ ns : List Int, H a = some (.tup (iv ns)) ∧ (ns.length : Int) ≤ most ∧ ns.length ≤ 400 ∧ Nums p ns
def spAreNumbers : Sp := fun vs H Q _ => ∃ (p : Int) (a : Addr) (most : Int), vs = [.int p, .ref a, .int most] ∧ NumsAt H p a most ∧ ∀ H', Same H H' → Q (.bl true) H'
theorem ok_areNumbers (D : Df K mg "are_numbers" sAreNumbers ["prime", "value", "most"] f fd) (C2 : Cal P w K mg base 2 "is_in" ["value", "low", "high"] spIsIn) (T : Bi mg) : Cal P w K mg base 3 "are_numbers" ["prime", "value", "most"] spAreNumbers := by
  refine D.cal (D.F.ok scAreNumbers (fun vs H Q E h => ?_) (fun cdv A outer s H vs Q E hr h => ?_))
  · obtain ⟨p, a, most, rfl, _⟩ := h
    rfl
  · obtain ⟨p, a, most, rfl, ⟨ns, ha, hl, hl4, hn⟩, q⟩ := h
    refine ⟨_, pss_cons (ps_if (PW.pt (pw_or (pt_not (pt_val (pe_callB call_isi (by rfl) T.isi (by decide +kernel) (pa_cons (pv 1) (pa_cons (pe_bltn (v := .ty "tuple") (by rfl) T.tuple (by decide +kernel) rfl) pa_nil)))))
        (pw_or1 (pt_cmpR op_gt (pe_callB call_len_seq (by rfl) T.len PySem.boot_len (pa_cons (pv 1) pa_nil)) (pv 2) (nomark _))))) pss_never pss_nil)
      (pss_one (ps_ret (pe_callB (cr_all rfl) (by rfl) T.all (by decide +kernel) (pa_cons (pe_lc (own := [("number", 3)]) (g := gName 3) (tt := tYes) rfl scAreNumbers.nd (pi_tup (pv 1))
        (blkOk_by (own := [("number", 3)]) (N := ["prime", "value", "most", "number"]) (sc := defScope sAreNumbers) (by decide +kernel)) (fun _ _ _ _ _ => pg_name (i := 3) scAreNumbers.nd rfl (Or.inl rfl)) (fun _ _ _ _ _ => pts_nil)
        (fun _ _ _ _ _ => pe_c C2 hr (by rfl) (pa_cons (pv 3) (pa_cons pe_int (pa_cons (pe_op op_sub (pv 0) pe_int) pa_nil))))) pa_nil)))), ?_⟩
    refine ⟨_, rfl, .ref a, .ty "tuple", .type "tuple", .type "tuple", true, rfl, .ty _, .base (.tup ha), kit_ty (by decide +kernel), true, rfl, iteF ?_⟩
    refine ⟨_, rfl, a, _, rfl, .inr (SqT.of ha), _, rfl, _, _, rfl, rfl, _, rfl, ifF (by rw [iv_len]; omega) ?_⟩
    refine ⟨_, rfl, a, rfl, ⟨_, SqT.of ha⟩, fun d hd => ?_⟩
    refine lc_tup (K := K) (a := a) (xs := iv ns) (fun i H' => Same H H' ∧ H' d = some (.lst ((List.replicate i true).map V.bl))) ⟨same_upd hd, upd_same⟩ (fun i H' _ h => SqT.of (h.1 _ _ ha)) (fun i x H1 hx h => ?_) (fun H1 h => ?_)
    · obtain ⟨sm, ed⟩ := h
      obtain ⟨n, rfl, hn'⟩ := iv_get hx
      have hb := hn.get hn'
      have hi := (List.getElem?_eq_some_iff.mp hn').1
      refine ⟨rfl, _, rfl, _, rfl, _, _, rfl, rfl, n, 0, p - 1, rfl, hb.1, by omega, _, ed, ?_, ?_, ?_⟩
      · rw [List.length_map, List.length_replicate]
        exact line (by omega)
      · intro b o e
        rw [upd_ne (ne_of_none e hd)]
        exact sm b o e
      · rw [upd_same, List.replicate_succ', List.map_append]
        rfl
    · obtain ⟨sm, ed⟩ := h
      refine ⟨d, _, rfl, SqL.of ed, ?_⟩
      have e : (List.replicate (iv ns).length true).all id = true := by
        rw [List.all_eq_true]
        intro b hb
        rw [(List.mem_replicate.mp hb).2]
        rfl
      rw [e]
      exact q _ sm
end
end Tap

/-! Taprows, law k03: need_row, need_taps, need_start; next_of, run_of, break_of; run, first_break. -/
namespace Tap
open PySem PySem.Spec PyProof.Rows L2
section
variable {P : Program} {w : World} {K : PySem.W.Frag} {mg : Str → Option Value} {base : Heap} {f : Addr} {fd : FuncData}
abbrev CalNums (P : Program) (w : World) (K : PySem.W.Frag) (mg : Str → Option Value) (base : Heap) : Prop := Cal P w K mg base 3 "are_numbers" ["prime", "value", "most"] spAreNumbers
/-! ### need_row, need_taps, need_start -/
theorem scNeedRow : FnScope ["prime", "value"] ["prime", "value"] (defScope sNeedRow) := ⟨rfl, rfl, rfl, by decide +kernel, rfl, by decide +kernel, by decide +kernel⟩
theorem scNeedTaps : FnScope ["prime", "value"] ["prime", "value"] (defScope sNeedTaps) := ⟨rfl, rfl, rfl, by decide +kernel, rfl, by decide +kernel, by decide +kernel⟩
theorem scNeedStart : FnScope ["prime", "taps", "value"] ["prime", "taps", "value"] (defScope sNeedStart) := ⟨rfl, rfl, rfl, by decide +kernel, rfl, by decide +kernel, by decide +kernel⟩
def spNeedMost (most : Int) : Sp := fun vs H Q _ => ∃ (p : Int) (a : Addr), vs = [.int p, .ref a] ∧ NumsAt H p a most ∧ ∀ H', Same H H' → Q .non H'
def spNeedStart : Sp := fun vs H Q _ => ∃ (p : Int) (t a : Addr) (ts ns : List Int), vs = [.int p, .ref t, .ref a] ∧ H t = some (.tup (iv ts)) ∧ H a = some (.tup (iv ns)) ∧ ns.length = ts.length ∧ ns.length ≤ 60 ∧ Nums p ns ∧ ∀ H', Same H H' → Q .non H'
theorem ok_needRow (D : Df K mg "need_row" sNeedRow ["prime", "value"] f fd) (C3 : CalNums P w K mg base) (G : Gb K mg) : Cal P w K mg base 4 "need_row" ["prime", "value"] (spNeedMost 400) := by
  obtain ⟨t, gt⟩ := G.row
  refine D.cal (D.F.ok scNeedRow (fun vs H Q E h => ?_) (fun cdv A outer s H vs Q E hr h => ?_))
  · obtain ⟨p, a, rfl, _⟩ := h
    rfl
  · obtain ⟨p, a, rfl, hn, q⟩ := h
    refine ⟨_, pss_one (ps_if (pt_not (pt_val (pe_c C3 hr (by rfl) (pa_cons (pv 0) (pa_cons (pv 1) (pa_cons (pe_glob (v := .int 400) (by rfl) gt ⟨_, rfl⟩) pa_nil)))))) pss_never pss_nil), ?_⟩
    exact ⟨_, rfl, _, rfl, p, a, 400, rfl, hn, fun H' sm => ⟨true, rfl, iteF (q H' sm)⟩⟩
theorem ok_needTaps (D : Df K mg "need_taps" sNeedTaps ["prime", "value"] f fd) (C3 : CalNums P w K mg base) (G : Gb K mg) : Cal P w K mg base 4 "need_taps" ["prime", "value"] (spNeedMost 60) := by
  obtain ⟨t, gt⟩ := G.taps
  refine D.cal (D.F.ok scNeedTaps (fun vs H Q E h => ?_) (fun cdv A outer s H vs Q E hr h => ?_))
  · obtain ⟨p, a, rfl, _⟩ := h
    rfl
  · obtain ⟨p, a, rfl, hn, q⟩ := h
    refine ⟨_, pss_one (ps_if (pt_not (pt_val (pe_c C3 hr (by rfl) (pa_cons (pv 0) (pa_cons (pv 1) (pa_cons (pe_glob (v := .int 60) (by rfl) gt ⟨_, rfl⟩) pa_nil)))))) pss_never pss_nil), ?_⟩
    exact ⟨_, rfl, _, rfl, p, a, 60, rfl, hn, fun H' sm => ⟨true, rfl, iteF (q H' sm)⟩⟩
theorem ok_needStart (D : Df K mg "need_start" sNeedStart ["prime", "taps", "value"] f fd) (C3 : CalNums P w K mg base) (G : Gb K mg) (T : Bi mg) : Cal P w K mg base 4 "need_start" ["prime", "taps", "value"] spNeedStart := by
  obtain ⟨t, gt⟩ := G.taps
  refine D.cal (D.F.ok scNeedStart (fun vs H Q E h => ?_) (fun cdv A outer s H vs Q E hr h => ?_))
  · obtain ⟨p, t, a, ts, ns, rfl, _⟩ := h
    rfl
  · obtain ⟨p, t, a, ts, ns, rfl, ht, ha, he, hl, hn, q⟩ := h
    refine ⟨_, pss_one (ps_if (PW.pt (pw_or (pt_not (pt_val (pe_c C3 hr (by rfl) (pa_cons (pv 0) (pa_cons (pv 2) (pa_cons (pe_glob (v := .int 60) (by rfl) gt ⟨_, rfl⟩) pa_nil))))))
      (pw_or1 (pt_cmpR op_ne (pe_callB call_len_seq (by rfl) T.len PySem.boot_len (pa_cons (pv 2) pa_nil)) (pe_callB call_len_seq (by rfl) T.len PySem.boot_len (pa_cons (pv 1) pa_nil)) (nomark _))))) pss_never pss_nil), ?_⟩
    refine ⟨_, rfl, _, rfl, p, a, 60, rfl, ⟨ns, ha, by omega, by omega, hn⟩, fun H' sm => ⟨true, rfl, iteF ?_⟩⟩
    refine ⟨_, rfl, a, _, rfl, .inr (SqT.of (sm _ _ ha)), _, rfl, t, _, rfl, .inr (SqT.of (sm _ _ ht)), rfl, false, ?_, iteF (q H' sm)⟩
    rw [iv_len, iv_len, he, decide_eq_true rfl]
    rfl
/-! ### next_of -/
theorem scNextOf : FnScope ["prime", "taps", "row", "at", "tap"] ["prime", "taps", "row"] (defScope sNextOf) := ⟨rfl, rfl, rfl, by decide +kernel, rfl, by decide +kernel, by decide +kernel⟩
/-- a list or a tuple of ints, tracked -/
def SeqAt (H : Hp) (a : Addr) (ns : List Int) : Prop := H a = some (.lst (iv ns)) ∨ H a = some (.tup (iv ns))
def spNextOf : Sp := fun vs H Q _ => ∃ (p : Int) (t r : Addr) (ts row : List Int), vs = [.int p, .ref t, .ref r] ∧ H t = some (.tup (iv ts)) ∧ SeqAt H r row ∧ 0 < p ∧ p ≤ 7 ∧ Nums p ts ∧ ts.length ≤ row.length ∧ ts.length ≤ 400 ∧
  ∀ H', Same H H' → Q (.int (nx p ts row)) H'
theorem SeqAt.ix {K : PySem.W.Frag} {H : Hp} {a : Addr} {ns : List Int} {i : Int} {n : Int} {Q : VK} (h : SeqAt H a ns) (e : atI (iv ns) i = some (.int n)) (q : Q (.int n) H) : rIx K (.ref a) (.int i) H Q := by
  rcases h with h | h
  · exact .inl ⟨a, _, i, _, rfl, rfl, SqL.of h, e, q⟩
  · exact .inr (.inl ⟨a, _, i, _, rfl, rfl, SqT.of h, e, q⟩)
theorem SeqAt.same {H H' : Hp} {a : Addr} {ns : List Int} (h : SeqAt H a ns) (sm : Same H H') : SeqAt H' a ns := h.elim (fun h => .inl (sm _ _ h)) fun h => .inr (sm _ _ h)
/-- xs[-1 - i] -/
theorem at_back {ns : List Int} {i : Nat} {x : Int} (hi : i < ns.length) (h : ns[ns.length - 1 - i]? = some x) : atI (iv ns) (-1 - (i : Int)) = some (.int x) := by
  unfold atI ixN
  rw [iv_len, if_neg (by omega), if_pos (by omega)]
  show (iv ns)[(-1 - (i : Int) + (ns.length : Int)).toNat]? = _
  rw [show (-1 - (i : Int) + (ns.length : Int)).toNat = ns.length - 1 - i by omega]
  exact iv_at h
theorem ok_nextOf (D : Df K mg "next_of" sNextOf ["prime", "taps", "row"] f fd) (T : Bi mg) : Cal P w K mg base 1 "next_of" ["prime", "taps", "row"] spNextOf := by
  refine D.cal (D.F.ok scNextOf (fun vs H Q E h => ?_) (fun cdv A outer s H vs Q E hr h => ?_))
  · obtain ⟨p, t, r, ts, row, rfl, _⟩ := h
    rfl
  · obtain ⟨p, t, r, ts, row, rfl, ht, hrow, hp, hp7, hn, hl, hl4, q⟩ := h
    refine ⟨_, pss_one (ps_ret (pe_op op_mod (pe_callB (cr_sum rfl) (by rfl) T.sum (by decide +kernel) (pa_cons (pe_lc (own := [("at", 3), ("tap", 4)]) (g := gTup K 2 (gCons (gName 3) (gCons (gName 4) gNil))) (tt := tYes) rfl scNextOf.nd
        (pi_enumT (by rfl) T.enum (pa_cons (pv 1) pa_nil)) (blkOk_by (own := [("at", 3), ("tap", 4)]) (N := ["prime", "taps", "row", "at", "tap"]) (sc := defScope sNextOf) (by decide +kernel))
        (fun _ _ _ _ _ => pg_tup rfl (pgs_cons (pg_name (i := 3) scNextOf.nd rfl (Or.inl rfl)) (pgs_cons (pg_name (i := 4) scNextOf.nd rfl (Or.inl rfl)) pgs_nil))) (fun _ _ _ _ _ => pts_nil)
        (fun _ _ _ _ _ => pe_op op_mul (pv 4) (pe_ix (r := rIx K) ix_seq (pv 2) (pe_op op_sub (pe_un un_neg pe_int) (pv 3)) (fun _ _ => rfl)))) pa_nil)) (pv 0))), ?_⟩
    refine ⟨_, rfl, t, _, rfl, SqT.of ht, fun d hd => ?_⟩
    refine lc_it (walk_enumT (K := K) (a := t) (xs := iv ts)) (fun i H' => Same H H' ∧ H' d = some (.lst (iv ((prods ts row).take i)))) ⟨same_upd hd, upd_same⟩ (fun i H' _ h => SqT.of (h.1 _ _ ht)) (fun i x H1 H2 hi h hy => ?_) (fun H1 h => ?_)
    · obtain ⟨sm, ed⟩ := h
      obtain ⟨T', x1, x2, rfl, nT, rfl, e1, e2⟩ := hy
      obtain rfl : V.int (i : Nat) = x1 := Option.some.inj e1
      obtain ⟨tp, rfl, etp⟩ := iv_get e2
      rw [iv_len] at hi
      have smT : Same H (upd H1 T' (.tup [.int (i : Nat), .int tp])) := sm.trans (same_upd nT)
      have hb := hn.get etp
      obtain ⟨y, ey⟩ : ∃ y, row[row.length - 1 - i]? = some y := ⟨row[row.length - 1 - i]'(by omega), List.getElem?_eq_getElem (by omega)⟩
      refine ⟨T', _, rfl, SqT.of upd_same, rfl, _, _, rfl, _, _, rfl, rfl, rfl, ?_⟩
      refine ⟨_, rfl, _, rfl, 1, rfl, _, rfl, _, _, rfl, rfl, SeqAt.ix (hrow.same smT) (at_back (by omega) ey) ⟨_, _, rfl, rfl, .inl ⟨by omega, by omega⟩, ?_⟩⟩
      have ndT : d ≠ T' := ne_of_none ed nT
      refine ⟨_, (upd_ne ndT).trans ed, ?_, fun b o e => ?_, ?_⟩
      · rw [iv_len, List.length_take]
        exact line (by omega)
      · rw [upd_ne (ne_of_none e hd)]
        exact smT b o e
      · have pg : (prods ts row)[i]? = some (tp * y) := by
          have := prods_get (taps := ts) (row := row) (i := i) (k := row.length) etp (by omega) (Nat.le_refl _) ey
          rwa [List.take_length] at this
        rw [upd_same, ← take_snoc pg]
        show some (HO.lst (iv ((prods ts row).take i) ++ [V.int (tp * y)])) = some (HO.lst (((prods ts row).take i ++ [tp * y]).map V.int))
        rw [List.map_append]
        rfl
    · obtain ⟨sm, ed⟩ := h
      rw [iv_len, List.take_of_length_le (Nat.le_of_eq (prods_length hl))] at ed
      exact ⟨d, _, rfl, SqL.of ed, _, rfl, _, _, rfl, rfl, hp, q _ sm⟩
end
end Tap

/-! Taprows, law k03: run_of, run, break_of, first_break. -/
namespace Tap
open PySem PySem.Spec PyProof.Rows L2
theorem cut_to (xs : List V) (c : Nat) : cutV xs none (some (c : Int)) = xs.take c := by
  unfold cutV
  rw [HT.sIx_none, HT.sIx_nat, List.drop_zero, Nat.sub_zero]
  by_cases h : c ≤ xs.length
  · rw [Nat.min_eq_left h]
  · rw [Nat.min_eq_right (by omega), List.take_length, List.take_of_length_le (by omega)]
theorem cut_from (xs : List V) (c : Nat) : cutV xs (some (c : Int)) none = xs.drop c := by
  unfold cutV
  rw [HT.sIx_none, HT.sIx_nat]
  by_cases h : c ≤ xs.length
  · rw [Nat.min_eq_left h]
    exact List.take_of_length_le (by rw [List.length_drop]; omega)
  · rw [Nat.min_eq_right (by omega), List.drop_length, List.drop_eq_nil_of_le (by omega), List.take_nil]
theorem iv_take (l : List Int) (n : Nat) : (iv l).take n = iv (l.take n) := (List.map_take ..).symm
theorem iv_drop (l : List Int) (n : Nat) : (iv l).drop n = iv (l.drop n) := (List.map_drop ..).symm
theorem iv_app (a b : List Int) : iv a ++ iv b = iv (a ++ b) := (List.map_append ..).symm
section
variable {P : Program} {w : World} {K : PySem.W.Frag} {mg : Str → Option Value} {base : Heap} {f : Addr} {fd : FuncData}
/-! ### run_of -/
theorem scRunOf : FnScope ["prime", "taps", "start", "count", "row"] ["prime", "taps", "start", "count"] (defScope sRunOf) := ⟨rfl, rfl, rfl, by decide +kernel, rfl, by decide +kernel, by decide +kernel⟩
def spRunOf : Sp := fun vs H Q _ => ∃ (p : Int) (t b : Addr) (ts ss : List Int) (c : Nat), vs = [.int p, .ref t, .ref b, .int c] ∧ H t = some (.tup (iv ts)) ∧ H b = some (.tup (iv ss)) ∧ 0 < p ∧ p ≤ 7 ∧ Nums p ts ∧ ss.length = ts.length ∧ ts.length ≤ 60 ∧ c ≤ 400 ∧
  ∀ H' a, Same H H' → H' a = some (.tup (iv (runL p ts ss c))) → Q (.ref a) H'
theorem ok_runOf (D : Df K mg "run_of" sRunOf ["prime", "taps", "start", "count"] f fd) (C1 : Cal P w K mg base 1 "next_of" ["prime", "taps", "row"] spNextOf) (T : Bi mg) : Cal P w K mg base 2 "run_of" ["prime", "taps", "start", "count"] spRunOf := by
  refine D.cal (D.F.ok scRunOf (fun vs H Q E h => ?_) (fun cdv A outer s H vs Q E hr h => ?_))
  · obtain ⟨p, t, b, ts, ss, c, rfl, _⟩ := h
    rfl
  · obtain ⟨p, t, b, ts, ss, c, rfl, ht, hb, hp, hp7, hn, hl, hl60, hc, q⟩ := h
    refine ⟨_, pss_cons (ps_set (i := 4) scRunOf.nd rfl (.inl rfl) (pe_callTy call_list_of (by rfl) T.list (by decide +kernel) (pa_cons (pv 2) pa_nil)))
      (pss_cons (ps_while PassesOwn.never (pt_cmpR op_lt (pe_callB call_len_seq (by rfl) T.len PySem.boot_len (pa_cons (pv 4) pa_nil)) (pv 3) (nomark _))
        (pss_one (ps_expr (pe_bm PySem.F.plainAttrs_list PySem.F.slot_list_append PySem.F.type_list_append mt_append (pv 4) (pa_cons (pe_c C1 hr (by rfl) (pa_cons (pv 0) (pa_cons (pv 1) (pa_cons (pv 4) pa_nil)))) pa_nil)))))
      (pss_one (ps_ret (pe_callTy call_tuple_of (by rfl) T.tuple (by decide +kernel) (pa_cons (pe_slice sl_list (pv 4) po_none (po_some (pv 3))) pa_nil))))), ?_⟩
    refine ⟨_, rfl, b, _, rfl, .inr (SqT.of hb), fun l hnl => ?_⟩
    refine ⟨fun m σ H' => ∃ i, σ = [some (.int p), some (.ref t), some (.ref b), some (.int c), some (.ref l)] ∧ m = c - (ss.length + i) ∧ i ≤ c - ss.length ∧ Same H H' ∧ H' l = some (.lst (iv (ext p ts ss i))),
      ⟨_, 0, rfl, rfl, Nat.zero_le _, same_upd hnl, upd_same⟩, ?_⟩
    rintro m σ H1 ⟨i, rfl, rfl, hi, sm, el⟩
    have hlen := ext_length p ts ss i
    refine ⟨_, rfl, l, _, rfl, .inl (SqL.of el), _, rfl, _, _, rfl, rfl, _, rfl, ite2 (fun e => ?_) (fun e => ?_)⟩
    · have e' : (((iv (ext p ts ss i)).length : Nat) : Int) < (c : Int) := of_decide_eq_true e
      rw [iv_len, hlen] at e'
      refine ⟨fun σ' H' => σ' = [some (.int p), some (.ref t), some (.ref b), some (.int c), some (.ref l)] ∧ Same H H' ∧ H' l = some (.lst (iv (ext p ts ss (i + 1)))), fun σ' H' ⟨z1, z2, z3⟩ => ⟨c - (ss.length + (i + 1)), by omega, i + 1, z1, rfl, by omega, z2, z3⟩, ?_⟩
      refine ⟨_, rfl, .inl ⟨rfl, _, .inl (.inl el)⟩, _, rfl, _, rfl, _, rfl, p, t, l, ts, _, rfl, sm _ _ ht, .inl el, hp, hp7, hn, by omega, by omega, fun H2 sm2 => ?_⟩
      refine ⟨l, _, _, rfl, rfl, sm2 _ _ el, ?_, rfl, fun b' o z => ?_, ?_⟩
      · rw [iv_len]
        exact line (by omega)
      · rw [upd_ne (ne_of_none z hnl)]
        exact sm2 _ _ (sm _ _ z)
      · rw [upd_same]
        show some (HO.lst (iv (ext p ts ss i) ++ iv [nx p ts (ext p ts ss i)])) = _
        rw [iv_app]
        rfl
    · have e' : ¬ (((iv (ext p ts ss i)).length : Nat) : Int) < (c : Int) := fun z => e (decide_eq_true z)
      rw [iv_len, hlen] at e'
      obtain rfl : i = c - ss.length := by omega
      refine ⟨_, rfl, _, rfl, _, rfl, l, _, rfl, SqL.of el, fun a na => ?_⟩
      refine ⟨a, _, rfl, .inl ⟨SqL.of upd_same, fun u nu => ?_⟩⟩
      refine q _ u ((sm.trans (same_upd na)).trans (same_upd nu)) ?_
      rw [upd_same, cut_to, iv_take]
      rfl
/-! ### run -/
abbrev Prm (p : Int) : Prop := p = 2 ∨ p = 3 ∨ p = 5 ∨ p = 7
theorem scRun : FnScope ["prime", "taps", "start", "count"] ["prime", "taps", "start", "count"] (defScope sRun) := ⟨rfl, rfl, rfl, by decide +kernel, rfl, by decide +kernel, by decide +kernel⟩
def spRun : Sp := fun vs H Q _ => ∃ (p : Int) (t b : Addr) (ts ss : List Int) (c : Nat), vs = [.int p, .ref t, .ref b, .int c] ∧ H t = some (.tup (iv ts)) ∧ H b = some (.tup (iv ss)) ∧ Prm p ∧ Nums p ts ∧ Nums p ss ∧ ss.length = ts.length ∧ ts.length ≤ 60 ∧ c ≤ 400 ∧
  ∀ H' a, Same H H' → H' a = some (.tup (iv (runL p ts ss c))) → Q (.ref a) H'
theorem ok_run (D : Df K mg "run" sRun ["prime", "taps", "start", "count"] f fd) (C1 : Cal P w K mg base 2 "need_prime" ["value"] spNeedPrime) (C2 : Cal P w K mg base 4 "need_taps" ["prime", "value"] (spNeedMost 60))
    (C3 : Cal P w K mg base 4 "need_start" ["prime", "taps", "value"] spNeedStart) (C4 : Cal P w K mg base 3 "need_number" ["value", "low", "high"] spNeedNumber) (C5 : Cal P w K mg base 2 "run_of" ["prime", "taps", "start", "count"] spRunOf) (G : Gb K mg) :
    Cal P w K mg base 5 "run" ["prime", "taps", "start", "count"] spRun := by
  obtain ⟨t0, gt⟩ := G.row
  refine D.cal (D.F.ok scRun (fun vs H Q E h => ?_) (fun cdv A outer s H vs Q E hr h => ?_))
  · obtain ⟨p, t, b, ts, ss, c, rfl, _⟩ := h
    rfl
  · obtain ⟨p, t, b, ts, ss, c, rfl, ht, hb, hp, hnt, hns, hl, hl60, hc, q⟩ := h
    refine ⟨_, pss_cons (ps_expr (pe_c C1 hr (by rfl) (pa_cons (pv 0) pa_nil))) (pss_cons (ps_expr (pe_c C2 hr (by rfl) (pa_cons (pv 0) (pa_cons (pv 1) pa_nil))))
      (pss_cons (ps_expr (pe_c C3 hr (by rfl) (pa_cons (pv 0) (pa_cons (pv 1) (pa_cons (pv 2) pa_nil))))) (pss_cons (ps_expr (pe_c C4 hr (by rfl) (pa_cons (pv 3) (pa_cons pe_int (pa_cons (pe_glob (v := .int 400) (by rfl) gt ⟨_, rfl⟩) pa_nil)))))
      (pss_one (ps_ret (pe_c C5 hr (by rfl) (pa_cons (pv 0) (pa_cons (pv 1) (pa_cons (pv 2) (pa_cons (pv 3) pa_nil)))))))))), ?_⟩
    refine ⟨_, rfl, p, rfl, hp, ?_⟩
    refine ⟨_, rfl, _, rfl, p, t, rfl, ⟨ts, ht, by omega, by omega, hnt⟩, fun H1 s1 => ?_⟩
    refine ⟨_, rfl, _, rfl, _, rfl, p, t, b, ts, ss, rfl, s1 _ _ ht, s1 _ _ hb, hl, by omega, hns, fun H2 s2 => ?_⟩
    refine ⟨_, rfl, c, 0, 400, rfl, by omega, by omega, ?_⟩
    have s12 := s1.trans s2
    have hp' : 0 < p ∧ p ≤ 7 := by rcases hp with rfl | rfl | rfl | rfl <;> decide
    exact ⟨_, rfl, _, rfl, _, rfl, _, rfl, p, t, b, ts, ss, c, rfl, s12 _ _ ht, s12 _ _ hb, hp'.1, hp'.2, hnt, hl, hl60, hc, fun H' a s3 e => q H' a (s12.trans s3) e⟩
/-! ### break_of -/
def optV : Option Nat → V
  | none => .non
  | some b => .int b
theorem scBreakOf : FnScope ["prime", "taps", "row", "at"] ["prime", "taps", "row"] (defScope sBreakOf) := ⟨rfl, rfl, rfl, by decide +kernel, rfl, by decide +kernel, by decide +kernel⟩
def spBreakOf : Sp := fun vs H Q _ => ∃ (p : Int) (t r : Addr) (ts row : List Int), vs = [.int p, .ref t, .ref r] ∧ H t = some (.tup (iv ts)) ∧ H r = some (.tup (iv row)) ∧ 0 < p ∧ p ≤ 7 ∧ Nums p ts ∧ ts.length ≤ 60 ∧ row.length ≤ 400 ∧
  ∀ H' d, Same H H' → Due p ts row ts.length d → Q (optV d) H'
theorem ok_breakOf (D : Df K mg "break_of" sBreakOf ["prime", "taps", "row"] f fd) (C1 : Cal P w K mg base 1 "next_of" ["prime", "taps", "row"] spNextOf) (T : Bi mg) : Cal P w K mg base 2 "break_of" ["prime", "taps", "row"] spBreakOf := by
  refine D.cal (D.F.ok scBreakOf (fun vs H Q E h => ?_) (fun cdv A outer s H vs Q E hr h => ?_))
  · obtain ⟨p, t, r, ts, row, rfl, _⟩ := h
    rfl
  · obtain ⟨p, t, r, ts, row, rfl, ht, hrow, hp, hp7, hn, hl60, hl4, q⟩ := h
    refine ⟨_, pss_cons (ps_for PassesOwn.never rfl (pi_range2 (by rfl) T.range (pa_cons (pe_callB call_len_seq (by rfl) T.len PySem.boot_len (pa_cons (pv 1) pa_nil)) (pa_cons (pe_callB call_len_seq (by rfl) T.len PySem.boot_len (pa_cons (pv 2) pa_nil)) pa_nil)))
        (pg_name (i := 3) scBreakOf.nd rfl (Or.inl rfl))
        (pss_one (ps_if (pt_cmpR op_ne (pe_c C1 hr (by rfl) (pa_cons (pv 0) (pa_cons (pv 1) (pa_cons (pe_slice sl_tupA (pv 2) po_none (po_some (pv 3))) pa_nil)))) (pe_ix ix_tup (pv 2) (pv 3) (fun _ _ => rfl)) (nomark _)) (pss_one (ps_ret (pv 3))) pss_nil)))
      (pss_one (ps_ret pe_non)), ?_⟩
    refine ⟨_, rfl, t, _, rfl, .inr (SqT.of ht), _, rfl, r, _, rfl, .inr (SqT.of hrow), _, _, rfl, (by rw [iv_len, iv_len]; omega), ?_⟩
    refine for_range (fun i σ H' => (∃ y, σ = [some (.int p), some (.ref t), some (.ref r), y]) ∧ Same H H' ∧ ∀ k, ts.length ≤ k → k < ts.length + i → Fits p ts row k) ⟨⟨none, rfl⟩, Same.refl H, fun k h1 h2 => by omega⟩ (fun i σ H1 hi h => ?_) (fun σ H1 h => ?_)
    · obtain ⟨⟨y, rfl⟩, sm, hf⟩ := h
      rw [iv_len, iv_len] at hi
      have eat : (((iv ts).length : Nat) : Int) + (i : Nat) = ((ts.length + i : Nat) : Int) := by rw [iv_len]; omega
      rw [eat]
      have hlt : ts.length + i < row.length := by omega
      obtain ⟨x, ex⟩ : ∃ x, row[ts.length + i]? = some x := ⟨row[ts.length + i], List.getElem?_eq_getElem hlt⟩
      refine ⟨_, rfl, _, rfl, _, rfl, _, rfl, _, rfl, r, _, rfl, SqT.of (sm _ _ hrow), fun hw => ?_, fun _ a na => ?_⟩
      · have h2 := hw.2
        rw [HT.sIx_nat, iv_len] at h2
        omega
      have sma := sm.trans (same_upd (o := .tup (cutV (iv row) none (some ((ts.length + i : Nat) : Int)))) na)
      refine ⟨p, t, a, ts, row.take (ts.length + i), rfl, sma _ _ ht, .inr (by rw [upd_same, cut_to, iv_take]), hp, hp7, hn, by rw [List.length_take]; omega, by omega, fun H2 s2 => ?_⟩
      have sm2 := sma.trans s2
      refine ⟨_, rfl, _, rfl, r, _, _, _, rfl, rfl, SqT.of (sm2 _ _ hrow), atI_nat (iv_at ex), rfl, _, rfl, ?_⟩
      by_cases hfit : Fits p ts row (ts.length + i)
      · have e1 : nx p ts (row.take (ts.length + i)) = x := by
          have z : row[ts.length + i]? = some (nx p ts (row.take (ts.length + i))) := hfit
          rw [ex] at z
          exact (Option.some.inj z).symm
        refine iteNS (by rw [e1]) ⟨⟨_, rfl⟩, sm2, fun k h1 h2 => ?_⟩
        by_cases ek : k = ts.length + i
        · rw [ek]; exact hfit
        · exact hf k h1 (by omega)
      · have e1 : ¬ V.int (nx p ts (row.take (ts.length + i))) = V.int x := fun z => hfit (by
          show row[ts.length + i]? = some _
          rw [ex, V.int.inj z])
        rw [decide_eq_false e1]
        refine iteT ⟨_, rfl, q H2 (some (ts.length + i)) sm2 ⟨by omega, hlt, hfit, fun k h1 h2 => hf k h1 h2⟩⟩
    · obtain ⟨_, sm, hf⟩ := h
      rw [iv_len, iv_len] at hf
      exact q H1 none sm fun k h1 h2 => hf k h1 (by omega)
/-! ### first_break -/
theorem scFirstBreak : FnScope ["prime", "taps", "row"] ["prime", "taps", "row"] (defScope sFirstBreak) := ⟨rfl, rfl, rfl, by decide +kernel, rfl, by decide +kernel, by decide +kernel⟩
def spFirstBreak : Sp := fun vs H Q _ => ∃ (p : Int) (t r : Addr) (ts row : List Int), vs = [.int p, .ref t, .ref r] ∧ H t = some (.tup (iv ts)) ∧ H r = some (.tup (iv row)) ∧ Prm p ∧ Nums p ts ∧ Nums p row ∧ ts.length ≤ 60 ∧ row.length ≤ 400 ∧
  ∀ H' d, Same H H' → Due p ts row ts.length d → Q (optV d) H'
theorem ok_firstBreak (D : Df K mg "first_break" sFirstBreak ["prime", "taps", "row"] f fd) (C1 : Cal P w K mg base 2 "need_prime" ["value"] spNeedPrime) (C2 : Cal P w K mg base 4 "need_taps" ["prime", "value"] (spNeedMost 60))
    (C3 : Cal P w K mg base 4 "need_row" ["prime", "value"] (spNeedMost 400)) (C5 : Cal P w K mg base 2 "break_of" ["prime", "taps", "row"] spBreakOf) : Cal P w K mg base 5 "first_break" ["prime", "taps", "row"] spFirstBreak := by
  refine D.cal (D.F.ok scFirstBreak (fun vs H Q E h => ?_) (fun cdv A outer s H vs Q E hr h => ?_))
  · obtain ⟨p, t, r, ts, row, rfl, _⟩ := h
    rfl
  · obtain ⟨p, t, r, ts, row, rfl, ht, hrow, hp, hnt, hnr, hl60, hl4, q⟩ := h
    refine ⟨_, pss_cons (ps_expr (pe_c C1 hr (by rfl) (pa_cons (pv 0) pa_nil))) (pss_cons (ps_expr (pe_c C2 hr (by rfl) (pa_cons (pv 0) (pa_cons (pv 1) pa_nil)))) (pss_cons (ps_expr (pe_c C3 hr (by rfl) (pa_cons (pv 0) (pa_cons (pv 2) pa_nil))))
      (pss_one (ps_ret (pe_c C5 hr (by rfl) (pa_cons (pv 0) (pa_cons (pv 1) (pa_cons (pv 2) pa_nil)))))))), ?_⟩
    refine ⟨_, rfl, p, rfl, hp, ?_⟩
    refine ⟨_, rfl, _, rfl, p, t, rfl, ⟨ts, ht, by omega, by omega, hnt⟩, fun H1 s1 => ?_⟩
    refine ⟨_, rfl, _, rfl, p, r, rfl, ⟨row, s1 _ _ hrow, by omega, by omega, hnr⟩, fun H2 s2 => ?_⟩
    have s12 := s1.trans s2
    have hp' : 0 < p ∧ p ≤ 7 := by rcases hp with rfl | rfl | rfl | rfl <;> decide
    exact ⟨_, rfl, _, rfl, _, rfl, p, t, r, ts, row, rfl, s12 _ _ ht, s12 _ _ hrow, hp'.1, hp'.2, hnt, hl60, hl4, fun H' d s3 e => q H' d (s12.trans s3) e⟩
end
end Tap

/-! Taprows, law k03: the law's own helpers: _law_taken, _law_pick, _law_prime, _law_taps, _law_row. -/
namespace Tap
open PySem PySem.Spec PyProof.Rows L2
/-- the script: frozen, or an object of the module -/
def Scr (K : PySem.W.Frag) (H : Hp) (a : Addr) (ns : List Int) : Prop :=
  (∃ o, H a = some (.frz o (.lst (iv ns)))) ∨ ∃ (o : Obj) (its : Array Value) (n : Nat), K.lookup a = some o ∧ o.cls = .type "list" ∧ o.dict = none ∧ o.data = .seq its n ∧ its.size ≤ sizeLine ∧ Vals (iv ns) its.toList
theorem Scr.seq {K : PySem.W.Frag} {H : Hp} {a : Addr} {ns : List Int} (h : Scr K H a ns) : SqL K H a (iv ns) := by
  rcases h with h | h
  · exact .inl (.inr h)
  · exact .inr h
/-- the list of draws stands at p -/
def StAt (H : Hp) (p a : Addr) : Prop := ∃ i s r : Int, 0 ≤ i ∧ H p = some (.lst [.ref a, .int i, .int s, .int r])
/-- all but p is as it was -/
def Chg (p : Addr) (H H' : Hp) : Prop := ∀ b o, b ≠ p → H b = some o → H' b = some o
theorem Chg.refl (p : Addr) (H : Hp) : Chg p H H := fun _ _ _ h => h
theorem Chg.trans {p : Addr} {H H1 H2 : Hp} (a : Chg p H H1) (b : Chg p H1 H2) : Chg p H H2 := fun c o n h => b c o n (a c o n h)
theorem Chg.of_same {p : Addr} {H H' : Hp} (h : Same H H') : Chg p H H' := fun b o _ e => h b o e
theorem Chg.upd (p : Addr) (H : Hp) (o : HO) : Chg p H (upd H p o) := fun b u n e => by rw [upd_ne n]; exact e
theorem Scr.chg {K : PySem.W.Frag} {H H' : Hp} {p a : Addr} {ns : List Int} (h : Scr K H a ns) (st : StAt H p a) (c : Chg p H H') : Scr K H' a ns := by
  rcases h with ⟨o, h⟩ | h
  · obtain ⟨i, s, r, _, e⟩ := st
    exact .inl ⟨o, c _ _ (ne_of h e (by intro z; cases z)) h⟩
  · exact .inr h
theorem StAt.same {H H' : Hp} {p a : Addr} (h : StAt H p a) (sm : Same H H') : StAt H' p a := by
  obtain ⟨i, s, r, h0, e⟩ := h
  exact ⟨i, s, r, h0, sm _ _ e⟩
theorem StAt.ne {H : Hp} {p a q : Addr} {xs : List V} (h : StAt H p a) (e : H q = some (.tup xs)) : q ≠ p := by
  obtain ⟨i, s, r, _, e'⟩ := h
  exact ne_of e e' (by intro z; cases z)
section
variable {P : Program} {w : World} {K : PySem.W.Frag} {mg : Str → Option Value} {base : Heap} {f : Addr} {fd : FuncData}
/-! ### _law_taken -/
theorem scTaken : FnScope ["_law_row_here", "_law_many", "_law_found", "_law_cell"] ["_law_row_here", "_law_many"] (defScope sTaken) := ⟨rfl, rfl, rfl, by decide +kernel, rfl, by decide +kernel, by decide +kernel⟩
def spTaken (K : PySem.W.Frag) : Sp := fun vs H Q _ => ∃ (p a : Addr) (ns : List Int) (m : Int), vs = [.ref p, .int m] ∧ StAt H p a ∧ Scr K H a ns ∧ 1 ≤ m ∧ m ≤ 1000 ∧ ∀ H' v, Chg p H H' → StAt H' p a → 0 ≤ v → v < m → Q (.int v) H'
theorem fmod_lt {x m : Int} (h : 0 < m) : 0 ≤ x % m ∧ x % m < m := ⟨Int.emod_nonneg _ (by omega), Int.emod_lt_of_pos _ h⟩
theorem ok_taken (D : Df K mg "_law_taken" sTaken ["_law_row_here", "_law_many"] f fd) (T : Bi mg) : Cal P w K mg base 1 "_law_taken" ["_law_row_here", "_law_many"] (spTaken K) := by
  refine D.cal (D.F.ok scTaken (fun vs H Q E h => ?_) (fun cdv A outer s H vs Q E hr h => ?_))
  · obtain ⟨p, a, ns, m, rfl, _⟩ := h
    rfl
  · obtain ⟨p, a, ns, m, rfl, st, sc, hm, hm1, q⟩ := h
    refine ⟨_, pss_cons (ps_if (pt_cmpR op_gt (pe_ix ix_list (pv 0) pe_int (fun _ _ => rfl)) pe_int (nomark _))
        (pss_cons (ps_set (i := 2) scTaken.nd rfl (.inl rfl) (pe_op op_mod (pe_callTy call_int1 (by rfl) T.int (by decide +kernel) (pa_cons (pe_ix ix_list (pv 0) pe_int (fun _ _ => rfl)) pa_nil)) (pv 1)))
        (pss_cons (ps_asg (pe_op op_fdivN (pe_ix ix_list (pv 0) pe_int (fun _ _ => rfl)) (pv 1)) (pg_sub (pv 0) pe_int set_list))
        (pss_one (ps_ret (pv 2))))) pss_nil)
      (pss_cons (ps_asg (pe_op op_add (pe_ix ix_list (pv 0) pe_int (fun _ _ => rfl)) pe_int) (pg_sub (pv 0) pe_int set_list))
      (pss_cons (ps_if (pt_cmpR op_gt (pe_ix ix_list (pv 0) pe_int (fun _ _ => rfl)) (pe_callB call_len_seq (by rfl) T.len PySem.boot_len (pa_cons (pe_ix ix_list (pv 0) pe_int (fun _ _ => rfl)) pa_nil)) (nomark _))
        (pss_cons (ps_asg (pe_op op_mod (pe_callTy call_int1 (by rfl) T.int (by decide +kernel) (pa_cons (pe_op op_add (pe_op op_mul (pe_ix ix_list (pv 0) pe_int (fun _ _ => rfl)) pe_int) pe_int) pa_nil)) pe_int) (pg_sub (pv 0) pe_int set_list))
        (pss_one (ps_ret (pe_op op_mod (pe_callTy call_int1 (by rfl) T.int (by decide +kernel) (pa_cons (pe_op op_fdivN (pe_ix ix_list (pv 0) pe_int (fun _ _ => rfl)) pe_int) pa_nil)) (pv 1))))) pss_nil)
      (pss_cons (ps_set (i := 3) scTaken.nd rfl (.inl rfl) (pe_ix ix_list (pe_ix ix_list (pv 0) pe_int (fun _ _ => rfl)) (pe_op op_sub (pe_ix ix_list (pv 0) pe_int (fun _ _ => rfl)) pe_int) (fun _ _ => rfl)))
      (pss_cons (ps_asg (pe_op op_mod (pe_callTy call_int1 (by rfl) T.int (by decide +kernel) (pa_cons (pe_op op_add (pe_op op_add (pe_op op_mul (pe_ix ix_list (pv 0) pe_int (fun _ _ => rfl)) pe_int) (pv 3)) pe_int) pa_nil)) pe_int) (pg_sub (pv 0) pe_int set_list))
      (pss_cons (ps_if (pt_cmpR op_ge (pv 3) (pe_op op_pow pe_int pe_int) (nomark _))
        (pss_one (ps_asg (pe_op op_fdivN (pv 3) (pv 1)) (pg_sub (pv 0) pe_int set_list))) pss_nil)
      (pss_one (ps_ret (pe_op op_mod (pe_callTy call_int1 (by rfl) T.int (by decide +kernel) (pa_cons (pv 3) pa_nil)) (pv 1))))))))), ?_⟩
    obtain ⟨i, se, rs, h0, hp⟩ := id st
    have hL : SqL K H p [.ref a, .int i, .int se, .int rs] := SqL.of hp
    -- if row[3] > 0
    refine ⟨_, rfl, p, _, 3, .int rs, rfl, rfl, hL, atI_nat (j := 3) rfl, rs, 0, rfl, rfl, _, rfl, ite2 (fun _ => ?_) (fun _ => ?_)⟩
    · refine ⟨_, rfl, p, _, 3, .int rs, rfl, rfl, hL, atI_nat (j := 3) rfl, .inl ⟨rs, rfl, _, rfl, rs, m, rfl, rfl, by omega, ?_⟩⟩
      refine ⟨_, rfl, p, _, 3, .int rs, rfl, rfl, hL, atI_nat (j := 3) rfl, _, rfl, rs, m, rfl, rfl, ⟨by omega, by omega⟩, ?_⟩
      refine ⟨_, rfl, p, _, 3, 3, rfl, rfl, hp, rfl, _, rfl, ?_⟩
      exact q _ _ (Chg.upd _ _ _) ⟨i, se, rs.fdiv m, h0, upd_same⟩ (fmod_lt (by omega)).1 (fmod_lt (by omega)).2
    -- row[1] = row[1] + 1
    refine ⟨_, rfl, p, _, 1, .int i, rfl, rfl, hL, atI_nat (j := 1) rfl, i, 1, rfl, rfl, _, rfl, p, _, 1, 1, rfl, rfl, hp, rfl, ?_⟩
    have hp1 : (upd H p (.lst [.ref a, .int (i + 1), .int se, .int rs])) p = some (.lst [.ref a, .int (i + 1), .int se, .int rs]) := upd_same
    have c1 : Chg p H (upd H p (.lst [.ref a, .int (i + 1), .int se, .int rs])) := Chg.upd _ _ _
    have sc1 := sc.chg st c1
    show tSeq _ _ _ _ (upd H p (.lst [.ref a, .int (i + 1), .int se, .int rs]))
    generalize upd H p (.lst [.ref a, .int (i + 1), .int se, .int rs]) = H1 at hp1 c1 sc1 ⊢
    have hL1 : SqL K H1 p [.ref a, .int (i + 1), .int se, .int rs] := SqL.of hp1
    -- if row[1] > len(row[0])
    refine ⟨_, rfl, p, _, 1, _, rfl, rfl, hL1, atI_nat (j := 1) rfl, _, rfl, p, _, 0, _, rfl, rfl, hL1, atI_nat (j := 0) rfl, a, _, rfl, .inl sc1.seq, i + 1, _, rfl, rfl, _, rfl, ite2 (fun _ => ?_) (fun hgt => ?_)⟩
    · refine ⟨_, rfl, p, _, 2, _, rfl, rfl, hL1, atI_nat (j := 2) rfl, se, 48271, rfl, rfl, .inr ⟨by decide, by decide⟩, _, 11, rfl, rfl, .inl ⟨_, rfl, _, 2147483647, rfl, rfl, (by show (0 : Int) < 2147483647; decide), ?_⟩⟩
      refine ⟨_, rfl, p, _, 2, 2, rfl, rfl, hp1, rfl, ?_⟩
      refine ⟨_, rfl, p, _, 2, _, rfl, rfl, SqL.of upd_same, atI_nat (j := 2) rfl, _, 7, rfl, rfl, ⟨by decide, by decide⟩, .inl ⟨_, rfl, _, rfl, _, m, rfl, rfl, by omega, ?_⟩⟩
      exact q _ _ (c1.trans (Chg.upd _ _ _)) ⟨i + 1, (se * 48271 + 11) % 2147483647, rs, by omega, upd_same⟩ (fmod_lt (by omega)).1 (fmod_lt (by omega)).2
    have hgt' : ¬ ((iv ns).length : Int) < i + 1 := fun z => hgt (decide_eq_true z)
    rw [iv_len] at hgt'
    obtain ⟨x, ex⟩ : ∃ x, ns[i.toNat]? = some x := ⟨ns[i.toNat]'(by omega), List.getElem?_eq_getElem (by omega)⟩
    have exi : atI (iv ns) (i + 1 - 1) = some (.int x) := by
      rw [show i + 1 - 1 = ((i.toNat : Nat) : Int) by omega]
      exact atI_nat (iv_at ex)
    -- cell = row[0][row[1] - 1]
    refine ⟨_, rfl, p, _, 0, _, rfl, rfl, hL1, atI_nat (j := 0) rfl, _, rfl, p, _, 1, _, rfl, rfl, hL1, atI_nat (j := 1) rfl, i + 1, 1, rfl, rfl, a, _, i + 1 - 1, .int x, rfl, rfl, sc1.seq, exi, ?_⟩
    -- row[2] = int(row[2] * 48271 + cell + 11) % 2147483647
    refine ⟨_, rfl, p, _, 2, _, rfl, rfl, hL1, atI_nat (j := 2) rfl, se, 48271, rfl, rfl, .inr ⟨by decide, by decide⟩, _, rfl, _, x, rfl, rfl, _, 11, rfl, rfl, .inl ⟨_, rfl, _, 2147483647, rfl, rfl, (by show (0 : Int) < 2147483647; decide), ?_⟩⟩
    refine ⟨_, rfl, p, _, 2, 2, rfl, rfl, hp1, rfl, ?_⟩
    -- if cell >= 10 ** 18
    refine ⟨_, rfl, 10, 18, rfl, rfl, ⟨by decide, by decide, by decide⟩, x, _, rfl, rfl, _, rfl, ite2 (fun _ => ?_) (fun _ => ?_)⟩
    · refine ⟨_, rfl, _, rfl, x, m, rfl, rfl, ⟨by omega, by omega⟩, _, rfl, p, _, 3, 3, rfl, rfl, upd_same, rfl, ?_⟩
      refine ⟨_, rfl, .inl ⟨x, rfl, _, rfl, x, m, rfl, rfl, by omega, ?_⟩⟩
      exact q _ _ ((c1.trans (Chg.upd _ _ _)).trans (Chg.upd _ _ _)) ⟨i + 1, (se * 48271 + x + 11) % 2147483647, x.fdiv m, by omega, upd_same⟩ (fmod_lt (by omega)).1 (fmod_lt (by omega)).2
    · refine ⟨_, rfl, .inl ⟨x, rfl, _, rfl, x, m, rfl, rfl, by omega, ?_⟩⟩
      exact q _ _ (c1.trans (Chg.upd _ _ _)) ⟨i + 1, (se * 48271 + x + 11) % 2147483647, rs, by omega, upd_same⟩ (fmod_lt (by omega)).1 (fmod_lt (by omega)).2
end
end Tap

/-! Taprows, law k03: _law_pick, _law_prime, _law_taps, _law_row. -/
namespace Tap
open PySem PySem.Spec PyProof.Rows L2
section
variable {P : Program} {w : World} {K : PySem.W.Frag} {mg : Str → Option Value} {base : Heap} {f : Addr} {fd : FuncData}
abbrev CalTaken (P : Program) (w : World) (K : PySem.W.Frag) (mg : Str → Option Value) (base : Heap) : Prop := Cal P w K mg base 1 "_law_taken" ["_law_row_here", "_law_many"] (spTaken K)
/-! ### _law_pick, _law_prime -/
theorem scPick : FnScope ["_law_row_here", "_law_things"] ["_law_row_here", "_law_things"] (defScope sPick) := ⟨rfl, rfl, rfl, by decide +kernel, rfl, by decide +kernel, by decide +kernel⟩
def spPick (K : PySem.W.Frag) : Sp := fun vs H Q _ => ∃ (p a l : Addr) (ns xs : List Int), vs = [.ref p, .ref l] ∧ StAt H p a ∧ Scr K H a ns ∧ H l = some (.lst (iv xs)) ∧ l ≠ p ∧ 1 ≤ xs.length ∧ xs.length ≤ 1000 ∧
  ∀ H' x, Chg p H H' → StAt H' p a → x ∈ xs → Q (.int x) H'
theorem ok_pick (D : Df K mg "_law_pick" sPick ["_law_row_here", "_law_things"] f fd) (C1 : CalTaken P w K mg base) (T : Bi mg) : Cal P w K mg base 2 "_law_pick" ["_law_row_here", "_law_things"] (spPick K) := by
  refine D.cal (D.F.ok scPick (fun vs H Q E h => ?_) (fun cdv A outer s H vs Q E hr h => ?_))
  · obtain ⟨p, a, l, ns, xs, rfl, _⟩ := h
    rfl
  · obtain ⟨p, a, l, ns, xs, rfl, st, sc, hl, hlp, h1, h2, q⟩ := h
    refine ⟨_, pss_one (ps_ret (pe_ix ix_list (pv 1) (pe_c C1 hr (by rfl) (pa_cons (pv 0) (pa_cons (pe_callB call_len_seq (by rfl) T.len PySem.boot_len (pa_cons (pv 1) pa_nil)) pa_nil))) (fun _ _ => rfl))), ?_⟩
    refine ⟨_, rfl, _, rfl, _, rfl, l, _, rfl, .inl (SqL.of hl), p, a, ns, _, rfl, st, sc, by rw [iv_len]; omega, by rw [iv_len]; omega, fun H' v c st' v0 vm => ?_⟩
    rw [iv_len] at vm
    obtain ⟨x, ex⟩ : ∃ x, xs[v.toNat]? = some x := ⟨xs[v.toNat]'(by omega), List.getElem?_eq_getElem (by omega)⟩
    exact ⟨l, _, v, .int x, rfl, rfl, SqL.of (c _ _ hlp hl), at_of (by omega) (iv_at ex), q H' x c st' (List.mem_of_getElem? ex)⟩
theorem scPrime : FnScope ["_law_row_here"] ["_law_row_here"] (defScope sPrime) := ⟨rfl, rfl, rfl, by decide +kernel, rfl, by decide +kernel, by decide +kernel⟩
def spPrime (K : PySem.W.Frag) : Sp := fun vs H Q _ => ∃ (p a : Addr) (ns : List Int), vs = [.ref p] ∧ StAt H p a ∧ Scr K H a ns ∧ ∀ H' x, Chg p H H' → StAt H' p a → Prm x → Q (.int x) H'
theorem ok_prime (D : Df K mg "_law_prime" sPrime ["_law_row_here"] f fd) (C1 : Cal P w K mg base 2 "_law_pick" ["_law_row_here", "_law_things"] (spPick K)) : Cal P w K mg base 3 "_law_prime" ["_law_row_here"] (spPrime K) := by
  refine D.cal (D.F.ok scPrime (fun vs H Q E h => ?_) (fun cdv A outer s H vs Q E hr h => ?_))
  · obtain ⟨p, a, ns, rfl, _⟩ := h
    rfl
  · obtain ⟨p, a, ns, rfl, st, sc, q⟩ := h
    refine ⟨_, pss_one (ps_ret (pe_c C1 hr (by rfl) (pa_cons (pv 0) (pa_cons (pe_lst (pa_cons pe_int (pa_cons pe_int (pa_cons pe_int (pa_cons pe_int (pa_cons pe_int pa_nil)))))) pa_nil)))), ?_⟩
    refine ⟨_, rfl, (by show 5 ≤ sizeLine; decide), fun l nl => ?_⟩
    have sm : Same H (upd H l (.lst [.int 2, .int 2, .int 3, .int 5, .int 7])) := same_upd nl
    have hlp : l ≠ p := by
      obtain ⟨i, se, rs, _, e⟩ := st
      exact (ne_of_none e nl).symm
    refine ⟨p, a, l, ns, [2, 2, 3, 5, 7], rfl, st.same sm, sc.chg st (Chg.of_same sm), upd_same, hlp, by decide, by decide, fun H' x c st' hx => q H' x ((Chg.of_same sm).trans c) st' ?_⟩
    simp only [List.mem_cons, List.not_mem_nil, or_false] at hx
    rcases hx with h | h | h | h | h
    · exact .inl h
    · exact .inl h
    · exact .inr (.inl h)
    · exact .inr (.inr (.inl h))
    · exact .inr (.inr (.inr h))
/-! ### a list of draws -/
theorem draw_lc {σ : L2.St} {H : Hp} {D p a : Addr} {ns : List Int} {m : Int} {n : Nat} {Qd : Hp → Prop} {j i0 i1 : Nat} (h0 : ∀ x, ((wipe σ [j]).set j (some x))[i0]? = some (some (.ref p))) (h1 : ∀ x, ((wipe σ [j]).set j (some x))[i1]? = some (some (.int m)))
    (hw : ∀ x, (((wipe σ [j]).set j (some x)).set j none) = wipe σ [j]) (hD : H D = none) (st : StAt H p a) (sc : Scr K H a ns) (hm : 1 ≤ m) (hm1 : m ≤ 1000) (hn : n ≤ 1000)
    (hd : ∀ H' l, Chg p H H' → StAt H' p a → H' D = some (.lst (iv l)) → l.length = n → Nums m l → Qd H') :
    ∃ W : Nat → Nat → Hp → Prop, (∃ m, W 0 m (upd H D (.lst []))) ∧ ∀ i m' H1, W i m' H1 →
      ((Itr 0 n).stop i H1 ∧ Qd H1) ∨ ((Itr 0 n).go i H1 ∧ ∃ Nx : Hp → Prop, (∀ H', Nx H' → ∃ m'', m'' < m' ∧ W (i + 1) m'' H') ∧ ∀ x H', (Itr 0 n).yld i H1 x H' → gName j x (wipe σ [j]) H' fun σ2 H2 => wipe σ2 [j] = wipe σ [j] ∧ tYes σ2 H2 fun b H3 =>
        if b = true then tCall (spTaken K) [] E0 (tCons (tVar i0) (tCons (tVar i1) tNil)) σ2 H3 fun y H4 => ∃ acc, H4 D = some (.lst acc) ∧ acc.length < sizeLine ∧ Nx (upd H4 D (.lst (acc ++ [y]))) else Nx H3) := by
  have hDp : D ≠ p := by
    obtain ⟨i, se, rs, _, e⟩ := st
    exact (ne_of_none e hD).symm
  refine lc_range (fun i H1 => Chg p H H1 ∧ StAt H1 p a ∧ ∃ l, H1 D = some (.lst (iv l)) ∧ l.length = i ∧ Nums m l) ⟨Chg.of_same (same_upd hD), st.same (same_upd hD), [], upd_same, rfl, Nums.nil⟩ (fun i H1 hi h => ?_) (fun H1 h => ?_)
  · obtain ⟨c, st1, l, el, hl, hnl⟩ := h
    refine ⟨hw _, _, h0 _, _, h1 _, p, a, ns, m, rfl, st1, sc.chg st c, hm, hm1, fun H2 v c2 st2 v0 vm => ⟨iv l, c2 _ _ hDp el, ?_, fun b o hb e => ?_, ?_, l ++ [v], ?_, ?_, hnl.append (.one ⟨v0, vm⟩)⟩⟩
    · rw [iv_len]
      exact line (by omega)
    · rw [upd_ne (ne_of_none e hD)]
      exact c2 b o hb (c b o hb e)
    · obtain ⟨i', se, rs, hi', e⟩ := st2
      exact ⟨i', se, rs, hi', by rw [upd_ne hDp.symm]; exact e⟩
    · rw [upd_same]
      show some (HO.lst (iv l ++ iv [v])) = _
      rw [iv_app]
    · rw [List.length_append, hl]
      rfl
  · obtain ⟨c, st1, l, el, hl, hnl⟩ := h
    exact hd H1 l c st1 el hl hnl
/-! ### _law_row -/
theorem scRow : FnScope ["_law_row_here", "_law_prime_here", "_law_most", "_law_at"] ["_law_row_here", "_law_prime_here", "_law_most"] (defScope sRow) := ⟨rfl, rfl, rfl, by decide +kernel, rfl, by decide +kernel, by decide +kernel⟩
def spRow (K : PySem.W.Frag) : Sp := fun vs H Q _ => ∃ (p a : Addr) (ns : List Int) (m most : Int), vs = [.ref p, .int m, .int most] ∧ StAt H p a ∧ Scr K H a ns ∧ 1 ≤ m ∧ m ≤ 7 ∧ 0 ≤ most ∧ most ≤ 60 ∧
  ∀ H' t l, Chg p H H' → StAt H' p a → H' t = some (.tup (iv l)) → (l.length : Int) ≤ most → Nums m l → Q (.ref t) H'
theorem ok_row (D : Df K mg "_law_row" sRow ["_law_row_here", "_law_prime_here", "_law_most"] f fd) (C1 : CalTaken P w K mg base) (T : Bi mg) : Cal P w K mg base 2 "_law_row" ["_law_row_here", "_law_prime_here", "_law_most"] (spRow K) := by
  refine D.cal (D.F.ok scRow (fun vs H Q E h => ?_) (fun cdv A outer s H vs Q E hr h => ?_))
  · obtain ⟨p, a, ns, m, most, rfl, _⟩ := h
    rfl
  · obtain ⟨p, a, ns, m, most, rfl, st, sc, hm, hm7, hmo, hmo6, q⟩ := h
    refine ⟨_, pss_one (ps_ret (pe_callTy call_tuple_of (by rfl) T.tuple (by decide +kernel) (pa_cons (pe_lc (own := [("_law_at", 3)]) (g := gName 3) (tt := tYes) rfl scRow.nd
        (pi_range1 (by rfl) T.range (pa_cons (pe_c C1 hr (by rfl) (pa_cons (pv 0) (pa_cons (pe_op op_add (pv 2) pe_int) pa_nil))) pa_nil))
        (blkOk_by (own := [("_law_at", 3)]) (N := ["_law_row_here", "_law_prime_here", "_law_most", "_law_at"]) (sc := defScope sRow) (by decide +kernel)) (fun _ _ _ _ _ => pg_name (i := 3) scRow.nd rfl (Or.inl rfl)) (fun _ _ _ _ _ => pts_nil)
        (fun _ _ _ _ _ => pe_c C1 hr (by rfl) (pa_cons (pv 0) (pa_cons (pv 1) pa_nil)))) pa_nil))), ?_⟩
    refine ⟨_, rfl, _, rfl, _, _, rfl, rfl, p, a, ns, _, rfl, st, sc, by show 1 ≤ most + 1; omega, by show most + 1 ≤ 1000; omega, fun H1 v c1 st1 v0 vm => ?_⟩
    have vm' : v < most + 1 := vm
    refine ⟨v, rfl, by omega, by omega, fun d hd => ?_⟩
    refine draw_lc (n := v.toNat) (fun _ => rfl) (fun _ => rfl) (fun _ => rfl) hd st1 (sc.chg st c1) hm (by omega) (by omega) fun H2 l c2 st2 el hl hnl => ?_
    refine ⟨d, _, rfl, .inl ⟨SqL.of el, fun t nt => ?_⟩⟩
    have sm : Same H2 (upd H2 t (.tup (iv l))) := same_upd nt
    exact q _ t l ((c1.trans c2).trans (Chg.of_same sm)) (st2.same sm) upd_same (by omega) hnl
/-! ### _law_taps -/
theorem scTaps : FnScope ["_law_row_here", "_law_prime_here", "_law_most", "_law_size", "_law_taps_here", "_law_at"] ["_law_row_here", "_law_prime_here", "_law_most"] (defScope sTaps) := ⟨rfl, rfl, rfl, by decide +kernel, rfl, by decide +kernel, by decide +kernel⟩
def spTaps (K : PySem.W.Frag) : Sp := fun vs H Q _ => ∃ (p a : Addr) (ns : List Int) (m most : Int), vs = [.ref p, .int m, .int most] ∧ StAt H p a ∧ Scr K H a ns ∧ 1 ≤ m ∧ m ≤ 7 ∧ 0 ≤ most ∧ most ≤ 60 ∧
  ∀ H' r t b ts ss, Chg p H H' → StAt H' p a → H' r = some (.tup [.ref t, .ref b]) → H' t = some (.tup (iv ts)) → H' b = some (.tup (iv ss)) → ss.length = ts.length → (ts.length : Int) ≤ most → Nums m ts → Nums m ss → Q (.ref r) H'
theorem ok_taps (D : Df K mg "_law_taps" sTaps ["_law_row_here", "_law_prime_here", "_law_most"] f fd) (C1 : CalTaken P w K mg base) (T : Bi mg) : Cal P w K mg base 2 "_law_taps" ["_law_row_here", "_law_prime_here", "_law_most"] (spTaps K) := by
  refine D.cal (D.F.ok scTaps (fun vs H Q E h => ?_) (fun cdv A outer s H vs Q E hr h => ?_))
  · obtain ⟨p, a, ns, m, most, rfl, _⟩ := h
    rfl
  · obtain ⟨p, a, ns, m, most, rfl, st, sc, hm, hm7, hmo, hmo6, q⟩ := h
    refine ⟨_, pss_cons (ps_set (i := 3) scTaps.nd rfl (.inl rfl) (pe_c C1 hr (by rfl) (pa_cons (pv 0) (pa_cons (pe_op op_add (pv 2) pe_int) pa_nil))))
      (pss_cons (ps_set (i := 4) scTaps.nd rfl (.inl rfl) (pe_callTy call_tuple_of (by rfl) T.tuple (by decide +kernel) (pa_cons (pe_lc (own := [("_law_at", 5)]) (g := gName 5) (tt := tYes) rfl scTaps.nd (pi_range1 (by rfl) T.range (pa_cons (pv 3) pa_nil))
        (blkOk_by (own := [("_law_at", 5)]) (N := ["_law_row_here", "_law_prime_here", "_law_most", "_law_size", "_law_taps_here", "_law_at"]) (sc := defScope sTaps) (by decide +kernel)) (fun _ _ _ _ _ => pg_name (i := 5) scTaps.nd rfl (Or.inl rfl)) (fun _ _ _ _ _ => pts_nil)
        (fun _ _ _ _ _ => pe_c C1 hr (by rfl) (pa_cons (pv 0) (pa_cons (pv 1) pa_nil)))) pa_nil)))
      (pss_one (ps_ret (pe_tup (pa_cons (pv 4) (pa_cons (pe_callTy call_tuple_of (by rfl) T.tuple (by decide +kernel) (pa_cons (pe_lc (own := [("_law_at", 5)]) (g := gName 5) (tt := tYes) rfl scTaps.nd (pi_range1 (by rfl) T.range (pa_cons (pv 3) pa_nil))
        (blkOk_by (own := [("_law_at", 5)]) (N := ["_law_row_here", "_law_prime_here", "_law_most", "_law_size", "_law_taps_here", "_law_at"]) (sc := defScope sTaps) (by decide +kernel)) (fun _ _ _ _ _ => pg_name (i := 5) scTaps.nd rfl (Or.inl rfl)) (fun _ _ _ _ _ => pts_nil)
        (fun _ _ _ _ _ => pe_c C1 hr (by rfl) (pa_cons (pv 0) (pa_cons (pv 1) pa_nil)))) pa_nil)) pa_nil)))))), ?_⟩
    -- _law_size
    refine ⟨_, rfl, _, rfl, _, _, rfl, rfl, p, a, ns, _, rfl, st, sc, by show 1 ≤ most + 1; omega, by show most + 1 ≤ 1000; omega, fun H1 v c1 st1 v0 vm => ?_⟩
    have vm' : v < most + 1 := vm
    -- _law_taps_here
    refine ⟨_, rfl, v, rfl, by omega, by omega, fun d hd => ?_⟩
    refine draw_lc (n := v.toNat) (fun _ => rfl) (fun _ => rfl) (fun _ => rfl) hd st1 (sc.chg st c1) hm (by omega) (by omega) fun H2 ts c2 st2 el hl hnl => ?_
    refine ⟨d, _, rfl, .inl ⟨SqL.of el, fun t nt => ?_⟩⟩
    have c3 : Chg p H (upd H2 t (.tup (iv ts))) := (c1.trans c2).trans (Chg.of_same (same_upd nt))
    have st3 := st2.same (same_upd (o := .tup (iv ts)) nt)
    have et : (upd H2 t (.tup (iv ts))) t = some (.tup (iv ts)) := upd_same
    -- the pair
    refine ⟨_, rfl, _, rfl, v, rfl, by omega, by omega, fun d2 hd2 => ?_⟩
    refine draw_lc (n := v.toNat) (fun _ => rfl) (fun _ => rfl) (fun _ => rfl) hd2 st3 (sc.chg st c3) hm (by omega) (by omega) fun H4 ss c4 st4 el4 hl4 hns => ?_
    refine ⟨d2, _, rfl, .inl ⟨SqL.of el4, fun b nb => ⟨by show 2 ≤ sizeLine; decide, fun r nr => ?_⟩⟩⟩
    have s5 : Same H4 (upd H4 b (.tup (iv ss))) := same_upd nb
    have s6 : Same (upd H4 b (.tup (iv ss))) (upd (upd H4 b (.tup (iv ss))) r (.tup [.ref t, .ref b])) := same_upd nr
    have s56 := s5.trans s6
    refine q _ r t b ts ss ((c3.trans c4).trans (Chg.of_same s56)) (st4.same s56) upd_same (s56 _ _ (c4 _ _ (st3.ne et) et)) (s6 _ _ upd_same) (by omega) (by omega) hnl hns
end
end Tap

/-! Taprows, law k03: _law_alike, _law_run. -/
namespace Tap
open PySem PySem.Spec PyProof.Rows L2
section
variable {P : Program} {w : World} {K : PySem.W.Frag} {mg : Str → Option Value} {base : Heap} {f : Addr} {fd : FuncData}
/-! ### _law_alike of two ints, of None twice -/
theorem scAlike : FnScope ["_law_found", "_law_due", "_law_k"] ["_law_found", "_law_due"] (defScope sAlike) := ⟨rfl, rfl, rfl, by decide +kernel, rfl, by decide +kernel, by decide +kernel⟩
/-- isinstance(x, (tuple, list)) of what is neither -/
theorem kit_no {K : PySem.W.Frag} {n : String} (h1 : kitB n "tuple" = some false) (h2 : kitB n "list" = some false) : PySem.W.kitAny K (.type n) [.type "tuple", .type "list"] = some false :=
  kitAny_cons (kit_ty h1) (fun _ => kitAny_cons (kit_ty h2) (fun _ => kitAny_nil) (fun z => by cases z)) (fun z => by cases z)
theorem kit_tup {K : PySem.W.Frag} : PySem.W.kitAny K (.type "tuple") [.type "tuple", .type "list"] = some true :=
  kitAny_cons (b := true) (kit_ty (by decide +kernel)) (fun z => by cases z) (fun _ => rfl)
def spFlat : Sp := fun vs H Q _ => ∃ d : Option Int, vs = [(d.map V.int).getD .non, (d.map V.int).getD .non] ∧ ∀ H', Same H H' → Q (.bl true) H'
theorem ok_flat (D : Df K mg "_law_alike" sAlike ["_law_found", "_law_due"] f fd) (T : Bi mg) : Cal P w K mg base 1 "_law_alike" ["_law_found", "_law_due"] spFlat := by
  refine D.cal (D.F.ok scAlike (fun vs H Q E h => ?_) (fun cdv A outer s H vs Q E hr h => ?_))
  · obtain ⟨d, rfl, _⟩ := h
    rfl
  · obtain ⟨d, rfl, q⟩ := h
    refine ⟨_, pss_cons (ps_if (pt_val (pe_callB call_isiT (by rfl) T.isi (by decide +kernel) (pa_cons (pv 1) (pa_cons (pe_tup (pa_cons (pe_bltn (v := .ty "tuple") (by rfl) T.tuple (by decide +kernel) rfl) (pa_cons (pe_bltn (v := .ty "list") (by rfl) T.list (by decide +kernel) rfl) pa_nil))) pa_nil)))) pss_never pss_nil)
      (pss_cons (ps_if (PW.pt (pw_or (pt_cmpR op_isN (pv 1) pe_non (nomark _)) (pw_or1 (pt_val (pe_callB call_isi (by rfl) T.isi (by decide +kernel) (pa_cons (pv 1) (pa_cons (pe_bltn (v := .ty "str") (by rfl) T.str (by decide +kernel) rfl) pa_nil)))))))
        (pss_one (ps_ret (pe_and (pe_cmpR op_eq (pv 0) (pv 1) (nomark _)) (pe_one (pe_cmpR op_eq (pe_callB call_isi (by rfl) T.isi (by decide +kernel) (pa_cons (pv 0) (pa_cons (pe_bltn (v := .ty "str") (by rfl) T.str (by decide +kernel) rfl) pa_nil)))
          (pe_callB call_isi (by rfl) T.isi (by decide +kernel) (pa_cons (pv 1) (pa_cons (pe_bltn (v := .ty "str") (by rfl) T.str (by decide +kernel) rfl) pa_nil))) (nomark _)))))) pss_nil)
      (pss_one (ps_ret (pe_and (pe_callB call_isi (by rfl) T.isi (by decide +kernel) (pa_cons (pv 0) (pa_cons (pe_bltn (v := .ty "int") (by rfl) T.int (by decide +kernel) rfl) pa_nil)))
        (pe_and (pe_cmpR op_eq (pe_callB call_isi (by rfl) T.isi (by decide +kernel) (pa_cons (pv 0) (pa_cons (pe_bltn (v := .ty "bool") (by rfl) T.bool (by decide +kernel) rfl) pa_nil)))
          (pe_callB call_isi (by rfl) T.isi (by decide +kernel) (pa_cons (pv 1) (pa_cons (pe_bltn (v := .ty "bool") (by rfl) T.bool (by decide +kernel) rfl) pa_nil))) (nomark _)) (pe_one (pe_cmpR op_eq (pv 0) (pv 1) (nomark _)))))))), ?_⟩
    cases d with
    | none =>
      refine ⟨_, rfl, by show 2 ≤ sizeLine; decide, fun t nt => ⟨.non, t, _, .type "NoneType", [.type "tuple", .type "list"], false, rfl, upd_same, .cons (.ty _) (.cons (.ty _) .nil), .base .non, kit_no (by decide +kernel) (by decide +kernel), false, rfl, iteF ?_⟩⟩
      refine ⟨_, rfl, rfl, true, congrArg V.bl (decide_eq_true rfl), iteT (iteT ?_)⟩
      refine ⟨_, rfl, _, rfl, rfl, true, congrArg V.bl (decide_eq_true rfl), iteT ?_⟩
      refine ⟨_, rfl, .non, .ty "str", .type "NoneType", .type "str", false, rfl, .ty _, .base .non, kit_ty (by decide +kernel), _, rfl, .non, .ty "str", .type "NoneType", .type "str", false, rfl, .ty _, .base .non, kit_ty (by decide +kernel), rfl, ?_⟩
      rw [decide_eq_true rfl]
      exact q _ (same_upd nt)
    | some i =>
      refine ⟨_, rfl, by show 2 ≤ sizeLine; decide, fun t nt => ⟨.int i, t, _, .type "int", [.type "tuple", .type "list"], false, rfl, upd_same, .cons (.ty _) (.cons (.ty _) .nil), .base (.int i), kit_no (by decide +kernel) (by decide +kernel), false, rfl, iteF ?_⟩⟩
      refine ⟨_, rfl, rfl, false, congrArg V.bl (decide_eq_false fun z => by have z' : V.int i = V.non := z; cases z'), iteF ?_⟩
      refine ⟨_, rfl, .int i, .ty "str", .type "int", .type "str", false, rfl, .ty _, .base (.int i), kit_ty (by decide +kernel), false, rfl, iteF ?_⟩
      refine ⟨_, rfl, .int i, .ty "int", .type "int", .type "int", true, rfl, .ty _, .base (.int i), kit_ty (by decide +kernel), true, rfl, iteT ?_⟩
      refine ⟨_, rfl, .int i, .ty "bool", .type "int", .type "bool", false, rfl, .ty _, .base (.int i), kit_ty (by decide +kernel), _, rfl, .int i, .ty "bool", .type "int", .type "bool", false, rfl, .ty _, .base (.int i), kit_ty (by decide +kernel), rfl, true, congrArg V.bl (decide_eq_true rfl), iteT ?_⟩
      refine ⟨_, rfl, _, rfl, rfl, ?_⟩
      rw [decide_eq_true rfl]
      exact q _ (same_upd nt)
/-! ### _law_alike of two tuples of ints -/
def spAlike : Sp := fun vs H Q _ => ∃ (a b : Addr) (ns : List Int), vs = [.ref a, .ref b] ∧ H a = some (.tup (iv ns)) ∧ H b = some (.tup (iv ns)) ∧ ns.length ≤ 400 ∧ ∀ H', Same H H' → Q (.bl true) H'
theorem ok_alike (D : Df K mg "_law_alike" sAlike ["_law_found", "_law_due"] f fd) (C1 : Cal P w K mg base 1 "_law_alike" ["_law_found", "_law_due"] spFlat) (T : Bi mg) : Cal P w K mg base 2 "_law_alike" ["_law_found", "_law_due"] spAlike := by
  refine D.cal (D.F.ok scAlike (fun vs H Q E h => ?_) (fun cdv A outer s H vs Q E hr h => ?_))
  · obtain ⟨a, b, ns, rfl, _⟩ := h
    rfl
  · obtain ⟨a, b, ns, rfl, ha, hb, hl, q⟩ := h
    refine ⟨_, pss_cons (ps_if (pt_val (pe_callB call_isiT (by rfl) T.isi (by decide +kernel) (pa_cons (pv 1) (pa_cons (pe_tup (pa_cons (pe_bltn (v := .ty "tuple") (by rfl) T.tuple (by decide +kernel) rfl) (pa_cons (pe_bltn (v := .ty "list") (by rfl) T.list (by decide +kernel) rfl) pa_nil))) pa_nil))))
      (pss_cons (ps_if (PW.pt (pw_or (pt_not (pt_val (pe_callB call_isiT (by rfl) T.isi (by decide +kernel) (pa_cons (pv 0) (pa_cons (pe_tup (pa_cons (pe_bltn (v := .ty "tuple") (by rfl) T.tuple (by decide +kernel) rfl) (pa_cons (pe_bltn (v := .ty "list") (by rfl) T.list (by decide +kernel) rfl) pa_nil))) pa_nil)))))
          (pw_or1 (pt_cmpR op_ne (pe_callB call_isi (by rfl) T.isi (by decide +kernel) (pa_cons (pv 0) (pa_cons (pe_bltn (v := .ty "list") (by rfl) T.list (by decide +kernel) rfl) pa_nil))) (pe_callB call_isi (by rfl) T.isi (by decide +kernel) (pa_cons (pv 1) (pa_cons (pe_bltn (v := .ty "list") (by rfl) T.list (by decide +kernel) rfl) pa_nil))) (nomark _))))) pss_never pss_nil)
      (pss_cons (ps_if (pt_cmpR op_ne (pe_callB call_len_seq (by rfl) T.len PySem.boot_len (pa_cons (pv 0) pa_nil)) (pe_callB call_len_seq (by rfl) T.len PySem.boot_len (pa_cons (pv 1) pa_nil)) (nomark _)) pss_never pss_nil)
      (pss_one (ps_ret (pe_cmpR (op_eqD hr.units) (pe_lc (own := [("_law_k", 2)]) (g := gName 2) (tt := tNot (tB (tCall spFlat [] E0 (tCons (tOp (rIxT K) (tVar 0) (tVar 2)) (tCons (tOp (rIxT K) (tVar 1) (tVar 2)) tNil))))) rfl scAlike.nd (pi_range1 (by rfl) T.range (pa_cons (pe_callB call_len_seq (by rfl) T.len PySem.boot_len (pa_cons (pv 1) pa_nil)) pa_nil))
          (blkOk_by (own := [("_law_k", 2)]) (N := ["_law_found", "_law_due", "_law_k"]) (sc := defScope sAlike) (by decide +kernel)) (fun _ _ _ _ _ => pg_name (i := 2) scAlike.nd rfl (Or.inl rfl))
          (fun _ _ _ _ _ => pts_one (pt_not (pt_val (pe_c C1 hr (by rfl) (pa_cons (pe_ix (r := rIxT K) ix_tup (pv 0) (pv 2) (fun _ _ => rfl)) (pa_cons (pe_ix (r := rIxT K) ix_tup (pv 1) (pv 2) (fun _ _ => rfl)) pa_nil)))))) (fun _ _ _ _ _ => pv 2)) (pe_lst pa_nil) (nomark _)))))) pss_nil) pss_never, ?_⟩
    refine ⟨_, rfl, by show 2 ≤ sizeLine; decide, fun t nt => ?_⟩
    have s1 : Same H (upd H t (.tup [.ty "tuple", .ty "list"])) := same_upd nt
    refine ⟨.ref b, t, _, .type "tuple", [.type "tuple", .type "list"], true, rfl, upd_same, .cons (.ty _) (.cons (.ty _) .nil), .base (.tup (s1 _ _ hb)), kit_tup, true, rfl, iteT ?_⟩
    refine ⟨_, rfl, by show 2 ≤ sizeLine; decide, fun t2 nt2 => ?_⟩
    have s2 := s1.trans (same_upd (o := .tup [.ty "tuple", .ty "list"]) nt2)
    refine ⟨.ref a, t2, _, .type "tuple", [.type "tuple", .type "list"], true, rfl, upd_same, .cons (.ty _) (.cons (.ty _) .nil), .base (.tup (s2 _ _ ha)), kit_tup, true, rfl, iteF ?_⟩
    refine ⟨_, rfl, .ref a, .ty "list", .type "tuple", .type "list", false, rfl, .ty _, .base (.tup (s2 _ _ ha)), kit_ty (by decide +kernel), _, rfl, .ref b, .ty "list", .type "tuple", .type "list", false, rfl, .ty _, .base (.tup (s2 _ _ hb)), kit_ty (by decide +kernel), rfl, false, by rw [decide_eq_true rfl]; rfl, iteF ?_⟩
    refine ⟨_, rfl, a, _, rfl, .inr (SqT.of (s2 _ _ ha)), _, rfl, b, _, rfl, .inr (SqT.of (s2 _ _ hb)), rfl, false, by rw [decide_eq_true rfl]; rfl, iteF ?_⟩
    refine ⟨_, rfl, b, _, rfl, .inr (SqT.of (s2 _ _ hb)), ((iv ns).length : Int), rfl, by rw [iv_len]; omega, by rw [iv_len]; omega, fun d hd => ?_⟩
    refine lc_range (fun i H1 => Same H H1 ∧ H1 d = some (.lst [])) ⟨s2.trans (same_upd hd), upd_same⟩ (fun i H1 hi h => ?_) (fun H1 h => ?_)
    · obtain ⟨sm, ed⟩ := h
      rw [Int.toNat_natCast, iv_len] at hi
      obtain ⟨x, ex⟩ : ∃ x, ns[i]? = some x := ⟨ns[i], List.getElem?_eq_getElem hi⟩
      have e0 : (0 : Int) + (i : Nat) = ((i : Nat) : Int) := Int.zero_add _
      rw [e0]
      refine ⟨rfl, _, rfl, _, rfl, a, _, _, .int x, rfl, rfl, SqT.of (sm _ _ ha), atI_nat (iv_at ex), _, rfl, _, rfl, b, _, _, .int x, rfl, rfl, SqT.of (sm _ _ hb), atI_nat (iv_at ex), some x, rfl, fun H2 s3 => ⟨true, rfl, iteF ⟨sm.trans s3, s3 _ _ ed⟩⟩⟩
    · obtain ⟨sm, ed⟩ := h
      refine ⟨Nat.zero_le _, fun e ne => ?_⟩
      have s4 : Same H1 (upd H1 e (.lst [])) := same_upd ne
      refine ⟨.list [], .list [], .lst (SqL.of (s4 _ _ ed)) .nil, .lst (SqL.of upd_same) .nil, rfl, rfl, ?_⟩
      exact q _ (sm.trans s4)
/-! ### _law_run -/
theorem scLawRun : FnScope ["_law_prime_here", "_law_taps_here", "_law_start", "_law_count", "_law_found", "_law_at", "_law_k"] ["_law_prime_here", "_law_taps_here", "_law_start", "_law_count"] (defScope sLawRun) := ⟨rfl, rfl, rfl, by decide +kernel, rfl, by decide +kernel, by decide +kernel⟩
/-- [taps[k] * row[at - 1 - k] for k in range(len(taps))] -/
theorem sum_lc {σ : L2.St} {H : Hp} {d t r : Addr} {ts row : List Int} {k n : Nat} {p : Int} {Qd : Hp → Prop} {j i1 i4 i5 : Nat} (h1 : ∀ x, ((wipe σ [j]).set j (some x))[i1]? = some (some (.ref t))) (h4 : ∀ x, ((wipe σ [j]).set j (some x))[i4]? = some (some (.ref r)))
    (h5 : ∀ x, ((wipe σ [j]).set j (some x))[i5]? = some (some (.int k))) (hj : ∀ x, ((wipe σ [j]).set j (some x))[j]? = some (some x)) (hw : ∀ x, (((wipe σ [j]).set j (some x)).set j none) = wipe σ [j])
    (hd : H d = none) (ht : H t = some (.tup (iv ts))) (hr : SeqAt H r row) (hk : ts.length ≤ k) (hkl : k ≤ row.length) (hn : Nums p ts) (hp : p ≤ 7) (hl : ts.length ≤ 400) (en : n = ts.length)
    (hq : ∀ H', Same H H' → H' d = some (.lst (iv (prods ts (row.take k)))) → Qd H') :
    ∃ W : Nat → Nat → Hp → Prop, (∃ m, W 0 m (upd H d (.lst []))) ∧ ∀ i m' H1, W i m' H1 →
      ((Itr 0 n).stop i H1 ∧ Qd H1) ∨ ((Itr 0 n).go i H1 ∧ ∃ Nx : Hp → Prop, (∀ H', Nx H' → ∃ m'', m'' < m' ∧ W (i + 1) m'' H') ∧ ∀ x H', (Itr 0 n).yld i H1 x H' → gName j x (wipe σ [j]) H' fun σ2 H2 => wipe σ2 [j] = wipe σ [j] ∧ tYes σ2 H2 fun b H3 =>
        if b = true then tOp (rI CMul fun i j => .int (i * j)) (tOp (rIxT K) (tVar i1) (tVar j)) (tOp (rIx K) (tVar i4) (tOp (rI0 fun i j => .int (i - j)) (tOp (rI0 fun i j => .int (i - j)) (tVar i5) (tC (.int 1))) (tVar j))) σ2 H3
          fun y H4 => ∃ acc, H4 d = some (.lst acc) ∧ acc.length < sizeLine ∧ Nx (upd H4 d (.lst (acc ++ [y]))) else Nx H3) := by
  refine lc_range (fun i H1 => Same H H1 ∧ H1 d = some (.lst (iv ((prods ts (row.take k)).take i)))) ⟨same_upd hd, upd_same⟩ (fun i H1 hi h => ?_) (fun H1 h => ?_)
  · obtain ⟨sm, ed⟩ := h
    have e0 : (0 : Int) + (i : Nat) = ((i : Nat) : Int) := Int.zero_add _
    rw [e0]
    obtain ⟨x, ex⟩ : ∃ x, ts[i]? = some x := ⟨ts[i]'(by omega), List.getElem?_eq_getElem (by omega)⟩
    obtain ⟨y, ey⟩ : ∃ y, row[k - 1 - i]? = some y := ⟨row[k - 1 - i]'(by omega), List.getElem?_eq_getElem (by omega)⟩
    have hb := hn.get ex
    have ea : atI (iv row) ((k : Int) - 1 - (i : Int)) = some (.int y) := at_of (j := k - 1 - i) (by omega) (iv_at ey)
    refine ⟨hw _, _, h1 _, _, hj _, t, _, _, .int x, rfl, rfl, SqT.of (sm _ _ ht), atI_nat (iv_at ex), _, h4 _, _, h5 _, _, 1, rfl, rfl, _, hj _, _, _, rfl, rfl, SeqAt.ix (hr.same sm) ea ⟨x, y, rfl, rfl, .inl ⟨by omega, by omega⟩, _, ed, ?_, fun b o e => ?_, ?_⟩⟩
    · rw [iv_len, List.length_take]
      exact line (by omega)
    · rw [upd_ne (ne_of_none e hd)]
      exact sm b o e
    · rw [upd_same, ← take_snoc (prods_get ex (by omega) hkl ey)]
      show some (HO.lst (iv ((prods ts (row.take k)).take i) ++ iv [x * y])) = _
      rw [iv_app]
  · obtain ⟨sm, ed⟩ := h
    rw [List.take_of_length_le (by rw [prods_length (by rw [List.length_take]; omega)]; omega)] at ed
    exact hq H1 sm ed
theorem ok_lawRun (D : Df K mg "_law_run" sLawRun ["_law_prime_here", "_law_taps_here", "_law_start", "_law_count"] f fd) (T : Bi mg) : Cal P w K mg base 1 "_law_run" ["_law_prime_here", "_law_taps_here", "_law_start", "_law_count"] spRunOf := by
  refine D.cal (D.F.ok scLawRun (fun vs H Q E h => ?_) (fun cdv A outer s H vs Q E hr h => ?_))
  · obtain ⟨p, t, b, ts, ss, c, rfl, _⟩ := h
    rfl
  · obtain ⟨p, t, b, ts, ss, c, rfl, ht, hb, hp, hp7, hn, hl, hl60, hc, q⟩ := h
    refine ⟨_, pss_cons (ps_set (i := 4) scLawRun.nd rfl (.inr rfl) (pe_callTy call_list_of (by rfl) T.list (by decide +kernel) (pa_cons (pv 2) pa_nil)))
      (pss_cons (ps_for PassesOwn.never rfl (pi_range2 (by rfl) T.range (pa_cons (pe_callB call_len_seq (by rfl) T.len PySem.boot_len (pa_cons (pv 1) pa_nil)) (pa_cons (pv 3) pa_nil))) (pg_name (i := 5) scLawRun.nd rfl (Or.inr rfl))
        (pss_one (ps_expr (pe_bm PySem.F.plainAttrs_list PySem.F.slot_list_append PySem.F.type_list_append mt_append (pv 4) (pa_cons (pe_op op_mod (pe_callTy call_int1 (by rfl) T.int (by decide +kernel) (pa_cons (pe_callB (cr_sum rfl) (by rfl) T.sum (by decide +kernel)
          (pa_cons (pe_lc (own := [("_law_k", 6)]) (g := gName 6) (tt := tYes) rfl scLawRun.nd (pi_range1 (by rfl) T.range (pa_cons (pe_callB call_len_seq (by rfl) T.len PySem.boot_len (pa_cons (pv 1) pa_nil)) pa_nil))
            (blkOk_by (own := [("_law_k", 6)]) (N := ["_law_prime_here", "_law_taps_here", "_law_start", "_law_count", "_law_found", "_law_at", "_law_k"]) (sc := defScope sLawRun) (by decide +kernel)) (fun _ _ _ _ _ => pg_name (i := 6) scLawRun.nd rfl (Or.inl rfl)) (fun _ _ _ _ _ => pts_nil)
            (fun _ _ _ _ _ => pe_op op_mul (pe_ix (r := rIxT K) ix_tup (pv 1) (pv 6) (fun _ _ => rfl)) (pe_ix (r := rIx K) ix_seq (pv 4) (pe_op op_sub (pe_op op_sub (pv 5) pe_int) (pv 6)) (fun _ _ => rfl)))) pa_nil)) pa_nil)) (pv 0)) pa_nil)))))
      (pss_one (ps_ret (pe_callTy call_tuple_of (by rfl) T.tuple (by decide +kernel) (pa_cons (pe_slice sl_list (pv 4) po_none (po_some (pv 3))) pa_nil))))), ?_⟩
    refine ⟨_, rfl, b, _, rfl, .inr (SqT.of hb), fun l hnl => ?_⟩
    refine ⟨_, rfl, t, _, rfl, .inr (SqT.of (same_upd hnl _ _ ht)), _, rfl, _, _, rfl, by rw [iv_len]; omega, ?_⟩
    refine for_range (fun i σ H' => (∃ y, σ = [some (.int p), some (.ref t), some (.ref b), some (.int c), some (.ref l), y, none]) ∧ Same H H' ∧ H' l = some (.lst (iv (ext p ts ss i)))) ⟨⟨none, rfl⟩, same_upd hnl, upd_same⟩ (fun i σ H1 hi h => ?_) (fun σ H1 h => ?_)
    · obtain ⟨⟨y, rfl⟩, sm, el⟩ := h
      rw [iv_len] at hi
      have eat : (((iv ts).length : Nat) : Int) + (i : Nat) = ((ts.length + i : Nat) : Int) := by rw [iv_len]; omega
      rw [eat]
      have hlen := ext_length p ts ss i
      refine ⟨_, rfl, .inl ⟨rfl, _, .inl (.inl el)⟩, _, rfl, t, _, rfl, .inr (SqT.of (sm _ _ ht)), ((iv ts).length : Int), rfl, by rw [iv_len]; omega, by rw [iv_len]; omega, fun d hd => ?_⟩
      refine sum_lc (k := ts.length + i) (row := ext p ts ss i) (fun _ => rfl) (fun _ => rfl) (fun _ => rfl) (fun _ => rfl) (fun _ => rfl) hd (sm _ _ ht) (.inl el) (by omega) (by omega) hn hp7 (by omega) (by rw [Int.toNat_natCast, iv_len]) fun H2 s2 ed => ?_
      rw [List.take_of_length_le (by omega)] at ed
      refine ⟨d, _, rfl, SqL.of ed, .inl ⟨_, rfl, _, rfl, _, p, rfl, rfl, hp, l, _, _, rfl, rfl, s2 _ _ el, ?_, ⟨_, rfl⟩, fun b' o z => ?_, ?_⟩⟩
      · rw [iv_len]
        exact line (by omega)
      · rw [upd_ne (ne_of_none z hnl)]
        exact s2 _ _ (sm _ _ z)
      · rw [upd_same]
        show some (HO.lst (iv (ext p ts ss i) ++ iv [nx p ts (ext p ts ss i)])) = _
        rw [iv_app]
        rfl
    · obtain ⟨⟨y, rfl⟩, sm, el⟩ := h
      rw [iv_len] at el
      have ei : ((c : Int) - (ts.length : Nat)).toNat = c - ss.length := by omega
      rw [ei] at el
      refine ⟨_, rfl, _, rfl, _, rfl, l, _, rfl, SqL.of el, fun a na => ?_⟩
      refine ⟨a, _, rfl, .inl ⟨SqL.of upd_same, fun u nu => ?_⟩⟩
      refine q _ u ((sm.trans (same_upd na)).trans (same_upd nu)) ?_
      rw [upd_same, cut_to, iv_take]
      rfl
end
end Tap

/-! Taprows, law k03: the law. -/
namespace Tap
open PySem PySem.Spec PyProof.Rows L2
theorem Due.stop {p : Int} {taps row : List Int} {j : Nat} {d : Option Nat} (h : Due p taps row (row.length - (row.length - j)) d) : Due p taps row j d := by
  by_cases hj : j ≤ row.length
  · rwa [show row.length - (row.length - j) = j by omega] at h
  · rw [show row.length - (row.length - j) = row.length by omega] at h
    cases d with
    | none => exact Due.start p taps row (by omega)
    | some b => exact absurd h.2.1 (by have := h.1; omega)
section
variable {K : PySem.W.Frag} {H : Hp} {a b : Addr} {xs ys : List Int} {Q : VK}
theorem Scr.same {H' : Hp} {ns : List Int} (h : Scr K H a ns) (sm : Same H H') : Scr K H' a ns := by
  rcases h with ⟨o, h⟩ | h
  · exact .inl ⟨o, sm _ _ h⟩
  · exact .inr h
theorem cat_ok (ha : H a = some (.tup (iv xs))) (hb : H b = some (.tup (iv ys))) (hz : xs.length + ys.length ≤ 1000) (q : ∀ H' r, Same H H' → H' r = some (.tup (iv (xs ++ ys))) → Q (.ref r) H') : rCatA K (.ref a) (.ref b) H Q := by
  refine ⟨a, b, _, _, rfl, rfl, SqT.of ha, SqT.of hb, by rw [iv_len, iv_len]; exact Nat.le_of_lt (line hz), fun e => q H b (Same.refl H) ?_, fun _ e => q H a (Same.refl H) ?_, fun _ _ r nr => q _ r (same_upd nr) (by rw [upd_same, iv_app])⟩
  · rw [hb, ← iv_app, e, List.nil_append]
  · rw [ha, ← iv_app, e, List.append_nil]
theorem sl_to (ha : H a = some (.tup (iv xs))) (k : Nat) (q : ∀ H' r, Same H H' → H' r = some (.tup (iv (xs.take k))) → Q (.ref r) H') : rSlA K (.ref a) none (some (k : Int)) H Q := by
  refine ⟨a, _, rfl, SqT.of ha, fun e => q H a (Same.refl H) ?_, fun _ r nr => q _ r (same_upd nr) (by rw [upd_same, cut_to, iv_take])⟩
  have e2 := e.2
  rw [HT.sIx_nat, iv_len] at e2
  rw [ha, List.take_of_length_le (by omega)]
theorem sl_from (ha : H a = some (.tup (iv xs))) (k : Nat) (q : ∀ H' r, Same H H' → H' r = some (.tup (iv (xs.drop k))) → Q (.ref r) H') : rSlA K (.ref a) (some (k : Int)) none H Q := by
  refine ⟨a, _, rfl, SqT.of ha, fun e => q H a (Same.refl H) ?_, fun _ r nr => q _ r (same_upd nr) (by rw [upd_same, cut_from, iv_drop])⟩
  have e2 := e.1
  rw [HT.sIx_nat, iv_len] at e2
  have hk : k = 0 ∨ xs = [] := by
    cases xs with
    | nil => exact .inr rfl
    | cons x r => rw [List.length_cons] at e2; exact .inl (by omega)
  rcases hk with rfl | rfl
  · rw [ha, List.drop_zero]
  · rw [ha, List.drop_nil]
theorem at_mem {l : List Int} {v : Int} (h0 : 0 ≤ v) (h1 : v < l.length) : ∃ m, atI (iv l) v = some (.int m) ∧ m ∈ l := by
  have hv : v.toNat < l.length := by omega
  exact ⟨l[v.toNat], at_of (by omega) (iv_at (List.getElem?_eq_getElem hv)), List.getElem_mem hv⟩
end
section
variable {P : Program} {w : World} {K : PySem.W.Frag} {mg : Str → Option Value} {base : Heap} {f : Addr} {fd : FuncData}
abbrev NL : List Str := ["_law_script", "_law_row_here", "_law_prime_here", "_law_taps_here", "_law_start", "_law_count", "_law_found", "_law_at", "_law_bent", "_law_some", "_law_due", "_law_k"]
theorem scLaw : FnScope NL ["_law_script"] (defScope sLaw) := ⟨rfl, rfl, rfl, by decide +kernel, rfl, by decide +kernel, by decide +kernel⟩
def spLaw (K : PySem.W.Frag) : Sp := fun vs H Q _ => ∃ (a : Addr) (ns : List Int), vs = [.ref a] ∧ Scr K H a ns ∧ ∀ H', Q (.bl true) H'
/-- what the law's body calls -/
structure Calls (P : Program) (w : World) (K : PySem.W.Frag) (mg : Str → Option Value) (base : Heap) : Prop where
  taken : CalTaken P w K mg base
  prime : Cal P w K mg base 3 "_law_prime" ["_law_row_here"] (spPrime K)
  taps : Cal P w K mg base 2 "_law_taps" ["_law_row_here", "_law_prime_here", "_law_most"] (spTaps K)
  row : Cal P w K mg base 2 "_law_row" ["_law_row_here", "_law_prime_here", "_law_most"] (spRow K)
  run : Cal P w K mg base 5 "run" ["prime", "taps", "start", "count"] spRun
  lrun : Cal P w K mg base 1 "_law_run" ["_law_prime_here", "_law_taps_here", "_law_start", "_law_count"] spRunOf
  brk : Cal P w K mg base 5 "first_break" ["prime", "taps", "row"] spFirstBreak
  flat : Cal P w K mg base 1 "_law_alike" ["_law_found", "_law_due"] spFlat
  alike : Cal P w K mg base 2 "_law_alike" ["_law_found", "_law_due"] spAlike
theorem ok_law (F : Fun K "law" "law" sLaw f fd) (C : Calls P w K mg base) (T : Bi mg) : FnOk P w K mg base CX0 6 f fd ["_law_script"] (spLaw K) := by
  refine F.ok scLaw (fun vs H Q E h => ?_) (fun cdv A outer s H vs Q E hr h => ?_)
  · obtain ⟨a, ns, rfl, _⟩ := h
    rfl
  · obtain ⟨a, ns, rfl, sc, q⟩ := h
    refine ⟨_,
      pss_cons (ps_set (i := 1) scLaw.nd rfl (.inl rfl) (pe_lst (pa_cons (pv 0) (pa_cons pe_int (pa_cons pe_int (pa_cons pe_int pa_nil))))))
      (pss_cons (ps_set (i := 2) scLaw.nd rfl (.inl rfl) (pe_c C.prime hr (by rfl) (pa_cons (pv 1) pa_nil)))
      (pss_cons (ps_asg (pe_c C.taps hr (by rfl) (pa_cons (pv 1) (pa_cons (pv 2) (pa_cons (pe_ix ix_list (pe_lst (pa_cons pe_int (pa_cons pe_int (pa_cons pe_int pa_nil)))) (pe_c C.taken hr (by rfl) (pa_cons (pv 1) (pa_cons pe_int pa_nil))) (fun _ _ => rfl)) pa_nil))))
        (pg_tup rfl (pgs_cons (pg_name (i := 3) scLaw.nd rfl (Or.inr rfl)) (pgs_cons (pg_name (i := 4) scLaw.nd rfl (Or.inl rfl)) pgs_nil))))
      (pss_cons (ps_set (i := 5) scLaw.nd rfl (.inl rfl) (pe_c C.taken hr (by rfl) (pa_cons (pv 1) (pa_cons (pe_ix ix_list (pe_lst (pa_cons pe_int (pa_cons pe_int (pa_cons pe_int pa_nil)))) (pe_c C.taken hr (by rfl) (pa_cons (pv 1) (pa_cons pe_int pa_nil))) (fun _ _ => rfl)) pa_nil))))
      (pss_cons (ps_set (i := 6) scLaw.nd rfl (.inl rfl) (pe_c C.run hr (by rfl) (pa_cons (pv 2) (pa_cons (pv 3) (pa_cons (pv 4) (pa_cons (pv 5) pa_nil))))))
      (pss_cons (ps_if (PW.pt (pw_or (pt_not (pt_val (pe_c C.alike hr (by rfl) (pa_cons (pv 6) (pa_cons (pe_c C.lrun hr (by rfl) (pa_cons (pv 2) (pa_cons (pv 3) (pa_cons (pv 4) (pa_cons (pv 5) pa_nil))))) pa_nil)))))
        (pw_or1 (pt_cmpR op_notN (pe_c C.brk hr (by rfl) (pa_cons (pv 2) (pa_cons (pv 3) (pa_cons (pv 6) pa_nil)))) pe_non (nomark _))))) pss_never pss_nil)
      (C8.pss_cut (ps_if (pt_cmpR op_gt (pv 5) (pe_callB call_len_seq (by rfl) T.len PySem.boot_len (pa_cons (pv 3) pa_nil)) (nomark _))
        (pss_cons (ps_set (i := 7) scLaw.nd rfl (.inr rfl) (pe_op op_add (pe_callB call_len_seq (by rfl) T.len PySem.boot_len (pa_cons (pv 3) pa_nil)) (pe_c C.taken hr (by rfl) (pa_cons (pv 1) (pa_cons (pe_op op_sub (pv 5) (pe_callB call_len_seq (by rfl) T.len PySem.boot_len (pa_cons (pv 3) pa_nil))) pa_nil)))))
        (pss_cons (ps_set (i := 8) scLaw.nd rfl (.inl rfl) (pe_op op_catA (pe_op op_catA (pe_slice sl_tupA (pv 6) po_none (po_some (pv 7)))
            (pe_tup (pa_cons (pe_op op_mod (pe_callTy call_int1 (by rfl) T.int (by decide +kernel) (pa_cons (pe_op op_add (pe_op op_add (pe_ix ix_tup (pv 6) (pv 7) (fun _ _ => rfl)) pe_int) (pe_c C.taken hr (by rfl) (pa_cons (pv 1) (pa_cons (pe_op op_sub (pv 2) pe_int) pa_nil)))) pa_nil)) (pv 2)) pa_nil)))
            (pe_slice sl_tupA (pv 6) (po_some (pe_op op_add (pv 7) pe_int)) po_none)))
        (pss_one (ps_if (pt_not (pt_val (pe_c C.flat hr (by rfl) (pa_cons (pe_c C.brk hr (by rfl) (pa_cons (pv 2) (pa_cons (pv 3) (pa_cons (pv 8) pa_nil)))) (pa_cons (pv 7) pa_nil))))) pss_never pss_nil)))) pss_nil)
      (pss_cons (ps_asg (pe_tup (pa_cons (pe_c C.row hr (by rfl) (pa_cons (pv 1) (pa_cons (pv 2) (pa_cons pe_int pa_nil)))) (pa_cons pe_non pa_nil))) (pg_tup rfl (pgs_cons (pg_name (i := 9) scLaw.nd rfl (Or.inr rfl)) (pgs_cons (pg_name (i := 10) scLaw.nd rfl (Or.inl rfl)) pgs_nil))))
      (pss_cons (ps_set (i := 3) scLaw.nd rfl (.inr rfl) (pe_slice sl_tupA (pv 3) po_none (po_some pe_int)))
      (pss_cons (ps_for PassesOwn.never rfl (pi_range3 (by rfl) T.range (pa_cons (pe_op op_sub (pe_callB call_len_seq (by rfl) T.len PySem.boot_len (pa_cons (pv 9) pa_nil)) pe_int) (pa_cons (pe_op op_sub (pe_callB call_len_seq (by rfl) T.len PySem.boot_len (pa_cons (pv 3) pa_nil)) pe_int) (pa_cons (pe_un un_neg pe_int) pa_nil))))
        (pg_name (i := 7) scLaw.nd rfl (Or.inr rfl))
        (pss_one (ps_if (pt_cmpR op_ne (pe_op op_mod (pe_callTy call_int1 (by rfl) T.int (by decide +kernel) (pa_cons (pe_callB (cr_sum rfl) (by rfl) T.sum (by decide +kernel)
          (pa_cons (pe_lc (own := [("_law_k", 11)]) (g := gName 11) (tt := tYes) rfl scLaw.nd (pi_range1 (by rfl) T.range (pa_cons (pe_callB call_len_seq (by rfl) T.len PySem.boot_len (pa_cons (pv 3) pa_nil)) pa_nil))
            (blkOk_by (own := [("_law_k", 11)]) (N := NL) (sc := defScope sLaw) (by decide +kernel)) (fun _ _ _ _ _ => pg_name (i := 11) scLaw.nd rfl (Or.inl rfl)) (fun _ _ _ _ _ => pts_nil)
            (fun _ _ _ _ _ => pe_op op_mul (pe_ix (r := rIxT K) ix_tup (pv 3) (pv 11) (fun _ _ => rfl)) (pe_ix (r := rIx K) ix_seq (pv 9) (pe_op op_sub (pe_op op_sub (pv 7) pe_int) (pv 11)) (fun _ _ => rfl)))) pa_nil)) pa_nil)) (pv 2)) (pe_ix ix_tup (pv 9) (pv 7) (fun _ _ => rfl)) (nomark _))
          (pss_one (ps_set (i := 10) scLaw.nd rfl (.inl rfl) (pv 7))) pss_nil)))
      (pss_one (ps_ret (pe_c C.flat hr (by rfl) (pa_cons (pe_c C.brk hr (by rfl) (pa_cons (pv 2) (pa_cons (pv 3) (pa_cons (pv 9) pa_nil)))) (pa_cons (pv 10) pa_nil)))))))))))))), ?_⟩
    -- _law_row_here = [script, 0, 5003, 0]
    refine ⟨_, rfl, by show 4 ≤ sizeLine; decide, fun p np => ?_⟩
    have st1 : StAt (upd H p (.lst [.ref a, .int 0, .int 5003, .int 0])) p a := ⟨0, 5003, 0, Int.le_refl 0, upd_same⟩
    have sc1 := sc.same (same_upd (o := .lst [.ref a, .int 0, .int 5003, .int 0]) np)
    -- the prime
    refine ⟨_, rfl, p, a, ns, rfl, st1, sc1, fun H2 x c2 st2 hx => ?_⟩
    have sc2 := sc1.chg st1 c2
    have hx' : 2 ≤ x ∧ x ≤ 7 := by rcases hx with rfl | rfl | rfl | rfl <;> decide
    -- taps, start
    refine ⟨_, rfl, _, rfl, by show 3 ≤ sizeLine; decide, fun l3 nl3 => ?_⟩
    have s3 : Same H2 (upd H2 l3 (.lst (iv [3, 8, 60]))) := same_upd nl3
    have l3p : l3 ≠ p := by obtain ⟨_, _, _, _, e⟩ := st2; exact (ne_of_none e nl3).symm
    refine ⟨_, rfl, p, a, ns, 3, rfl, st2.same s3, sc2.same s3, by decide, by decide, fun H3 v3 c3 st3 v30 v31 => ?_⟩
    have sc3 := (sc2.same s3).chg (st2.same s3) c3
    obtain ⟨m3, em3, hm3⟩ := at_mem (l := [3, 8, 60]) v30 v31
    have hm3' : 0 ≤ m3 ∧ m3 ≤ 60 := by
      simp only [List.mem_cons, List.not_mem_nil, or_false] at hm3
      omega
    refine ⟨l3, _, v3, .int m3, rfl, rfl, SqL.of (c3 _ _ l3p upd_same), em3, p, a, ns, x, m3, rfl, st3, sc3, by omega, by omega, hm3'.1, hm3'.2, fun H4 r t b ts ss c4 st4 er et eb hl hlm hnt hns => ?_⟩
    have sc4 := sc3.chg st3 c4
    have hl60 : ts.length ≤ 60 := by omega
    refine ⟨r, _, rfl, SqT.of er, rfl, _, _, rfl, _, _, rfl, rfl, ?_⟩
    -- the count
    refine ⟨_, rfl, by show 3 ≤ sizeLine; decide, fun l5 nl5 => ?_⟩
    have s5 : Same H4 (upd H4 l5 (.lst (iv [10, 60, 401]))) := same_upd nl5
    have l5p : l5 ≠ p := by obtain ⟨_, _, _, _, e⟩ := st4; exact (ne_of_none e nl5).symm
    refine ⟨_, rfl, p, a, ns, 3, rfl, st4.same s5, sc4.same s5, by decide, by decide, fun H5 v5 c5 st5 v50 v51 => ?_⟩
    have sc5 := (sc4.same s5).chg (st4.same s5) c5
    obtain ⟨m5, em5, hm5⟩ := at_mem (l := [10, 60, 401]) v50 v51
    have hm5' : 1 ≤ m5 ∧ m5 ≤ 401 := by
      simp only [List.mem_cons, List.not_mem_nil, or_false] at hm5
      omega
    refine ⟨l5, _, v5, .int m5, rfl, rfl, SqL.of (c5 _ _ l5p upd_same), em5, p, a, ns, m5, rfl, st5, sc5, hm5'.1, by omega, fun H6 c6 ch6 st6 c60 c61 => ?_⟩
    have sc6 := sc5.chg st5 ch6
    obtain ⟨c, rfl⟩ : ∃ c : Nat, c6 = (c : Int) := ⟨c6.toNat, by omega⟩
    have hc4 : c ≤ 400 := by omega
    have et6 := ch6 _ _ (st4.ne et) (c5 _ _ (st4.ne et) (s5 _ _ et))
    have eb6 := ch6 _ _ (st4.ne eb) (c5 _ _ (st4.ne eb) (s5 _ _ eb))
    -- found = run(..)
    refine ⟨_, rfl, _, rfl, _, rfl, _, rfl, x, t, b, ts, ss, c, rfl, et6, eb6, hx, hnt, hns, hl, hl60, hc4, fun H7 g s7 eg => ?_⟩
    -- alike, and no break
    refine ⟨_, rfl, _, rfl, _, rfl, _, rfl, _, rfl, x, t, b, ts, ss, c, rfl, s7 _ _ et6, s7 _ _ eb6, by omega, by omega, hnt, hl, hl60, hc4, fun H8 g2 s8 eg2 => ?_⟩
    refine ⟨g, g2, runL x ts ss c, rfl, s8 _ _ eg, eg2, by rw [runL_length]; exact hc4, fun H9 s9 => ⟨true, rfl, iteF ?_⟩⟩
    have s79 := s7.trans (s8.trans s9)
    have eg9 := s9 _ _ (s8 _ _ eg)
    have hpos : 0 < x := by omega
    have hnf := runL_nums hpos (taps := ts) hns c
    refine ⟨_, rfl, _, rfl, _, rfl, x, t, g, ts, runL x ts ss c, rfl, s79 _ _ et6, eg9, hx, hnt, hnf, hl60, by rw [runL_length]; exact hc4, fun H10 d10 s10 hd10 => ?_⟩
    have hdue := runL_due x ts ss c hl
    obtain rfl := Due.inj hd10 hdue
    refine ⟨rfl, false, congrArg V.bl (by show (!decide (V.non = V.non)) = false; rw [decide_eq_true rfl]; rfl), iteF ?_⟩
    have s610 := s79.trans s10
    have eg10 := s10 _ _ eg9
    have et10 := s610 _ _ et6
    have st10 := st6.same s610
    have sc10 := sc6.same s610
    -- one number changed
    refine ⟨fun σ' H' => (∃ y7 y8, σ' = [some (.ref a), some (.ref p), some (.int x), some (.ref t), some (.ref b), some (.int c), some (.ref g), y7, y8, none, none, none]) ∧ StAt H' p a ∧ Scr K H' a ns ∧ H' t = some (.tup (iv ts)), ?_, ?_⟩
    · refine ⟨_, rfl, _, rfl, t, _, rfl, .inr (SqT.of et10), _, _, rfl, rfl, _, rfl, ite2 (fun hgt => ?_) (fun _ => ⟨⟨_, _, rfl⟩, st10, sc10, et10⟩)⟩
      have hgt' : ((iv ts).length : Int) < (c : Int) := of_decide_eq_true hgt
      rw [iv_len] at hgt'
      refine ⟨_, rfl, t, _, rfl, .inr (SqT.of et10), _, rfl, _, rfl, _, rfl, t, _, rfl, .inr (SqT.of et10), _, _, rfl, rfl, p, a, ns, _, rfl, st10, sc10, by rw [iv_len]; omega, by rw [iv_len]; omega, fun H11 v11 c11 st11 v110 v111 => ?_⟩
      have sc11 := sc10.chg st10 c11
      rw [iv_len] at v111
      refine ⟨_, _, rfl, rfl, ?_⟩
      obtain ⟨k, ek⟩ : ∃ k : Nat, ((iv ts).length : Int) + v11 = (k : Int) := ⟨ts.length + v11.toNat, by rw [iv_len]; omega⟩
      have ek' := ek
      rw [iv_len] at ek'
      have hkc : k < c := by omega
      have hkt : ts.length ≤ k := by omega
      have eg11 := c11 _ _ (st10.ne eg10) eg10
      have et11 := c11 _ _ (st10.ne et10) et10
      obtain ⟨y, ey⟩ : ∃ y, (runL x ts ss c)[k]? = some y := ⟨(runL x ts ss c)[k]'(by rw [runL_length]; exact hkc), List.getElem?_eq_getElem (by rw [runL_length]; exact hkc)⟩
      have hy := hnf.get ey
      have hfl := runL_length x ts ss c
      -- found[:at] + (..,) + found[at + 1:]
      refine ⟨_, rfl, _, rfl, (k : Int), congrArg V.int ek, sl_to eg11 k fun H12 r1 s12 er1 => ?_⟩
      have st12 := st11.same s12
      refine ⟨_, rfl, _, rfl, g, _, (k : Int), .int y, rfl, congrArg V.int ek, SqT.of (s12 _ _ eg11), atI_nat (iv_at ey), y, 1, rfl, rfl, _, rfl, _, rfl, x, 1, rfl, rfl, p, a, ns, x - 1, rfl, st12, sc11.same s12, by omega, by omega, fun H13 z c13 st13 z0 z1 => ?_⟩
      have sc13 := (sc11.same s12).chg st12 c13
      have er13 := c13 _ _ (st12.ne er1) er1
      have eg13 := c13 _ _ (st12.ne (s12 _ _ eg11)) (s12 _ _ eg11)
      have et13 := c13 _ _ (st12.ne (s12 _ _ et11)) (s12 _ _ et11)
      refine ⟨_, _, rfl, rfl, .inl ⟨_, rfl, _, rfl, _, x, rfl, rfl, hpos, by show 1 ≤ sizeLine; decide, fun q1 nq => ?_⟩⟩
      refine cat_ok (xs := (runL x ts ss c).take k) (ys := [(y + 1 + z) % x]) (same_upd nq _ _ er13) upd_same (by rw [List.length_take, List.length_singleton]; omega) fun H14 r2 s14 er2 => ?_
      have eg14 := s14 _ _ (same_upd nq _ _ eg13)
      refine ⟨_, rfl, _, rfl, _, _, rfl, rfl, ((k + 1 : Nat) : Int), congrArg V.int (by rw [ek]; rfl), ?_⟩
      unfold tNoPart
      refine sl_from eg14 (k + 1) fun H15 r3 s15 er3 => ?_
      refine cat_ok (s15 _ _ er2) er3 (by rw [List.length_append, List.length_take, List.length_singleton, List.length_drop]; omega) fun H16 r4 s16 er4 => ?_
      have s1316 := (same_upd (o := .tup (iv [(y + 1 + z) % x])) nq).trans (s14.trans (s15.trans s16))
      have hbent : Due x ts ((runL x ts ss c).take k ++ [(y + 1 + z) % x] ++ (runL x ts ss c).drop (k + 1)) ts.length (some k) := Due.bent (by omega) ey (bent_ne hy ⟨z0, z1⟩) hkt hdue
      -- the first break is there
      refine ⟨_, rfl, _, rfl, _, rfl, x, t, r4, ts, _, rfl, s1316 _ _ et13, er4, hx, hnt, bent_nums hnf (fmod_lt hpos), hl60, by rw [bent_length (by omega)]; omega, fun H17 d17 s17 hd17 => ?_⟩
      obtain rfl := Due.inj hd17 hbent
      refine ⟨_, rfl, some (k : Int), ?_, fun H18 s18 => ⟨true, rfl, iteF ?_⟩⟩
      · show [V.int (k : Int), V.int (((iv ts).length : Int) + v11)] = [V.int (k : Int), V.int (k : Int)]
        rw [ek]
      · have s1318 := s1316.trans (s17.trans s18)
        exact ⟨⟨_, _, rfl⟩, st13.same s1318, sc13.same s1318, s1318 _ _ et13⟩
    · rintro σ' H' ⟨⟨y7, y8, rfl⟩, st', sc', et'⟩
      -- _law_some, _law_due
      refine ⟨_, rfl, _, rfl, p, a, ns, x, 12, rfl, st', sc', by omega, by omega, by decide, by decide, fun H1 t2 l c1 st1' el hll hnl => ⟨by show 2 ≤ sizeLine; decide, fun r nr => ⟨r, _, rfl, SqT.of upd_same, rfl, _, _, rfl, _, _, rfl, rfl, ?_⟩⟩⟩
      have et1 := c1 _ _ (st'.ne et') et'
      have s2 : Same H1 (upd H1 r (.tup [.ref t2, .non])) := same_upd nr
      -- _law_taps_here[:4]
      refine ⟨_, rfl, ((4 : Nat) : Int), rfl, sl_to (s2 _ _ et1) 4 fun H3 t4 s3 et4 => ?_⟩
      have el3 := s3 _ _ (s2 _ _ el)
      have hn4 := hnt.take 4
      have h4 : (ts.take 4).length ≤ 4 := by rw [List.length_take]; omega
      -- the loop downwards
      refine ⟨_, rfl, t2, _, rfl, .inr (SqT.of el3), _, _, rfl, rfl, _, rfl, t4, _, rfl, .inr (SqT.of et4), _, _, rfl, rfl, _, rfl, _, _, -1, _, rfl, RgC.neg (by rw [iv_len]; omega) (by rw [iv_len]; omega) (by rw [iv_len]; omega) (by rw [iv_len]; omega), ?_⟩
      refine for_rangeC (fun i σ H' => (∃ (u : Option V) (d : Option Nat), σ = [some (.ref a), some (.ref p), some (.int x), some (.ref t4), some (.ref b), some (.int c), some (.ref g), u, y8, some (.ref t2), some (optV d), none] ∧ Due x (ts.take 4) l (l.length - i) d) ∧ Same H3 H')
        ⟨⟨y7, none, rfl, Due.start _ _ _ (Nat.le_refl _)⟩, Same.refl _⟩ (fun i σ H5 hi h => ?_) (fun σ H5 h => ?_)
      · obtain ⟨⟨u, d, rfl, hd5⟩, sm⟩ := h
        have hi' : i < (((iv l).length : Int) - 1 - (((iv (ts.take 4)).length : Int) - 1)).toNat := hi
        rw [iv_len, iv_len] at hi'
        obtain ⟨k, hk⟩ : ∃ k, l.length - i = k + 1 := ⟨l.length - i - 1, by omega⟩
        have eat : ((iv l).length : Int) - 1 + ((i : Nat) : Int) * (-1) = (k : Int) := by rw [iv_len]; omega
        rw [eat]
        rw [hk] at hd5
        have hkl : k < l.length := by omega
        obtain ⟨y, ey⟩ : ∃ y, l[k]? = some y := ⟨l[k], List.getElem?_eq_getElem hkl⟩
        refine ⟨_, rfl, t4, _, rfl, .inr (SqT.of (sm _ _ et4)), ((iv (ts.take 4)).length : Int), rfl, by rw [iv_len]; omega, by rw [iv_len]; omega, fun D hD => ?_⟩
        refine sum_lc (k := k) (row := l) (fun _ => rfl) (fun _ => rfl) (fun _ => rfl) (fun _ => rfl) (fun _ => rfl) hD (sm _ _ et4) (.inr (sm _ _ el3)) (by omega) (by omega) hn4 hx'.2 (by omega) (by rw [Int.toNat_natCast, iv_len]) fun H6 s6 ed => ?_
        refine ⟨D, _, rfl, SqL.of ed, .inl ⟨_, rfl, _, rfl, _, x, rfl, rfl, hpos, _, rfl, _, rfl, t2, _, (k : Int), .int y, rfl, rfl, SqT.of (s6 _ _ (sm _ _ el3)), atI_nat (iv_at ey), rfl, _, rfl, ?_⟩⟩
        have ek : l.length - (i + 1) = k := by omega
        by_cases hfit : Fits x (ts.take 4) l k
        · have e1 : nx x (ts.take 4) (l.take k) = y := by
            have z : l[k]? = some (nx x (ts.take 4) (l.take k)) := hfit
            rw [ey] at z
            exact (Option.some.inj z).symm
          exact iteNS (congrArg V.int e1) ⟨⟨_, d, rfl, by rw [ek]; exact hd5.down_fits hfit⟩, sm.trans s6⟩
        · have e1 : ¬ V.int (nx x (ts.take 4) (l.take k)) = V.int y := fun z => hfit (by
            show l[k]? = some _
            rw [ey, V.int.inj z])
          have e2 : (!decide (V.int (nx x (ts.take 4) (l.take k)) = V.int y)) = true := by rw [decide_eq_false e1]; rfl
          refine (if_pos e2).mpr ?_
          exact ⟨_, rfl, ⟨_, some k, rfl, by rw [ek]; exact Due.down_bent hfit hkl⟩, sm.trans s6⟩
      · obtain ⟨⟨u, d, rfl, hd5⟩, sm⟩ := h
        have en : (((iv l).length : Int) - 1 - (((iv (ts.take 4)).length : Int) - 1)).toNat = l.length - (ts.take 4).length := by rw [iv_len, iv_len]; omega
        have hd6 : Due x (ts.take 4) l (l.length - (l.length - (ts.take 4).length)) d := by rw [← en]; exact hd5
        refine ⟨_, rfl, _, rfl, _, rfl, x, t4, t2, ts.take 4, l, rfl, sm _ _ et4, sm _ _ el3, hx, hn4, hnl, by omega, by omega, fun H6 d6 s6 hdue6 => ?_⟩
        obtain rfl := Due.inj hdue6 hd6.stop
        exact ⟨_, rfl, d6.map fun n => (n : Int), by cases d6 <;> rfl, fun H7 _ => q H7⟩
end
end Tap

/-! Taprows, law k03: what the top has left, and the end. -/
namespace Tap
open PySem PySem.Spec PyProof.Rows L2
theorem df_mk {K : PySem.W.Frag} {mg : Str → Option Value} {h : Heap} {x : Str} {st : Stmt} {ps : List Str} {f : Addr} {od an : Option Addr} {sl : Array (Option Value)} {oc kV dc pm cd ct : Value} (X : K.In h) (G : h.Ns mainGlobals mg)
    (a : PySem.W.nsIn K mainGlobals x = some (some (.ref f))) (l : K.lookup f = some ⟨oc, od, .func (PySem.W.fnOf x x (defArgs st) (defBody st) (defScope st) .none kV dc pm an cd ct), sl⟩) (c : PySem.W.codeIn K cd x = true) (k : PySem.W.keepIn K (.ref f) = true)
    (hb : ∀ (kV doc pm : Value) (an : Option Addr) (cdv ct : Value) (us : List Value), us.length = ps.length → bindArgs (PySem.W.fnOf x x (defArgs st) (defBody st) (defScope st) .none kV doc pm an cdv ct) ⟨us, []⟩ = pure (ps.zip us)) :
    ∃ fd, Df K mg x st ps f fd :=
  let F := fun_mk (st := st) l c k
  ⟨_, F, PySem.W.mg_of X G a, F.binds hb⟩
theorem all_mk {l : PySem.W.OpenLaw} {w : World} {K : PySem.W.Frag} {h : Heap} {mg : Str → Option Value} {fa ap f1 f2 f3 f4 f5 f6 f7 f8 f9 f10 f11 f12 f13 f14 f15 f16 f17 f18 f19 f20 f21 : Addr} (X : K.In h) (G : h.Ns mainGlobals mg) (hfa : mg "law" = some (.ref fa))
    {od1 an1 od2 an2 od3 an3 od4 an4 od5 an5 od6 an6 od7 an7 od8 an8 od9 an9 od10 an10 od11 an11 od12 an12 od13 an13 od14 an14 od15 an15 od16 an16 od17 an17 od18 an18 od19 an19 od20 an20 od21 an21 op : Option Addr} {sl1 sl2 sl3 sl4 sl5 sl6 sl7 sl8 sl9 sl10 sl11 sl12 sl13 sl14 sl15 sl16 sl17 sl18 sl19 sl20 sl21 slp : Array (Option Value)} {np : Nat} {tr tt t2 t3 t5 t7 : Tok}
    {oc1 kV1 dc1 pm1 cd1 ct1 oc2 kV2 dc2 pm2 cd2 ct2 oc3 kV3 dc3 pm3 cd3 ct3 oc4 kV4 dc4 pm4 cd4 ct4 oc5 kV5 dc5 pm5 cd5 ct5 oc6 kV6 dc6 pm6 cd6 ct6 oc7 kV7 dc7 pm7 cd7 ct7 oc8 kV8 dc8 pm8 cd8 ct8 oc9 kV9 dc9 pm9 cd9 ct9 oc10 kV10 dc10 pm10 cd10 ct10 oc11 kV11 dc11 pm11 cd11 ct11 oc12 kV12 dc12 pm12 cd12 ct12 oc13 kV13 dc13 pm13 cd13 ct13 oc14 kV14 dc14 pm14 cd14 ct14 oc15 kV15 dc15 pm15 cd15 ct15 oc16 kV16 dc16 pm16 cd16 ct16 oc17 kV17 dc17 pm17 cd17 ct17 oc18 kV18 dc18 pm18 cd18 ct18 oc19 kV19 dc19 pm19 cd19 ct19 oc20 kV20 dc20 pm20 cd20 ct20 oc21 kV21 dc21 pm21 cd21 ct21 : Value}
    (a1 : PySem.W.nsIn K mainGlobals "is_int" = some (some (.ref f1))) (l1 : K.lookup f1 = some ⟨oc1, od1, .func (PySem.W.fnOf "is_int" "is_int" (defArgs sIsInt) (defBody sIsInt) (defScope sIsInt) .none kV1 dc1 pm1 an1 cd1 ct1), sl1⟩) (c1 : PySem.W.codeIn K cd1 "is_int" = true) (k1 : PySem.W.keepIn K (.ref f1) = true)
    (a2 : PySem.W.nsIn K mainGlobals "is_in" = some (some (.ref f2))) (l2 : K.lookup f2 = some ⟨oc2, od2, .func (PySem.W.fnOf "is_in" "is_in" (defArgs sIsIn) (defBody sIsIn) (defScope sIsIn) .none kV2 dc2 pm2 an2 cd2 ct2), sl2⟩) (c2 : PySem.W.codeIn K cd2 "is_in" = true) (k2 : PySem.W.keepIn K (.ref f2) = true)
    (a3 : PySem.W.nsIn K mainGlobals "need_prime" = some (some (.ref f3))) (l3 : K.lookup f3 = some ⟨oc3, od3, .func (PySem.W.fnOf "need_prime" "need_prime" (defArgs sNeedPrime) (defBody sNeedPrime) (defScope sNeedPrime) .none kV3 dc3 pm3 an3 cd3 ct3), sl3⟩) (c3 : PySem.W.codeIn K cd3 "need_prime" = true) (k3 : PySem.W.keepIn K (.ref f3) = true)
    (a4 : PySem.W.nsIn K mainGlobals "need_number" = some (some (.ref f4))) (l4 : K.lookup f4 = some ⟨oc4, od4, .func (PySem.W.fnOf "need_number" "need_number" (defArgs sNeedNumber) (defBody sNeedNumber) (defScope sNeedNumber) .none kV4 dc4 pm4 an4 cd4 ct4), sl4⟩) (c4 : PySem.W.codeIn K cd4 "need_number" = true) (k4 : PySem.W.keepIn K (.ref f4) = true)
    (a5 : PySem.W.nsIn K mainGlobals "are_numbers" = some (some (.ref f5))) (l5 : K.lookup f5 = some ⟨oc5, od5, .func (PySem.W.fnOf "are_numbers" "are_numbers" (defArgs sAreNumbers) (defBody sAreNumbers) (defScope sAreNumbers) .none kV5 dc5 pm5 an5 cd5 ct5), sl5⟩) (c5 : PySem.W.codeIn K cd5 "are_numbers" = true) (k5 : PySem.W.keepIn K (.ref f5) = true)
    (a6 : PySem.W.nsIn K mainGlobals "need_row" = some (some (.ref f6))) (l6 : K.lookup f6 = some ⟨oc6, od6, .func (PySem.W.fnOf "need_row" "need_row" (defArgs sNeedRow) (defBody sNeedRow) (defScope sNeedRow) .none kV6 dc6 pm6 an6 cd6 ct6), sl6⟩) (c6 : PySem.W.codeIn K cd6 "need_row" = true) (k6 : PySem.W.keepIn K (.ref f6) = true)
    (a7 : PySem.W.nsIn K mainGlobals "need_taps" = some (some (.ref f7))) (l7 : K.lookup f7 = some ⟨oc7, od7, .func (PySem.W.fnOf "need_taps" "need_taps" (defArgs sNeedTaps) (defBody sNeedTaps) (defScope sNeedTaps) .none kV7 dc7 pm7 an7 cd7 ct7), sl7⟩) (c7 : PySem.W.codeIn K cd7 "need_taps" = true) (k7 : PySem.W.keepIn K (.ref f7) = true)
    (a8 : PySem.W.nsIn K mainGlobals "need_start" = some (some (.ref f8))) (l8 : K.lookup f8 = some ⟨oc8, od8, .func (PySem.W.fnOf "need_start" "need_start" (defArgs sNeedStart) (defBody sNeedStart) (defScope sNeedStart) .none kV8 dc8 pm8 an8 cd8 ct8), sl8⟩) (c8 : PySem.W.codeIn K cd8 "need_start" = true) (k8 : PySem.W.keepIn K (.ref f8) = true)
    (a9 : PySem.W.nsIn K mainGlobals "next_of" = some (some (.ref f9))) (l9 : K.lookup f9 = some ⟨oc9, od9, .func (PySem.W.fnOf "next_of" "next_of" (defArgs sNextOf) (defBody sNextOf) (defScope sNextOf) .none kV9 dc9 pm9 an9 cd9 ct9), sl9⟩) (c9 : PySem.W.codeIn K cd9 "next_of" = true) (k9 : PySem.W.keepIn K (.ref f9) = true)
    (a10 : PySem.W.nsIn K mainGlobals "run_of" = some (some (.ref f10))) (l10 : K.lookup f10 = some ⟨oc10, od10, .func (PySem.W.fnOf "run_of" "run_of" (defArgs sRunOf) (defBody sRunOf) (defScope sRunOf) .none kV10 dc10 pm10 an10 cd10 ct10), sl10⟩) (c10 : PySem.W.codeIn K cd10 "run_of" = true) (k10 : PySem.W.keepIn K (.ref f10) = true)
    (a11 : PySem.W.nsIn K mainGlobals "run" = some (some (.ref f11))) (l11 : K.lookup f11 = some ⟨oc11, od11, .func (PySem.W.fnOf "run" "run" (defArgs sRun) (defBody sRun) (defScope sRun) .none kV11 dc11 pm11 an11 cd11 ct11), sl11⟩) (c11 : PySem.W.codeIn K cd11 "run" = true) (k11 : PySem.W.keepIn K (.ref f11) = true)
    (a12 : PySem.W.nsIn K mainGlobals "break_of" = some (some (.ref f12))) (l12 : K.lookup f12 = some ⟨oc12, od12, .func (PySem.W.fnOf "break_of" "break_of" (defArgs sBreakOf) (defBody sBreakOf) (defScope sBreakOf) .none kV12 dc12 pm12 an12 cd12 ct12), sl12⟩) (c12 : PySem.W.codeIn K cd12 "break_of" = true) (k12 : PySem.W.keepIn K (.ref f12) = true)
    (a13 : PySem.W.nsIn K mainGlobals "first_break" = some (some (.ref f13))) (l13 : K.lookup f13 = some ⟨oc13, od13, .func (PySem.W.fnOf "first_break" "first_break" (defArgs sFirstBreak) (defBody sFirstBreak) (defScope sFirstBreak) .none kV13 dc13 pm13 an13 cd13 ct13), sl13⟩) (c13 : PySem.W.codeIn K cd13 "first_break" = true) (k13 : PySem.W.keepIn K (.ref f13) = true)
    (a14 : PySem.W.nsIn K mainGlobals "_law_taken" = some (some (.ref f14))) (l14 : K.lookup f14 = some ⟨oc14, od14, .func (PySem.W.fnOf "_law_taken" "_law_taken" (defArgs sTaken) (defBody sTaken) (defScope sTaken) .none kV14 dc14 pm14 an14 cd14 ct14), sl14⟩) (c14 : PySem.W.codeIn K cd14 "_law_taken" = true) (k14 : PySem.W.keepIn K (.ref f14) = true)
    (a15 : PySem.W.nsIn K mainGlobals "_law_pick" = some (some (.ref f15))) (l15 : K.lookup f15 = some ⟨oc15, od15, .func (PySem.W.fnOf "_law_pick" "_law_pick" (defArgs sPick) (defBody sPick) (defScope sPick) .none kV15 dc15 pm15 an15 cd15 ct15), sl15⟩) (c15 : PySem.W.codeIn K cd15 "_law_pick" = true) (k15 : PySem.W.keepIn K (.ref f15) = true)
    (a16 : PySem.W.nsIn K mainGlobals "_law_prime" = some (some (.ref f16))) (l16 : K.lookup f16 = some ⟨oc16, od16, .func (PySem.W.fnOf "_law_prime" "_law_prime" (defArgs sPrime) (defBody sPrime) (defScope sPrime) .none kV16 dc16 pm16 an16 cd16 ct16), sl16⟩) (c16 : PySem.W.codeIn K cd16 "_law_prime" = true) (k16 : PySem.W.keepIn K (.ref f16) = true)
    (a17 : PySem.W.nsIn K mainGlobals "_law_taps" = some (some (.ref f17))) (l17 : K.lookup f17 = some ⟨oc17, od17, .func (PySem.W.fnOf "_law_taps" "_law_taps" (defArgs sTaps) (defBody sTaps) (defScope sTaps) .none kV17 dc17 pm17 an17 cd17 ct17), sl17⟩) (c17 : PySem.W.codeIn K cd17 "_law_taps" = true) (k17 : PySem.W.keepIn K (.ref f17) = true)
    (a18 : PySem.W.nsIn K mainGlobals "_law_alike" = some (some (.ref f18))) (l18 : K.lookup f18 = some ⟨oc18, od18, .func (PySem.W.fnOf "_law_alike" "_law_alike" (defArgs sAlike) (defBody sAlike) (defScope sAlike) .none kV18 dc18 pm18 an18 cd18 ct18), sl18⟩) (c18 : PySem.W.codeIn K cd18 "_law_alike" = true) (k18 : PySem.W.keepIn K (.ref f18) = true)
    (a19 : PySem.W.nsIn K mainGlobals "_law_run" = some (some (.ref f19))) (l19 : K.lookup f19 = some ⟨oc19, od19, .func (PySem.W.fnOf "_law_run" "_law_run" (defArgs sLawRun) (defBody sLawRun) (defScope sLawRun) .none kV19 dc19 pm19 an19 cd19 ct19), sl19⟩) (c19 : PySem.W.codeIn K cd19 "_law_run" = true) (k19 : PySem.W.keepIn K (.ref f19) = true)
    (a20 : PySem.W.nsIn K mainGlobals "_law_row" = some (some (.ref f20))) (l20 : K.lookup f20 = some ⟨oc20, od20, .func (PySem.W.fnOf "_law_row" "_law_row" (defArgs sRow) (defBody sRow) (defScope sRow) .none kV20 dc20 pm20 an20 cd20 ct20), sl20⟩) (c20 : PySem.W.codeIn K cd20 "_law_row" = true) (k20 : PySem.W.keepIn K (.ref f20) = true)
    (a21 : PySem.W.nsIn K mainGlobals "law" = some (some (.ref f21))) (l21 : K.lookup f21 = some ⟨oc21, od21, .func (PySem.W.fnOf "law" "law" (defArgs sLaw) (defBody sLaw) (defScope sLaw) .none kV21 dc21 pm21 an21 cd21 ct21), sl21⟩) (c21 : PySem.W.codeIn K cd21 "law" = true) (k21 : PySem.W.keepIn K (.ref f21) = true)
    (gr : PySem.W.nsIn K mainGlobals "MOST_ROW" = some (some (.int 400 tr))) (gt : PySem.W.nsIn K mainGlobals "MOST_TAPS" = some (some (.int 60 tt))) (gp : PySem.W.nsIn K mainGlobals "PRIMES" = some (some (.ref ap)))
    (lp : K.lookup ap = some ⟨.type "tuple", op, .seq #[.int 2 t2, .int 3 t3, .int 5 t5, .int 7 t7] np, slp⟩)
    (z1 : PySem.W.nsIn K mainGlobals "isinstance" = some none) (z2 : PySem.W.nsIn K mainGlobals "int" = some none) (z3 : PySem.W.nsIn K mainGlobals "bool" = some none) (z4 : PySem.W.nsIn K mainGlobals "str" = some none) (z5 : PySem.W.nsIn K mainGlobals "tuple" = some none) (z6 : PySem.W.nsIn K mainGlobals "list" = some none) (z7 : PySem.W.nsIn K mainGlobals "len" = some none) (z8 : PySem.W.nsIn K mainGlobals "sum" = some none) (z9 : PySem.W.nsIn K mainGlobals "all" = some none) (z10 : PySem.W.nsIn K mainGlobals "range" = some none) (z11 : PySem.W.nsIn K mainGlobals "enumerate" = some none) :
    ∃ fd : FuncData, (∀ (s : Shared) (v : Value), BindsTo s fd ⟨[v], []⟩ [("_law_script", v)]) ∧ ∀ base : Heap, K.In base → base.Ns mainGlobals mg → FnOk l.prog w K mg base CX0 6 fa fd ["_law_script"] (spLaw K) := by
  have e := hfa.symm.trans (PySem.W.mg_of X G a21)
  cases e
  have T : Bi mg := ⟨PySem.W.mg_none_of X G z1, PySem.W.mg_none_of X G z2, PySem.W.mg_none_of X G z3, PySem.W.mg_none_of X G z4, PySem.W.mg_none_of X G z5, PySem.W.mg_none_of X G z6, PySem.W.mg_none_of X G z7, PySem.W.mg_none_of X G z8, PySem.W.mg_none_of X G z9, PySem.W.mg_none_of X G z10, PySem.W.mg_none_of X G z11⟩
  have B : Gb K mg := ⟨⟨_, PySem.W.mg_of X G gr⟩, ⟨_, PySem.W.mg_of X G gt⟩, ap, PySem.W.mg_of X G gp, fun H => .inr ⟨_, _, np, lp, rfl, rfl, by show 4 ≤ sizeLine; decide, .cons ⟨_, rfl⟩ (.cons ⟨_, rfl⟩ (.cons ⟨_, rfl⟩ (.cons ⟨_, rfl⟩ .nil)))⟩⟩
  obtain ⟨d1, D1⟩ := df_mk (st := sIsInt) (ps := ["value"]) X G a1 l1 c1 k1 fun _ _ _ _ _ _ us hl => match us, hl with | [_], _ => rfl
  obtain ⟨d2, D2⟩ := df_mk (st := sIsIn) (ps := ["value", "low", "high"]) X G a2 l2 c2 k2 fun _ _ _ _ _ _ us hl => match us, hl with | [_, _, _], _ => rfl
  obtain ⟨d3, D3⟩ := df_mk (st := sNeedPrime) (ps := ["value"]) X G a3 l3 c3 k3 fun _ _ _ _ _ _ us hl => match us, hl with | [_], _ => rfl
  obtain ⟨d4, D4⟩ := df_mk (st := sNeedNumber) (ps := ["value", "low", "high"]) X G a4 l4 c4 k4 fun _ _ _ _ _ _ us hl => match us, hl with | [_, _, _], _ => rfl
  obtain ⟨d5, D5⟩ := df_mk (st := sAreNumbers) (ps := ["prime", "value", "most"]) X G a5 l5 c5 k5 fun _ _ _ _ _ _ us hl => match us, hl with | [_, _, _], _ => rfl
  obtain ⟨d6, D6⟩ := df_mk (st := sNeedRow) (ps := ["prime", "value"]) X G a6 l6 c6 k6 fun _ _ _ _ _ _ us hl => match us, hl with | [_, _], _ => rfl
  obtain ⟨d7, D7⟩ := df_mk (st := sNeedTaps) (ps := ["prime", "value"]) X G a7 l7 c7 k7 fun _ _ _ _ _ _ us hl => match us, hl with | [_, _], _ => rfl
  obtain ⟨d8, D8⟩ := df_mk (st := sNeedStart) (ps := ["prime", "taps", "value"]) X G a8 l8 c8 k8 fun _ _ _ _ _ _ us hl => match us, hl with | [_, _, _], _ => rfl
  obtain ⟨d9, D9⟩ := df_mk (st := sNextOf) (ps := ["prime", "taps", "row"]) X G a9 l9 c9 k9 fun _ _ _ _ _ _ us hl => match us, hl with | [_, _, _], _ => rfl
  obtain ⟨d10, D10⟩ := df_mk (st := sRunOf) (ps := ["prime", "taps", "start", "count"]) X G a10 l10 c10 k10 fun _ _ _ _ _ _ us hl => match us, hl with | [_, _, _, _], _ => rfl
  obtain ⟨d11, D11⟩ := df_mk (st := sRun) (ps := ["prime", "taps", "start", "count"]) X G a11 l11 c11 k11 fun _ _ _ _ _ _ us hl => match us, hl with | [_, _, _, _], _ => rfl
  obtain ⟨d12, D12⟩ := df_mk (st := sBreakOf) (ps := ["prime", "taps", "row"]) X G a12 l12 c12 k12 fun _ _ _ _ _ _ us hl => match us, hl with | [_, _, _], _ => rfl
  obtain ⟨d13, D13⟩ := df_mk (st := sFirstBreak) (ps := ["prime", "taps", "row"]) X G a13 l13 c13 k13 fun _ _ _ _ _ _ us hl => match us, hl with | [_, _, _], _ => rfl
  obtain ⟨d14, D14⟩ := df_mk (st := sTaken) (ps := ["_law_row_here", "_law_many"]) X G a14 l14 c14 k14 fun _ _ _ _ _ _ us hl => match us, hl with | [_, _], _ => rfl
  obtain ⟨d15, D15⟩ := df_mk (st := sPick) (ps := ["_law_row_here", "_law_things"]) X G a15 l15 c15 k15 fun _ _ _ _ _ _ us hl => match us, hl with | [_, _], _ => rfl
  obtain ⟨d16, D16⟩ := df_mk (st := sPrime) (ps := ["_law_row_here"]) X G a16 l16 c16 k16 fun _ _ _ _ _ _ us hl => match us, hl with | [_], _ => rfl
  obtain ⟨d17, D17⟩ := df_mk (st := sTaps) (ps := ["_law_row_here", "_law_prime_here", "_law_most"]) X G a17 l17 c17 k17 fun _ _ _ _ _ _ us hl => match us, hl with | [_, _, _], _ => rfl
  obtain ⟨d18, D18⟩ := df_mk (st := sAlike) (ps := ["_law_found", "_law_due"]) X G a18 l18 c18 k18 fun _ _ _ _ _ _ us hl => match us, hl with | [_, _], _ => rfl
  obtain ⟨d19, D19⟩ := df_mk (st := sLawRun) (ps := ["_law_prime_here", "_law_taps_here", "_law_start", "_law_count"]) X G a19 l19 c19 k19 fun _ _ _ _ _ _ us hl => match us, hl with | [_, _, _, _], _ => rfl
  obtain ⟨d20, D20⟩ := df_mk (st := sRow) (ps := ["_law_row_here", "_law_prime_here", "_law_most"]) X G a20 l20 c20 k20 fun _ _ _ _ _ _ us hl => match us, hl with | [_, _, _], _ => rfl
  refine ⟨PySem.W.fnOf "law" "law" (defArgs sLaw) (defBody sLaw) (defScope sLaw) .none kV21 dc21 pm21 an21 cd21 ct21, fun s v => .of_eq rfl, fun base _ _ => ?_⟩
  have F := fun_mk (st := sLaw) l21 c21 k21
  have isInt := ok_isInt (P := l.prog) (w := w) (base := base) D1 T
  have isIn := ok_isIn D2 isInt
  have needPrime := ok_needPrime D3 isInt B
  have needNumber := ok_needNumber D4 isIn
  have areNumbers := ok_areNumbers D5 isIn T
  have needRow := ok_needRow D6 areNumbers B
  have needTaps := ok_needTaps D7 areNumbers B
  have needStart := ok_needStart D8 areNumbers B T
  have nextOf := ok_nextOf (P := l.prog) (w := w) (base := base) D9 T
  have runOf := ok_runOf D10 nextOf T
  have run := ok_run D11 needPrime needTaps needStart needNumber runOf B
  have breakOf := ok_breakOf D12 nextOf T
  have firstBreak := ok_firstBreak D13 needPrime needTaps needRow breakOf
  have taken := ok_taken (P := l.prog) (w := w) (base := base) D14 T
  have pick := ok_pick D15 taken T
  have prime := ok_prime D16 pick
  have taps := ok_taps D17 taken T
  have flat := ok_flat (P := l.prog) (w := w) (base := base) D18 T
  have alike := ok_alike D18 flat T
  have lrun := ok_lawRun (P := l.prog) (w := w) (base := base) D19 T
  have row := ok_row D20 taken T
  exact ok_law F ⟨taken, prime, taps, row, run, lrun, firstBreak, flat, alike⟩ T
theorem walk {l : PySem.W.OpenLaw} {q : Program} {loose : List Str} {XP : (Str → Option Value) → Heap → Prop} {YP : World → Heap → Prop} {d : DefRec} {K : Params → PySem.W.Frag} (hn : l.most = some 63) (hdf : d.params.defaults = [])
    (hY : ∀ (w : World) (h : Heap), YP w h → (K w.params).In h)
    (F : ∀ (w : World) (mg : Str → Option Value) (fa : Addr) (h : Heap), (K w.params).In h → h.Ns mainGlobals mg → mg d.name = some (.ref fa) →
      ∃ fd : FuncData, (∀ (s : Shared) (u : Value), BindsTo s fd ⟨[u], []⟩ [("_law_script", u)]) ∧ ∀ base : Heap, (K w.params).In base → base.Ns mainGlobals mg → FnOk l.prog w (K w.params) mg base CX0 6 fa fd ["_law_script"] (spLaw (K w.params))) :
    PySem.W.WalkO q loose XP YP l.row.toRowW d [] (fun f vs => PySem.call f vs) := by
  refine L2.walk_of (n := 63) (k := 6) (x := "_law_script") (CX := fun _ => CX0) (sp := fun w => spLaw (K w.params)) hn (by decide) hdf ⟨rfl, by decide, by decide⟩ hY F (fun w H a ns _ hO hS => ⟨a, ns, rfl, ?_, fun _ => rfl⟩) fun _ _ _ _ _ z => z
  rcases hS with (h | h) | h
  · rcases hO a with e | ⟨o, xs, e⟩
    · rw [e] at h; cases h
    · rw [e] at h; cases h
  · exact .inl h
  · exact .inr h
end Tap
open PySem PySem.W PyProof.Rows in
set_option maxRecDepth 100000 in
set_option maxHeartbeats 0 in
theorem PySem.Challenge.cw_taprows_k03_whole_runs_holds : PySem.Challenge.rw_taprows_k03_whole_runs.Holds := by
  w_on; o_law; k_head; (case hw => w_witness2)
  k_fill
  refine Tap.walk (l := PySem.Challenge.rw_taprows_k03_whole_runs) rfl rfl (fun w h Y => PySem.W.kIn_of Y) ?F
  case F =>
    intro w mg fa h KX G hmg
    refine' Tap.all_mk KX G hmg ?a1 ?l1 ?c1 ?k1 ?a2 ?l2 ?c2 ?k2 ?a3 ?l3 ?c3 ?k3 ?a4 ?l4 ?c4 ?k4 ?a5 ?l5 ?c5 ?k5 ?a6 ?l6 ?c6 ?k6 ?a7 ?l7 ?c7 ?k7 ?a8 ?l8 ?c8 ?k8 ?a9 ?l9 ?c9 ?k9 ?a10 ?l10 ?c10 ?k10 ?a11 ?l11 ?c11 ?k11 ?a12 ?l12 ?c12 ?k12 ?a13 ?l13 ?c13 ?k13 ?a14 ?l14 ?c14 ?k14 ?a15 ?l15 ?c15 ?k15 ?a16 ?l16 ?c16 ?k16 ?a17 ?l17 ?c17 ?k17 ?a18 ?l18 ?c18 ?k18 ?a19 ?l19 ?c19 ?k19 ?a20 ?l20 ?c20 ?k20 ?a21 ?l21 ?c21 ?k21 ?gr ?gt ?gp ?lp ?z1 ?z2 ?z3 ?z4 ?z5 ?z6 ?z7 ?z8 ?z9 ?z10 ?z11
    (case a1 => k_is); (case l1 => k_is); (case c1 => k_is); (case k1 => k_is); (case a2 => k_is); (case l2 => k_is)
    (case c2 => k_is); (case k2 => k_is); (case a3 => k_is); (case l3 => k_is); (case c3 => k_is); (case k3 => k_is)
    (case a4 => k_is); (case l4 => k_is); (case c4 => k_is); (case k4 => k_is); (case a5 => k_is); (case l5 => k_is)
    (case c5 => k_is); (case k5 => k_is); (case a6 => k_is); (case l6 => k_is); (case c6 => k_is); (case k6 => k_is)
    (case a7 => k_is); (case l7 => k_is); (case c7 => k_is); (case k7 => k_is); (case a8 => k_is); (case l8 => k_is)
    (case c8 => k_is); (case k8 => k_is); (case a9 => k_is); (case l9 => k_is); (case c9 => k_is); (case k9 => k_is)
    (case a10 => k_is); (case l10 => k_is); (case c10 => k_is); (case k10 => k_is); (case a11 => k_is); (case l11 => k_is)
    (case c11 => k_is); (case k11 => k_is); (case a12 => k_is); (case l12 => k_is); (case c12 => k_is); (case k12 => k_is)
    (case a13 => k_is); (case l13 => k_is); (case c13 => k_is); (case k13 => k_is); (case a14 => k_is); (case l14 => k_is)
    (case c14 => k_is); (case k14 => k_is); (case a15 => k_is); (case l15 => k_is); (case c15 => k_is); (case k15 => k_is)
    (case a16 => k_is); (case l16 => k_is); (case c16 => k_is); (case k16 => k_is); (case a17 => k_is); (case l17 => k_is)
    (case c17 => k_is); (case k17 => k_is); (case a18 => k_is); (case l18 => k_is); (case c18 => k_is); (case k18 => k_is)
    (case a19 => k_is); (case l19 => k_is); (case c19 => k_is); (case k19 => k_is); (case a20 => k_is); (case l20 => k_is)
    (case c20 => k_is); (case k20 => k_is); (case a21 => k_is); (case l21 => k_is); (case c21 => k_is); (case k21 => k_is)
    (case gr => k_is); (case gt => k_is); (case gp => k_is); (case lp => k_is); (case z1 => k_is); (case z2 => k_is)
    (case z3 => k_is); (case z4 => k_is); (case z5 => k_is); (case z6 => k_is); (case z7 => k_is); (case z8 => k_is)
    (case z9 => k_is); (case z10 => k_is); (case z11 => k_is)
