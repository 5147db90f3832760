import PyProof.Rows.All
import Wide.All
import OpenK.AllK
import Wide.FinOn
import PySem.Challenge.RW_pb0242_01
open PySem PySem.W PySem.Spec PySem.Calls PyProof.Rows
set_option Elab.async false
namespace Mine
section
open PySem.StrLaws PySem.Builtin PySem.Builtin.Str
/-- a text by its signs' numbers -/
def S (l : List Nat) : Str := ⟨l.toArray⟩
theorem S_cps (l : List Nat) : (S l).cps = l.toArray := rfl
theorem S_toList (l : List Nat) : (S l).cps.toList = l := rfl
theorem S_len (l : List Nat) : (S l).length = l.length := by simp [S, Str.length]
theorem S_app (a b : List Nat) : S a ++ S b = S (a ++ b) := Str.ext' (by rw [Str.cps_append, S_cps, S_cps, S_cps]; simp)
theorem S_of (x : Str) : S x.cps.toList = x := Str.ext' (by rw [S_cps])
theorem S_inj {a b : List Nat} (h : S a = S b) : a = b := by
  have := congrArg (fun x : Str => x.cps.toList) h
  simpa [S] using this

/-- replacing from the left, `k` signs still to pass -/
def rep (y z : List Nat) : Nat → List Nat → List Nat
  | _, [] => []
  | k + 1, _ :: l => rep y z k l
  | 0, c :: l => if y.isPrefixOf (c :: l) then z ++ rep y z (y.length - 1) l else c :: rep y z 0 l

def cutsFrom (x y : List Nat) : Nat → Nat → Nat → List Nat
  | 0, _, _ => []
  | n + 1, i, f => if f ≤ i ∧ i + y.length ≤ x.length ∧ (x.drop i).take y.length = y then i :: cutsFrom x y n (i + 1) (i + y.length) else cutsFrom x y n (i + 1) f

theorem forIn_cuts (x y : List Nat) : ∀ (n i f : Nat) (found : Array Nat), found.size + n ≤ x.length + 1 →
    (forIn (List.range' i n) (found, f) (occBody (S x) (S y) x.length (x.length + 1))).run.fst.toList = found.toList ++ cutsFrom x y n i f
  | 0, i, f, found, _ => by simp [cutsFrom]
  | n + 1, i, f, found, h => by
    rw [List.range'_succ, List.forIn_cons]
    have hsub : ((((found.size < x.length + 1 ∧ f ≤ i) ∧ i + (S y).length ≤ x.length) ∧ subAt (S x) (S y) i = true)) ↔ (f ≤ i ∧ i + y.length ≤ x.length ∧ (x.drop i).take y.length = y) := by
      rw [subAt_eq, S_len, S_toList, S_toList, beq_iff_eq]
      constructor
      · rintro ⟨⟨⟨_, a⟩, b⟩, c⟩; exact ⟨a, b, c⟩
      · rintro ⟨a, b, c⟩; exact ⟨⟨⟨by omega, a⟩, b⟩, c⟩
    unfold occBody cutsFrom
    split
    · rename_i hc
      rw [if_pos (hsub.mp hc)]
      have ih := forIn_cuts x y n (i + 1) (i + y.length) (found.push i) (by rw [Array.size_push]; omega)
      rw [Array.toList_push, List.append_assoc] at ih
      rw [S_len]
      exact ih
    · rename_i hc
      rw [if_neg (fun q => hc (hsub.mpr q))]
      exact forIn_cuts x y n (i + 1) f found (by omega)

theorem join_cons (z a : Str) {l : List Str} (h : l ≠ []) : Str.join z (a :: l) = a ++ z ++ Str.join z l := by
  cases l with
  | nil => exact absurd rfl h
  | cons b r => rfl
theorem partsFrom_nn (x : Str) (w a : Nat) (cuts : List Nat) : partsFrom x w a cuts ≠ [] := by
  obtain ⟨p, r, e⟩ := partsFrom_ne x w a cuts
  rw [e]; exact fun q => nomatch q
theorem strSub_S (x : List Nat) (a b : Nat) : strSub (S x) a b = S ((x.drop a).take (b - a)) := by
  rw [← S_of (strSub (S x) a b), strSub_toList, S_toList]
theorem pre_iff (y l : List Nat) : y.isPrefixOf l = true ↔ l.take y.length = y := by
  rw [List.isPrefixOf_iff_prefix, List.prefix_iff_eq_take, eq_comm]

theorem join_cuts (x y z : List Nat) (hy : 0 < y.length) : ∀ (n i f : Nat), i + n = x.length + 1 → f ≤ x.length →
    Str.join (S z) (partsFrom (S x) y.length f (cutsFrom x y n i f)) = S ((x.drop f).take (i - f) ++ rep y z (f - i) (x.drop i))
  | 0, i, f, hi, hf => by
    show strSub (S x) f (S x).length = _
    rw [strSub_S, S_len, List.drop_of_length_le (show x.length ≤ i by omega)]
    have : rep y z (f - i) [] = [] := by cases (f - i) <;> rfl
    rw [this, List.append_nil, List.take_of_length_le (by simp), List.take_of_length_le (by simp; omega)]
  | n + 1, i, f, hi, hf => by
    unfold cutsFrom
    split
    · rename_i hc
      obtain ⟨h1, h2, h3⟩ := hc
      have hil : i < x.length := by omega
      have ih := join_cuts x y z hy n (i + 1) (i + y.length) (by omega) h2
      show Str.join (S z) (strSub (S x) f i :: partsFrom (S x) y.length (i + y.length) (cutsFrom x y n (i + 1) (i + y.length))) = _
      rw [join_cons _ _ (partsFrom_nn _ _ _ _), ih, strSub_S, S_app, S_app]
      have e1 : i + 1 - (i + y.length) = 0 := by omega
      have e2 : i + y.length - (i + 1) = y.length - 1 := by omega
      have e3 : f - i = 0 := by omega
      rw [e1, e2, e3, List.take_zero, List.nil_append, List.drop_eq_getElem_cons hil]
      have hp : y.isPrefixOf (x[i] :: x.drop (i + 1)) = true := by
        rw [pre_iff, ← List.drop_eq_getElem_cons hil]; exact h3
      simp only [rep, hp, if_true, List.append_assoc]
    · rename_i hc
      have ih := join_cuts x y z hy n (i + 1) f (by omega) hf
      rw [ih]
      by_cases hil : i < x.length
      · rw [List.drop_eq_getElem_cons hil]
        by_cases hfi : f ≤ i
        · have e3 : f - i = 0 := by omega
          have e4 : f - (i + 1) = 0 := by omega
          have hp : y.isPrefixOf (x[i] :: x.drop (i + 1)) = false := by
            rw [Bool.eq_false_iff]
            intro q
            rw [pre_iff, ← List.drop_eq_getElem_cons hil] at q
            refine hc ⟨hfi, ?_, q⟩
            have := congrArg List.length q
            rw [List.length_take, List.length_drop] at this
            omega
          rw [e3, e4]
          simp only [rep, hp, Bool.false_eq_true, if_false]
          have e5 : i + 1 - f = (i - f) + 1 := by omega
          have e6 : (x.drop f)[i - f]? = some x[i] := by
            rw [List.getElem?_drop, show f + (i - f) = i by omega]; exact List.getElem?_eq_getElem hil
          rw [e5, List.take_succ, e6]
          simp
        · have e3 : f - i = (f - (i + 1)) + 1 := by omega
          have e4 : i - f = 0 := by omega
          have e5 : i + 1 - f = 0 := by omega
          rw [e3, e4, e5]
          simp only [rep, List.take_zero]
      · have hx : x.drop i = [] := List.drop_of_length_le (by omega)
        have hx1 : x.drop (i + 1) = [] := List.drop_of_length_le (by omega)
        have r0 : ∀ k, rep y z k [] = [] := fun k => by cases k <;> rfl
        rw [hx, hx1, r0, r0, List.take_of_length_le (by simp; omega), List.take_of_length_le (by simp; omega)]

theorem replace_rep (x y z : List Nat) (hy : 0 < y.length) : Txt.replace (S x) (S y) (S z) = S (rep y z 0 x) := by
  have key := join_cuts x y z hy (x.length + 1) 0 0 (by omega) (by omega)
  simp only [List.drop_zero, Nat.sub_self, List.take_zero, List.nil_append] at key
  have ho : occurrences (S x) (S y) 0 (S x).length ((S x).length + 1) = cutsFrom x y (x.length + 1) 0 0 := by
    rw [occ_eq, S_len, Nat.sub_zero]
    have := forIn_cuts x y (x.length + 1) 0 0 #[] (by simp)
    simpa using this
  unfold Txt.replace
  rw [ho]
  have hyl : ((S y).length == 0) = false := by rw [S_len]; exact beq_false_of_ne (by omega)
  rw [hyl, Bool.false_and, Bool.or_false, partsBetween_eq, glued_eq_join, S_len]
  split
  · rename_i he
    rw [List.isEmpty_iff.mp he] at key
    rw [← key]
    show S x = strSub (S x) 0 (S x).length
    rw [sub_whole]
  · exact key

/-- every sign `q` doubled -/
def dbl (q : Nat) : List Nat → List Nat
  | [] => []
  | c :: l => if c = q then q :: q :: dbl q l else c :: dbl q l
/-- the text between the signs `q`, each one within doubled -/
def qd (q : Nat) (t : List Nat) : List Nat := q :: (dbl q t ++ [q])

theorem rep_dbl (q : Nat) : ∀ t, rep [q] [q, q] 0 t = dbl q t
  | [] => rfl
  | c :: t => by
    by_cases h : c = q
    · subst h; simp [rep, dbl, List.isPrefixOf, rep_dbl c t]
    · have : ([q].isPrefixOf (c :: t)) = false := by simp [List.isPrefixOf]; exact fun e => h e.symm
      simp [rep, dbl, this, h, rep_dbl q t]
theorem rep_undbl (q : Nat) : ∀ t, rep [q, q] [q] 0 (dbl q t) = t
  | [] => rfl
  | c :: t => by
    by_cases h : c = q
    · subst h; simp [rep, dbl, List.isPrefixOf, rep_undbl c t]
    · have : ([q, q].isPrefixOf (c :: dbl q t)) = false := by simp [List.isPrefixOf]; exact fun e => absurd e.symm h
      simp [rep, dbl, this, h, rep_undbl q t]
theorem replace_dbl (q : Nat) (t : List Nat) : Txt.replace (S t) (S [q]) (S [q, q]) = S (dbl q t) := by
  rw [replace_rep _ _ _ (by simp), rep_dbl]
theorem replace_undbl (q : Nat) (t : List Nat) : Txt.replace (S (dbl q t)) (S [q, q]) (S [q]) = S t := by
  rw [replace_rep _ _ _ (by simp), rep_undbl]
theorem dbl_len (q : Nat) : ∀ t, (dbl q t).length = t.length + t.count q
  | [] => rfl
  | c :: t => by
    by_cases h : c = q
    · subst h; simp [dbl, dbl_len c t]; omega
    · simp [dbl, h, dbl_len q t, List.count_cons]; omega
theorem dbl_app (q : Nat) : ∀ a b, dbl q (a ++ b) = dbl q a ++ dbl q b
  | [], _ => rfl
  | c :: a, b => by
    by_cases h : c = q <;> simp [dbl, h, dbl_app q a b]
theorem dbl_le (q : Nat) (t : List Nat) : (dbl q t).length ≤ 2 * t.length := by
  rw [dbl_len]; have := List.count_le_length (a := q) (l := t); omega
theorem dbl_ge (q : Nat) (t : List Nat) : t.length ≤ (dbl q t).length := by rw [dbl_len]; omega
end
section
open PySem.StrLaws PySem.Builtin PySem.Builtin.Str
theorem slice_S (l : List Nat) (a b : Nat) (h : a ≤ b) : Txt.slice (S l) (some (a : Int)) (some (b : Int)) = S ((l.drop a).take (b - a)) := by
  have hl : (S l).length = l.length := S_len l
  have e : strSliceIndices (some (a : Int)) (some (b : Int)) 1 l.length = strSliceIndices (some ((min a l.length : Nat) : Int)) (some ((min b l.length : Nat) : Int)) 1 l.length := by
    have h1 : ¬ ((a : Int) < 0) := by omega
    have h2 : ¬ ((b : Int) < 0) := by omega
    have h3 : ¬ (((min a l.length : Nat) : Int) < 0) := by omega
    have h4 : ¬ (((min b l.length : Nat) : Int) < 0) := by omega
    have e1 : max (0 : Int) (min (a : Int) (l.length : Int)) = max (0 : Int) (min ((min a l.length : Nat) : Int) (l.length : Int)) := by omega
    have e2 : max (0 : Int) (min (b : Int) (l.length : Int)) = max (0 : Int) (min ((min b l.length : Nat) : Int) (l.length : Int)) := by omega
    simp only [strSliceIndices, h1, h2, h3, h4, if_false, e1, e2, show ((1 : Int) > 0) = True from by simp, if_true]
  have hp := sliced_plain (S l) (a := min a l.length) (b := min b l.length) (by omega) (by rw [hl]; omega)
  have hq := strSliceIndices_plain (a := min a l.length) (b := min b l.length) (len := l.length) (by omega) (by omega)
  have hd : (l.drop (min a l.length)).take (min b l.length - min a l.length) = (l.drop a).take (b - a) := by
    by_cases ha : a ≤ l.length
    · rw [show min a l.length = a by omega]
      by_cases hb : b ≤ l.length
      · rw [show min b l.length = b by omega]
      · rw [show min b l.length = l.length by omega, List.take_of_length_le (by simp), List.take_of_length_le (by simp; omega)]
    · rw [List.drop_of_length_le (by omega : l.length ≤ min a l.length), List.drop_of_length_le (by omega : l.length ≤ a)]; simp
  rw [hl, ← e, S_toList, hd] at hp
  unfold Txt.slice
  rw [hl]
  split
  · rename_i hc
    have hc' : (strSliceIndices (some (a : Int)) (some (b : Int)) 1 l.length).length = l.length := by simpa using hc
    rw [e, hq] at hc'
    simp only [List.length_map, List.length_range] at hc'
    rw [← hd]
    have h1 : min b l.length - min a l.length = l.length := hc'
    by_cases h0 : l.length = 0
    · have : l = [] := List.length_eq_zero_iff.mp h0
      subst this; simp
    · rw [show min a l.length = 0 by omega, show min b l.length = l.length by omega]; simp
  · rw [hp]; rfl
theorem slice_but1 (l : List Nat) (h : l ≠ []) : Txt.slice (S l) none (some (-1)) = S l.dropLast := by
  have hn : 0 < l.length := List.length_pos_iff.mpr h
  have e : Txt.slice (S l) none (some (-1)) = Txt.slice (S l) (some ((0 : Nat) : Int)) (some ((l.length - 1 : Nat) : Int)) := by
    have hl : (S l).length = l.length := S_len l
    have e1 : strSliceIndices none (some (-1)) 1 l.length = strSliceIndices (some ((0 : Nat) : Int)) (some ((l.length - 1 : Nat) : Int)) 1 l.length := by
      have h2 : ((-1 : Int) < 0) := by omega
      have h3 : ¬ (((0 : Nat) : Int) < 0) := by omega
      have h4 : ¬ (((l.length - 1 : Nat) : Int) < 0) := by omega
      have e1 : (0 : Int) = max (0 : Int) (min ((0 : Nat) : Int) (l.length : Int)) := by omega
      have e2 : max (0 : Int) (min ((-1 : Int) + (l.length : Int)) (l.length : Int)) = max (0 : Int) (min ((l.length - 1 : Nat) : Int) (l.length : Int)) := by omega
      simp only [strSliceIndices, h2, h3, h4, if_false, if_true, e2, show ((1 : Int) > 0) = True from by simp, ← e1]
    unfold Txt.slice
    rw [hl, e1]
  rw [e, slice_S _ _ _ (by omega)]
  simp [List.dropLast_eq_take]

variable {prog : Program} {w : World} {A : Around} {E : Value → Shared → Prop} {s : Shared}
theorem at_S {value slice : PySem.Expr} {l : List Nat} {i c : Nat} {t u : Tok} {k : Int} {Q : Value → Shared → Prop} (hk : k = (i : Int)) (hi : l[i]? = some c) (hl : l.length < 1000000)
    (h : ∀ t' k, Q (.str (S [c]) t') { s with toks := k })
    (hs : subscripted slice false (.str (S l) t) (.int k u) = operate [.str (S l) t, .int k u] (getItem (.str (S l) t) (.int k u)) := by with_unfolding_all rfl) :
    wpAny (model prog w) A (subscriptTail value slice (.str (S l) t) (.int k u)) Q E s := by
  subst hk
  have hil : i < l.length := (List.getElem?_eq_some_iff.mp hi).1
  refine tail_any (typeIs_str _ _ _) F.slot_str_getitem.lookup ?_ hs
  refine P.getItem_str ?_ ?_ (h _ _)
  · simp only [Bool.or_eq_false_iff, decide_eq_false_iff_not]
    constructor <;> omega
  · rw [S_len, seqIndex_nonneg (by omega) (by omega)]
    simp [S, hi]
theorem item_S {l : List Nat} {e : Nat} (h : e < l.length) : Txt.item (S l) (e : Int) = S [l[e]] := by
  have h0 : (seqIndex? (e : Int) (S l).length).bind ((S l).cps[·]?) = some l[e] := by
    rw [S_len, seqIndex_nonneg (by omega) (by omega)]
    simp [S, h]
  show (⟨#[((seqIndex? (e : Int) (S l).length).bind ((S l).cps[·]?)).getD 0]⟩ : Str) = _
  rw [h0]; rfl
theorem slice_S1 (l : List Nat) (e : Nat) : Txt.slice (S l) (some ((e : Int) + 1)) (some ((e : Int) + 2)) = S ((l.drop (e + 1)).take 1) := by
  have := slice_S l (e + 1) (e + 2) (by omega)
  rw [show e + 2 - (e + 1) = 1 by omega] at this
  exact this
theorem take1 (l : List Nat) (e : Nat) : (l.drop e).take 1 = (l[e]?).toList := by
  by_cases h : e < l.length
  · rw [List.drop_eq_getElem_cons h, List.getElem?_eq_getElem h]; rfl
  · rw [List.drop_of_length_le (by omega), List.getElem?_eq_none (by omega)]; rfl
theorem S_beq (a b : List Nat) : (S a == S b) = (a == b) := by
  rw [Bool.eq_iff_iff, beq_iff_eq, beq_iff_eq]
  exact ⟨S_inj, fun e => by rw [e]⟩
theorem in_S (x : List Nat) (c : Nat) : (occurrences (S x) (S [c]) 0 (S x).length 1).isEmpty = !decide (c ∈ x) := by
  have h := found_iff (S x) (S [c])
  have e : (∃ i, i + (S [c]).length ≤ (S x).length ∧ subAt (S x) (S [c]) i = true) ↔ c ∈ x := by
    rw [List.mem_iff_getElem?]
    constructor
    · rintro ⟨i, _, h2⟩
      rw [subAt_eq, S_toList, S_toList, S_len] at h2
      exact ⟨i, take1_drop.mp h2⟩
    · rintro ⟨i, hi⟩
      have := (List.getElem?_eq_some_iff.mp hi).1
      refine ⟨i, by rw [S_len, S_len]; exact this, ?_⟩
      rw [subAt_eq, S_toList, S_toList, S_len]
      exact take1_drop.mpr hi
  rw [e] at h
  cases q : (occurrences (S x) (S [c]) 0 (S x).length 1).isEmpty with
  | true => rw [q] at h; have : ¬ c ∈ x := fun z => by simpa using h.mpr z
            simp [this]
  | false => rw [q] at h; have : c ∈ x := h.mp rfl
             simp [this]
end
section
local macro_rules | `(tactic| o_head $_) => `(tactic| assumption)
set_option maxRecDepth 100000 in
set_option maxHeartbeats 8000000 in
/-- only to have the written part of the heap, `kmaker.heap_39`, as a constant -/
theorem kmaker (h : PySem.W.OpenRow.Holds PySem.Challenge.rw_pb0242_01.row) : PySem.Challenge.rw_pb0242_01.Holds := by
  w_on; o_law; k_head
end

/-- the program -/
abbrev PG : Program := PySem.Challenge.rw_pb0242_01.prog

/-- leaving a called def whose base is the whole heap at the call -/
def LeaveS (g : Heap) (R : Result → Shared → Prop) (v : Value) (s' : Shared) : Prop :=
  ∃ L' m', Fr g L' s'.heap m' ∧ (g.StaysIn s'.heap → R (.ok (.ret v)) s')
theorem leaveS_ {g : Heap} {L' : Addr} {m' : Str → Option Value} {R : Result → Shared → Prop} {v : Value} {s' : Shared} (F : Fr g L' s'.heap m')
    (k : g.StaysIn s'.heap → R (.ok (.ret v)) s') : LeaveS g R v s' := ⟨L', m', F, k⟩

theorem enterS {prog : Program} {w : World} {A A₀ : Around} {s : Shared} {base h₀ : Heap} {env : Env} {outer : List Env} {L : Addr} {m mg mb : Str → Option Value} {p : Program} {loose : List Str} {K : Frag}
    {R : Result → Shared → Prop} {name qual : Str} {params : Arguments} {body : List Stmt} {scope : Scope} {dV kV doc pm cdv ct oc : Value} {an od : Option Addr} {osl : Array (Option Value)} {f : Addr} {args : Args} (binds : List (Str × Value))
    (B : Below A₀ base outer h₀) (F : Fr h₀ L s.heap m) (X₀ : K.In h₀) (T : TopRead p loose mg mb h₀) (hA : A.frames = some (env :: outer)) (hf : env.frame = some L) (hke : env.scope.kind = .function) (hroom : A.depth < recursionLimit)
    (h : ∀ L' h₁, Fr s.heap L' h₁ (fun y => binds.reverse.lookup y) → News s.heap L' h₁ [] → Below A base (env :: outer) s.heap → K.In s.heap → TopRead p loose mg mb s.heap →
      wpAny (model prog w) (A.deeper (envOf qual scope L' f cdv)) (execs body (envOf qual scope L' f cdv))
        (fun fl s' => LeaveS s.heap R (match fl with | .ret v => v | _ => .none) s')
        (fun e s' => wpAny (model prog w) (A.deeper (envOf qual scope L' f cdv)) (leaving (envOf qual scope L' f cdv) e) (fun _ s'' => R (.error e) s'') (fun e' s'' => R (.error e') s'') s')
        { s with heap := h₁, toks := s.toks + binds.length })
    (ho : K.lookup f = some ⟨oc, od, .func (fnOf name qual params body scope dV kV doc pm an cdv ct), osl⟩ := by k_dflt k_is) (hcd : codeIn K cdv qual = true := by k_dflt k_is)
    (hbind : BindsTo s (fnOf name qual params body scope dV kV doc pm an cdv ct) args binds := by exact BindsTo.of_eq rfl) (hloc : ∀ y ∈ binds, scope.names.lookup y.1 = some .local := by exact locs rfl)
    (hcell : ∀ x ∈ scope.names, x.2 ≠ .cell := by decide) (hco : scope.isCoroutine = false := by rfl) (hgen : scope.isGenerator = false := by rfl) (hk : scope.kind = .function := by rfl) :
    codeAny (model prog w) A (.call (.ref f) args) R s := by
  have X := X₀.keeps F.keep
  have T' := T.keeps F.keep
  have B₁ := pushX B F hf hke
  have B' : Below A base (env :: outer) s.heap := ⟨hA, B₁.stays, B₁.frames⟩
  refine codeAny_call_def (fd := fnOf name qual params body scope dV kV doc pm an cdv ct) (body := body) (binds := binds) hroom (X _ _ ho) rfl T'.nolimit (codeRec_of X hcd) rfl hbind hcell hloc (fun h₁ hns hk₁ => ?_) hco hgen hk
  refine wpAny_mono (h _ h₁ ⟨hns, hk₁, Nat.le_refl _⟩ News.nil B' X T') (fun fl s' hl => ?_) fun _ _ y => y
  obtain ⟨L', m', F', k⟩ := hl
  exact k F'.keep

/-- the contract of a call that comes back: `f` called with `vs` in a heap with `pre` hands back `v` with `res`; all that stood stands -/
def Gives (w : World) (f : Addr) (vs : List Value) (D U : Nat) (pre : Heap → Prop) (res : Heap → Value → Heap → Prop) : Prop :=
  ∀ (A A₀ : Around) (base h₀ : Heap) (env : Env) (outer : List Env) (L : Addr) (m mg mb : Str → Option Value) (p : Program) (loose : List Str) (s : Shared) (Q E : Value → Shared → Prop),
    Below A₀ base outer h₀ → Fr h₀ L s.heap m → (Mine.kmaker.heap_39 w.params).In h₀ → TopRead p loose mg mb h₀ → A.frames = some (env :: outer) → env.frame = some L → env.scope.kind = .function → A.handled = none →
    pre s.heap → A.depth + D < recursionLimit → A.units + U < cLine →
    (∀ v h' tk', res s.heap v h' → s.heap.StaysIn h' → Q v { s with heap := h', toks := tk' }) → wpAny (model PG w) A (call (.ref f) vs) Q E s

theorem News.stays {h₀ h h' : Heap} {L : Addr} {news : List (Addr × Obj)} (N : News h₀ L h news) (k : h.StaysIn h') : News h₀ L h' news := fun q hq => ⟨k _ _ (N q hq).1, (N q hq).2⟩
theorem Fr.stays {h₀ h h' : Heap} {L : Addr} {m : Str → Option Value} (F : Fr h₀ L h m) (k : h.StaysIn h') : Fr h₀ L h' m := by
  obtain ⟨⟨oL, a1, a2, hL, a3⟩, f2, f3⟩ := F
  exact ⟨⟨oL, a1, a2, k _ _ hL, a3⟩, fun b o e => k _ _ (f2 b o e), f3⟩

theorem frames_in {A : Around} {env : Env} {outer : List Env} (h : A.frames = some (env :: outer)) : A.in1.frames = some (env :: outer) := h
theorem Gives.use {w : World} {f : Addr} {vs : List Value} {D U : Nat} {pre : Heap → Prop} {res : Heap → Value → Heap → Prop} (C : Gives w f vs D U pre res)
    {A A₀ : Around} {base h₀ : Heap} {env : Env} {outer : List Env} {L : Addr} {m mg mb : Str → Option Value} {p : Program} {loose : List Str} {s : Shared} {Q E : Value → Shared → Prop} {news : List (Addr × Obj)}
    (hp : pre s.heap)
    (k : ∀ v h' tk', res s.heap v h' → s.heap.StaysIn h' → Fr h₀ L h' m → News h₀ L h' news → Q v { s with heap := h', toks := tk' })
    (B : Below A₀ base outer h₀ := by assumption) (F : Fr h₀ L s.heap m := by assumption) (X : (Mine.kmaker.heap_39 w.params).In h₀ := by assumption) (T : TopRead p loose mg mb h₀ := by assumption) (N : News h₀ L s.heap news := by assumption)
    (hA : A.frames = some (env :: outer) := by first | assumption | exact Around.frames_deeper (Below.stack (by assumption))) (hf : env.frame = some L := by first | rfl | assumption) (hke : env.scope.kind = .function := by first | rfl | assumption) (hh : A.handled = none := by first | assumption | rfl)
    (hd : A.depth + D < recursionLimit := by first | omega | (simp only [depth_deeper, depth_in1]; omega)) (hu : A.units + U < cLine := by first | omega | (simp only [units_deeper, units_in1]; omega)) : wpAny (model PG w) A (call (.ref f) vs) Q E s :=
  C A A₀ base h₀ env outer L m mg mb p loose s Q E B F X T hA hf hke hh hp hd hu fun v h' tk' hr st => k v h' tk' hr st (Fr.stays F st) (News.stays N st)

example : (PySem.Challenge.rw_pb0242_01, Mine.kmaker.heap_39) = (PySem.Challenge.rw_pb0242_01, Mine.kmaker.heap_39) := by k_fill; rfl
theorem lit_q : Str.ofString "\"" = S [34] := by decide +kernel
theorem lit_qq : Str.ofString "\"\"" = S [34, 34] := by decide +kernel
theorem lit_s : Str.ofString "'" = S [39] := by decide +kernel
theorem lit_ss : Str.ofString "''" = S [39, 39] := by decide +kernel
theorem quoted_is (t : List Nat) : Str.ofString "\"" ++ Txt.replace (S t) (Str.ofString "\"") (Str.ofString "\"\"") ++ Str.ofString "\"" = S (qd 34 t) := by
  rw [lit_q, lit_qq, replace_dbl, S_app, S_app]; rfl
theorem quoted_sz (t : List Nat) (h : t.length < 1000) : (Txt.replace (S t) (Str.ofString "\"") (Str.ofString "\"\"")).length ≤ 2000 := by
  rw [lit_q, lit_qq, replace_dbl, S_len]; have := dbl_le 34 t; omega
set_option maxRecDepth 100000 in
set_option maxHeartbeats 8000000 in
theorem c_quoted (w : World) (t : List Nat) (tt : Tok) : Gives w 263 [.str (S t) tt] 2 8 (fun _ => t.length < 1000) (fun _ v _ => ∃ t', v = .str (S (qd 34 t)) t') := by
  intro A A₀ base h₀ env outer L m mg mb p loose s Q E B F X T hA hf hke hh hpre hd hu hret
  refine wpAny_call (enterS [(Str.ofString "text", .str (S t) tt)] B F X T hA hf hke (by omega) ?_)
  intro L' h₁ F' N' B' X' T'
  k_fold
  have hlen : (S t).length < 1000 := by rw [S_len]; exact hpre
  have hsz := quoted_sz t hpre
  k_steps
  refine leaveS_ F' fun st => hret _ _ _ ⟨_, congrArg (fun x => Value.str x _) (quoted_is t)⟩ st
/-- a Line in the heap: its text's signs, the address of its places -/
def LineAt (h : Heap) (x : Addr) (l : List Nat) (pl : Addr) : Prop :=
  ∃ dx es n t, h.get? x = some (instObj 38 dx) ∧ h.get? dx = some (dictOf es n) ∧ getL (Str.ofString "text") es = some (some (.str (S l) t)) ∧ getL (Str.ofString "places") es = some (some (.ref pl))
theorem LineAt.keeps {h h' : Heap} {x pl : Addr} {l : List Nat} (k : h.StaysIn h') (H : LineAt h x l pl) : LineAt h' x l pl :=
  let ⟨dx, es, n, t, a, b, r⟩ := H; ⟨dx, es, n, t, k _ _ a, k _ _ b, r⟩

section
variable {prog : Program} {w : World} {A : Around} {E : Value → Shared → Prop} {s : Shared} {h₀ : Heap} {L x pl : Addr} {m : Str → Option Value} {l : List Nat} {expr : Bool}
theorem line_text {Q : Value → Shared → Prop} (h : ∀ t k, Q (.str (S l) t) { s with toks := k }) (F : Fr h₀ L s.heap m := by assumption) (X : (Mine.kmaker.heap_39 w.params).In h₀ := by assumption) (H : LineAt h₀ x l pl := by assumption) :
    wpAny (model prog w) A (getAttr (.ref x) (Str.ofString "text") expr) Q E s := by
  obtain ⟨dx, es, n, t, a, b, c, d⟩ := H
  have I : InstAt s.heap x (instObj 38 dx) 38 (some (dictOf es n)) := ⟨F.keep _ _ a, rfl, rfl, F.keep _ _ b⟩
  refine get_own (attr := none) F X I ?_ ?_ ?_ ?_ c ?_ (h _ _)
  · k_dflt k_is
  · k_dflt k_is
  · k_dflt k_is
  · k_dflt k_is
  · k_handed
theorem line_places {Q : Value → Shared → Prop} (h : ∀ k, Q (.ref pl) { s with toks := k }) (F : Fr h₀ L s.heap m := by assumption) (X : (Mine.kmaker.heap_39 w.params).In h₀ := by assumption) (H : LineAt h₀ x l pl := by assumption) :
    wpAny (model prog w) A (getAttr (.ref x) (Str.ofString "places") expr) Q E s := by
  obtain ⟨dx, es, n, t, a, b, c, d⟩ := H
  have I : InstAt s.heap x (instObj 38 dx) 38 (some (dictOf es n)) := ⟨F.keep _ _ a, rfl, rfl, F.keep _ _ b⟩
  refine get_own (attr := none) F X I ?_ ?_ ?_ ?_ d ?_ (h _)
  · k_dflt k_is
  · k_dflt k_is
  · k_dflt k_is
  · k_dflt k_is
  · k_handed

/-- a while by a measure and what holds between the turns: the turn may use that the loop goes on well from any lesser state -/
theorem while_by {R : Result → Shared → Prop} {test : Expr} {body orelse : List Stmt} {env : Env} {α : Type} (μ : α → Nat) (P : α → Heap → Prop)
    (turn : ∀ a h tk, P a h → (∀ b h' tk', μ b < μ a → P b h' → codeAny (model prog w) A (.whileLoop test body orelse env) R { s with heap := h', toks := tk' }) →
      wpAny (model prog w) A (isTrue test env (eval test env)) (fun b s₂ =>
        if b then wpAny (model prog w) A (execs body env) (fun f s₃ => match f with
            | .next | .cont => codeAny (model prog w) A (.whileLoop test body orelse env) R s₃
            | .brk => R (.ok .next) s₃
            | .ret v => R (.ok (.ret v)) s₃) (notedBy (model prog w) A env fun e s' => R (.error e) s') s₂
        else wpAny (model prog w) A (execs orelse env) (fun f s₃ => R (.ok f) s₃) (notedBy (model prog w) A env fun e s' => R (.error e) s') s₂)
        (notedBy (model prog w) A env fun e s' => R (.error e) s') { s with heap := h, toks := tk })
    (a : α) (h : Heap) (tk : Nat) (p : P a h) : codeAny (model prog w) A (.whileLoop test body orelse env) R { s with heap := h, toks := tk } := by
  have key : ∀ n a h tk, μ a < n → P a h → codeAny (model prog w) A (.whileLoop test body orelse env) R { s with heap := h, toks := tk } := by
    intro n
    induction n with
    | zero => intro a h tk hn; exact absurd hn (Nat.not_lt_zero _)
    | succ n ih =>
      intro a h tk hn p
      refine codeAny_of_tree ?_
      show wpAny _ A ((whileTurn test body orelse env).onRaise (fun x => do noteFrame x env; theTreesLotGoes x)) _ _ _
      refine wpAny_noted ?_
      simp only [whileTurn]
      refine wpAny_bind (wpAny_mono (turn a h tk p fun b h' tk' hb pb => ih b h' tk' (by omega) pb) (fun b s₂ h₂ => ?_) fun _ _ h' => h')
      cases b with
      | false =>
        simp only [Bool.false_eq_true, if_false] at h₂ ⊢
        exact wpAny_bind (wpAny_mono h₂ (fun f s₃ h₃ => wpAny_pure h₃) fun _ _ h' => h')
      | true =>
        simp only [if_true] at h₂ ⊢
        refine wpAny_bind (wpAny_mono h₂ (fun f s₃ h₃ => ?_) fun _ _ h' => h')
        cases f with
        | next => exact wpAny_pure ⟨rfl, h₃⟩
        | cont => exact wpAny_pure ⟨rfl, h₃⟩
        | brk => exact wpAny_pure h₃
        | ret v => exact wpAny_pure h₃
  exact key _ a h tk (Nat.lt_succ_self _) p

theorem Fr.congr {h₀ h : Heap} {L : Addr} {m m' : Str → Option Value} (F : Fr h₀ L h m) (e : ∀ y, m y = m' y) : Fr h₀ L h m' := (funext e : m = m') ▸ F
theorem Fr.again {h₀ h : Heap} {L : Addr} {x : Str} {v v' a : Value} {m : Str → Option Value} (F : Fr h₀ L h (fun y => if y = x then some v else if y = x then some a else m y)) (e : v = v') :
    Fr h₀ L h (fun y => if y = x then some v' else m y) := by
  subst e
  exact Fr.congr F fun y => by by_cases hy : y = x <;> simp [hy]
end
/-- a goal that the walk is to leave alone -/
def Hold (P : Prop) : Prop := P
theorem hold_ {P : Prop} (h : Hold P) : P := h
theorem Hold.go {P : Prop} (h : P) : Hold P := h
local macro_rules | `(tactic| walk_at "call ref") => `(tactic| k_extra "call ref")
local macro_rules | `(tactic| walk_at "eval Call") => `(tactic| k_dflt (refine Call_ ?_))
local macro_rules | `(tactic| walk_at "getAttr ref") => `(tactic| first | refine line_text (fun _ _ => ?_) | refine line_places (fun _ => ?_))
/-- how the scan for the quote's end goes: none where the text ends first -/
inductive LE (l : List Nat) (q : Nat) : Nat → Option Nat → Prop
  | stop {e : Nat} : l.length = e → LE l q e none
  | step {e c : Nat} {r : Option Nat} : l[e]? = some c → c ≠ q → LE l q (e + 1) r → LE l q e r
  | pair {e : Nat} {r : Option Nat} : l[e]? = some q → l[e + 1]? = some q → LE l q (e + 2) r → LE l q e r
  | fin {e : Nat} : l[e]? = some q → l[e + 1]? ≠ some q → LE l q e (some (e + 1))

theorem LE.ne {l : List Nat} {q e : Nat} {r : Option Nat} (h : LE l q e r) (h1 : (e : Int) < (S l).length) (h2 : (Txt.item (S l) (e : Int) != S [q]) = true) : LE l q (e + 1) r := by
  rw [S_len] at h1
  have he : e < l.length := by omega
  have hi := List.getElem?_eq_getElem he
  rw [item_S he, bne, S_beq] at h2
  have hn : l[e] ≠ q := by simpa using h2
  cases h with
  | stop h => omega
  | step _ _ h => exact h
  | pair h => rw [hi] at h; exact absurd (Option.some.inj h) hn
  | fin h => rw [hi] at h; exact absurd (Option.some.inj h) hn
theorem LE.eq {l : List Nat} {q e : Nat} (h1 : (e : Int) < (S l).length) (h2 : (Txt.item (S l) (e : Int) != S [q]) = false) : l[e]? = some q := by
  rw [S_len] at h1
  have he : e < l.length := by omega
  rw [item_S he, bne, S_beq] at h2
  rw [List.getElem?_eq_getElem he]
  simpa using h2
theorem LE.behind {l : List Nat} {q e : Nat} : (Txt.slice (S l) (some ((e : Int) + 1)) (some ((e : Int) + 2)) == S [q]) = decide (l[e + 1]? = some q) := by
  rw [slice_S1, take1, S_beq]
  cases l[e + 1]? with
  | none => rfl
  | some c => by_cases h : c = q <;> simp [h]
theorem LE.two {l : List Nat} {q e : Nat} {r : Option Nat} (h : LE l q e r) (h1 : (e : Int) < (S l).length) (h2 : (Txt.item (S l) (e : Int) != S [q]) = false)
    (h3 : (Txt.slice (S l) (some ((e : Int) + 1)) (some ((e : Int) + 2)) == S [q]) = true) : LE l q (e + 2) r := by
  have a := LE.eq h1 h2
  rw [LE.behind, decide_eq_true_eq] at h3
  cases h with
  | stop h => rw [S_len] at h1; omega
  | step h n _ => rw [a] at h; exact absurd (Option.some.inj h).symm n
  | pair _ _ h => exact h
  | fin _ n => exact absurd h3 n
theorem LE.end_ {l : List Nat} {q e : Nat} {r : Option Nat} (h : LE l q e r) (h1 : (e : Int) < (S l).length) (h2 : (Txt.item (S l) (e : Int) != S [q]) = false)
    (h3 : (Txt.slice (S l) (some ((e : Int) + 1)) (some ((e : Int) + 2)) == S [q]) = false) : r = some (e + 1) := by
  have a := LE.eq h1 h2
  rw [LE.behind, decide_eq_false_iff_not] at h3
  cases h with
  | stop h => rw [S_len] at h1; omega
  | step h n _ => rw [a] at h; exact absurd (Option.some.inj h).symm n
  | pair _ h _ => exact absurd h h3
  | fin _ _ => rfl
theorem LE.out {l : List Nat} {q e : Nat} {r : Option Nat} (h : LE l q e r) (h1 : ¬ (e : Int) < (S l).length) : r = none := by
  rw [S_len] at h1
  cases h with
  | stop h => rfl
  | step h _ _ => have := (List.getElem?_eq_some_iff.mp h).1; omega
  | pair h _ _ => have := (List.getElem?_eq_some_iff.mp h).1; omega
  | fin h _ => have := (List.getElem?_eq_some_iff.mp h).1; omega

section
variable {prog : Program} {w : World} {A : Around} {E : Value → Shared → Prop} {h₀ hp : Heap} {g : Array GenState} {dr : Drawn} {tk : Nat} {os : OsState} {L : Addr} {m : Str → Option Value} {news : List (Addr × Obj)}
theorem sz_S {l : List Nat} (h : l.length < 1000) : (S l).length ≤ sizeLine := by rw [S_len, sizeLine_eq]; omega
/-- a cut of a text whose value is told -/
theorem slice_as {value slice : Expr} {l z : List Nat} {i j : Int} {t ui uj : Tok} {Q : Value → Shared → Prop} (hz : Txt.slice (S l) (some i) (some j) = S z) (hl : l.length < 1000)
    (h : ∀ h' t' k, Fr h₀ L h' m → News h₀ L h' news → Q (.str (S z) t') ⟨h', g, dr, k, os⟩) (hF : Fr h₀ L hp m := by assumption) (hN : News h₀ L hp news := by assumption)
    (hs : subscripted slice false (.str (S l) t) (.ref hp.objs.size) = operate [.ref hp.objs.size, .str (S l) t] (getItem (.str (S l) t) (.ref hp.objs.size)) := by with_unfolding_all rfl)
    (ht : ∀ r, letTemporaryGo value (.str (S l) t) r = pure () := by intro _; with_unfolding_all rfl) :
    wpAny (model prog w) A (subscriptTail value slice (.str (S l) t) (.ref hp.objs.size)) Q E ⟨hp.push { cls := .type "slice", data := .fields #[.int i ui, .int j uj, .none] }, g, dr, tk, os⟩ :=
  slice_strN_ss (s := ⟨hp, g, dr, tk, os⟩) hF hN (fun h' t' k a b => by rw [hz]; exact h h' t' k a b) hs ht (sz_S hl)
end
local macro_rules | `(tactic| walk_at "subscriptTail Name Slice str ref") => `(tactic| refine slice_as (by assumption) (by assumption) (fun _ _ _ _ _ => ?_))
theorem lt_a {c : Nat} (hc : c < 97) : (S [c]).cps.toList < (Str.ofString "a").cps.toList := by
  have : (Str.ofString "a").cps.toList = [97] := by decide +kernel
  rw [this, S_toList]
  exact List.Lex.rel hc
set_option maxRecDepth 100000 in
set_option maxHeartbeats 8000000 in
theorem c_capital (w : World) (c : Nat) (tt : Tok) (hc : c < 97) : Gives w 120 [.str (S [c]) tt] 2 8 (fun _ => True) (fun _ v _ => ∃ t', v = .str (S [c]) t') := by
  intro A A₀ base h₀ env outer L m mg mb p loose s Q E B F X T hA hf hke hh hpre hd hu hret
  refine wpAny_call (enterS [(Str.ofString "sign", .str (S [c]) tt)] B F X T hA hf hke (by omega) ?_)
  intro L' h₁ F' N' B' X' T'
  k_fold
  k_with_none
  k_with "call ref" => refine hold_ ?_
  have hlt := lt_a hc
  k_steps
  · dsimp only
    k_steps
    exact leaveS_ (by assumption) fun st => hret _ _ _ ⟨_, rfl⟩ st
  all_goals (exact absurd hlt (by assumption))
theorem parted_1 {l : List Nat} {a : Nat} (h : ((S l).length : Int) ≤ (a : Int)) : decide (((S l).length : Int) ≤ (a : Int)) = decide (l.length ≤ a ∨ l[a]? = some 32) := by
  rw [decide_eq_true h]
  rw [S_len] at h
  exact (decide_eq_true (.inl (by omega))).symm
theorem parted_2 {l : List Nat} {a : Nat} (h : ¬ ((S l).length : Int) ≤ (a : Int)) : (Txt.item (S l) (a : Int) == Str.ofString " ") = decide (l.length ≤ a ∨ l[a]? = some 32) := by
  rw [S_len] at h
  have ha : a < l.length := by omega
  have e : Str.ofString " " = S [32] := by decide +kernel
  rw [item_S ha, e, S_beq, List.getElem?_eq_getElem ha]
  have hn : ¬ l.length ≤ a := by omega
  by_cases q : l[a] = 32 <;> simp [q, hn]
set_option maxRecDepth 100000 in
set_option maxHeartbeats 8000000 in
theorem c_parted (w : World) (l : List Nat) (a : Nat) (i : Int) (t1 t2 : Tok) (hl : l.length < 1000) (hi : i = (a : Int)) : Gives w 139 [.str (S l) t1, .int i t2] 2 8 (fun _ => True) (fun _ v _ => v = .bool (decide (l.length ≤ a ∨ l[a]? = some 32))) := by
  subst hi
  intro A A₀ base h₀ env outer L m mg mb p loose s Q E B F X T hA hf hke hh hpre hd hu hret
  refine wpAny_call (enterS [(Str.ofString "text", .str (S l) t1), (Str.ofString "at", .int (a : Int) t2)] B F X T hA hf hke (by omega) ?_)
  intro L' h₁ F' N' B' X' T'
  k_fold
  k_with_none
  k_with "call ref" => refine hold_ ?_
  have hSl := S_len l
  k_steps
  · exact leaveS_ (by assumption) fun st => hret _ _ _ (congrArg Value.bool (parted_1 (by assumption))) st
  · exact leaveS_ (by assumption) fun st => hret _ _ _ (congrArg Value.bool (parted_2 (by assumption))) st
theorem lit_word : Str.ofString "ABCDEFGHIJKLMNOPQRSTUVWXYZ0123456789-" = S [65, 66, 67, 68, 69, 70, 71, 72, 73, 74, 75, 76, 77, 78, 79, 80, 81, 82, 83, 84, 85, 86, 87, 88, 89, 90, 48, 49, 50, 51, 52, 53, 54, 55, 56, 57, 45] := by decide +kernel
theorem wordsign_is (c : Nat) (hc : c < 97) : (!(Builtin.Str.occurrences (Str.ofString "ABCDEFGHIJKLMNOPQRSTUVWXYZ0123456789-") (S [c]) 0 (Str.ofString "ABCDEFGHIJKLMNOPQRSTUVWXYZ0123456789-").length 1).isEmpty) = decide (65 ≤ c ∧ c ≤ 90 ∨ 48 ≤ c ∧ c ≤ 57 ∨ c = 45) := by
  rw [lit_word, in_S, Bool.not_not]
  revert hc c
  decide +kernel
set_option maxRecDepth 100000 in
set_option maxHeartbeats 8000000 in
theorem c_wordsign (w : World) (c : Nat) (tt : Tok) (hc : c < 97) : Gives w 132 [.str (S [c]) tt] 4 16 (fun _ => True) (fun _ v _ => v = .bool (decide (65 ≤ c ∧ c ≤ 90 ∨ 48 ≤ c ∧ c ≤ 57 ∨ c = 45))) := by
  intro A A₀ base h₀ env outer L m mg mb p loose s Q E B F X T hA hf hke hh hpre hd hu hret
  refine wpAny_call (enterS [(Str.ofString "sign", .str (S [c]) tt)] B F X T hA hf hke (by omega) ?_)
  intro L' h₁ F' N' B' X' T'
  k_fold
  k_with_none
  k_with "call ref" => refine hold_ ?_
  k_steps
  refine Hold.go (Gives.use (c_capital w c _ hc) trivial ?_)
  rintro _ h2 tk2 ⟨t2, rfl⟩ st2 F2 N2
  k_steps
  exact leaveS_ (by assumption) fun st => hret _ _ _ (congrArg Value.bool (wordsign_is c hc)) st
abbrev blankAt (l : List Nat) (a : Nat) : Prop := l[a]? = some 32 ∨ (l[a]? = some 44 ∨ l[a]? = some 59) ∧ (l.length ≤ a + 1 ∨ l[a + 1]? = some 32)
theorem blank_1 {l : List Nat} {a : Nat} (ha : a < l.length) (h : (Txt.item (S l) (a : Int) == Str.ofString " ") = true) : (Txt.item (S l) (a : Int) == Str.ofString " ") = decide (blankAt l a) := by
  rw [h]
  have e : Str.ofString " " = S [32] := by decide +kernel
  rw [item_S ha, e, S_beq] at h
  refine (decide_eq_true (.inl ?_)).symm
  rw [List.getElem?_eq_getElem ha]; simpa using h
theorem blank_ne {l : List Nat} {a : Nat} (ha : a < l.length) (h : (Txt.item (S l) (a : Int) == Str.ofString " ") = false) : ¬ l[a]? = some 32 := by
  have e : Str.ofString " " = S [32] := by decide +kernel
  rw [item_S ha, e, S_beq] at h
  rw [List.getElem?_eq_getElem ha]; simpa using h
theorem blank_in {l : List Nat} {a : Nat} (ha : a < l.length) : (Builtin.Str.occurrences (Str.ofString ",;") (Txt.item (S l) (a : Int)) 0 (Str.ofString ",;").length 1).isEmpty = !decide (l[a]? = some 44 ∨ l[a]? = some 59) := by
  have e : Str.ofString ",;" = S [44, 59] := by decide +kernel
  rw [item_S ha, e, in_S, List.getElem?_eq_getElem ha]
  simp
theorem blank_2 {l : List Nat} {a : Nat} (ha : a < l.length) (h : (Txt.item (S l) (a : Int) == Str.ofString " ") = false)
    (h2 : (Builtin.Str.occurrences (Str.ofString ",;") (Txt.item (S l) (a : Int)) 0 (Str.ofString ",;").length 1).isEmpty = true) :
    (!(Builtin.Str.occurrences (Str.ofString ",;") (Txt.item (S l) (a : Int)) 0 (Str.ofString ",;").length 1).isEmpty) = decide (blankAt l a) := by
  rw [h2]
  rw [blank_in ha, Bool.not_eq_true', decide_eq_false_iff_not] at h2
  exact (decide_eq_false fun z => z.elim (blank_ne ha h) fun y => h2 y.1).symm
theorem blank_3 {l : List Nat} {a : Nat} (ha : a < l.length) (h : (Txt.item (S l) (a : Int) == Str.ofString " ") = false)
    (h2 : (Builtin.Str.occurrences (Str.ofString ",;") (Txt.item (S l) (a : Int)) 0 (Str.ofString ",;").length 1).isEmpty = false) :
    decide (l.length ≤ a + 1 ∨ l[a + 1]? = some 32) = decide (blankAt l a) := by
  rw [blank_in ha, Bool.not_eq_false', decide_eq_true_eq] at h2
  exact decide_eq_decide.mpr ⟨fun z => .inr ⟨h2, z⟩, fun z => z.elim (fun y => absurd y (blank_ne ha h)) fun y => y.2⟩
set_option maxRecDepth 100000 in
set_option maxHeartbeats 8000000 in
theorem c_blank (w : World) (l : List Nat) (a : Nat) (i : Int) (t1 t2 : Tok) (hl : l.length < 1000) (hi : i = (a : Int)) (ha : a < l.length) : Gives w 228 [.str (S l) t1, .int i t2] 4 16 (fun _ => True)
    (fun _ v _ => v = .bool (decide (blankAt l a))) := by
  subst hi
  intro A A₀ base h₀ env outer L m mg mb p loose s Q E B F X T hA hf hke hh hpre hd hu hret
  refine wpAny_call (enterS [(Str.ofString "text", .str (S l) t1), (Str.ofString "at", .int (a : Int) t2)] B F X T hA hf hke (by omega) ?_)
  intro L' h₁ F' N' B' X' T'
  k_fold
  k_with_none
  k_with "call ref" => refine hold_ ?_
  have hSl := S_len l
  k_steps
  · dsimp only
    k_steps
    exact leaveS_ (by assumption) fun st => hret _ _ _ (congrArg Value.bool (blank_1 ha (by assumption))) st
  · dsimp only
    k_steps
    exact leaveS_ (by assumption) fun st => hret _ _ _ (congrArg Value.bool (blank_2 ha (by assumption) (by assumption))) st
  · refine Hold.go (Gives.use (c_parted w l (a + 1) _ _ _ hl rfl) trivial ?_)
    rintro _ h2 tk2 rfl st2 F2 N2
    k_steps
    exact leaveS_ (by assumption) fun st => hret _ _ _ (congrArg Value.bool (blank_3 ha (by assumption) (by assumption))) st
section
open PySem.StrLaws
/-- the classes behind TokenFault in its line -/
abbrev tfTail : List Value := [.ref 68, .type "Exception", .type "BaseException", .type "object"]
/-- TokenFault as it stands -/
def TF (h : Heap) : Prop := ∃ nm q bs sn sub col dd k0 k1 k2 k3 k5, h.get? 81 = some (excClassObj nm q 81 80 bs tfTail true sn sub false col dd k0 k1 k2 k3 k5 "Exception.__new__")
theorem tf_of {w : World} {h : Heap} (X : (Mine.kmaker.heap_39 w.params).In h) : TF h := by
  exact ⟨_, _, _, _, _, _, _, _, _, _, _, _, X _ _ (by k_dflt k_is)⟩
theorem TF.keeps {h h' : Heap} (k : h.StaysIn h') (H : TF h) : TF h' := by
  obtain ⟨nm, q, bs, sn, sub, col, dd, k0, k1, k2, k3, k5, e⟩ := H
  exact ⟨nm, q, bs, sn, sub, col, dd, k0, k1, k2, k3, k5, k _ _ e⟩

/-- an exception as it is born -/
abbrev bornObj (t : Addr) : Obj := { cls := .ref 81, data := .fields #[.ref t, .none, .none, .none, .bool false, .none] }
abbrev argsObj (rest : List Value) : Obj := { cls := .type "tuple", data := .seq rest.toArray }

section
variable {M : Model} {A : Around} {E : Value → Shared → Prop} {h : Heap} {g : Array GenState} {d : Drawn} {t : Nat} {os : OsState}
theorem tf_check_new {rest : List Value} {Q : Unit → Shared → Prop} (H : TF h) (hq : Q () ⟨h, g, d, t, os⟩) : wpAny M A (checkBuiltinCall "Exception.__new__" ⟨.ref 81 :: rest, []⟩) Q E ⟨h, g, d, t, os⟩ := by
  obtain ⟨nm, q, bs, sn, sub, col, dd, k0, k1, k2, k3, k5, hC⟩ := H
  have F := PySem.F.excBase_Exception
  have hcont : (Value.ref 81 :: tfTail).contains (.type "Exception") = true := by decide
  have hstar := F.noStar
  simp only [checkBuiltinCall, F.newKind, F.newSplit, F.newRow]
  repeat (first | refine wpAny_loadPart_at hC ?_ | (refine wpAny_isSubtype_exc hC ?_; rw [hcont]) | refine wpAny_staticBase_exc hC ?_ | refine wpAny_madeBy_exc hC ?_ | simp only [bne_self_eq_false, Bool.false_eq_true, if_false] | wp_step)
  exact hq
end
section
variable {prog : Program} {w : World} {A : Around} {R : Result → Shared → Prop} {h : Heap} {g : Array GenState} {d : Drawn} {t : Nat} {os : OsState}
theorem tf_new {rest : List Value} (H : TF h) (hq : R (.ok (.ret (.ref (h.objs.size + 1)))) ⟨(h.push (argsObj rest)).push (bornObj h.objs.size), g, d, t, os⟩) (hrest : rest.length ≤ sizeLine) :
    codeAny (model prog w) A (.builtin "Exception.__new__" ⟨.ref 81 :: rest, []⟩) R ⟨h, g, d, t, os⟩ := by
  obtain ⟨nm, q, bs, sn, sub, col, dd, k0, k1, k2, k3, k5, hC⟩ := H
  have F := PySem.F.excBase_Exception
  have hends := F.ends
  have hcB : (Value.ref 81 :: tfTail).contains (.type "Exception") = true := by decide
  have hcA : (Value.ref 81 :: tfTail).contains (.type "AttributeError") = false := by decide
  have hcN : (Value.ref 81 :: tfTail).contains (.type "NameError") = false := by decide
  refine codeAny_builtinAt F.entry ?_
  unfold Builtin.«BaseException.__new__»
  refine PySem.wpAt_bind ?_
  show PySem.wpAt _ _ _ (stack >>= _) _ _ _
  refine PySem.wpAt_bind (PySem.wpAt_stack fun p below => PySem.wpAt_of_wpAny ?_)
  wp_walk
  refine PySem.wpAt_of_wpAny ?_
  rw [F.owner]
  repeat (first | with_reducible refine wpAny_madeHere_exc F.canon hC ?_ | with_reducible refine wpAny_loadPart_at hC ?_ | (with_reducible refine wpAny_isSubtype_exc hC ?_; first | rw [hcB] | rw [hcA] | rw [hcN]) | wp_step)
  show R _ _
  rw [Heap.size_push]
  exact hq

theorem tf_make {rest : List Value} (X : (Mine.kmaker.heap_39 w.params).In h)
    (hq : codeAny (model prog w) (A.under (.builtin "type.__call__" ⟨.ref 81 :: rest, []⟩)) (.call (.ref 58) ⟨.ref (h.objs.size + 1) :: rest, []⟩) (InitBack (h.objs.size + 1) R) ⟨(h.push (argsObj rest)).push (bornObj h.objs.size), g, d, t, os⟩)
    (hrest : rest.length ≤ sizeLine) : codeAny (model prog w) A (.call (.ref 81) ⟨rest, []⟩) R ⟨h, g, d, t, os⟩ := by
  have H := tf_of X
  obtain ⟨nm, q, bs, sn, sub, col, dd, k0, k1, k2, k3, k5, hC⟩ := id H
  have call : Looks (model prog w) h (specialOf (.ref 81) "__call__") (some (.builtin "type.__call__")) := looks_specialIn X (by k_dflt k_is)
  have typ : Looks (model prog w) h (isInstance (.ref 81) (.type "type")) true := looks_instIn X (by k_dflt k_is)
  have hi : Looks (model prog w) h (typeLookup (.ref 81) "__init__") (some (.ref 58)) := looks_findIn X (by k_dflt k_is)
  have self : Looks (model prog w) h (isSubtype (.ref 81) (.ref 81)) true := looks_mroIn X (by k_dflt k_is)
  have hb : ∀ self, Looks (model prog w) h (bindSpecial (.ref 58) self) (.ref 58, [self]) := fun self => bind_fn X self (by k_dflt k_is)
  refine codeAny_of_tree ?_
  show wpAny _ _ (callAny (.ref 81) _) _ _ _
  refine nd_load hC ?_
  show wpAny _ _ (callAny.viaDunder (.ref 81) _) _ _ _
  unfold callAny.viaDunder
  refine wpAny_bind (call.at ?_)
  dsimp only
  rw [tc_bind]
  refine wpAny_bind (wpAny_pure (wpAny_bind (wpAny_pure ?_)))
  refine wpAny_pure (a := Fin.again (.call (.builtin "type.__call__") ⟨.ref 81 :: rest, []⟩)) (And.intro rfl ?_)
  refine codeAny_call_builtin_at (Code.quiet_builtin _ (by decide +kernel)) entry_typeCall (check_slot tc_kind tc_split typ (tc_args _ _ _) ?_)
  unfold Builtin.«type.__call__»
  repeat (first | with_reducible refine wpAny_loadPart_at hC ?_ | with_reducible refine wpAny_madeBy_exc hC ?_ | wp_step)
  refine codeAny_call_builtin_code (Code.quiet_builtin _ PySem.F.excBase_Exception.quiet) (tf_check_new H ?_)
  refine tf_new H ?_ hrest
  show wpAny _ _ _ _ _ _
  have k : ∀ b o, h.get? b = some o → ((h.push (argsObj rest)).push (bornObj h.objs.size)).get? b = some o := fun b o e => Heap.get?_push_of_some _ (Heap.get?_push_of_some _ e)
  have hx : ((h.push (argsObj rest)).push (bornObj h.objs.size)).get? (h.objs.size + 1) = some (bornObj h.objs.size) := by heap_get
  have t1 : Looks (model prog w) ((h.push (argsObj rest)).push (bornObj h.objs.size)) (typeOf (.ref (h.objs.size + 1))) (.ref 81) := (Looks.ld hx).andThen .now
  have s1 := self.keeps k
  have i1 := hi.keeps k
  have b1 := (hb (.ref (h.objs.size + 1))).keeps k
  unfold isInstance callSpecial? specialOf
  repeat (first | with_reducible refine wpAny_call ?_ | lk)
  refine codeAny_mono hq fun r s' z => ?_
  rcases r with e | (v | _ | _ | _) <;> first | exact z | exact z.elim | skip
  obtain ⟨rfl, z⟩ := z
  exact wpAny_pure (wpAny_pure z)
end
end
section
variable {prog : Program} {w : World} {A : Around} {E : Value → Shared → Prop} {R : Result → Shared → Prop} {h : Heap} {g : Array GenState} {d : Drawn} {t : Nat} {os : OsState} {x : Addr} {name : Str} {v : Value} {mA : Str → Option Value}
open Builtin Builtin.ObjectAttr in
theorem tf_store {tk : Tok} {Q : Fin → Shared → Prop} {ns : List Str} (X : (Mine.kmaker.heap_39 w.params).In h) (hB : Looks (model prog w) h (typeLookup (.ref 81) name) none) (I : h.Inst x 81 mA)
    (hq : ∀ h' tk', h'.Inst x 81 (fun y => if y = name then some v else mA y) →
      (∀ b o, b ≠ x → (∀ o₀ dx, h.get? x = some o₀ → o₀.dict = some dx → b ≠ dx) → h.get? b = some o → h'.get? b = some o) →
      (∀ o₀, h.get? x = some o₀ → ∃ o₁, h'.get? x = some o₁ ∧ o₁.cls = o₀.cls ∧ o₁.data = o₀.data ∧ ∃ dx, o₁.dict = some dx ∧ (o₀.dict = some dx ∨ o₀.dict = none ∧ h.get? dx = none)) → Q (.done (.ret .none)) ⟨h', g, d, tk', os⟩) (hw : Within mA ns) (hsz : ns.length < 1000) :
    wpAny (model prog w) A (Builtin.«object.__setattr__» ⟨[.ref x, .str name tk, v], []⟩) Q E ⟨h, g, d, t, os⟩ := by
  obtain ⟨nm, q, bs, sn, sub, col, dd, k0, k1, k2, k3, k5, hC⟩ := tf_of X
  obtain ⟨o, hx, hc, hnc, hd⟩ := I
  have hpass : refuseLoop (.ref x) "__setattr__" (.ref 81 :: tfTail) = pure () := by
    rw [refuseLoop_ref, refuseLoop_ref]; exact PySem.F.store_Exception.passes (.ref x)
  unfold Builtin.«object.__setattr__»
  repeat (first | rw [refuse_eq] | rw [hpass] | (with_reducible refine wpAny_loadPart_at hx ?_; rw [hc]) | with_reducible refine wpAny_mroOf_exc hC ?_ | (with_reducible refine wpAny_bind (hB.here ?_)) | (with_reducible refine hB.here ?_) | wp_step)
  rcases hd with ⟨hdn, hmA⟩ | ⟨dx, hdx, hne, hns⟩
  · rw [hdn, if_neg (by simp [typeHasDict])]
    split
    · rename_i hcd
      cases hcd
    split
    · rename_i c hcd
      exact absurd hcd (hnc c)
    · have hx₁ : (h.push { cls := .type "dict", data := .dict #[] }).get? x = some o := Heap.get?_push_of_some _ hx
      have hxs : x ≠ h.objs.size := Nat.ne_of_lt (Heap.lt_size hx)
      refine wpAny_bind (wpAny_alloc' ?_)
      refine wpAny_bind (wpAny_update' hx₁ ?_)
      refine wpAny_pure ?_
      have hgd : ((h.push { cls := .type "dict", data := .dict #[] }).update x fun o => { cls := o.cls, dict := some h.objs.size, data := o.data, slots := o.slots }).get? h.objs.size
          = some { cls := .type "dict", data := .dict #[] } :=
        (Heap.get?_update_ne _ _ _ _ hxs.symm).trans (Heap.get?_push_at rfl rfl)
      have hnd : ((h.push { cls := .type "dict", data := .dict #[] }).update x fun o => { cls := o.cls, dict := some h.objs.size, data := o.data, slots := o.slots }).Ns h.objs.size (fun _ => none) :=
        ⟨_, #[], _, hgd, rfl, fun e he => absurd he (by simp), fun _ => rfl⟩
      show wpAny _ _ (storeInDict h.objs.size (.str name tk) name v) _ _ _
      unfold storeInDict newKeyGuard
      refine wpAny_bind (wpAny_pure (wpAny_bind (wpAny_nsSet1 (Heap.Ns1.of_empty hnd) fun h' hn' hs => ?_)))
      obtain ⟨oD, esD, epD, hoD, hdD, hcD⟩ := hn'.count (Within.cons name v Within.nil)
      refine wpAny_bind (wpAny_lookBehind hoD (by rw [hdD]; exact pastItsLine_dict (Nat.le_trans hcD (by rw [List.length_cons, List.length_nil, sizeLine_eq]; omega))) ?_)
      wp_walk
      have hx' : h'.get? x = some { cls := o.cls, dict := some h.objs.size, data := o.data, slots := o.slots } := by
        refine (hs.2 x hxs).trans (Heap.get?_update_self _ hx₁ ?_)
        have hfr := (Heap.get?_some_iff.mp hx).2
        obtain ⟨oc, od, odt, osl⟩ := o
        cases odt <;> first | rfl | exact hfr
      refine hq h' _ ⟨{ cls := o.cls, dict := some h.objs.size, data := o.data, slots := o.slots }, hx', hc, hnc, .inr ⟨h.objs.size, rfl, hxs.symm, ?_⟩⟩ (fun b ob hbx _ hb => ?_)
        (fun o₀ h₀ => by obtain rfl : o = o₀ := Option.some.inj (hx.symm.trans h₀); exact ⟨_, hx', rfl, rfl, _, rfl, .inr ⟨hdn, Heap.get?_none_of_le (Nat.le_refl _)⟩⟩)
      · obtain ⟨o', es, ep, e1, e2, e3, eu, e4⟩ := hn'
        exact ⟨o', es, ep, e1, e2, e3, eu, fun y => by rw [e4 y]; by_cases hy : y = name <;> simp [hy, hmA]⟩
      · exact (hs.2 b (Nat.ne_of_lt (Heap.lt_size hb))).trans ((Heap.get?_update_ne _ _ _ _ hbx).trans (Heap.get?_push_of_some _ hb))
  · rw [hdx]
    refine wpAny_pure ?_
    show wpAny _ _ (storeInDict dx (.str name tk) name v) _ _ _
    unfold storeInDict newKeyGuard
    refine wpAny_bind (wpAny_pure (wpAny_bind (wpAny_nsSet1 hns fun h' hn' hs => ?_)))
    obtain ⟨oD, esD, epD, hoD, hdD, hcD⟩ := hn'.count (Within.cons name v hw)
    refine wpAny_bind (wpAny_lookBehind hoD (by rw [hdD]; exact pastItsLine_dict (Nat.le_trans hcD (by rw [List.length_cons, sizeLine_eq]; omega))) ?_)
    wp_walk
    refine hq h' _ ⟨o, (hs.2 x hne.symm).trans hx, hc, hnc, .inr ⟨dx, hdx, hne, hn'⟩⟩ (fun b ob _ hbd hb => ?_)
      (fun o₀ h₀ => by obtain rfl : o = o₀ := Option.some.inj (hx.symm.trans h₀); exact ⟨o, (hs.2 x hne.symm).trans h₀, rfl, rfl, dx, hdx, .inl hdx⟩)
    exact (hs.2 b (hbd o dx hx hdx)).trans hb

theorem tf_inst {h : Heap} {x : Addr} {mA : Str → Option Value} (I : h.Inst x 81 mA) : ∃ ox od, InstAt h x ox 81 od := by
  obtain ⟨o, hx, hc, hnc, hd⟩ := I
  have hn : notCls o = true := by
    obtain ⟨oc, od, odt, osl⟩ := o
    cases odt <;> first | rfl | exact absurd rfl (hnc _)
  rcases hd with ⟨hdn, _⟩ | ⟨dx, hdx, _, od, es, ep, hD, _⟩
  · exact ⟨o, none, hx, hc, hn, by rw [hdn]; trivial⟩
  · exact ⟨o, some od, hx, hc, hn, by rw [hdx]; exact hD⟩
theorem tf_setattr {s : Shared} {Q : Unit → Shared → Prop} (ns : List Str) (X : (Mine.kmaker.heap_39 w.params).In s.heap) (hB : Looks (model prog w) s.heap (typeLookup (.ref 81) name) none) (I : s.heap.Inst x 81 mA)
    (hq : ∀ h' tk', h'.Inst x 81 (fun y => if y = name then some v else mA y) →
      (∀ b o, b ≠ x → (∀ o₀ dx, s.heap.get? x = some o₀ → o₀.dict = some dx → b ≠ dx) → s.heap.get? b = some o → h'.get? b = some o) →
      (∀ o₀, s.heap.get? x = some o₀ → ∃ o₁, h'.get? x = some o₁ ∧ o₁.cls = o₀.cls ∧ o₁.data = o₀.data ∧ ∃ dx, o₁.dict = some dx ∧ (o₀.dict = some dx ∨ o₀.dict = none ∧ s.heap.get? dx = none)) → Q () { s with heap := h', toks := tk' }) (hw : Within mA ns) (hsz : ns.length < 1000) :
    wpAny (model prog w) A (setAttr (.ref x) name v) Q E s := by
  obtain ⟨hp, g, d, tk, os⟩ := s
  obtain ⟨ox, od, J⟩ := tf_inst I
  have SF := PySem.F.store_object
  refine set_plain X J (by k_dflt k_is) ?_
  have sub : Looks (model prog w) hp (isInstance (.ref x) (.type "object")) true := J.type.andThen (looks_subIn X (by k_dflt k_is))
  refine codeAny_call_builtin SF.slot.plain SF.entry (@check_slot (model prog w) _ _ _ "object.__setattr__" "object" "__setattr__" (.ref x) [.str name tk, v] [] _ SF.kind SF.split sub (SF.args (.ref x) (.str name tk) v) ?_)
  exact tf_store X hB I (fun h' tk' I' h1 h2 => hq h' tk' I' h1 h2) hw hsz
end
/-- the heap without the ledger's objects -/
abbrev hid (h : Heap) (news : List (Addr × Obj)) : Heap := hideAll h (news.map (·.1))
theorem enterN {prog : Program} {w : World} {A A₀ : Around} {s : Shared} {base h₀ : Heap} {env : Env} {outer : List Env} {L : Addr} {m mg mb : Str → Option Value} {p : Program} {loose : List Str} {K : Frag} {news : List (Addr × Obj)}
    {R : Result → Shared → Prop} {name qual : Str} {params : Arguments} {body : List Stmt} {scope : Scope} {dV kV doc pm cdv ct oc : Value} {an od : Option Addr} {osl : Array (Option Value)} {f : Addr} {args : Args} (binds : List (Str × Value))
    (B : Below A₀ base outer h₀) (F : Fr h₀ L s.heap m) (X₀ : K.In h₀) (T : TopRead p loose mg mb h₀) (N : News h₀ L s.heap news) (hA : A.frames = some (env :: outer)) (hf : env.frame = some L) (hke : env.scope.kind = .function) (hroom : A.depth < recursionLimit)
    (h : ∀ L' h₁, Fr (hid s.heap news) L' h₁ (fun y => binds.reverse.lookup y) → News (hid s.heap news) L' h₁ news → Below A base (env :: outer) (hid s.heap news) → K.In (hid s.heap news) → TopRead p loose mg mb (hid s.heap news) → s.heap.StaysIn h₁ →
      wpAny (model prog w) (A.deeper (envOf qual scope L' f cdv)) (execs body (envOf qual scope L' f cdv))
        (fun fl s' => LeaveS (hid s.heap news) R (match fl with | .ret v => v | _ => .none) s')
        (fun e s' => wpAny (model prog w) (A.deeper (envOf qual scope L' f cdv)) (leaving (envOf qual scope L' f cdv) e) (fun _ s'' => R (.error e) s'') (fun e' s'' => R (.error e') s'') s')
        { s with heap := h₁, toks := s.toks + binds.length })
    (ho : K.lookup f = some ⟨oc, od, .func (fnOf name qual params body scope dV kV doc pm an cdv ct), osl⟩ := by k_dflt k_is) (hcd : codeIn K cdv qual = true := by k_dflt k_is)
    (hbind : BindsTo s (fnOf name qual params body scope dV kV doc pm an cdv ct) args binds := by first | exact BindsTo.of_eq rfl | exact binds_K (by k_in) rfl (by k_dflt k_is) rfl rfl rfl) (hloc : ∀ y ∈ binds, scope.names.lookup y.1 = some .local := by exact locs rfl)
    (hcell : ∀ x ∈ scope.names, x.2 ≠ .cell := by decide) (hco : scope.isCoroutine = false := by rfl) (hgen : scope.isGenerator = false := by rfl) (hk : scope.kind = .function := by rfl) :
    codeAny (model prog w) A (.call (.ref f) args) R s := by
  obtain ⟨FG, BG, st, -⟩ := groundX (R := R) B F N hA hf hke
  have X := X₀.keeps F.keep
  refine codeAny_call_def (fd := fnOf name qual params body scope dV kV doc pm an cdv ct) (body := body) (binds := binds) hroom (X _ _ ho) rfl (T.nolimit.keeps F.keep) (codeRec_of X hcd) rfl hbind hcell hloc (fun h₁ hns hk₁ => ?_) hco hgen hk
  refine wpAny_mono (h _ h₁ ⟨hns, fun b o e => hk₁ b o (of_hideAll _ e), Nat.le_of_eq (hideAll_size _ _)⟩
    (fun p hp => ⟨hk₁ _ _ (N p hp).1, Nat.ne_of_lt (Heap.lt_size (N p hp).1), hideAll_none _ (List.mem_map_of_mem hp)⟩) BG (X₀.keeps st) (T.keeps st) hk₁) (fun fl s' hl => ?_) fun _ _ y => y
  obtain ⟨L', m', F', k⟩ := hl
  exact k F'.keep
section
variable {prog : Program} {w : World} {A : Around} {E : Value → Shared → Prop} {s : Shared}
theorem tf_init_call {e t : Addr} {v : Value} {Q : Value → Shared → Prop} (H : TF s.heap) (he : s.heap.get? e = some (bornObj t))
    (hq : ∀ h' t2, h'.get? e = some (bornObj t2) → (∀ b o, b ≠ e → s.heap.get? b = some o → h'.get? b = some o) → Q .none { s with heap := h' }) :
    wpAny (model prog w) A (call (.builtin "Exception.__init__") [.ref e, v]) Q E s := by
  obtain ⟨h, g, d, t', os⟩ := s
  obtain ⟨nm, q, bs, sn, sub, col, dd, k0, k1, k2, k3, k5, hC⟩ := H
  have F := PySem.F.excBase_Exception
  have hcB : (Value.ref 81 :: tfTail).contains (.type "Exception") = true := by decide
  have hshort := F.noStar
  have chk : ∀ (M : Model) (A : Around) (E : Value → Shared → Prop) (Q : Unit → Shared → Prop), Q () ⟨h, g, d, t', os⟩ → wpAny M A (checkBuiltinCall "Exception.__init__" ⟨[.ref e, v], []⟩) Q E ⟨h, g, d, t', os⟩ := by
    intro M A E Q hq
    simp only [checkBuiltinCall, F.initKind, F.initSplit, F.initRow]
    repeat (first | (with_reducible refine wpAny_loadPart_at he ?_) | with_reducible refine wpAny_loadPart_at hC ?_ | (with_reducible refine wpAny_isSubtype_exc hC ?_; rw [hcB]) | wp_step)
    exact hq
  refine wpAny_call (codeAny_call_builtin F.init.plain F.initEntry (chk _ _ _ _ ?_))
  wp_walk
  refine hq _ h.objs.size ?_ fun b o hb hb' => ?_
  · rw [Heap.get?_update_self _ (Heap.get?_push_of_some _ he) rfl]
    rfl
  · rw [Heap.get?_update_other _ _ (Ne.symm hb)]
    exact Heap.get?_push_of_some _ hb'
theorem Fr.butE {g h h' : Heap} {L e : Addr} {m : Str → Option Value} (F : Fr g L h m) (hg : g.get? e = none) (hL : e ≠ L) (k : ∀ b o, b ≠ e → h.get? b = some o → h'.get? b = some o) : Fr g L h' m := by
  obtain ⟨⟨oL, a1, a2, hoL, a3⟩, f2, f3⟩ := F
  exact ⟨⟨oL, a1, a2, k _ _ (Ne.symm hL) hoL, a3⟩, fun b o q => k _ _ (fun z => by rw [z, hg] at q; cases q) (f2 b o q), f3⟩
end
/-- the exception `e`, its dict at `dx`, its place at `tp` -/
def Fault (h : Heap) (e dx tp : Addr) (vs : Array Value) : Prop :=
  (∃ o, h.get? e = some o ∧ o.cls = .ref 81 ∧ o.dict = some dx ∧ o.data = .fields vs) ∧ dx ≠ e ∧ ∃ mA, h.Ns1 dx mA ∧ mA (Str.ofString "at") = some (.ref tp)
def Born (h : Heap) (e dx tp : Addr) : Prop := ∃ t, Fault h e dx tp #[.ref t, .none, .none, .none, .bool false, .none]
set_option maxRecDepth 100000 in
theorem tm_exc : typeOf (.type "Exception") = pure (.type "type") := by kernel_rfl
theorem tm_stub : Manifest.isStub "Exception" = false := by decide +kernel
set_option maxRecDepth 100000 in
set_option maxHeartbeats 8000000 in
theorem c_init (w : World) (e t tp : Addr) (what : Str) (tt : Tok) {A A₀ : Around} {base h₀ : Heap} {env : Env} {outer : List Env} {L : Addr} {m mg mb : Str → Option Value} {p : Program} {loose : List Str} {s : Shared} {R : Result → Shared → Prop}
    (B : Below A₀ base outer h₀) (F : Fr h₀ L s.heap m) (X : (Mine.kmaker.heap_39 w.params).In h₀) (T : TopRead p loose mg mb h₀) (N : News h₀ L s.heap [(e, bornObj t)]) (hA : A.frames = some (env :: outer)) (hf : env.frame = some L) (hke : env.scope.kind = .function) (hh : A.handled = none)
    (hd : A.depth + 4 < recursionLimit) (hu : A.units + 16 < cLine)
    (hq : ∀ h' tk' dx, Born h' e dx tp → (∀ b o, b ≠ e → s.heap.get? b = some o → h'.get? b = some o) → s.heap.get? dx = none → R (.ok (.ret .none)) { s with heap := h', toks := tk' }) :
    codeAny (model PG w) A (.call (.ref 58) ⟨[.ref e, .str what tt, .ref tp], []⟩) R s := by
  refine enterN [(Str.ofString "self", .ref e), (Str.ofString "what", .str what tt), (Str.ofString "at", .ref tp)] B F X T N hA hf hke (by omega) ?_
  intro L' h₁ F' N' B' X' T' st₁
  k_fold
  k_with_none
  k_steps
  refine method_type (T := "Exception") F' X' tm_exc tm_stub (by k_dflt k_is) (by k_handed) ?_
  k_steps
  have he := (N' (e, bornObj t) (.head _)).1
  have heL := (N' (e, bornObj t) (.head _)).2.1
  have heg := (N' (e, bornObj t) (.head _)).2.2
  refine tf_init_call (tf_of (X'.keeps F'.keep)) he fun h2 t2 he2 k2 => ?_
  have F2 := Fr.butE F' heg heL k2
  have N2 : News (hid s.heap [(e, bornObj t)]) L' h2 [(e, bornObj t2)] := fun q hq => by
    obtain rfl := List.mem_singleton.mp hq
    exact ⟨he2, heL, heg⟩
  clear N' F' he
  k_steps
  have I2 : h2.Inst e 81 (fun _ => none) := ⟨_, he2, rfl, (fun _ q => nomatch q), .inl ⟨rfl, fun _ => rfl⟩⟩
  refine tf_setattr [] (X'.keeps F2.keep) (looks_findIn (X'.keeps F2.keep) (by k_dflt k_is)) I2 (fun h3 tk3 I3 k3 o3 => ?_) Within.nil (by decide)
  have k3' : ∀ b o, b ≠ e → h2.get? b = some o → h3.get? b = some o := fun b o hb q => k3 b o hb (fun o₀ dx z z' => by rw [show o₀ = bornObj t2 from Option.some.inj (z.symm.trans he2)] at z'; cases z') q
  have F3 := Fr.butE F2 heg heL k3'
  clear N2
  have N3 : News (hid s.heap [(e, bornObj t)]) L' h3 [] := News.nil
  dsimp only
  k_steps
  obtain ⟨oe3, he3, hc3, hd3, dx, hdx3, hfr⟩ := o3 _ he2
  have hdn : h2.get? dx = none := hfr.elim (fun z => nomatch z) And.right
  refine tf_setattr [Str.ofString "what"] (X'.keeps F3.keep) (looks_findIn (X'.keeps F3.keep) (by k_dflt k_is)) I3 (fun h4 tk4 I4 k4 o4 => ?_) (Within.cons _ _ Within.nil) (by simp)
  have k4' : ∀ b o, b ≠ e → b ≠ dx → h3.get? b = some o → h4.get? b = some o := fun b o hb hb' q => k4 b o hb (fun o₀ d z z' => by
    rw [show o₀ = oe3 from Option.some.inj (z.symm.trans he3), hdx3] at z'
    exact fun y => hb' (y.trans (Option.some.inj z').symm)) q
  have kk : ∀ b o, b ≠ e → h2.get? b = some o → h4.get? b = some o := fun b o hb q => k4' b o hb (fun z => by rw [z, hdn] at q; cases q) (k3' b o hb q)
  have F4 : Fr (hid s.heap [(e, bornObj t)]) L' h4 _ := Fr.butE F2 heg heL kk
  dsimp only
  k_steps
  obtain ⟨oe4, he4, hc4, hd4, dx4, hdx4, hfr4⟩ := o4 _ he3
  have hne : dx ≠ e := by
    obtain ⟨o, ho, _, _, z | ⟨d, z1, z2, _⟩⟩ := I3
    · rw [show o = oe3 from Option.some.inj (ho.symm.trans he3), hdx3] at z; cases z.1
    · rw [show o = oe3 from Option.some.inj (ho.symm.trans he3), hdx3] at z1; exact (Option.some.inj z1) ▸ z2
  have hdx : dx4 = dx := by
    rcases hfr4 with z | z
    · rw [hdx3] at z; exact (Option.some.inj z).symm
    · rw [hdx3] at z; cases z.1
  subst hdx
  have kS : ∀ b o, b ≠ e → s.heap.get? b = some o → h4.get? b = some o := fun b o hb q => kk b o hb (k2 b o hb (st₁ b o q))
  refine leaveS_ F4 fun st => hq _ _ dx4 ⟨t2, ⟨oe4, he4, hc4.trans hc3, hdx4, hd4.trans hd3⟩, hne, ?_⟩ kS ?_
  · obtain ⟨o, ho, _, _, z | ⟨d, z1, z2, z3⟩⟩ := I4
    · rw [show o = oe4 from Option.some.inj (ho.symm.trans he4), hdx4] at z; cases z.1
    · rw [show o = oe4 from Option.some.inj (ho.symm.trans he4), hdx4] at z1
      cases z1
      exact ⟨_, z3, if_pos rfl⟩
  · cases q : s.heap.get? dx4 with
    | none => rfl
    | some o => rw [k2 _ _ hne (st₁ _ _ q)] at hdn; cases hdn
/-- the place of the sign k -/
def PlaceAt (h : Heap) (tp : Addr) (k : Nat) : Prop := ∃ t1 t2, IsTup h tp #[.int 2 t1, .int (12 + (k : Int)) t2]
theorem PlaceAt.keeps {h h' : Heap} {tp k : Nat} (st : h.StaysIn h') (H : PlaceAt h tp k) : PlaceAt h' tp k := let ⟨a, b, c⟩ := H; ⟨a, b, stays_tup st c⟩
def PlacesAt (h : Heap) (pl : Addr) (n : Nat) : Prop := ∃ vs : List Value, h.IsList pl vs.toArray ∧ vs.length = n ∧ ∀ k, k < n → ∃ tp, vs[k]? = some (.ref tp) ∧ PlaceAt h tp k
theorem PlacesAt.keeps {h h' : Heap} {pl n : Nat} (st : h.StaysIn h') (H : PlacesAt h pl n) : PlacesAt h' pl n := by
  obtain ⟨vs, a, b, c⟩ := H
  exact ⟨vs, stays_list st a, b, fun k hk => let ⟨tp, x, y⟩ := c k hk; ⟨tp, x, y.keeps st⟩⟩
theorem none_of {h h' : Heap} {a : Addr} (st : h.StaysIn h') (q : h'.get? a = none) : h.get? a = none := by
  cases z : h.get? a with
  | none => rfl
  | some o => rw [st _ _ z] at q; cases q
theorem born_news {g h : Heap} {L : Addr} {m : Str → Option Value} {a : Obj} (F : Fr g L h m) : News g L ((h.push a).push (bornObj h.objs.size)) [(h.objs.size + 1, bornObj h.objs.size)] := by
  have := News.push (F.pushS a) News.nil (bornObj h.objs.size)
  rwa [Heap.size_push] at this
set_option maxRecDepth 100000 in
set_option maxHeartbeats 8000000 in
theorem c_line_fault (w : World) (x pl : Addr) (l : List Nat) (k n : Nat) (i : Int) (what : Str) (t1 t2 : Tok) (hi : i = (k : Int)) (hk : k < n) (hn : n < 1000) :
    Gives w 146 [.ref x, .int i t1, .str what t2] 10 60 (fun h => LineAt h x l pl ∧ PlacesAt h pl n) (fun h v h' => ∃ e dx tp, v = .ref e ∧ Born h' e dx tp ∧ PlaceAt h tp k ∧ h.get? e = none ∧ h.get? dx = none) := by
  subst hi
  intro A A₀ base h₀ env outer L m mg mb p loose s Q E B F X T hA hf hke hh hpre hd hu hret
  obtain ⟨_, dp, _, gd, un⟩ := A
  obtain rfl : _ = none := hh
  obtain rfl : _ = some (env :: outer) := hA
  dsimp only at hd hu
  obtain ⟨hL, vs, hP, hPn, hPk⟩ := hpre
  refine wpAny_call (enterS [(Str.ofString "line", .ref x), (Str.ofString "at", .int (k : Int) t1), (Str.ofString "what", .str what t2)] B F X T rfl hf hke (by dsimp only; omega) ?_)
  intro L' h₁ F' N' B' X' T'
  k_fold
  k_with_none
  k_with "call ref" => refine hold_ ?_
  k_steps
  refine PyProof.Rows.len_list (stays_list F'.keep hP) (by rw [List.size_toArray, hPn]; omega) ?_
  have hmin : ¬ ((vs.toArray.size : Nat) : Int) - 1 < (k : Int) := by rw [List.size_toArray, hPn]; omega
  have hmin' : ((vs.toArray.size : Nat) : Int) - 1 = ((n - 1 : Nat) : Int) := by rw [List.size_toArray, hPn]; omega
  k_steps
  simp only [if_neg hmin]
  obtain ⟨tp, hp1, hp2⟩ := hPk k hk
  k_steps
  rename Fr s.heap L' _ _ => F2
  rename Heap => h2
  refine PyProof.Rows.item_list (stays_list F2.keep hP) (by omega) (by omega) (by simpa using hp1) ?_
  k_steps
  refine Hold.go (wpAny_call ?_)
  refine tf_make (X'.keeps F2.keep) ?_ (by rw [sizeLine_eq]; simp)
  have FP := (F2.pushS (argsObj [.str what t2, .ref tp])).pushS (bornObj h2.objs.size)
  refine c_init w _ _ tp what _ B' FP X' T' (born_news F2) rfl rfl rfl rfl (by rw [depth_under_make, depth_deeper]; dsimp only; omega) (by rw [units_under_make, units_deeper]; dsimp only; omega) ?_
  intro h3 tk3 dx HB kk hdx
  refine ⟨rfl, ?_⟩
  have hen : h2.get? (h2.objs.size + 1) = none := Heap.get?_none_of_le (Nat.le_succ _)
  have st3 : h2.StaysIn h3 := fun b o q => kk b o (fun z => by rw [z, hen] at q; cases q) (Heap.get?_push_of_some _ (Heap.get?_push_of_some _ q))
  have F3 := Fr.stays F2 st3
  have N3 : News s.heap L' h3 [] := News.nil
  dsimp only
  k_steps
  refine leaveS_ (by assumption) fun st => hret _ _ _ ⟨_, dx, tp, rfl, HB, hp2, none_of F2.keep hen, none_of F2.keep (none_of (fun b o q => Heap.get?_push_of_some _ (Heap.get?_push_of_some _ q)) hdx)⟩ st
section
/-- the frames of a stack -/
abbrev frs (l : List Env) : List Addr := l.filterMap (·.frame)
/-- the exception `e` (its dict at `dx`) on its way through the frames `l`; `fl` is the frame that its first entry names -/
def Fly (B : Heap) (l : List Env) (e dx : Addr) (fl : Value) (h : Heap) : Prop :=
  B.StaysIn h ∧ B.get? e = none ∧ h.FunFrames B l ∧ ∃ oe vs T oT ts, h.get? e = some oe ∧ (oe.cls = .ref 81 ∧ oe.dict = some dx) ∧ oe.data = .fields vs ∧ vs[1]? = some (.ref T) ∧ B.get? T = none ∧ T ≠ e ∧ h.get? T = some oT ∧ oT.data = .fields ts ∧ ts[3]? = some fl
theorem Fly.tail {B h : Heap} {env : Env} {l : List Env} {e dx : Addr} {fl : Value} : Fly B (env :: l) e dx fl h → Fly B l e dx fl h := fun ⟨a, b, ⟨_, _, c⟩, d⟩ => ⟨a, b, c, d⟩
variable {M : Model} {A : Around} {E : Value → Shared → Prop} {s : Shared} {B : Heap} {env : Env} {outer l : List Env} {L e dx : Addr} {fl : Value} {Q : Unit → Shared → Prop}

theorem fly_set {v : Value} {oe : Obj} {vs : Array Value} {T : Addr} (H : Fly B l e dx fl s.heap) (he : s.heap.get? e = some oe) (hd : oe.data = .fields vs) (h1 : vs[1]? = some (.ref T))
    (hQ : ∀ h', Fly B l e dx v h' → s.heap.UpToSlots h' → Q () { s with heap := h' }) : wpAny M A (setField (.ref T) 3 v) Q E s := by
  obtain ⟨hB, hen, hl, oe', vs', T', oT, ts, he', hc, hd', h1', hn, hTe, hT, hdT, h3⟩ := H
  obtain rfl := Option.some.inj (he.symm.trans he')
  cases hd.symm.trans hd'
  cases h1.symm.trans h1'
  have oth : ∀ b, b ≠ T → ∀ fn, (s.heap.update T fn).get? b = s.heap.get? b := fun b hb fn => Heap.get?_update_other _ _ (Ne.symm hb)
  have rec_ : ∀ b o, s.heap.get? b = some o → (∀ ws, o.data ≠ .fields ws) → b ≠ T := fun b o hb hnf q => by
    subst q; rw [hT] at hb; injection hb with hb; subst hb; exact hnf ts hdT
  refine wpAny_setField hT hdT (Array.getElem?_eq_some_iff.mp h3).1 (hQ _ ⟨fun b o q => ?_, hen, hl.of_keeps fun b o hb hnf => ⟨o, (oth b (rec_ b o hb hnf) _).trans hb, rfl⟩, oe, vs, T, _, _, (oth e (Ne.symm hTe) _).trans he, hc, hd, h1, hn, hTe,
    Heap.get?_update_self _ hT (Obj.isFreed_of_fields (Obj.data_mapFields hdT _)), Obj.data_mapFields hdT _, ?_⟩ fun b o hb hnf => ⟨o.slots, (oth b (rec_ b o hb hnf) _).trans hb⟩)
  · exact (oth b (fun z => by subst z; rw [hn] at q; cases q) _).trans (hB b o q)
  · have := (Array.getElem?_eq_some_iff.mp h3).1
    simp [this]

theorem fly_flight {f : Option Addr} (H : Fly B l e dx fl s.heap) (hQ : ∀ h', Fly B l e dx (f.elim .none fun f => rawInt f) h' → s.heap.UpToSlots h' → Q () { s with heap := h' }) : wpAny M A (setFlight (.ref e) f) Q E s := by
  have H₀ := H
  obtain ⟨hB, hen, hl, oe, vs, T, oT, ts, he, hc, hd, h1, hn, hTe, hT, hdT, h3⟩ := H
  unfold setFlight
  refine wpAny_bind (wpAny_field he hd h1 ?_)
  rw [if_pos (show (Value.ref T != Value.none) = true from by simp)]
  exact fly_set H₀ he hd h1 hQ

theorem dict_mapFields (o : Obj) (f : Array Value → Array Value) : (o.mapFields f).dict = o.dict := by
  cases o with | mk c d dt sl => cases dt <;> rfl

theorem fly_entry {oe : Obj} {vs : Array Value} {head : Value} {had : Bool} (hfr : A.frames = some (env :: outer)) (hl : s.heap.FunFrames B (env :: outer)) (hf : env.frame = some L) (he : s.heap.get? e = some oe) (hB : B.StaysIn s.heap)
    (hen : B.get? e = none) (hc : oe.cls = .ref 81 ∧ oe.dict = some dx) (hd : oe.data = .fields vs) (hsz : 1 < vs.size) (h : ∀ h', Fly B (env :: outer) e dx (rawInt L) h' → s.heap.UpToSlots h' → Q () { s with heap := h' }) :
    wpAny M A (do let a ← frameOf env; let pl ← entryPlaceOf L had; let b ← EntryCells.newEntry head a .none (rawInt L) .none pl; setField (.ref e) 1 b) Q E s := by
  have hene : e ∉ frs (env :: outer) := fun hm => by
    obtain ⟨_, o, ho, hnf⟩ := hl.mem hm
    rw [he] at ho; injection ho with ho; subst ho; exact hnf vs hd
  refine wpAny_bind (wpAny_frameOf_fun hfr hl hf fun h₁ hs₁ => ?_)
  refine wpAny_bind (wpAny_entryPlaceOf fun pl hpl => ?_)
  unfold EntryCells.newEntry newFields
  refine wpAny_bind (wpAny_newObj_type ?_ (hpl.sizeOk5 _ _ _ _ _))
  generalize hob : ({ cls := .type "traceback", dict := none, data := .fields ([head, .ref L, .none, rawInt L, .none] ++ (if pl.isEmpty then List.replicate 6 Value.none else pl)).toArray } : Obj) = ob
  have he₁ : h₁.get? e = some oe := (hs₁.2.1 e hene).trans he
  have hB₁ : B.StaysIn h₁ := fun b o q => (hs₁.2.1 b fun hm => by rw [(hl.mem hm).1] at q; cases q).trans (hB b o q)
  have he₂ := Heap.get?_push_of_some ob he₁
  refine wpAny_setField he₂ hd hsz ?_
  have hTe : h₁.objs.size ≠ e := Nat.ne_of_gt (Heap.lt_size he₁)
  have hd₃ := Obj.data_mapFields hd (·.setIfInBounds 1 (Value.ref h₁.objs.size))
  have keep : ∀ b o, b ≠ e → h₁.get? b = some o → ((h₁.push ob).update e (Obj.mapFields (·.setIfInBounds 1 (Value.ref h₁.objs.size)))).get? b = some o := fun b o hbe hb => by
    rw [Heap.get?_update_other _ _ (Ne.symm hbe)]
    exact Heap.get?_push_of_some _ hb
  have rec_ : ∀ b o, s.heap.get? b = some o → (∀ ws, o.data ≠ .fields ws) → b ≠ e := fun b o hb hnf q => by
    subst q; rw [he] at hb; injection hb with hb; subst hb; exact hnf vs hd
  refine h _ ⟨fun b o q => keep b o (fun z => by subst z; rw [hen] at q; cases q) (hB₁ b o q), hen, hl.of_keeps fun b o hb hnf => ?_, _, _, h₁.objs.size, ob, _, Heap.get?_update_self _ he₂ (Obj.isFreed_of_fields hd₃), ⟨(Obj.cls_mapFields _ _).trans hc.1, (dict_mapFields _ _).trans hc.2⟩, hd₃, by simp [hsz], hB₁.fresh, hTe,
    (Heap.get?_update_other _ _ (Ne.symm hTe)).trans (Heap.get?_push_size h₁ (by subst hob; rfl)), by subst hob; rfl, ?_⟩ fun b o hb hnf => ?_
  · obtain ⟨sl, hs⟩ := hs₁.2.2 b o hb
    exact ⟨_, keep b _ (rec_ b o hb hnf) hs, rfl⟩
  · first | (simp; done) | (rcases hpl with rfl | ⟨_, _, _, _, _, _, _, rfl⟩ <;> simp)
  · obtain ⟨sl, hs⟩ := hs₁.2.2 b o hb
    exact ⟨sl, keep b _ (rec_ b o hb hnf) hs⟩

theorem fly_born {oe : Obj} {vs : Array Value} (hfr : A.frames = some (env :: outer)) (hl : s.heap.FunFrames B (env :: outer)) (hf : env.frame = some L) (he : s.heap.get? e = some oe) (hB : B.StaysIn s.heap)
    (hen : B.get? e = none) (hc : oe.cls = .ref 81 ∧ oe.dict = some dx) (hd : oe.data = .fields vs) (h1 : vs[1]? = some .none) (h : ∀ h', Fly B (env :: outer) e dx (rawInt L) h' → s.heap.UpToSlots h' → Q () { s with heap := h' }) :
    wpAny M A (noteFrame (.ref e) env) Q E s := by
  unfold noteFrame
  simp only [hf]
  refine wpAny_bind (wpAny_field he hd h1 ?_)
  rw [if_neg (by decide)]
  exact fly_entry hfr hl hf he hB hen hc hd (Array.getElem?_eq_some_iff.mp h1).1 h

theorem fly_note (hfr : A.frames = some (env :: outer)) (hf : env.frame = some L) (H : Fly B (env :: outer) e dx .none s.heap) (h : ∀ h', Fly B (env :: outer) e dx (rawInt L) h' → s.heap.UpToSlots h' → Q () { s with heap := h' }) :
    wpAny M A (noteFrame (.ref e) env) Q E s := by
  have H₀ := H
  obtain ⟨hB, hen, hl, oe, vs, T, oT, ts, he, hc, hd, h1, hn, hTe, hT, hdT, h3⟩ := H
  unfold noteFrame
  simp only [hf]
  refine wpAny_bind (wpAny_field he hd h1 ?_)
  rw [if_pos (show (Value.ref T != Value.none) = true from by simp)]
  refine wpAny_bind (wpAny_field hT hdT h3 ?_)
  rw [if_neg (show ¬ ((Value.none == rawInt L) = true) from by simp [rawInt])]
  refine wpAny_bind (fly_set H₀ he hd h1 fun h' ⟨hB, hen, hl, oe, vs, T, oT, ts, he, hc, hd, h1, _⟩ up => ?_)
  exact fly_entry hfr hl hf he hB hen hc hd (Array.getElem?_eq_some_iff.mp h1).1 fun h'' x y => h h'' x (up.trans y)

theorem fly_noted (hf : env.frame = some L) (H : Fly B l e dx (rawInt L) s.heap) (h : Q () s) : wpAny M A (noteFrame (.ref e) env) Q E s := by
  obtain ⟨hB, hen, hl, oe, vs, T, oT, ts, he, hc, hd, h1, hn, hTe, hT, hdT, h3⟩ := H
  unfold noteFrame
  simp only [hf]
  refine wpAny_bind (wpAny_field he hd h1 ?_)
  rw [if_pos (show (Value.ref T != Value.none) = true from by simp)]
  refine wpAny_bind (wpAny_field hT hdT h3 ?_)
  rw [if_pos (show (rawInt L == rawInt L) = true from by simp)]
  exact wpAny_pure h

theorem fly_leave1 {oe : Obj} {vs : Array Value} (hfr : A.frames = some (env :: outer)) (hl : s.heap.FunFrames B (env :: outer)) (hf : env.frame = some L) (he : s.heap.get? e = some oe) (hB : B.StaysIn s.heap)
    (hen : B.get? e = none) (hc : oe.cls = .ref 81 ∧ oe.dict = some dx) (hd : oe.data = .fields vs) (h1 : vs[1]? = some .none) (h : ∀ h', Fly B outer e dx .none h' → s.heap.UpToSlots h' → Q () { s with heap := h' }) :
    wpAny M A (leaving env (.ref e)) Q E s :=
  wpAny_bind (fly_born hfr hl hf he hB hen hc hd h1 fun _ H up => fly_flight H fun _ H' up' => h _ H'.tail (up.trans up'))
theorem fly_leave (hfr : A.frames = some (env :: outer)) (hf : env.frame = some L) (H : Fly B (env :: outer) e dx .none s.heap) (h : ∀ h', Fly B outer e dx .none h' → s.heap.UpToSlots h' → Q () { s with heap := h' }) :
    wpAny M A (leaving env (.ref e)) Q E s :=
  wpAny_bind (fly_note hfr hf H fun _ H up => fly_flight H fun _ H' up' => h _ H'.tail (up.trans up'))
theorem fly_leave_held (hf : env.frame = some L) (H : Fly B (env :: outer) e dx (rawInt L) s.heap) (h : ∀ h', Fly B outer e dx .none h' → s.heap.UpToSlots h' → Q () { s with heap := h' }) :
    wpAny M A (leaving env (.ref e)) Q E s :=
  wpAny_bind (fly_noted hf H (fly_flight H fun _ H' up' => h _ H'.tail up'))
end
section
variable {M : Model} {A : Around} {E : Value → Shared → Prop} {env : Env}
theorem raise_value {x : Sem Value} {s : Shared} {Q : Flow → Shared → Prop} (hh : A.handled = none)
    (h : wpAny M A x (fun v s₁ => ∃ e dx tp, v = .ref e ∧ TF s₁.heap ∧ Born s₁.heap e dx tp ∧ E (.ref e) s₁) E s) : wpAny M A (raiseStmt env (some x) none) Q E s := by
  unfold raiseStmt
  refine wpAny_bind (wpAny_mono h (fun v s₁ h₁ => ?_) fun _ _ x => x)
  obtain ⟨e, dx, tp, rfl, ⟨nm, q, bs, sn, sub, col, dd, k0, k1, k2, k3, k5, hC⟩, ⟨t, ⟨⟨c, dct, dt, sl⟩, he, hc, hdx, hd⟩, -⟩, hE⟩ := h₁
  dsimp only at hc hdx hd
  subst hc hdx hd
  have hcB : (Value.ref 81 :: tfTail).contains (.type "BaseException") = true := by decide
  obtain ⟨hp, g, d, tk, os⟩ := s₁
  repeat (first | with_reducible refine wpAny_loadPart_at he ?_ | with_reducible refine wpAny_loadPart_at hC ?_ | (with_reducible refine wpAny_isSubtype_exc hC ?_; rw [hcB]) | wp_step)
  exact wpAny_raiseNew_none hh hE
theorem raise_fault {x : Expr} {pos : Pos} {s : Shared} {Q : Flow → Shared → Prop} (hh : A.handled = none)
    (h : wpAny M A (eval x env) (fun v s₁ => ∃ e dx tp, v = .ref e ∧ TF s₁.heap ∧ Born s₁.heap e dx tp ∧ E (.ref e) s₁) E s) : wpAny M A (exec (.Raise (some x) none pos) env) Q E s := by
  rw [arm_exec_Raise]
  first
    | exact wpAny_bind (wpAny_standAt (raise_value hh (wpAny_bind (wpAny_mono h (fun v s₁ h₁ => wpAny_bind (wpAny_standAt (wpAny_pure h₁))) fun _ _ x => x))))
    | (simp only [evalOpt, Option.map]; exact wpAny_bind (wpAny_standAt (raise_value hh (wpAny_bind (wpAny_mono h (fun v s₁ h₁ => wpAny_bind (wpAny_standAt (wpAny_pure h₁))) fun _ _ x => x)))))
end

theorem PlaceAt.slots {h h' : Heap} {tp k : Nat} (st : h.UpToSlots h') : PlaceAt h tp k → PlaceAt h' tp k := fun ⟨t1, t2, o, ho, hc, n, hd⟩ => by
  obtain ⟨sl, hs⟩ := st _ _ ho fun vs q => by rw [hd] at q; cases q
  exact ⟨t1, t2, _, hs, hc, n, hd⟩
/-- the dict of a fault at the sign k -/
def FaultAt (h : Heap) (dx : Addr) (k : Nat) : Prop := ∃ mA tp, h.Ns1 dx mA ∧ mA (Str.ofString "at") = some (.ref tp) ∧ PlaceAt h tp k
theorem FaultAt.slots {h h' : Heap} {dx k : Nat} (st : h.UpToSlots h') : FaultAt h dx k → FaultAt h' dx k := fun ⟨mA, tp, hn, ha, hp⟩ => by
  obtain ⟨o, es, n, ho, hd, r⟩ := hn
  obtain ⟨sl, hs⟩ := st _ _ ho fun vs q => by rw [hd] at q; cases q
  exact ⟨mA, tp, ⟨_, es, n, hs, hd, r⟩, ha, hp.slots st⟩

/-- the contract of a call that comes back with `res` or raises the fault at a sign of `bad` -/
def Outs (w : World) (f : Addr) (vs : List Value) (D U : Nat) (pre : Heap → Prop) (res : Heap → Value → Heap → Prop) (bad : Nat → Prop) : Prop :=
  ∀ (A A₀ : Around) (base h₀ : Heap) (env : Env) (outer : List Env) (L : Addr) (m mg mb : Str → Option Value) (p : Program) (loose : List Str) (s : Shared) (Q E : Value → Shared → Prop),
    Below A₀ base outer h₀ → Fr h₀ L s.heap m → (Mine.kmaker.heap_39 w.params).In h₀ → TopRead p loose mg mb h₀ → A.frames = some (env :: outer) → env.frame = some L → env.scope.kind = .function → A.handled = none →
    pre s.heap → A.depth + D < recursionLimit → A.units + U < cLine →
    (∀ v h' tk', res s.heap v h' → s.heap.StaysIn h' → Q v { s with heap := h', toks := tk' }) →
    (∀ k B e dx h' tk', bad k → Fly B (env :: outer) e dx .none h' → (hideAll s.heap (frs (env :: outer))).StaysIn B → FaultAt h' dx k → s.heap.UpToSlots h' → E (.ref e) { s with heap := h', toks := tk' }) →
    wpAny (model PG w) A (call (.ref f) vs) Q E s
theorem Outs.use {w : World} {f : Addr} {vs : List Value} {D U : Nat} {pre : Heap → Prop} {res : Heap → Value → Heap → Prop} {bad : Nat → Prop} (C : Outs w f vs D U pre res bad)
    {A A₀ : Around} {base h₀ : Heap} {env : Env} {outer : List Env} {L : Addr} {m mg mb : Str → Option Value} {p : Program} {loose : List Str} {s : Shared} {Q E : Value → Shared → Prop} {news : List (Addr × Obj)}
    (hp : pre s.heap)
    (k : ∀ v h' tk', res s.heap v h' → s.heap.StaysIn h' → Fr h₀ L h' m → News h₀ L h' news → Q v { s with heap := h', toks := tk' })
    (kk : ∀ k B e dx h' tk', bad k → Fly B (env :: outer) e dx .none h' → (hideAll s.heap (frs (env :: outer))).StaysIn B → FaultAt h' dx k → s.heap.UpToSlots h' → E (.ref e) { s with heap := h', toks := tk' })
    (B : Below A₀ base outer h₀ := by assumption) (F : Fr h₀ L s.heap m := by assumption) (X : (Mine.kmaker.heap_39 w.params).In h₀ := by assumption) (T : TopRead p loose mg mb h₀ := by assumption) (N : News h₀ L s.heap news := by assumption)
    (hA : A.frames = some (env :: outer) := by first | assumption | exact Around.frames_deeper (Below.stack (by assumption))) (hf : env.frame = some L := by first | rfl | assumption) (hke : env.scope.kind = .function := by first | rfl | assumption) (hh : A.handled = none := by first | assumption | rfl)
    (hd : A.depth + D < recursionLimit := by first | omega | (simp only [depth_deeper, depth_in1]; omega)) (hu : A.units + U < cLine := by first | omega | (simp only [units_deeper, units_in1]; omega)) : wpAny (model PG w) A (call (.ref f) vs) Q E s :=
  C A A₀ base h₀ env outer L m mg mb p loose s Q E B F X T hA hf hke hh hp hd hu (fun v h' tk' hr st => k v h' tk' hr st (Fr.stays F st) (News.stays N st)) kk

section
variable {M : Model} {A : Around} {E : Value → Shared → Prop} {s' : Shared} {base g h B : Heap} {outer : List Env} {L a e dx tp : Addr} {m : Str → Option Value} {name : Str} {scope : Scope} {cd : Value} {Q : Unit → Shared → Prop}
theorem hid_over {L : Addr} {m : Str → Option Value} {l l' : List Addr} (F : Fr g L h m) (hl : ∀ b ∈ l', b ∈ l ∨ g.get? b = none) : (hideAll g l).StaysIn (hideAll h l') := fun b o q => by
  have q' := of_hideAll _ q
  refine hideAll_get _ (F.keep _ _ q') fun hm => ?_
  rcases hl b hm with hm | z
  · rw [hideAll_none _ hm] at q; cases q
  · rw [z] at q'; cases q'
theorem leave_fault (K : Below A base outer g) (F : Fr g L s'.heap m) (HB : Born s'.heap e dx tp) (hen : g.get? e = none)
    (hQ : ∀ B h', Fly B outer e dx .none h' → (hideAll g (frs outer)).StaysIn B → s'.heap.UpToSlots h' → Q () { s' with heap := h' }) (hk : scope.kind = .function := by rfl) :
    wpAny M (A.deeper (envOf name scope L a cd)) (leaving (envOf name scope L a cd) (.ref e)) Q E s' := by
  have K' := K.push (name := name) (a := a) (cd := cd) F hk
  obtain ⟨t, ⟨oe, he, hc, hdx, hd⟩, -⟩ := HB
  have hin : ∀ env ∈ (envOf name scope L a cd :: outer), ∀ b, env.frame = some b → b ∈ e :: frs (envOf name scope L a cd :: outer) := fun env he b hb => .tail _ (List.mem_filterMap.mpr ⟨env, he, hb⟩)
  have fr : (hideAll s'.heap (e :: frs (envOf name scope L a cd :: outer))).StaysIn s'.heap := fun b o q => of_hideAll _ q
  refine fly_leave1 (B := hideAll s'.heap (e :: frs (envOf name scope L a cd :: outer))) K'.stack (funFrames_hide K'.frames hin) rfl he fr (hideAll_none _ (.head _)) ⟨hc, hdx⟩ hd rfl fun h' H up => hQ _ h' H (hid_over F fun b hb => ?_) up
  rcases List.mem_cons.mp hb with rfl | hb
  · exact .inr hen
  · rcases List.mem_cons.mp hb with rfl | hb
    · exact .inr (Heap.get?_none_of_le F.above)
    · exact .inl hb
theorem leave_on (K : Below A base outer g) (F : Fr g L h m) (H : Fly B (envOf name scope L a cd :: outer) e dx .none s'.heap) (hB : (hideAll h (frs (envOf name scope L a cd :: outer))).StaysIn B)
    (hQ : ∀ h', Fly B outer e dx .none h' → (hideAll g (frs outer)).StaysIn B → s'.heap.UpToSlots h' → Q () { s' with heap := h' }) :
    wpAny M (A.deeper (envOf name scope L a cd)) (leaving (envOf name scope L a cd) (.ref e)) Q E s' := by
  refine fly_leave (Around.frames_deeper K.stack) rfl H fun h' H' up => hQ h' H' (fun b o q => hB b o (hid_over F (fun b hb => ?_) b o q)) up
  rcases List.mem_cons.mp hb with rfl | hb
  · exact .inr (Heap.get?_none_of_le F.above)
  · exact .inl hb
end
section
variable {M : Model} {A : Around} {E : Value → Shared → Prop} {s' : Shared} {base g h₁ h B : Heap} {outer : List Env} {L a e dx tp k : Addr} {m : Str → Option Value} {name : Str} {scope : Scope} {cd : Value} {Q : Unit → Shared → Prop}
theorem fault_out (K : Below A base outer g) (F : Fr g L s'.heap m) (HB : Born s'.heap e dx tp) (HP : PlaceAt h₁ tp k) (st : h₁.StaysIn s'.heap) (hen : g.get? e = none)
    (hQ : ∀ B h', Fly B outer e dx .none h' → (hideAll g (frs outer)).StaysIn B → FaultAt h' dx k → g.UpToSlots h' → Q () { s' with heap := h' }) (hk : scope.kind = .function := by rfl) :
    wpAny M (A.deeper (envOf name scope L a cd)) (leaving (envOf name scope L a cd) (.ref e)) Q E s' := by
  refine leave_fault K F HB hen (fun B h' H hB up => hQ B h' H hB (FaultAt.slots up ?_) ((Heap.UpToSlots.of_keeps F.keep).trans up)) hk
  obtain ⟨t, -, -, mA, hn, ha⟩ := HB
  exact ⟨mA, tp, hn, ha, HP.keeps st⟩
theorem pass_out (K : Below A base outer g) (F : Fr g L h m) (H : Fly B (envOf name scope L a cd :: outer) e dx .none s'.heap) (hB : (hideAll h (frs (envOf name scope L a cd :: outer))).StaysIn B) (HF : FaultAt s'.heap dx k) (up : h.UpToSlots s'.heap)
    (hQ : ∀ h', Fly B outer e dx .none h' → (hideAll g (frs outer)).StaysIn B → FaultAt h' dx k → g.UpToSlots h' → Q () { s' with heap := h' }) :
    wpAny M (A.deeper (envOf name scope L a cd)) (leaving (envOf name scope L a cd) (.ref e)) Q E s' :=
  leave_on K F H hB fun h' H' hB' up' => hQ h' H' hB' (HF.slots up') (((Heap.UpToSlots.of_keeps F.keep).trans up).trans up')
end
set_option maxRecDepth 100000 in
set_option maxHeartbeats 8000000 in
theorem c_literal_end (w : World) (x pl : Addr) (l : List Nat) (a q : Nat) (r : Option Nat) (ta : Tok) (hq : l[a]? = some q) (hl : l.length < 1000) (hle : LE l q (a + 1) r) :
    Outs w 167 [.ref x, .int (a : Int) ta] 14 80 (fun h => LineAt h x l pl ∧ PlacesAt h pl l.length) (fun _ v _ => ∃ e t, r = some e ∧ v = .int (e : Int) t) (fun k => r = none ∧ k = a) := by
  intro A A₀ base h₀ env outer L m mg mb p loose s Q E B F X T hA hf hke hh hpre hd hu hret hbad
  obtain ⟨hL, hP⟩ := hpre
  refine wpAny_call (enterS [(Str.ofString "line", .ref x), (Str.ofString "at", .int (a : Int) ta)] B F X T hA hf hke (by omega) ?_)
  intro L' h₁ F' N' B' X' T'
  k_fold
  k_with_none
  k_with "call ref" => refine hold_ ?_
  k_with "exec Raise some none" => refine raise_fault hh ?_
  k_with "exec While Compare cons nil" => refine wpAny_While ?_
  k_steps
  refine at_S rfl hq (by omega) (fun t1 k1 => ?_)
  k_steps
  rename Fr s.heap L' _ _ => F2
  have hSl := S_len l
  refine while_by (fun e' : Nat => l.length + 2 - e') (fun e' h => (∃ te, Fr s.heap L' h (fun y => if y = Str.ofString "end" then some (.int (e' : Int) te) else if y = Str.ofString "quote" then some (.str (S [q]) t1) else List.lookup y [(Str.ofString "line", .ref x), (Str.ofString "at", .int (a : Int) ta)].reverse)) ∧ LE l q e' r) (fun e' h tk P IH => ?_) (a + 1) _ _ ⟨⟨_, F2⟩, hle⟩
  obtain ⟨⟨te, F3⟩, hLE⟩ := P
  have N3 : News s.heap L' h [] := News.nil
  clear F2
  k_steps
  · exact IH (e' + 1) _ _ (by omega) ⟨⟨_, Fr.again (by assumption) rfl⟩, LE.ne hLE (by assumption) (by assumption)⟩
  · exact IH (e' + 2) _ _ (by omega) ⟨⟨_, Fr.again (by assumption) rfl⟩, LE.two hLE (by assumption) (by assumption) (by assumption)⟩
  · have hr := LE.end_ hLE (by assumption) (by assumption) (by assumption)
    dsimp only
    k_steps
    exact leaveS_ (by assumption) fun st => hret _ _ _ ⟨_, _, hr, rfl⟩ st
  · have hr := LE.out hLE (by assumption)
    k_steps
    refine Hold.go (Gives.use (c_line_fault w x pl l a l.length _ _ _ _ rfl (List.getElem?_eq_some_iff.mp hq).1 hl) ⟨hL.keeps F3.keep, hP.keeps F3.keep⟩ ?_)
    rintro _ h2 tk2 ⟨e, dx, tp, rfl, HB, HP, he0, hd0⟩ st2 F4 N4
    refine ⟨e, dx, tp, rfl, tf_of (X'.keeps F4.keep), HB, ?_⟩
    exact fault_out B' F4 HB HP st2 (none_of F3.keep he0) fun B₂ h3 H3 hB3 HF up => hbad _ B₂ e dx h3 _ ⟨hr, rfl⟩ H3 hB3 HF up
section
/-- a run never takes a token back -/
theorem runs_toks {M : Model} {Γ : PySem.Ctx} {p : Pos} {t : Sem Fin} {fs : List PySem.Frame} {s s' : Shared} {e : End} (h : Runs M Γ p t fs s e s') : s.toks ≤ s'.toks := by
  induction h <;> first
    | exact Nat.le_refl _
    | assumption
    | omega
    | (simp only [Shared.setGen] at *; omega)
    | (rename_i h1 h2; exact Nat.le_trans h1 h2)
    | (rename_i h1; exact Nat.le_trans (Nat.le_succ _) h1)
theorem wakes_toks {M : Model} {Γ : PySem.Ctx} {p : Pos} {g : Nat} {r : Resume} {s s' : Shared} {res : GenResult} (h : Wakes M Γ p g r s res s') : s.toks ≤ s'.toks := by
  unfold Wakes at h
  split at h
  · exact h.elim
  · split at h
    · obtain ⟨e, s₁, hr, -, -, rfl⟩ := h; have := runs_toks hr; simpa only [Shared.setGen] using this
    · obtain ⟨-, rfl⟩ := h; exact Nat.le_refl _
    · obtain ⟨-, rfl⟩ := h; exact Nat.le_refl _
  · obtain ⟨e, s₁, hr, -, -, rfl⟩ := h; have := runs_toks hr; simpa only [Shared.setGen] using this
  · obtain ⟨-, rfl⟩ := h; exact Nat.le_refl _
  · obtain ⟨-, rfl⟩ := h; exact Nat.le_refl _
theorem wp_toks {M : Model} {Γ : PySem.Ctx} {α : Type} {t : Sem α} {Q : α → Pos → Shared → Prop} {E : Value → Pos → Shared → Prop} {n : Nat} : ∀ {p : Pos} {s : Shared}, n ≤ s.toks →
    Sem.wp M Γ t (fun a p' s' => n ≤ s'.toks → Q a p' s') (fun e p' s' => n ≤ s'.toks → E e p' s') p s → Sem.wp M Γ t Q E p s := by
  induction t with
  | call c h g l k ih =>
    intro p s hn H
    rw [Sem.wp_call] at H ⊢
    obtain ⟨r, s', hr, H⟩ := H
    exact ⟨r, s', hr, ih r (Nat.le_trans hn (runs_toks hr)) H⟩
  | resume g r l k ih =>
    intro p s hn H
    rw [Sem.wp_resume] at H ⊢
    obtain ⟨res, s', hr, H⟩ := H
    exact ⟨res, s', hr, ih res (Nat.le_trans hn (wakes_toks hr)) H⟩
  | fresh k ih =>
    intro p s hn H
    rw [Sem.wp_fresh] at H ⊢
    exact ih _ (Nat.le_succ_of_le hn) H
  | load a part k ih =>
    intro p s hn H
    rw [Sem.wp_load] at H ⊢
    obtain ⟨o, ho, H⟩ := H
    exact ⟨o, ho, ih o hn H⟩
  | update a part f k ih =>
    intro p s hn H
    rw [Sem.wp_update] at H ⊢
    exact ⟨H.1, ih () hn H.2⟩
  | choose src n k ih =>
    intro p s hn H
    rw [Sem.wp_choose] at H ⊢
    exact ⟨H.1, ih _ hn H.2⟩
  | genState g k ih =>
    intro p s hn H
    rw [Sem.wp_genState] at H ⊢
    obtain ⟨st, hs, H⟩ := H
    exact ⟨st, hs, ih _ hn H⟩
  | pure a => intro p s hn H; rw [Sem.wp_pure] at H ⊢; exact H hn
  | raise e => intro p s hn H; rw [Sem.wp_raise] at H ⊢; exact H hn
  | _ =>
    intro p s hn H
    first
      | (rw [Sem.wp] at H; exact H.elim)
      | (rw [Sem.wp] at H ⊢; rename_i ih; exact ih _ hn H)
/-- what is shown of the tokens behind a walk may be used there -/
theorem toks_up {M : Model} {A : Around} {α : Type} {t : Sem α} {Q : α → Shared → Prop} {E : Value → Shared → Prop} {s : Shared}
    (h : wpAny M A t (fun a s' => s.toks ≤ s'.toks → Q a s') (fun e s' => s.toks ≤ s'.toks → E e s') s) : wpAny M A t Q E s :=
  fun Γ p hΓ => wp_toks (Nat.le_refl _) (h Γ p hΓ)
end
section
open PySem.StrLaws
variable {prog : Program} {w : World} {A : Around} {E : Value → Shared → Prop} {s : Shared} {h₀ hp : Heap} {g : Array GenState} {dr : Drawn} {tk : Nat} {os : OsState} {L x pl : Addr} {m : Str → Option Value} {l : List Nat} {expr : Bool} {news : List (Addr × Obj)}
theorem line_text_up {Q : Value → Shared → Prop} (h : ∀ t k, s.toks ≤ k → Q (.str (S l) t) { s with toks := k }) (F : Fr h₀ L s.heap m := by assumption) (X : (Mine.kmaker.heap_39 w.params).In h₀ := by assumption) (H : LineAt h₀ x l pl := by assumption) :
    wpAny (model prog w) A (getAttr (.ref x) (Str.ofString "text") expr) Q E s := toks_up (line_text (fun t k hk => h t k hk) F X H)
theorem at_tok {value slice : PySem.Expr} {i c : Nat} {t u : Tok} {k : Int} {Q : Value → Shared → Prop} (hk : k = (i : Int)) (hi : l[i]? = some c) (hl : l.length < 1000000)
    (h : Q (.str (S [c]) s.toks) { s with toks := s.toks + 1 })
    (hs : subscripted slice false (.str (S l) t) (.int k u) = operate [.str (S l) t, .int k u] (getItem (.str (S l) t) (.int k u)) := by with_unfolding_all rfl) :
    wpAny (model prog w) A (subscriptTail value slice (.str (S l) t) (.int k u)) Q E s := by
  subst hk
  have hil : i < l.length := (List.getElem?_eq_some_iff.mp hi).1
  refine tail_any (typeIs_str _ _ _) F.slot_str_getitem.lookup ?_ hs
  refine P.getItem_str ?_ ?_ h
  · simp only [Bool.or_eq_false_iff, decide_eq_false_iff_not]
    constructor <;> omega
  · rw [S_len, seqIndex_nonneg (by omega) (by omega)]
    simp [S, hi]
theorem slice_up {value slice : Expr} {z : List Nat} {i j : Int} {t ui uj : Tok} {Q : Value → Shared → Prop} (hz : Txt.slice (S l) (some i) (some j) = S z) (hl : l.length < 1000)
    (h : ∀ h' t' k, Fr h₀ L h' m → News h₀ L h' news → tk ≤ k → Q (.str (S z) t') ⟨h', g, dr, k, os⟩) (hF : Fr h₀ L hp m := by assumption) (hN : News h₀ L hp news := by assumption)
    (hs : subscripted slice false (.str (S l) t) (.ref hp.objs.size) = operate [.ref hp.objs.size, .str (S l) t] (getItem (.str (S l) t) (.ref hp.objs.size)) := by with_unfolding_all rfl)
    (ht : ∀ r, letTemporaryGo value (.str (S l) t) r = pure () := by intro _; with_unfolding_all rfl) :
    wpAny (model prog w) A (subscriptTail value slice (.str (S l) t) (.ref hp.objs.size)) Q E ⟨hp.push { cls := .type "slice", data := .fields #[.int i ui, .int j uj, .none] }, g, dr, tk, os⟩ :=
  toks_up (slice_as hz hl (fun h' t' k a b c => h h' t' k a b c) hF hN hs ht)
theorem add_tok {a b : Nat} {t u : Tok} {Q : Value → Shared → Prop} (h : Q (.str (S [a, b]) s.toks) { s with toks := s.toks + 1 }) : wpAny (model prog w) A (binaryOp .Add (.str (S [a]) t) (.str (S [b]) u)) Q E s := by
  refine P.add_str ?_
  have h1 : ∀ c : Nat, ((S [c]).length == 0) = false := fun c => by rw [S_len]; rfl
  rw [h1, h1]
  refine ⟨?_, ?_⟩
  · rw [S_app, S_len, sizeLine_eq]; simp
  · rw [S_app]; exact h
end
section
local macro_rules | `(tactic| walk_at $s:str) => `(tactic| k_extra $s)
set_option maxRecDepth 100000 in
set_option maxHeartbeats 8000000 in
theorem c_checked_literal (w : World) (x pl : Addr) (l t : List Nat) (a e q : Nat) (ta te : Tok) (hq : l[a]? = some q) (hae : a + 2 ≤ e) (hel : e ≤ l.length) (hl : l.length < 1000) (hb : (l.drop (a + 1)).take (e - 1 - (a + 1)) = dbl q t) :
    Outs w 193 [.ref x, .int (a : Int) ta, .int (e : Int) te] 14 80 (fun h => LineAt h x l pl ∧ PlacesAt h pl l.length) (fun _ v _ => (1 ≤ t.length ∧ t.length ≤ 160) ∧ ∃ tk, v = .str (S t) tk) (fun k => ¬ (1 ≤ t.length ∧ t.length ≤ 160) ∧ k = a) := by
  intro A A₀ base h₀ env outer L m mg mb p loose s Q E B F X T hA hf hke hh hpre hd hu hret hbad
  obtain ⟨hL, hP⟩ := hpre
  refine wpAny_call (enterS [(Str.ofString "line", .ref x), (Str.ofString "at", .int (a : Int) ta), (Str.ofString "end", .int (e : Int) te)] B F X T hA hf hke (by omega) ?_)
  intro L' h₁ F' N' B' X' T'
  k_fold
  k_with_none
  k_with "call ref" => refine hold_ ?_
  k_with "exec Raise some none" => refine raise_fault hh ?_
  k_with "getAttr ref" => (refine line_text_up ?_; intro tx kx hx; dsimp only at hx ⊢)
  k_with "subscriptTail Name Name str int" => (refine at_tok rfl hq (by omega) ?_; dsimp only; refine hold_ ?_)
  k_with "binaryOp Add str str" => (refine add_tok ?_; dsimp only)
  k_with "call builtin:str.replace" => refine hold_ ?_
  have hSl := S_len l
  have h1 : Txt.slice (S l) (some ((a : Int) + 1)) (some ((e : Int) - 1)) = S (dbl q t) := by
    rw [show ((a : Int) + 1) = ((a + 1 : Nat) : Int) by omega, show ((e : Int) - 1) = ((e - 1 : Nat) : Int) by omega, slice_S _ _ _ (by omega), hb]
  k_with "subscriptTail Name Slice str ref" => (refine slice_up h1 hl ?_; intro hs ts ks Fs Ns hk; dsimp only at hk ⊢)
  have hdl : (S (dbl q t)).length < 1000 := by rw [← hb, S_len, List.length_take, List.length_drop]; omega
  have htl : t.length < 1000 := by have := dbl_ge q t; rw [S_len] at hdl; omega
  have hsz : (Txt.replace (S (dbl q t)) (S [q, q]) (S [q])).length ≤ 2000 := by rw [replace_undbl, S_len]; omega
  have hSt := S_len t
  k_steps
  refine Hold.go (stN F' N' (fun h₇ F₇ N₇ => ?_) rfl rfl)
  have hk₁ : 3 ≤ kx := Nat.le_trans (Nat.le_add_left 3 _) hx
  clear hx F' N'
  obtain ⟨kq, hkq⟩ : ∃ n, n = kx := ⟨_, rfl⟩
  subst hkq
  dsimp only
  obtain ⟨tk₁, htk⟩ : ∃ n, n = kq + 1 + 1 := ⟨_, rfl⟩
  rw [← htk]
  k_steps
  refine Hold.go (SC.replaceW ?_ ?_ ?_ (by rw [S_beq]; simp) ?_ (by rw [S_len]; simp) (fun t3 k3 => ?_))
  · show (ks : Nat) ≠ 0; omega
  · show (kq : Nat) ≠ 0; omega
  · show (ks : Nat) ≠ kq; omega
  · omega
  rw [replace_undbl]
  dsimp only
  clear hk hx
  k_steps
  · dsimp only
    k_steps
    exact leaveS_ (by assumption) fun st => hret _ _ _ ⟨⟨by omega, by omega⟩, _, rfl⟩ st
  all_goals
    rename Fr _ _ _ _ => F3
    refine Hold.go (Gives.use (c_line_fault w x pl l a l.length _ _ _ _ rfl (by omega) hl) ⟨hL.keeps F3.keep, hP.keeps F3.keep⟩ ?_)
    rintro _ h2 tk2 ⟨e', dx, tp, rfl, HB, HP, he0, hd0⟩ st2 F4 N4
    refine ⟨e', dx, tp, rfl, tf_of (X'.keeps F4.keep), HB, ?_⟩
    exact fault_out B' F4 HB HP st2 (none_of F3.keep he0) fun B₂ h3 H3 hB3 HF up => hbad _ B₂ e' dx h3 _ ⟨fun z => by omega, rfl⟩ H3 hB3 HF up
end
theorem na_slice (l : List Nat) (e : Nat) : Txt.slice (S l) (some (e : Int)) (some ((e : Int) + 2)) = S ((l.drop e).take 2) := by
  rw [show ((e : Int) + 2) = ((e + 2 : Nat) : Int) by omega, slice_S _ _ _ (by omega)]
  congr 2; omega
theorem na_none {l : List Nat} {e : Nat} (h : l[e]? = none) : (l.drop e).take 2 = [] := by
  rw [List.drop_eq_nil_of_le (by simpa using h)]; rfl
theorem na_some {l : List Nat} {e c : Nat} (h : l[e]? = some c) : (l.drop e).take 2 = c :: ((l.drop (e + 1)).take 1) := by
  obtain ⟨h1, h2⟩ := List.getElem?_eq_some_iff.mp h
  rw [List.drop_eq_getElem_cons h1, h2, List.take_succ_cons]
theorem na_empty (z : List Nat) : (S z == Str.ofString "") = z.isEmpty := by
  have : Str.ofString "" = S [] := by decide +kernel
  rw [this, S_beq]; cases z <;> rfl
theorem na_dot (c : Nat) : (S [c] == Str.ofString ".") = (c == 46) := by
  have : Str.ofString "." = S [46] := by decide +kernel
  rw [this, S_beq]; by_cases h : c = 46 <;> simp [h]
theorem na_quotes (c : Nat) : (Builtin.Str.occurrences (Str.ofString "\"'") (S [c]) 0 (Str.ofString "\"'").length 1).isEmpty = !decide (c = 34 ∨ c = 39) := by
  have : Str.ofString "\"'" = S [34, 39] := by decide +kernel
  rw [this, in_S]; simp
set_option maxRecDepth 100000 in
set_option maxHeartbeats 8000000 in
theorem c_need_apart (w : World) (x pl : Addr) (l : List Nat) (e : Nat) (te : Tok) (hl : l.length < 1000) (hc : l[e]? = none ∨ ∃ c, l[e]? = some c ∧ (c = 32 ∨ c = 44 ∨ c = 65)) :
    Outs w 207 [.ref x, .int (e : Int) te] 16 90 (fun h => LineAt h x l pl ∧ PlacesAt h pl l.length) (fun _ _ _ => l[e]? ≠ some 65) (fun k => l[e]? = some 65 ∧ k = e) := by
  intro A A₀ base h₀ env outer L m mg mb p loose s Q E B F X T hA hf hke hh hpre hd hu hret hbad
  obtain ⟨hL, hP⟩ := hpre
  refine wpAny_call (enterS [(Str.ofString "line", .ref x), (Str.ofString "end", .int (e : Int) te)] B F X T hA hf hke (by omega) ?_)
  intro L' h₁ F' N' B' X' T'
  k_fold
  k_with_none
  k_with "call ref" => refine hold_ ?_
  k_with "exec Raise some none" => refine raise_fault hh ?_
  have hs := na_slice l e
  have hSl := S_len l
  rcases hc with hc | ⟨c, hc, hcc⟩
  · rw [na_none hc] at hs
    have he := na_empty []
    k_steps
    dsimp only
    k_steps
    exact leaveS_ (by assumption) fun st => hret _ _ _ (by rw [hc]; simp) st
  · rw [na_some hc] at hs
    obtain ⟨z, hzd⟩ : ∃ z, z = (l.drop (e + 1)).take 1 := ⟨_, rfl⟩
    rw [← hzd] at hs
    have he : (S (c :: z) == Str.ofString "") = false := na_empty (c :: z)
    have hci : (c :: z)[0]? = some c := rfl
    have hz : (c :: z).length < 1000000 := by have := List.length_take_le 1 (l.drop (e + 1)); rw [List.length_cons, hzd]; omega
    k_with "subscriptTail Name Constant str int" => refine at_S (i := 0) rfl hci hz (fun _ _ => ?_)
    k_steps
    refine Hold.go (Gives.use (c_wordsign w c _ (by omega)) trivial ?_)
    rintro _ h2 tk2 rfl st2 F2 N2
    have hqu : (Builtin.Str.occurrences (Str.ofString "\"'") (S [c]) 0 (Str.ofString "\"'").length 1).isEmpty = true := by rw [na_quotes, Bool.not_eq_true', decide_eq_false_iff_not]; omega
    rcases (show c = 65 ∨ (c ≠ 65 ∧ decide (65 ≤ c ∧ c ≤ 90 ∨ 48 ≤ c ∧ c ≤ 57 ∨ c = 45) = false ∧ (S [c] == Str.ofString ".") = false) by rcases hcc with rfl | rfl | rfl <;> simp [na_dot]) with rfl | ⟨h65, hw, hdt⟩
    · k_steps
      rename Fr _ _ _ _ => F3
      refine Hold.go (Gives.use (c_line_fault w x pl l e l.length _ _ _ _ rfl (List.getElem?_eq_some_iff.mp hc).1 hl) ⟨hL.keeps F3.keep, hP.keeps F3.keep⟩ ?_)
      rintro _ h2 tk2 ⟨e', dx, tp, rfl, HB, HP, he0, hd0⟩ st2 F4 N4
      refine ⟨e', dx, tp, rfl, tf_of (X'.keeps F4.keep), HB, ?_⟩
      exact fault_out B' F4 HB HP st2 (none_of F3.keep he0) fun B₂ h3 H3 hB3 HF up => hbad _ B₂ e' dx h3 _ ⟨hc, rfl⟩ H3 hB3 HF up
    · rw [hw]
      k_steps
      exact leaveS_ (by assumption) fun st => hret _ _ _ (by rw [hc]; simpa using h65) st
theorem lit_let : Str.ofString "ABCDEFGHIJKLMNOPQRSTUVWXYZ" = S [65, 66, 67, 68, 69, 70, 71, 72, 73, 74, 75, 76, 77, 78, 79, 80, 81, 82, 83, 84, 85, 86, 87, 88, 89, 90] := by decide +kernel
theorem lit_fig : Str.ofString "0123456789" = S [48, 49, 50, 51, 52, 53, 54, 55, 56, 57] := by decide +kernel
theorem in_let (c : Nat) (hc : c < 97) : (Builtin.Str.occurrences (Str.ofString "ABCDEFGHIJKLMNOPQRSTUVWXYZ") (S [c]) 0 (Str.ofString "ABCDEFGHIJKLMNOPQRSTUVWXYZ").length 1).isEmpty = !decide (65 ≤ c ∧ c ≤ 90) := by
  rw [lit_let, in_S]; revert hc c; decide +kernel
theorem in_fig (c : Nat) (hc : c < 97) : (Builtin.Str.occurrences (Str.ofString "0123456789") (S [c]) 0 (Str.ofString "0123456789").length 1).isEmpty = !decide (48 ≤ c ∧ c ≤ 57) := by
  rw [lit_fig, in_S]; revert hc c; decide +kernel
/-- a literal begins at a: r tells its end, t its text -/
structure Lit (l : List Nat) (a q : Nat) (r : Option Nat) (t : List Nat) : Prop where
  sign : l[a]? = some q
  quote : q = 34 ∨ q = 39
  scan : LE l q (a + 1) r
  wide : ∀ e, r = some e → a + 2 ≤ e ∧ e ≤ l.length
  body : ∀ e, r = some e → (l.drop (a + 1)).take (e - 1 - (a + 1)) = dbl q t
  next : ∀ e, r = some e → l[e]? = none ∨ ∃ c, l[e]? = some c ∧ (c = 32 ∨ c = 44 ∨ c = 65)
set_option maxRecDepth 100000 in
set_option maxHeartbeats 8000000 in
theorem c_worth_lit (w : World) (x pl : Addr) (l t : List Nat) (a q : Nat) (r : Option Nat) (ta : Tok) (hl : l.length < 1000) (H : Lit l a q r t) :
    Outs w 221 [.ref x, .int (a : Int) ta] 20 120 (fun h => LineAt h x l pl ∧ PlacesAt h pl l.length)
      (fun _ v h' => ∃ e tp t1 t2 t3, r = some e ∧ l[e]? ≠ some 65 ∧ (1 ≤ t.length ∧ t.length ≤ 160) ∧ v = .ref tp ∧ IsTup h' tp #[.str (Str.ofString "literal") t1, .str (S t) t2, .int (e : Int) t3])
      (fun k => (r = none ∧ k = a) ∨ (∃ e, r = some e ∧ l[e]? = some 65 ∧ k = e) ∨ (∃ e, r = some e ∧ l[e]? ≠ some 65 ∧ ¬ (1 ≤ t.length ∧ t.length ≤ 160) ∧ k = a)) := by
  obtain ⟨hq, hqq, hle, hw, hb, hn⟩ := H
  have hq97 : q < 97 := by omega
  intro A A₀ base h₀ env outer L m mg mb p loose s Q E B F X T hA hf hke hh hpre hd hu hret hbad
  obtain ⟨hL, hP⟩ := hpre
  refine wpAny_call (enterS [(Str.ofString "line", .ref x), (Str.ofString "at", .int (a : Int) ta)] B F X T hA hf hke (by omega) ?_)
  intro L' h₁ F' N' B' X' T'
  k_fold
  k_with_none
  k_with "call ref" => refine hold_ ?_
  k_with "subscriptTail Name Name str int" => refine at_S rfl hq (by omega) (fun _ _ => ?_)
  have hSl := S_len l
  have hlet : (Builtin.Str.occurrences (Str.ofString "ABCDEFGHIJKLMNOPQRSTUVWXYZ") (S [q]) 0 (Str.ofString "ABCDEFGHIJKLMNOPQRSTUVWXYZ").length 1).isEmpty = true := by rw [in_let _ hq97, Bool.not_eq_true', decide_eq_false_iff_not]; omega
  have hfig : (Builtin.Str.occurrences (Str.ofString "0123456789") (S [q]) 0 (Str.ofString "0123456789").length 1).isEmpty = true := by rw [in_fig _ hq97, Bool.not_eq_true', decide_eq_false_iff_not]; omega
  have hdot : (S [q] == Str.ofString ".") = false := by rw [na_dot, beq_eq_false_iff_ne]; omega
  have hquo : (Builtin.Str.occurrences (Str.ofString "\"'") (S [q]) 0 (Str.ofString "\"'").length 1).isEmpty = false := by rw [na_quotes, Bool.not_eq_false', decide_eq_true_eq]; exact hqq
  k_steps
  refine Hold.go (Gives.use (c_capital w q _ hq97) trivial ?_)
  rintro _ h2 tk2 ⟨t2, rfl⟩ st2 F2 N2
  k_steps
  rename Fr _ _ _ _ => F3
  refine Hold.go (Outs.use (c_literal_end w x pl l a q r _ hq hl hle) ⟨hL.keeps F3.keep, hP.keeps F3.keep⟩ ?_ ?_)
  · rintro _ h3 tk3 ⟨e, te, he, rfl⟩ st3 F3 N3
    k_steps
    rename Fr _ _ _ _ => F4
    refine Hold.go (Outs.use (c_need_apart w x pl l e _ hl (hn e he)) ⟨hL.keeps F4.keep, hP.keeps F4.keep⟩ ?_ ?_)
    · rintro v4 h4 tk4 hne st4 F4 N4
      k_steps
      refine Hold.go (Outs.use (c_checked_literal w x pl l t a e q _ _ hq (hw e he).1 (hw e he).2 hl (hb e he)) ⟨hL.keeps F4.keep, hP.keeps F4.keep⟩ ?_ ?_)
      · rintro _ h5 tk5 ⟨hlen, t5, rfl⟩ st5 F5 N5
        k_steps
        rename News _ _ _ _ => N6
        exact leaveS_ (by assumption) fun st => hret _ _ _ ⟨e, _, _, _, _, he, hne, hlen, rfl, News.isTup N6 (.head _)⟩ st
      · rintro k B₂ e' dx h5 tk5 ⟨hk, hke⟩ H hB HF up
        exact pass_out B' F4 H hB HF up fun h6 H6 hB6 HF6 up6 => hbad _ B₂ e' dx h6 _ (.inr (.inr ⟨e, he, hne, hk, hke⟩)) H6 hB6 HF6 up6
    · rintro k B₂ e' dx h4 tk4 ⟨hk, hke⟩ H hB HF up
      exact pass_out B' F4 H hB HF up fun h5 H5 hB5 HF5 up5 => hbad _ B₂ e' dx h5 _ (.inr (.inl ⟨e, he, hk, hke⟩)) H5 hB5 HF5 up5
  · rintro k B₂ e' dx h4 tk4 hk H hB HF up
    exact pass_out B' F3 H hB HF up fun h5 H5 hB5 HF5 up5 => hbad _ B₂ e' dx h5 _ (.inl hk) H5 hB5 HF5 up5
/-- what a token tells: its kind, its text, its sign's number in the line -/
structure TK where
  kind : Str
  text : List Nat
  at_ : Nat
/-- a Token in the heap -/
def TokAt (h : Heap) (x : Addr) (k : TK) : Prop :=
  ∃ dx es n t1 t2 tp, h.get? x = some (instObj 109 dx) ∧ h.get? dx = some (dictOf es n) ∧ getL (Str.ofString "kind") es = some (some (.str k.kind t1)) ∧ getL (Str.ofString "worth") es = some (some (.str (S k.text) t2)) ∧ getL (Str.ofString "at") es = some (some (.ref tp)) ∧ PlaceAt h tp k.at_
theorem TokAt.keeps {h h' : Heap} {x : Addr} {k : TK} (st : h.StaysIn h') (H : TokAt h x k) : TokAt h' x k :=
  let ⟨dx, es, n, t1, t2, tp, a, b, c, d, e, f⟩ := H; ⟨dx, es, n, t1, t2, tp, st _ _ a, st _ _ b, c, d, e, f.keeps st⟩
section
variable {prog : Program} {w : World} {A : Around} {E : Value → Shared → Prop} {s : Shared} {h₀ : Heap} {L x : Addr} {m : Str → Option Value} {k : TK} {expr : Bool}
theorem tok_kind {Q : Value → Shared → Prop} (h : ∀ t k', Q (.str k.kind t) { s with toks := k' }) (F : Fr h₀ L s.heap m := by assumption) (X : (Mine.kmaker.heap_39 w.params).In h₀ := by assumption) (H : TokAt s.heap x k := by assumption) :
    wpAny (model prog w) A (getAttr (.ref x) (Str.ofString "kind") expr) Q E s := by
  obtain ⟨dx, es, n, t1, t2, tp, a, b, c, d, e, f⟩ := H
  have I : InstAt s.heap x (instObj 109 dx) 109 (some (dictOf es n)) := ⟨a, rfl, rfl, b⟩
  refine get_own (attr := none) F X I ?_ ?_ ?_ ?_ c ?_ (h _ _)
  · k_dflt k_is
  · k_dflt k_is
  · k_dflt k_is
  · k_dflt k_is
  · k_handed
theorem tok_worth {Q : Value → Shared → Prop} (h : ∀ t k', Q (.str (S k.text) t) { s with toks := k' }) (F : Fr h₀ L s.heap m := by assumption) (X : (Mine.kmaker.heap_39 w.params).In h₀ := by assumption) (H : TokAt s.heap x k := by assumption) :
    wpAny (model prog w) A (getAttr (.ref x) (Str.ofString "worth") expr) Q E s := by
  obtain ⟨dx, es, n, t1, t2, tp, a, b, c, d, e, f⟩ := H
  have I : InstAt s.heap x (instObj 109 dx) 109 (some (dictOf es n)) := ⟨a, rfl, rfl, b⟩
  refine get_own (attr := none) F X I ?_ ?_ ?_ ?_ d ?_ (h _ _)
  · k_dflt k_is
  · k_dflt k_is
  · k_dflt k_is
  · k_dflt k_is
  · k_handed
theorem tok_at {Q : Value → Shared → Prop} (h : ∀ tp k', PlaceAt s.heap tp k.at_ → Q (.ref tp) { s with toks := k' }) (F : Fr h₀ L s.heap m := by assumption) (X : (Mine.kmaker.heap_39 w.params).In h₀ := by assumption) (H : TokAt s.heap x k := by assumption) :
    wpAny (model prog w) A (getAttr (.ref x) (Str.ofString "at") expr) Q E s := by
  obtain ⟨dx, es, n, t1, t2, tp, a, b, c, d, e, f⟩ := H
  have I : InstAt s.heap x (instObj 109 dx) 109 (some (dictOf es n)) := ⟨a, rfl, rfl, b⟩
  refine get_own (attr := none) F X I ?_ ?_ ?_ ?_ e ?_ (h _ _ f)
  · k_dflt k_is
  · k_dflt k_is
  · k_dflt k_is
  · k_dflt k_is
  · k_handed
theorem item_last {value slice : Expr} {l x : Addr} {vs : List Value} {u : Tok} {Q : Value → Shared → Prop} (hl : s.heap.IsList l vs.toArray) (hz : vs.length < 1000000) (hx : vs.getLast? = some (.ref x)) (h : Q (.ref x) s)
    (hs : subscripted slice false (.ref l) (.int (-1) u) = operate [.ref l, .int (-1) u] (getItem (.ref l) (.int (-1) u)) := by with_unfolding_all rfl) :
    wpAny (model prog w) A (subscriptTail value slice (.ref l) (.int (-1) u)) Q E s := by
  refine tail_any hl.typeIs slot_list_getitem.lookup (wpAny_getItem_list_neg hl (by omega) ?_ (by omega) (x := .ref x) ?_ h) hs
  · have : vs ≠ [] := fun z => by subst z; cases hx
    have := List.length_pos_iff.mpr this
    rw [List.size_toArray]; omega
  · have h1 : vs ≠ [] := fun z => by subst z; cases hx
    have h2 := List.length_pos_iff.mpr h1
    rw [List.getLast?_eq_getElem?] at hx
    rw [List.size_toArray, show ((-1 : Int) + (vs.length : Int)).toNat = vs.length - 1 by omega]
    simpa using hx
end
/-- no picture comes next: no token yet, or a last one that is no PIC -/
def NoPic (h : Heap) (vs : List Value) : Prop := vs.length < 1000 ∧ (vs = [] ∨ ∃ x k, vs.getLast? = some (.ref x) ∧ TokAt h x k ∧ (k.kind = Str.ofString "literal" ∨ k.kind = Str.ofString "sign" ∨ (k.kind = Str.ofString "word" ∧ k.text = [65])))
set_option maxRecDepth 100000 in
set_option maxHeartbeats 8000000 in
theorem c_picture_next (w : World) (D : Addr) (vs : List Value) : Gives w 235 [.ref D] 2 8 (fun h => h.IsList D vs.toArray ∧ NoPic h vs) (fun _ v _ => v = .bool false) := by
  intro A A₀ base h₀ env outer L m mg mb p loose s Q E B F X T hA hf hke hh hpre hd hu hret
  obtain ⟨hl, hz, hpre⟩ := hpre
  refine wpAny_call (enterS [(Str.ofString "tokens", .ref D)] B F X T hA hf hke (by omega) ?_)
  intro L' h₁ F' N' B' X' T'
  k_fold
  k_with_none
  k_with "call ref" => refine hold_ ?_
  k_steps
  refine PyProof.Rows.len_list (stays_list F'.keep hl) (by rw [List.size_toArray]; omega) ?_
  rw [List.size_toArray]
  rcases hpre with rfl | ⟨x, k, hx, hk, hkk⟩
  · k_steps
    exact leaveS_ F' fun st => hret _ _ _ rfl st
  · have hk1 := hk.keeps F'.keep
    have hl1 := stays_list F'.keep hl
    have hz0 : 0 < (vs.length : Int) := by
      have h1 : vs ≠ [] := fun z => by subst z; cases hx
      have := List.length_pos_iff.mpr h1
      omega
    k_with "subscriptTail Name UnaryOp ref int" => refine item_last hl1 (by omega) hx ?_
    k_with "getAttr ref" => first | (refine tok_kind (fun _ _ => ?_); dsimp only) | (refine tok_worth (fun _ _ => ?_); dsimp only)
    obtain ⟨kd, tx, ka⟩ := k
    dsimp only at hkk
    rcases hkk with rfl | rfl | ⟨rfl, rfl⟩
    all_goals k_steps
    all_goals exact leaveS_ (by assumption) fun st => hret _ _ _ (congrArg Value.bool (by decide +kernel)) st
theorem make_L {prog : Program} {w : World} {A : Around} {K : Frag} {C : Addr} {s : Shared} {h₀ : Heap} {L : Addr} {m : Str → Option Value} {R : Result → Shared → Prop} {rest : List Value} {fI : Addr} (F : Fr h₀ L s.heap m) (X : K.In s.heap) (hm : makesIn K C = true)
    (hi : findIn K (.ref C) "__init__" = some (some (.ref fI))) (hf : typeIn K (.ref fI) = some (.type "function"))
    (h : ∀ x dx h', s.heap.StaysIn h' → s.heap.get? x = none → s.heap.get? dx = none → Fr h₀ L h' m → News h₀ L h' [(x, instObj C dx), (dx, emptyDict)] → dx < x →
      codeAny (model prog w) (A.under (.builtin "type.__call__" ⟨.ref C :: rest, []⟩)) (.call (.ref fI) ⟨.ref x :: rest, []⟩) (InitBack x R) { s with heap := h' }) :
    codeAny (model prog w) A (.call (.ref C) ⟨rest, []⟩) R s := by
  obtain ⟨hh, g, d, t, os⟩ := s
  refine make_core (makes_of X hm) (looks_findIn X hi) (fun self => bind_fn X self hf) (.inl rfl) (h _ hh.objs.size _ (fun b o q => Heap.get?_push_of_some _ (Heap.get?_push_of_some _ q)) (Heap.get?_none_of_le (Nat.le_succ _)) (Heap.get?_none_of_le (Nat.le_refl _)) ((F.pushS _).pushS _) ?_ (Nat.lt_succ_self _))
  have := (News.nil.push F emptyDict).push (F.pushS _) (instObj C hh.objs.size)
  rwa [Heap.size_push] at this
/-- a Token just made -/
def TokNew (h h' : Heap) (x : Addr) (k : TK) (tp : Addr) : Prop :=
  ∃ dx es n t1 t2, h'.get? x = some (instObj 109 dx) ∧ h'.get? dx = some (dictOf es n) ∧ getL (Str.ofString "kind") es = some (some (.str k.kind t1)) ∧ getL (Str.ofString "worth") es = some (some (.str (S k.text) t2)) ∧ getL (Str.ofString "at") es = some (some (.ref tp)) ∧ h.get? x = none ∧ h.get? dx = none
set_option maxRecDepth 100000 in
set_option maxHeartbeats 8000000 in
theorem c_token (w : World) (kd : Str) (t : List Nat) (tp k : Nat) (b : Bool) (t1 t2 : Tok) :
    Gives w 109 [.str kd t1, .str (S t) t2, .ref tp, .bool b] 6 24 (fun h => PlaceAt h tp k) (fun h v h' => ∃ x, v = .ref x ∧ TokNew h h' x ⟨kd, t, k⟩ tp) := by
  intro A A₀ base h₀ env outer L m mg mb p loose s Q E B F X T hA hf hke hh hpre hd hu hret
  refine wpAny_call (make_L F (X.keeps F.keep) (by k_dflt k_is) (fI := 99) (by k_dflt k_is) (by k_dflt k_is) ?_)
  intro x dx h1 st0 hx0 hdx0 F1 N1 hlt
  replace hlt := ltN hlt
  refine enterN [(Str.ofString "self", .ref x), (Str.ofString "kind", .str kd t1), (Str.ofString "worth", .str (S t) t2), (Str.ofString "at", .ref tp), (Str.ofString "is_in_a", .bool b)] B F1 X T N1 hA hf hke (by rw [depth_under_make]; omega) ?_
  intro L' h₁ F' N' B' X' T' st₁
  k_fold
  k_with_none
  k_steps
  rename Fr _ _ _ _ => F2
  rename News _ _ _ _ => N2
  have stH : s.heap.StaysIn (hid h1 [(x, instObj 109 dx), (dx, emptyDict)]) := fun b o q => hideAll_get _ (st0 b o q) fun hm => by
    rcases List.mem_cons.mp hm with rfl | hm
    · rw [hx0] at q; cases q
    · rw [List.mem_singleton.mp hm, hdx0] at q; cases q
  exact leaveS_ F2 fun st => ⟨rfl, hret _ _ _ ⟨x, rfl, dx, _, _, _, _, (N2 _ (.head _)).1, (N2 _ (.tail _ (.head _))).1, rfl, rfl, rfl, hx0, hdx0⟩ fun b o q => st b o (stH b o q)⟩
section
variable {M : Model} {A : Around} {E E₄ : Value → Shared → Prop} {s' : Shared} {base g h B : Heap} {outer : List Env} {L a e dx k : Addr} {m : Str → Option Value} {name : Str} {scope : Scope} {cd : Value} {Z : Value → Shared → Prop}
theorem fly_back {env : Env} (hf : env.frame = some L) (H : Fly B (env :: outer) e dx (rawInt L) s'.heap) (hQ : ∀ h', Fly B (env :: outer) e dx (rawInt L) h' → s'.heap.UpToSlots h' → Z (.ref e) { s' with heap := h' }) : cameBackBy M A env Z (.ref e) s' := by
  have H₀ := H
  obtain ⟨hB, hen, hl, oe, vs, T, oT, ts, he, hc, hd, h1, hn, hTe, hT, hdT, h3⟩ := H
  unfold cameBackBy
  refine wpAny_bind (wpAny_field he hd h1 ?_)
  rw [if_neg (show ¬ ((Value.ref T == Value.none) = true) from by simp)]
  first
    | (refine wpAny_bind (wpAny_pure ?_); rw [hf]; exact fly_flight H₀ hQ)
    | (rw [hf]; exact fly_flight H₀ hQ)
/-- out of a loop and out of its def -/
theorem loop_out (K : Below A base outer g) (F : Fr g L h m) (H : Fly B (envOf name scope L a cd :: outer) e dx .none s'.heap) (hB : (hideAll h (frs (envOf name scope L a cd :: outer))).StaysIn B) (HF : FaultAt s'.heap dx k) (up : h.UpToSlots s'.heap)
    (hQ : ∀ h', Fly B outer e dx .none h' → (hideAll g (frs outer)).StaysIn B → FaultAt h' dx k → g.UpToSlots h' → Z (.ref e) { s' with heap := h' }) :
    notedBy M (A.deeper (envOf name scope L a cd)) (envOf name scope L a cd) (cameBackBy M (A.deeper (envOf name scope L a cd)) (envOf name scope L a cd)
      (fun e s' => wpAny M (A.deeper (envOf name scope L a cd)) (leaving (envOf name scope L a cd) e) (fun _ s'' => Z e s'') E s')) (.ref e) s' := by
  refine wpAny_mono (Q := fun _ s₁ => cameBackBy M (A.deeper (envOf name scope L a cd)) (envOf name scope L a cd)
      (fun e s' => wpAny M (A.deeper (envOf name scope L a cd)) (leaving (envOf name scope L a cd) e) (fun _ s'' => Z e s'') E s') (.ref e) s₁) (E := fun _ _ => False) (fly_note (Around.frames_deeper K.stack) rfl H fun h1 H1 up1 => ?_) (fun _ _ z => z) fun _ _ z => z.elim
  refine fly_back rfl H1 fun h2 H2 up2 => ?_
  refine fly_leave_held rfl H2 fun h3 H3 up3 => ?_
  refine hQ h3 H3 (fun b o q => hB b o (hid_over F (fun b hb => ?_) b o q)) (HF.slots ((up1.trans up2).trans up3)) (((((Heap.UpToSlots.of_keeps F.keep).trans up).trans up1).trans up2).trans up3)
  rcases List.mem_cons.mp hb with rfl | hb
  · exact .inr (Heap.get?_none_of_le F.above)
  · exact .inl hb
end
/-- what worth_at answers at a: a token and the place behind it, or a fault's place -/
inductive WA (l : List Nat) (a : Nat) : Except Nat (Str × List Nat × Nat) → Prop
  | lit {q e : Nat} {t : List Nat} : Lit l a q (some e) t → l[e]? ≠ some 65 → 1 ≤ t.length ∧ t.length ≤ 160 → WA l a (.ok (Str.ofString "literal", t, e))
  | open_ {q : Nat} {t : List Nat} : Lit l a q none t → WA l a (.error a)
  | near {q e : Nat} {t : List Nat} : Lit l a q (some e) t → l[e]? = some 65 → WA l a (.error e)
  | long {q e : Nat} {t : List Nat} : Lit l a q (some e) t → l[e]? ≠ some 65 → ¬ (1 ≤ t.length ∧ t.length ≤ 160) → WA l a (.error a)
  | word : l[a]? = some 65 → l[a + 1]? = some 32 → WA l a (.ok (Str.ofString "word", [65], a + 1))
  | dot : l[a]? = some 46 → l.length = a + 1 → WA l a (.ok (Str.ofString "sign", [46], a + 1))
theorem WA.good {l : List Nat} {a e : Nat} {kd : Str} {t : List Nat} (h : WA l a (.ok (kd, t, e))) : a < e ∧ e ≤ l.length ∧ (kd = Str.ofString "literal" ∨ kd = Str.ofString "sign" ∨ (kd = Str.ofString "word" ∧ t = [65])) := by
  cases h with
  | lit h _ _ => have := h.wide _ rfl; exact ⟨by omega, this.2, .inl rfl⟩
  | word h h2 => exact ⟨Nat.lt_succ_self _, by have := (List.getElem?_eq_some_iff.mp h).1; omega, .inr (.inr ⟨rfl, rfl⟩)⟩
  | dot h h2 => exact ⟨Nat.lt_succ_self _, by omega, .inr (.inl rfl)⟩
/-- how a line is read from a on -/
inductive Reads (l : List Nat) : Nat → List TK → Option Nat → Prop
  | stop {a : Nat} : l.length ≤ a → Reads l a [] none
  | skip {a : Nat} {ts : List TK} {r : Option Nat} : blankAt l a → Reads l (a + 1) ts r → Reads l a ts r
  | tok {a e : Nat} {kd : Str} {t : List Nat} {ts : List TK} {r : Option Nat} : ¬ blankAt l a → WA l a (.ok (kd, t, e)) → Reads l e ts r → Reads l a (⟨kd, t, a⟩ :: ts) r
  | bad {a k : Nat} : ¬ blankAt l a → WA l a (.error k) → Reads l a [] (some k)
def WRes (r : Except Nat (Str × List Nat × Nat)) (v : Value) (h' : Heap) : Prop := ∃ kd t e tp t1 t2 t3, r = .ok (kd, t, e) ∧ v = .ref tp ∧ IsTup h' tp #[.str kd t1, .str (S t) t2, .int (e : Int) t3]
/-- worth_at's contract -/
def WorthAt (w : World) (x pl : Addr) (l : List Nat) : Prop := ∀ (a : Nat) (ta : Tok) (r : Except Nat (Str × List Nat × Nat)), WA l a r → Outs w 221 [.ref x, .int (a : Int) ta] 20 120 (fun h => LineAt h x l pl ∧ PlacesAt h pl l.length) (fun _ v h' => WRes r v h') (fun k => r = .error k)
/-- a Token among the ledger's objects -/
def TokIn (g : Heap) (tl : List (Addr × Obj)) (x : Addr) (k : TK) : Prop :=
  ∃ dx es n t1 t2 tp, (x, instObj 109 dx) ∈ tl ∧ (dx, dictOf es n) ∈ tl ∧ getL (Str.ofString "kind") es = some (some (.str k.kind t1)) ∧ getL (Str.ofString "worth") es = some (some (.str (S k.text) t2)) ∧ getL (Str.ofString "at") es = some (some (.ref tp)) ∧ PlaceAt g tp k.at_
theorem TokIn.more {g : Heap} {tl tl' : List (Addr × Obj)} {x : Addr} {k : TK} (H : TokIn g tl x k) (hs : ∀ p ∈ tl, p ∈ tl') : TokIn g tl' x k :=
  let ⟨dx, es, n, t1, t2, tp, a, b, c, d, e, f⟩ := H; ⟨dx, es, n, t1, t2, tp, hs _ a, hs _ b, c, d, e, f⟩
theorem TokIn.here {g g0 h : Heap} {L : Addr} {tl tl' : List (Addr × Obj)} {x : Addr} {k : TK} (H : TokIn g0 tl x k) (N : News g L h tl') (hs : ∀ p ∈ tl, p ∈ tl') (st : g0.StaysIn h) : TokAt h x k :=
  let ⟨dx, es, n, t1, t2, tp, a, b, c, d, e, f⟩ := H; ⟨dx, es, n, t1, t2, tp, (N _ (hs _ a)).1, (N _ (hs _ b)).1, c, d, e, f.keeps st⟩
def Toks (g : Heap) (tl : List (Addr × Obj)) (vs : List Value) (ks : List TK) : Prop := vs.length = ks.length ∧ ∀ (i : Nat) (k : TK), ks[i]? = some k → ∃ x, vs[i]? = some (.ref x) ∧ TokIn g tl x k
theorem Toks.push {g : Heap} {tl tl' : List (Addr × Obj)} {vs : List Value} {ks : List TK} {x : Addr} {k : TK} (H : Toks g tl vs ks) (hs : ∀ p ∈ tl, p ∈ tl') (hx : TokIn g tl' x k) : Toks g tl' (vs ++ [.ref x]) (ks ++ [k]) := by
  refine ⟨by simp [H.1], fun i k' hk => ?_⟩
  rcases Nat.lt_trichotomy i ks.length with hi | hi | hi
  · rw [List.getElem?_append_left hi] at hk
    obtain ⟨y, a, b⟩ := H.2 i k' hk
    exact ⟨y, by rw [List.getElem?_append_left (by rw [H.1]; exact hi)]; exact a, b.more hs⟩
  · subst hi
    simp at hk; subst hk
    exact ⟨x, by rw [← H.1]; simp, hx⟩
  · rw [List.getElem?_eq_none (by simp; omega)] at hk; cases hk
theorem canon4 {m : Str → Option Value} {a b c d : Str} {va vb vc vd : Value} (h1 : m a = some va) (h2 : m b = some vb) (h3 : m c = some vc) (h4 : m d = some vd) :
    ∀ y, m y = (if y = a then some va else if y = b then some vb else if y = c then some vc else if y = d then some vd else m y) := by
  intro y
  by_cases q : y = a
  · rw [if_pos q, q, h1]
  · rw [if_neg q]
    by_cases q : y = b
    · rw [if_pos q, q, h2]
    · rw [if_neg q]
      by_cases q : y = c
      · rw [if_pos q, q, h3]
      · rw [if_neg q]
        by_cases q : y = d
        · rw [if_pos q, q, h4]
        · rw [if_neg q]
theorem news_add {g h h2 : Heap} {L b : Addr} {o : Obj} {m : Str → Option Value} {news : List (Addr × Obj)} (F : Fr g L h m) (N : News g L h2 news) (ho : h2.get? b = some o) (hn : h.get? b = none) : News g L h2 ((b, o) :: news) := fun q hq => by
  rcases List.mem_cons.mp hq with rfl | hq
  · refine ⟨ho, fun z => ?_, none_of F.keep hn⟩
    obtain ⟨oL, _, _, hL, _⟩ := F.ns
    have z' : b = L := z
    rw [z', hL] at hn; cases hn
  · exact N q hq
theorem news_add2 {g h h2 : Heap} {L D x d : Addr} {o ox od : Obj} {m : Str → Option Value} {tl : List (Addr × Obj)} (F : Fr g L h m) (N : News g L h2 ((D, o) :: tl)) (hx : h2.get? x = some ox) (hxn : h.get? x = none) (hd : h2.get? d = some od) (hdn : h.get? d = none) :
    News g L h2 ((D, o) :: (x, ox) :: (d, od) :: tl) := fun q hq => by
  have := news_add F (news_add F N hd hdn) hx hxn
  refine this q ?_
  rcases List.mem_cons.mp hq with rfl | hq
  · exact .tail _ (.tail _ (.head _))
  · rcases List.mem_cons.mp hq with rfl | hq
    · exact .head _
    · rcases List.mem_cons.mp hq with rfl | hq
      · exact .tail _ (.head _)
      · exact .tail _ (.tail _ (.tail _ hq))
/-- the state between two turns of add_tokens -/
structure AT where
  a : Nat
  vs : List Value
  tl : List (Addr × Obj)
  dn : List TK
  rest : List TK
structure AT.Is (s : AT) (g g0 : Heap) (L D x : Addr) (l : List Nat) (ts : List TK) (r : Option Nat) (h : Heap) : Prop where
  frame : ∃ m t, Fr g L h m ∧ m (Str.ofString "at") = some (.int (s.a : Int) t) ∧ m (Str.ofString "was_is") = some (.bool false) ∧ m (Str.ofString "tokens") = some (.ref D) ∧ m (Str.ofString "line") = some (.ref x)
  news : ∃ c, News g L h ((D, listOf s.vs.toArray c) :: s.tl)
  toks : Toks g0 s.tl s.vs s.dn
  last : s.dn = [] ∨ ∃ k, s.dn.getLast? = some k ∧ (k.kind = Str.ofString "literal" ∨ k.kind = Str.ofString "sign" ∨ (k.kind = Str.ofString "word" ∧ k.text = [65]))
  reads : Reads l s.a s.rest r
  all : s.dn ++ s.rest = ts
  few : s.vs.length ≤ s.a
  apart : ∀ p ∈ s.tl, p.1 ≠ D
theorem WA.lt {l : List Nat} {a : Nat} {r : Except Nat (Str × List Nat × Nat)} (h : WA l a r) : a < l.length := by
  have lt : ∀ {c : Nat}, l[a]? = some c → a < l.length := fun q => (List.getElem?_eq_some_iff.mp q).1
  cases h with
  | lit h => exact lt h.sign
  | open_ h => exact lt h.sign
  | near h => exact lt h.sign
  | long h => exact lt h.sign
  | word h => exact lt h
  | dot h => exact lt h
theorem blank_lt {l : List Nat} {a : Nat} (h : blankAt l a) : a < l.length := by
  rcases h with h | ⟨h | h, _⟩ <;> exact (List.getElem?_eq_some_iff.mp h).1
theorem Reads.blank {l : List Nat} {a : Nat} {ts : List TK} {r : Option Nat} (h : Reads l a ts r) (hb : blankAt l a) : Reads l (a + 1) ts r := by
  cases h with
  | stop h => exact absurd (blank_lt hb) (Nat.not_lt.mpr h)
  | skip _ h => exact h
  | tok n => exact absurd hb n
  | bad n => exact absurd hb n
theorem Reads.sign {l : List Nat} {a : Nat} {ts : List TK} {r : Option Nat} (h : Reads l a ts r) (ha : a < l.length) (hb : ¬ blankAt l a) :
    ∃ R, WA l a R ∧ ((∃ kd t e ts', R = .ok (kd, t, e) ∧ ts = ⟨kd, t, a⟩ :: ts' ∧ Reads l e ts' r) ∨ (∃ k, R = .error k ∧ r = some k)) := by
  cases h with
  | stop h => exact absurd ha (Nat.not_lt.mpr h)
  | skip h => exact absurd h hb
  | tok _ h1 h2 => exact ⟨_, h1, .inl ⟨_, _, _, _, rfl, rfl, h2⟩⟩
  | bad _ h => exact ⟨_, h, .inr ⟨_, rfl, rfl⟩⟩
theorem Reads.over {l : List Nat} {a : Nat} {ts : List TK} {r : Option Nat} (h : Reads l a ts r) (ha : ¬ a < l.length) : ts = [] ∧ r = none := by
  cases h with
  | stop h => exact ⟨rfl, rfl⟩
  | skip h => exact absurd (blank_lt h) ha
  | tok _ h => exact absurd h.lt ha
  | bad _ h => exact absurd h.lt ha
theorem Toks.noPic {g g0 h : Heap} {L : Addr} {tl tl' : List (Addr × Obj)} {vs : List Value} {ks : List TK} (H : Toks g0 tl vs ks) (hz : vs.length < 1000)
    (hlast : ks = [] ∨ ∃ k, ks.getLast? = some k ∧ (k.kind = Str.ofString "literal" ∨ k.kind = Str.ofString "sign" ∨ (k.kind = Str.ofString "word" ∧ k.text = [65]))) (N : News g L h tl') (hs : ∀ p ∈ tl, p ∈ tl') (st : g0.StaysIn h) : NoPic h vs := by
  refine ⟨hz, hlast.imp (fun q => ?_) fun ⟨k, hk, hkk⟩ => ?_⟩
  · subst q; exact List.length_eq_zero_iff.mp H.1
  · rw [List.getLast?_eq_getElem?] at hk
    obtain ⟨x, hx, hi⟩ := H.2 _ _ hk
    exact ⟨x, k, by rw [List.getLast?_eq_getElem?, H.1]; exact hx, hi.here N hs st, hkk⟩
set_option maxRecDepth 100000 in
set_option maxHeartbeats 8000000 in
theorem c_add_tokens (w : World) (g0 : Heap) (D x pl c : Addr) (l : List Nat) (ts : List TK) (r : Option Nat) (hl : l.length < 1000) (hW : WorthAt w x pl l) (hR : Reads l 0 ts r)
    {A A₀ : Around} {base h₀ : Heap} {env : Env} {outer : List Env} {L : Addr} {m mg mb : Str → Option Value} {p : Program} {loose : List Str} {s : Shared} {Q E : Value → Shared → Prop}
    (B : Below A₀ base outer h₀) (F : Fr h₀ L s.heap m) (X : (Mine.kmaker.heap_39 w.params).In h₀) (T : TopRead p loose mg mb h₀) (N : News h₀ L s.heap [(D, listOf #[] c)]) (hA : A.frames = some (env :: outer)) (hf : env.frame = some L) (hke : env.scope.kind = .function) (hh : A.handled = none)
    (hpre : LineAt (hid s.heap [(D, listOf #[] c)]) x l pl ∧ PlacesAt g0 pl l.length ∧ g0.StaysIn (hid s.heap [(D, listOf #[] c)]))
    (hd : A.depth + 30 < recursionLimit) (hu : A.units + 200 < cLine)
    (hret : ∀ h' tk' vs c' tl, r = none → h'.get? D = some (listOf vs.toArray c') → Toks g0 tl vs ts → (∀ p ∈ tl, h'.get? p.1 = some p.2 ∧ (hid s.heap [(D, listOf #[] c)]).get? p.1 = none) → (hid s.heap [(D, listOf #[] c)]).StaysIn h' → Q .none { s with heap := h', toks := tk' })
    (hbad : ∀ k B e dx h' tk', r = some k → Fly B (env :: outer) e dx .none h' → (hideAll (hid s.heap [(D, listOf #[] c)]) (frs (env :: outer))).StaysIn B → FaultAt h' dx k → (hid s.heap [(D, listOf #[] c)]).UpToSlots h' → E (.ref e) { s with heap := h', toks := tk' }) :
    wpAny (model PG w) A (call (.ref 242) [.ref D, .ref x]) Q E s := by
  refine wpAny_call (enterN [(Str.ofString "tokens", .ref D), (Str.ofString "line", .ref x)] B F X T N hA hf hke (by omega) ?_)
  intro L' h₁ F' N' B' X' T' st₁
  obtain ⟨g, hg⟩ : ∃ g, g = hid s.heap [(D, listOf #[] c)] := ⟨_, rfl⟩
  rw [← hg] at hpre hret hbad F' N' B' X' T' ⊢
  obtain ⟨hL, hP0, hg0⟩ := hpre
  k_fold
  have hP := hP0.keeps hg0
  k_with_none
  k_with "call ref" => refine hold_ ?_
  k_with "call builtin:list.append" => refine hold_ ?_
  k_with "exec While Compare cons nil" => refine wpAny_While ?_
  k_steps
  rename Fr _ _ _ _ => F1
  rename News _ _ _ _ => N1
  have hSl := S_len l
  refine while_by (fun st : AT => l.length + 1 - st.a) (fun st h => st.Is g g0 L' D x l ts r h) (fun st h tk P IH => ?_) ⟨0, [], [], [], ts⟩ _ _
    { frame := ⟨_, _, F1, rfl, rfl, rfl, rfl⟩, news := ⟨c, N1⟩, toks := ⟨rfl, fun i k hk => by simp at hk⟩, last := .inl rfl, reads := hR, all := rfl, few := Nat.le_refl _, apart := fun p hp => nomatch hp }
  clear F1 N1
  obtain ⟨⟨m', tt, F1, hm1, hm2, hm3, hm4⟩, ⟨c1, N1⟩, hT, hlast, hrd, hall, hfew, hap⟩ := P
  have F2 := Fr.congr F1 (canon4 hm1 hm2 hm3 hm4)
  clear F1 hm1 hm2 hm3 hm4
  obtain ⟨a, vs, tl, dn, rest⟩ := st
  dsimp only at F2 N1 hT hlast hrd hall hfew hap IH
  k_steps
  · have ha : a < l.length := by omega
    refine Hold.go (Gives.use (c_blank w l a _ _ _ hl rfl ha) trivial ?_)
    rintro _ h2 tk2 rfl st2 F3 N3
    clear F2 N1
    by_cases hb : blankAt l a
    · rw [decide_eq_true hb]
      k_steps
      dsimp only
      k_steps
      rename Fr _ _ _ _ => F4
      rename News _ _ _ _ => N4
      exact IH ⟨a + 1, vs, tl, dn, rest⟩ _ _ (by dsimp only; omega) { frame := ⟨_, _, F4, rfl, rfl, rfl, rfl⟩, news := ⟨_, N4⟩, toks := hT, last := hlast, reads := hrd.blank hb, all := hall, few := Nat.le_succ_of_le hfew, apart := hap }
    · rw [decide_eq_false hb]
      obtain ⟨vp, hPl0, hPn, hPk⟩ := id hP0
      have hPl := stays_list hg0 hPl0
      obtain ⟨tp, htp, hpl0⟩ := hPk a ha
      have hpl := hpl0.keeps hg0
      k_steps
      refine PyProof.Rows.item_list (stays_list F3.keep hPl) (by omega) (by omega) (by simpa using htp) ?_
      k_steps
      rename Fr _ _ _ _ => F4
      rename News _ _ _ _ => N4
      refine Hold.go (Gives.use (c_picture_next w D vs) ⟨⟨_, (N4 _ (.head _)).1, rfl, _, rfl⟩, hT.noPic (by omega) hlast N4 (fun p hp => .tail _ hp) (fun b o q => F4.keep _ _ (hg0 b o q))⟩ ?_)
      rintro _ h5 tk5 rfl st5 F5 N5
      k_steps
      rename Fr _ _ _ _ => F6
      rename News _ _ _ _ => N6
      refine Hold.go (Gives.use (c_picture_next w D vs) ⟨⟨_, (N6 _ (.head _)).1, rfl, _, rfl⟩, hT.noPic (by omega) hlast N6 (fun p hp => .tail _ hp) (fun b o q => F6.keep _ _ (hg0 b o q))⟩ ?_)
      rintro _ h7 tk7 rfl st7 F7 N7
      k_steps
      obtain ⟨R, hWA, hcase⟩ := hrd.sign ha hb
      refine Hold.go (Outs.use (hW a _ R hWA) ⟨hL.keeps F7.keep, hP.keeps F7.keep⟩ ?_ ?_)
      · rintro _ h8 tk8 ⟨kd, t, e, tpw, t1, t2, t3, rfl, rfl, hit⟩ st8 F8 N8
        obtain ⟨rest', rfl, hrd'⟩ : ∃ ts', rest = ⟨kd, t, a⟩ :: ts' ∧ Reads l e ts' r := by
          rcases hcase with ⟨kd', t', e', ts', hq, hq2, hq3⟩ | ⟨k, hq, _⟩
          · cases hq; exact ⟨_, hq2, hq3⟩
          · cases hq
        obtain ⟨hae, hel, hgood⟩ := hWA.good
        k_steps
        refine unpackN_ F8 N8 hit hh rfl rfl (fun h9 F9 N9 => ?_)
        clear hcase
        k_steps
        rename Fr _ _ _ _ => F10
        rename News _ _ _ _ => N10
        obtain ⟨ta, tb, hplt⟩ := id hpl
        refine item_tuple (j := 1) (x := .int (12 + (a : Int)) tb) (hplt.keeps F10.keep) (by omega) (by omega) rfl rfl ?_
        have h8 : (8 : Int) ≤ 12 + (a : Int) := by omega
        have h11 : ¬ 12 + (a : Int) ≤ 11 := by omega
        k_steps
        rename Fr _ _ _ _ => F11
        rename News _ _ _ _ => N11
        refine Hold.go (Gives.use (c_token w kd t tp a _ t1 t2) (hpl.keeps F11.keep) ?_)
        rintro _ h12 tk12 ⟨xT, rfl, dT, eT, nT, u1, u2, g1, g2, g3, g4, g5, g7, g8⟩ st12 F12 N12
        have N13 := news_add2 F11 N12 g1 g7 g2 g8
        have hTI : TokIn g0 ((xT, instObj 109 dT) :: (dT, dictOf eT nT) :: tl) xT ⟨kd, t, a⟩ := ⟨dT, eT, nT, u1, u2, tp, .head _, .tail _ (.head _), g3, g4, g5, hpl0⟩
        have hap2 : ∀ p ∈ ((xT, instObj 109 dT) :: (dT, dictOf eT nT) :: tl), p.1 ≠ D := fun p hp z => by
          have hDh := (N11 _ (.head _)).1
          rcases List.mem_cons.mp hp with rfl | hp
          · have z' : xT = D := z
            rw [← z', g7] at hDh; cases hDh
          · rcases List.mem_cons.mp hp with rfl | hp
            · have z' : dT = D := z
              rw [← z', g8] at hDh; cases hDh
            · exact hap p hp z
        clear g1 g2 g3 g4 g5 g7 g8 N12 F11 N11 hplt h8 h11
        have hsub : ∀ p ∈ tl, p ∈ ((xT, instObj 109 dT) :: (dT, dictOf eT nT) :: tl) := fun p hp => .tail _ (.tail _ hp)
        generalize htl2 : ((xT, instObj 109 dT) :: (dT, dictOf eT nT) :: tl) = tl2 at N13 hTI hap2 hsub
        clear htl2
        k_steps
        refine Hold.go (append_K F12 N13 (Upd.head hap2) (fun h14 F14 N14 => ?_) (by rw [List.size_toArray, sizeLine_eq]; omega))
        rw [List.push_toArray] at N14
        clear F12 N13
        k_steps
        rename Fr _ _ _ _ => F15
        rename News _ _ _ _ => N15
        exact IH ⟨e, vs ++ [.ref xT], tl2, dn ++ [⟨kd, t, a⟩], rest'⟩ _ _ (by dsimp only; omega)
          { frame := ⟨_, _, F15, rfl, rfl, rfl, rfl⟩, news := ⟨_, N15⟩, toks := hT.push hsub hTI, last := .inr ⟨_, List.getLast?_concat .., hgood⟩, reads := hrd', all := by rw [← hall, List.append_assoc]; rfl, few := by rw [List.length_append]; simp only [List.length_singleton]; omega, apart := hap2 }
      · rintro k B₂ e' dx h8 tk8 rfl H hB HF up
        have hr : r = some k := by
          rcases hcase with ⟨kd', t', e', ts', hq, _⟩ | ⟨k', hq, hq2⟩
          · cases hq
          · cases hq; exact hq2
        exact loop_out B' F7 H hB HF up fun h9 H9 hB9 HF9 up9 => hbad k B₂ e' dx h9 _ hr H9 hB9 HF9 up9
  · obtain ⟨rfl, hr⟩ := hrd.over (by omega)
    have hz : dn = ts := by rw [← hall, List.append_nil]
    subst hz
    exact leaveS_ F2 fun st => hret h _ vs c1 tl hr (N1 _ (.head _)).1 hT (fun p hp => ⟨(N1 p (.tail _ hp)).1, (N1 p (.tail _ hp)).2.2⟩) st
/-- tokens just made, in a heap that stood as `g` before -/
def ToksNew (g h : Heap) (vs : List Value) (ks : List TK) : Prop := ∃ tl, Toks g tl vs ks ∧ ∀ p ∈ tl, h.get? p.1 = some p.2 ∧ g.get? p.1 = none
/-- between the turns of tokens_of's loop -/
def TO (g : Heap) (L D it l0 : Addr) (ts : List TK) (r : Option Nat) (n : Nat) (h : Heap) : Prop :=
  (∃ m, Fr g L h m ∧ m (Str.ofString "tokens") = some (.ref D)) ∧ it ≠ L ∧ it ≠ D ∧ g.get? it = none ∧ D ≠ L ∧ g.get? D = none ∧
    ((n = 1 ∧ (∃ c, h.get? D = some (listOf #[] c)) ∧ h.IsListIter it l0 0) ∨ (n = 0 ∧ r = none ∧ (∃ vs c tl, h.get? D = some (listOf vs.toArray c) ∧ Toks g tl vs ts ∧ ∀ p ∈ tl, (h.get? p.1 = some p.2 ∧ g.get? p.1 = none) ∧ p.1 ≠ it) ∧ h.IsListIter it l0 1))
theorem Fr.staysHid {g h h' : Heap} {L D : Addr} {o : Obj} {m : Str → Option Value} (F : Fr g L h m) (hD : D ≠ L) (hg : g.get? D = none) (st : (hid h [(D, o)]).StaysIn h') : Fr g L h' m := by
  obtain ⟨⟨oL, a1, a2, hL, a3⟩, f2, f3⟩ := F
  exact ⟨⟨oL, a1, a2, st _ _ (hideAll_get _ hL fun z => hD (List.mem_singleton.mp z).symm), a3⟩, fun b ob e => st _ _ (hideAll_get _ (f2 b ob e) fun z => by rw [List.mem_singleton.mp z] at e; rw [show g.get? D = some ob from e] at hg; cases hg), f3⟩
theorem canon1 {m : Str → Option Value} {a : Str} {va : Value} (h1 : m a = some va) : ∀ y, m y = (if y = a then some va else m y) := by
  intro y
  by_cases q : y = a
  · rw [if_pos q, q, h1]
  · rw [if_neg q]
set_option maxRecDepth 100000 in
set_option maxHeartbeats 8000000 in
theorem c_tokens_of (w : World) (x pl l0 : Addr) (l : List Nat) (ts : List TK) (r : Option Nat) (hl : l.length < 1000) (hW : WorthAt w x pl l) (hR : Reads l 0 ts r) :
    Outs w 256 [.ref l0] 40 300 (fun h => h.IsList l0 #[.ref x] ∧ LineAt h x l pl ∧ PlacesAt h pl l.length) (fun _h v h' => r = none ∧ ∃ D vs c, v = .ref D ∧ h'.get? D = some (listOf vs.toArray c) ∧ _h.get? D = none ∧ ToksNew _h h' vs ts) (fun k => r = some k) := by
  intro A A₀ base h₀ env outer L m mg mb p loose s Q E B F X T hA hf hke hh hpre hd hu hret hbad
  obtain ⟨hl0, hL, hP⟩ := hpre
  refine wpAny_call (enterS [(Str.ofString "lines", .ref l0)] B F X T hA hf hke (by omega) ?_)
  intro L' h₁ F' N' B' X' T'
  k_fold
  k_with_none
  k_with "call ref" => refine hold_ ?_
  k_with "exec For Name Name cons nil" => refine hold_ ?_
  k_steps
  rename_i D hA0 _ hB0 F1 N1
  k_with "pyIter ref" => refine hold_ ?_
  refine Hold.go (wpAny_For ?_)
  k_steps
  refine Hold.go (wpAny_pyIter_list (stays_list F1.keep hl0) ?_)
  refine codeAny_forLoop (fun n s' => ∃ h tk, s' = { s with heap := h, toks := tk } ∧ TO s.heap L' D hB0.objs.size l0 ts r n h) (fun n s' I => ?_) 1 ⟨_, _, rfl, ⟨_, F1.pushS _, rfl⟩, Nat.ne_of_gt F1.ns.lt, Nat.ne_of_gt (Heap.lt_size (N1 _ (.head _)).1), none_of F1.keep (Heap.get?_none_of_le (Nat.le_refl _)), (N1 _ (.head _)).2.1, (N1 _ (.head _)).2.2, .inl ⟨rfl, ⟨0, Heap.get?_push_of_some _ (N1 _ (.head _)).1⟩, ⟨_, Heap.get?_push_size _ rfl, rfl, rfl⟩⟩⟩
  generalize hB0.objs.size = it at I
  clear F1 N1
  obtain ⟨h, tk', rfl, ⟨m', Fm, hmt⟩, hi1, hi2, hi3, hD1, hD2, ⟨rfl, ⟨c, hDo⟩, hit⟩ | ⟨rfl, hr, ⟨vs, c, tl, hDo, hT, htl⟩, hit⟩⟩ := I
  · refine wpAny_pyNext_list_item (x := .ref x) hit (stays_list Fm.keep hl0) rfl (fun h1 hit1 hs1 => ?_)
    obtain ⟨oi, hoi, hci, hdi⟩ := hit1
    have N2 : News s.heap L' h1 [(D, listOf #[] c), (it, oi)] := fun q hq => by
      rcases List.mem_cons.mp hq with rfl | hq
      · exact ⟨(hs1.2 D (Ne.symm hi2)).trans hDo, hD1, hD2⟩
      · obtain rfl := List.mem_singleton.mp hq
        exact ⟨hoi, hi1, hi3⟩
    have F2 := Fr.congr (Fm.change hs1 hi1 hi3) (canon1 hmt)
    dsimp only
    refine wpAny_assign_Name (stN F2 N2 (fun h3 F3 N3 => ?_) rfl rfl)
    clear F2 N2 Fm
    dsimp only
    k_steps
    have hDn : ∀ b o, s.heap.get? b = some o → b ∉ [D] := fun b o q z => by rw [List.mem_singleton.mp z, hD2] at q; cases q
    have stH : s.heap.StaysIn (hid h3 [(D, listOf #[] c)]) := fun b o q => hideAll_get _ (F3.keep _ _ q) (hDn b o q)
    refine Hold.go (c_add_tokens w s.heap D x pl c l ts r hl hW hR B' F3 X' T' (fun q hq => N3 q (by rw [List.mem_singleton.mp hq]; exact .head _)) (Around.frames_deeper B'.stack) rfl rfl hh ⟨hL.keeps stH, hP, stH⟩ (by simp only [depth_deeper]; omega) (by simp only [units_deeper]; omega) ?_ ?_)
    · intro h4 tk4 vs c4 tl hr hDv hTk htl st4
      have F4 := Fr.staysHid F3 hD1 hD2 st4
      have hoi4 : h4.get? it = some oi := st4 _ _ (hideAll_get _ (N3 _ (.tail _ (.head _))).1 fun z => hi2 (List.mem_singleton.mp z))
      have N4 : News s.heap L' h4 [] := News.nil
      have htl2 : ∀ p ∈ tl, (h4.get? p.1 = some p.2 ∧ s.heap.get? p.1 = none) ∧ p.1 ≠ it := fun p hp => ⟨⟨(htl p hp).1, none_of stH (htl p hp).2⟩, fun z => by
        have q := (htl p hp).2
        rw [z] at q
        have q2 : (hideAll h3 [D]).get? it = some oi := hideAll_get _ (N3 _ (.tail _ (.head _))).1 fun z => hi2 (List.mem_singleton.mp z)
        exact nomatch q.symm.trans q2⟩
      clear F3 N3
      k_steps
      · exact Nat.zero_lt_one
      · exact ⟨⟨_, F4, rfl⟩, hi1, hi2, hi3, hD1, hD2, .inr ⟨rfl, hr, ⟨vs, c4, tl, hDv, hTk, htl2⟩, ⟨oi, hoi4, hci, hdi⟩⟩⟩
    · intro k B₂ e dx h4 tk4 hr H hB HF up
      exact loop_out B' (Fr.staysHid F3 hD1 hD2 (fun _ _ q => q)) H hB HF up fun h9 H9 hB9 HF9 up9 => hbad k B₂ e dx h9 _ hr H9 hB9 HF9 up9
  · refine wpAny_pyNext_list_end hh hit (stays_list Fm.keep hl0) rfl (fun h1 he1 => ?_)
    have F2 := Fr.congr (Fr.butE Fm hi3 hi1 he1) (canon1 hmt)
    have N2 : News s.heap L' h1 [] := News.nil
    dsimp only
    k_steps
    dsimp only
    k_steps
    exact leaveS_ F2 fun st => hret _ _ _ ⟨hr, D, vs, c, rfl, he1 _ _ (Ne.symm hi2) hDo, hD2, tl, hT, fun p hp => ⟨he1 _ _ (htl p hp).2 (htl p hp).1.1, (htl p hp).1.2⟩⟩ st
set_option maxRecDepth 100000 in
set_option maxHeartbeats 8000000 in
theorem c_line (w : World) (l : List Nat) (pl : Addr) (t1 : Tok) :
    Gives w 38 [.str (S l) t1, .ref pl] 6 24 (fun _ => True) (fun h v h' => ∃ x dx es n t, v = .ref x ∧ h'.get? x = some (instObj 38 dx) ∧ h'.get? dx = some (dictOf es n) ∧ getL (Str.ofString "text") es = some (some (.str (S l) t)) ∧ getL (Str.ofString "places") es = some (some (.ref pl)) ∧ h.get? x = none ∧ h.get? dx = none) := by
  intro A A₀ base h₀ env outer L m mg mb p loose s Q E B F X T hA hf hke hh hpre hd hu hret
  refine wpAny_call (make_L F (X.keeps F.keep) (by k_dflt k_is) (fI := 28) (by k_dflt k_is) (by k_dflt k_is) ?_)
  intro x dx h1 st0 hx0 hdx0 F1 N1 hlt
  replace hlt := ltN hlt
  refine enterN [(Str.ofString "self", .ref x), (Str.ofString "text", .str (S l) t1), (Str.ofString "spots", .ref pl)] B F1 X T N1 hA hf hke (by rw [depth_under_make]; omega) ?_
  intro L' h₁ F' N' B' X' T' st₁
  k_fold
  k_with_none
  k_steps
  rename Fr _ _ _ _ => F2
  rename News _ _ _ _ => N2
  have stH : s.heap.StaysIn (hid h1 [(x, instObj 38 dx), (dx, emptyDict)]) := fun b o q => hideAll_get _ (st0 b o q) fun hm => by
    rcases List.mem_cons.mp hm with rfl | hm
    · rw [hx0] at q; cases q
    · rw [List.mem_singleton.mp hm, hdx0] at q; cases q
  exact leaveS_ F2 fun st => ⟨rfl, hret _ _ _ ⟨x, dx, _, _, _, rfl, (N2 _ (.head _)).1, (N2 _ (.tail _ (.head _))).1, rfl, rfl, hx0, hdx0⟩ fun b o q => st b o (stH b o q)⟩
section
variable {prog : Program} {w : World} {A : Around} {E : Value → Shared → Prop} {h : Heap} {g : Array GenState} {d : Drawn} {t : Nat} {os : OsState} {e dx tp : Addr} {oe od : Obj} {vs : Array Value} {mA : Str → Option Value} {expr : Bool} {Q : Value → Shared → Prop}
theorem tf_get (X : (Mine.kmaker.heap_39 w.params).In h) (he : h.get? e = some oe) (hc : oe.cls = .ref 81) (hdx : oe.dict = some dx) (hd : oe.data = .fields vs) (hn : h.Ns1 dx mA) (ha : mA (Str.ofString "at") = some (.ref tp))
    (hq : Q (.ref tp) ⟨h, g, d, t + 1, os⟩) : wpAny (model prog w) A (getAttr (.ref e) (Str.ofString "at") expr) Q E ⟨h, g, d, t, os⟩ := by
  obtain ⟨od, es, ep, ho, hes, _, _, hfind⟩ := hn
  have I : InstAt h e oe 81 (some od) := ⟨he, hc, by rw [notCls, hd], by rw [hdx]; exact ho⟩
  have hl : lookIn (Str.ofString "at") od = some (some (.ref tp)) := by
    have hf : (es.find? fun x => x.key.isStr (Str.ofString "at")).map (·.val) = some (.ref tp) := (hfind (Str.ofString "at")).trans ha
    obtain ⟨x, hx, hv⟩ := Option.map_eq_some_iff.mp hf
    have hx' : es.toList.find? (fun x => x.key.isStr (Str.ofString "at")) = some x := by rw [← hx]; cases es; simp
    have hv' : x.val = .ref tp := hv
    unfold lookIn
    rw [hes]
    dsimp only
    rw [hx', ← hv']
  have L0 := I.type (M := model prog w)
  have L1 := looks_find (M := model prog w) X I (findObj_own (attr := none) (by k_dflt k_is) (by k_dflt k_is) (by k_dflt k_is) hl)
  have GA : Looks (model prog w) h (typeLookup (.ref 81) "__getattribute__") (some (.builtin "BaseException.__getattribute__")) := looks_findIn X (by k_dflt k_is)
  have G2 : Looks (model prog w) h (typeLookup (.ref 81) "__getattr__") none := looks_findIn X (by k_dflt k_is)
  have hx0 : (expr && onTheHeap (Value.builtin "BaseException.__getattribute__")) = false := by cases expr <;> rfl
  have FB := PySem.F.attrBase_Exception
  have f3 := FB.ga.bind (.ref e)
  obtain ⟨nm, q, bs, sn, sub, col, dd, k0, k1, k2, k3, k5, hC⟩ := tf_of X
  have hcB : (Value.ref 81 :: tfTail).contains (.type "BaseException") = true := by decide
  unfold getAttr
  repeat (any_goals (first | assumption | (with_reducible refine wpAny_bind (L0.at ?_)) | (with_reducible refine wpAny_bind (GA.at ?_)) | (with_reducible refine wpAny_bind (G2.at ?_)) | with_reducible refine G2.at ?_ | wp_step))
  have chk : ∀ (A : Around) (nameV : Value) (E : Value → Shared → Prop) (Q : Unit → Shared → Prop) (t : Nat), Q () ⟨h, g, d, t, os⟩ → wpAny (model prog w) A (checkBuiltinCall "BaseException.__getattribute__" ⟨[.ref e, nameV], []⟩) Q E ⟨h, g, d, t, os⟩ := by
    intro A nameV E Q t hq
    have hk : builtinKind "BaseException.__getattribute__" = some .slot := by decide +kernel
    have hsplit : splitId "BaseException.__getattribute__" = some ("BaseException", "__getattribute__") := by decide +kernel
    have ha := PySem.F.args_bexc_ga (.ref e) nameV
    simp only [checkBuiltinCall, hk, hsplit]
    refine wpAny_bind ?_
    unfold isInstance
    repeat (first | (with_reducible refine wpAny_loadPart_at he ?_; rw [hc]) | (with_reducible refine wpAny_isSubtype_exc hC ?_; rw [hcB]) | wp_step)
    exact hq
  refine codeAny_call_builtin FB.ga.plain PySem.F.entry_bexc_ga (chk _ _ _ _ _ ?_)
  unfold Builtin.«object.__getattribute__»
  repeat (any_goals (first | (with_reducible refine wpAny_bind (L0.at ?_)) | (with_reducible refine wpAny_bind (L1.at ?_)) | wp_step))
  exact hq
end
/-- a fault stands there -/
def IsTF (h : Heap) (e : Addr) : Prop := ∃ oe, h.get? e = some oe ∧ oe.cls = .ref 81
section
variable {prog : Program} {w : World} {A : Around} {E : Value → Shared → Prop} {s : Shared} {env : Env}
theorem handle_tf {e : Addr} {t : Expr} {n : Str} {b₀ : Stmt} {suite : List Stmt} {pos : Pos} {rest : List ExceptHandler} {Q : Flow → Shared → Prop}
    (h : ∀ E₁ : Value → Shared → Prop, wpAny (model prog w) (A.mark (some (.ref e))) (eval t env) (fun c s₁ => c = .ref 81 ∧ TF s₁.heap ∧ IsTF s₁.heap e ∧
      ∀ E₂ : Value → Shared → Prop, wpAny (model prog w) (A.mark (some (.ref e))) (setFlight (.ref e) none) (fun _ s₂ =>
          ∀ E₃ : Value → Shared → Prop, wpAny (model prog w) (A.mark (some (.ref e))) (storeName env n (.ref e)) (fun _ s₃ =>
            ∀ E₄ : Value → Shared → Prop, wpAny (model prog w) (A.mark (some (.ref e))) (execs (b₀ :: suite) env)
              (fun f s₄ => wpAny (model prog w) A (do bindName env n .none; unbindBehindTheSuite env n pos) (fun _ s₅ => Q f s₅) E s₄) E₄ s₃) E₃ s₂) E₂ s₁) E₁ s) :
    wpAny (model prog w) A (handleBy (.ref e) env (.ExceptHandler (some t) (some n) (b₀ :: suite) pos :: rest)) Q E s := by
  refine wpAny_handleBy_cons (codeAny_handlers_test (wpAny_mono (h _) (fun c s₁ h₁ => ?_) fun _ _ y => y)) (by intro q; cases q)
  obtain ⟨rfl, ⟨nm, q, bs, sn, sub, col, dd, k0, k1, k2, k3, k5, hC⟩, ⟨oe, he, hcls⟩, hk⟩ := h₁
  obtain ⟨hh, g, d, tk, os⟩ := s₁
  exact wpAny_excMatches_sub_self hC he hcls (by decide) (codeAny_handlers_suite_as (wpAny_mono (hk _) (fun _ _ h2 => wpAny_mono (h2 _) (fun _ _ h3 => h3 _) fun _ _ y => y) fun _ _ y => y))
end
/-- as `enterS`; what holds behind is shown whole at the end -/
theorem enterR {prog : Program} {w : World} {A A₀ : Around} {s : Shared} {base h₀ : Heap} {env : Env} {outer : List Env} {L : Addr} {m mg mb : Str → Option Value} {p : Program} {loose : List Str} {K : Frag}
    {R : Result → Shared → Prop} {name qual : Str} {params : Arguments} {body : List Stmt} {scope : Scope} {dV kV doc pm cdv ct oc : Value} {an od : Option Addr} {osl : Array (Option Value)} {f : Addr} {args : Args} (binds : List (Str × Value))
    (B : Below A₀ base outer h₀) (F : Fr h₀ L s.heap m) (X₀ : K.In h₀) (T : TopRead p loose mg mb h₀) (hA : A.frames = some (env :: outer)) (hf : env.frame = some L) (hke : env.scope.kind = .function) (hroom : A.depth < recursionLimit)
    (h : ∀ L' h₁, Fr s.heap L' h₁ (fun y => binds.reverse.lookup y) → News s.heap L' h₁ [] → Below A base (env :: outer) s.heap → K.In s.heap → TopRead p loose mg mb s.heap →
      wpAny (model prog w) (A.deeper (envOf qual scope L' f cdv)) (execs body (envOf qual scope L' f cdv))
        (fun fl s' => R (.ok (.ret (match fl with | .ret v => v | _ => .none))) s')
        (fun e s' => wpAny (model prog w) (A.deeper (envOf qual scope L' f cdv)) (leaving (envOf qual scope L' f cdv) e) (fun _ s'' => R (.error e) s'') (fun e' s'' => R (.error e') s'') s')
        { s with heap := h₁, toks := s.toks + binds.length })
    (ho : K.lookup f = some ⟨oc, od, .func (fnOf name qual params body scope dV kV doc pm an cdv ct), osl⟩ := by k_dflt k_is) (hcd : codeIn K cdv qual = true := by k_dflt k_is)
    (hbind : BindsTo s (fnOf name qual params body scope dV kV doc pm an cdv ct) args binds := by exact BindsTo.of_eq rfl) (hloc : ∀ y ∈ binds, scope.names.lookup y.1 = some .local := by exact locs rfl)
    (hcell : ∀ x ∈ scope.names, x.2 ≠ .cell := by decide) (hco : scope.isCoroutine = false := by rfl) (hgen : scope.isGenerator = false := by rfl) (hk : scope.kind = .function := by rfl) :
    codeAny (model prog w) A (.call (.ref f) args) R s := by
  have X := X₀.keeps F.keep
  have T' := T.keeps F.keep
  have B₁ := pushX B F hf hke
  have B' : Below A base (env :: outer) s.heap := ⟨hA, B₁.stays, B₁.frames⟩
  refine codeAny_call_def (fd := fnOf name qual params body scope dV kV doc pm an cdv ct) (body := body) (binds := binds) hroom (X _ _ ho) rfl T'.nolimit (codeRec_of X hcd) rfl hbind hcell hloc (fun h₁ hns hk₁ => ?_) hco hgen hk
  exact wpAny_mono (h _ h₁ ⟨hns, hk₁, Nat.le_refl _⟩ News.nil B' X T') (fun fl s' hl => hl) fun _ _ y => y
/-- what _law_read hands back -/
def RR (r : Option Nat) (ts : List TK) (v : Value) (h : Heap) : Prop :=
  (r = none ∧ ∃ (D : Addr) (ys : List Value), v = .ref D ∧ h.IsList D ys.toArray ∧ ys.length = ts.length ∧ ∀ (j : Nat) (k : TK), ts[j]? = some k → ∃ tj t1 t2 pj, ys[j]? = some (.ref tj) ∧ IsTup h tj #[.str k.kind t1, .str (S k.text) t2, .ref pj] ∧ PlaceAt h pj k.at_) ∨
  (∃ k tp, r = some k ∧ v = .ref tp ∧ PlaceAt h tp k)
theorem Fr.less {g h : Heap} {L : Addr} {m : Str → Option Value} {l : List Addr} (F : Fr g L h m) : Fr (hideAll g l) L h m :=
  ⟨F.ns, fun b o q => F.keep b o (of_hideAll _ q), by rw [hideAll_size]; exact F.above⟩
theorem hid_frames {g h B : Heap} {env' env : Env} {L' L : Addr} {m : Str → Option Value} (hf' : env'.frame = some L') (hf : env.frame = some L) (F : Fr g L' h m) (hB : (hideAll h (frs (env' :: [env]))).StaysIn B) : (hideAll g [L]).StaysIn B := fun b o q => by
  have q' := of_hideAll _ q
  refine hB b o (hideAll_get _ (F.keep _ _ q') fun hm => ?_)
  have e : frs (env' :: [env]) = [L', L] := by simp [frs, hf', hf]
  rw [e] at hm
  rcases List.mem_cons.mp hm with rfl | hm
  · exact absurd (Heap.lt_size q') (Nat.not_lt.mpr F.above)
  · rw [hideAll_none _ hm] at q; cases q
theorem base_hid {h₀ h : Heap} {L : Addr} {m : Str → Option Value} (F : Fr h₀ L h m) : h₀.StaysIn (hideAll h [L]) := fun b o q => hideAll_get _ (F.keep _ _ q) fun hm => by
  rw [List.mem_singleton.mp hm] at q
  exact absurd (Heap.lt_size (show h₀.get? L = some o from q)) (Nat.not_lt.mpr F.above)
theorem ns_ne {h : Heap} {L x : Addr} {m mA : Str → Option Value} {n : Str} {v : Value} (hL : h.Ns L m) (hx : h.Ns1 x mA) (hm : m n = none) (ha : mA n = some v) : x ≠ L := by
  rintro rfl
  obtain ⟨o, es, ep, ho, hd, _, hf⟩ := hL
  obtain ⟨o', es', ep', ho', hd', _, _, hf'⟩ := hx
  obtain rfl := Option.some.inj (ho.symm.trans ho')
  rw [hd] at hd'
  cases hd'
  have := (hf n).symm.trans (hf' n)
  rw [hm, ha] at this; cases this
theorem place_ne {h : Heap} {L tp k : Addr} {m : Str → Option Value} (hL : h.Ns L m) (hp : PlaceAt h tp k) : tp ≠ L := by
  rintro rfl
  obtain ⟨o, es, ep, ho, hd, _⟩ := hL
  obtain ⟨t1, t2, o', ho', hc, n, hd'⟩ := hp
  obtain rfl := Option.some.inj (ho.symm.trans ho')
  rw [hd] at hd'; cases hd'
theorem PlaceAt.same {h h' : Heap} {L tp k : Addr} (hs : Heap.SameBut L h h') (hne : tp ≠ L) : PlaceAt h tp k → PlaceAt h' tp k := fun ⟨t1, t2, o, ho, r⟩ => ⟨t1, t2, o, (hs.2 _ hne).trans ho, r⟩
theorem upTo_same {g h h' : Heap} {L : Addr} (U : g.UpToSlots h) (hs : Heap.SameBut L h h') (hL : g.objs.size ≤ L) : g.UpToSlots h' := fun b o e hn =>
  let ⟨sl, q⟩ := U b o e hn; ⟨sl, (hs.2 b (Nat.ne_of_lt (Nat.lt_of_lt_of_le (Heap.lt_size e) hL))).trans q⟩
theorem stays_same {g h h' : Heap} {L : Addr} (U : g.StaysIn h) (hs : Heap.SameBut L h h') (hL : g.objs.size ≤ L) : g.StaysIn h' := fun b o e =>
  (hs.2 b (Nat.ne_of_lt (Nat.lt_of_lt_of_le (Heap.lt_size e) hL))).trans (U b o e)
theorem fields_ne {h : Heap} {L e : Addr} {m : Str → Option Value} {oe : Obj} {vs : Array Value} (hL : h.Ns L m) (he : h.get? e = some oe) (hd : oe.data = .fields vs) : e ≠ L := by
  rintro rfl
  obtain ⟨o, es, ep, ho, hd', _⟩ := hL
  obtain rfl := Option.some.inj (ho.symm.trans he)
  rw [hd] at hd'; cases hd'
theorem WA.step {l : List Nat} {a e : Nat} {kd : Str} {t : List Nat} (h : WA l a (.ok (kd, t, e))) : a < e ∧ e ≤ l.length := ⟨h.good.1, h.good.2.1⟩
theorem Reads.len {l : List Nat} {a : Nat} {ts : List TK} {r : Option Nat} (h : Reads l a ts r) : ts = [] ∨ ts.length + a ≤ l.length := by
  induction h with
  | stop _ => exact .inl rfl
  | skip _ _ ih => exact ih.imp id fun q => by omega
  | tok _ hw _ ih =>
    have := hw.step
    rcases ih with rfl | ih
    · right; simp only [List.length_cons, List.length_nil]; omega
    · right; simp only [List.length_cons]; omega
  | bad _ _ => exact .inl rfl
/-- the place's tuple stays as long as the base and the ledger stay -/
def Kept (g : Heap) (L : Addr) (news : List (Addr × Obj)) (tp k : Nat) : Prop := ∀ h' news', (∀ p ∈ news, p ∈ news') → g.StaysIn h' → News g L h' news' → PlaceAt h' tp k
theorem Kept.more {g : Heap} {L : Addr} {news news' : List (Addr × Obj)} {tp k : Nat} (H : Kept g L news tp k) (hs : ∀ p ∈ news, p ∈ news') : Kept g L news' tp k := fun h' n' s' st N => H h' n' (fun p hp => s' p (hs p hp)) st N
theorem keep_place {g h : Heap} {L tp k : Addr} {m : Str → Option Value} {news : List (Addr × Obj)} (F : Fr g L h m) (N : News g L h news) (hp : PlaceAt h tp k) : ∃ news', (∀ p ∈ news, p ∈ news') ∧ News g L h news' ∧ Kept g L news' tp k := by
  have hne := place_ne F.ns hp
  obtain ⟨t1, t2, o, ho, hc, n, hd⟩ := hp
  cases q : g.get? tp with
  | some o' =>
    have e : o' = o := Option.some.inj ((F.keep _ _ q).symm.trans ho)
    subst e
    exact ⟨news, fun p hp => hp, N, fun h' n' _ st _ => ⟨t1, t2, _, st _ _ q, hc, n, hd⟩⟩
  | none =>
    refine ⟨(tp, o) :: news, fun p hp => .tail _ hp, fun p hp => ?_, fun h' n' s' _ N' => ⟨t1, t2, o, (N' _ (s' _ (.head _))).1, hc, n, hd⟩⟩
    rcases List.mem_cons.mp hp with rfl | hp
    · exact ⟨ho, hne, q⟩
    · exact N p hp
/-- a token in the ledger `tl`, its place kept by `news` -/
def TokK (g : Heap) (L : Addr) (news tl : List (Addr × Obj)) (x : Addr) (k : TK) : Prop :=
  ∃ dx es n t1 t2 tp, (x, instObj 109 dx) ∈ tl ∧ (dx, dictOf es n) ∈ tl ∧ getL (Str.ofString "kind") es = some (some (.str k.kind t1)) ∧ getL (Str.ofString "worth") es = some (some (.str (S k.text) t2)) ∧ getL (Str.ofString "at") es = some (some (.ref tp)) ∧ Kept g L news tp k.at_
theorem keep_all {g g0 h : Heap} {L : Addr} {m : Str → Option Value} {news tl : List (Addr × Obj)} {vs : List Value} {ts : List TK} (F : Fr g L h m) (N : News g L h news) (hT : Toks g0 tl vs ts) (st : g0.StaysIn h) :
    ∀ n : Nat, ∃ news' : List (Addr × Obj), (∀ p ∈ news, p ∈ news') ∧ News g L h news' ∧ ∀ i : Nat, i < n → ∀ k : TK, ts[i]? = some k → ∃ x : Addr, vs[i]? = some (.ref x) ∧ TokK g L news' tl x k := by
  intro n
  induction n with
  | zero => exact ⟨news, fun p hp => hp, N, fun i hi => absurd hi (Nat.not_lt_zero i)⟩
  | succ n ih =>
    obtain ⟨news1, s1, N1, H1⟩ := ih
    cases q : ts[n]? with
    | none =>
      refine ⟨news1, s1, N1, fun i hi k hk => ?_⟩
      rcases Nat.lt_succ_iff_lt_or_eq.mp hi with hi | rfl
      · exact H1 i hi k hk
      · rw [q] at hk; cases hk
    | some k0 =>
      obtain ⟨x, hx, dx, es, nn, t1, t2, tp, a, b, c, d, e, hp⟩ := hT.2 n k0 q
      obtain ⟨news2, s2, N2, K2⟩ := keep_place F N1 (hp.keeps st)
      refine ⟨news2, fun p hp => s2 p (s1 p hp), N2, fun i hi k hk => ?_⟩
      rcases Nat.lt_succ_iff_lt_or_eq.mp hi with hi | rfl
      · obtain ⟨x', hx', dx', es', n', u1, u2, tp', a', b', c', d', e', K'⟩ := H1 i hi k hk
        exact ⟨x', hx', dx', es', n', u1, u2, tp', a', b', c', d', e', K'.more s2⟩
      · rw [q] at hk; cases hk
        exact ⟨x, hx, dx, es, nn, t1, t2, tp, a, b, c, d, e, K2⟩
section
variable {prog : Program} {w : World} {A : Around} {E : Value → Shared → Prop} {s : Shared} {h₀ : Heap} {L x dx : Addr} {m : Str → Option Value} {expr : Bool} {es : List DictEntry} {n : Nat} {v : Value}
theorem tok_at' {Q : Value → Shared → Prop} (hx : s.heap.get? x = some (instObj 109 dx)) (hdx : s.heap.get? dx = some (dictOf es n)) (hv : getL (Str.ofString "at") es = some (some v)) (hh : handedIn v = true) (F : Fr h₀ L s.heap m) (X : (Mine.kmaker.heap_39 w.params).In h₀) (h : ∀ k', Q v { s with toks := k' }) :
    wpAny (model prog w) A (getAttr (.ref x) (Str.ofString "at") expr) Q E s := by
  have I : InstAt s.heap x (instObj 109 dx) 109 (some (dictOf es n)) := ⟨hx, rfl, rfl, hdx⟩
  refine get_own (attr := none) F X I ?_ ?_ ?_ ?_ hv hh (h _)
  · k_dflt k_is
  · k_dflt k_is
  · k_dflt k_is
  · k_dflt k_is
end
/-- the outer comprehension's list so far -/
def PlR (g : Heap) (L : Addr) (ts : List TK) (ys : List Value) (news : List (Addr × Obj)) (i : Nat) : Prop :=
  ys.length = i ∧ ∀ j, j < i → ∀ k, ts[j]? = some k → ∃ tj t1 t2 pj, ys[j]? = some (.ref tj) ∧ (tj, ({ cls := .type "tuple", data := .seq #[.str k.kind t1, .str (S k.text) t2, .ref pj] } : Obj)) ∈ news ∧ Kept g L news pj k.at_
theorem news_addL {g h h2 : Heap} {L : Addr} {m : Str → Option Value} {news tl : List (Addr × Obj)} (F : Fr g L h m) (N : News g L h2 news) (ht : ∀ p ∈ tl, h2.get? p.1 = some p.2 ∧ h.get? p.1 = none) : News g L h2 (tl ++ news) := fun q hq => by
  rcases List.mem_append.mp hq with hq | hq
  · exact news_add F N (ht q hq).1 (ht q hq).2 q (.head _)
  · exact N q hq
open LCg in
theorem comp_end3 {h₀ : Heap} {L I C D D5 : Addr} {m : Str → Option Value} {s₁ : Shared} {oI oC oD o5 : Obj} {S : List (Addr × Obj) → Prop} {rest : Value → List (Addr × Obj) → Prop} {y : Value} {h' : Heap} {tk : Nat} {nw : List (Addr × Obj)}
    (F : Fr h₀ L h' m) (N : News h₀ L h' ((D5, o5) :: (I, oI) :: (C, oC) :: (D, oD) :: nw)) (hlt : @LT.lt Nat _ I D5 ∧ @LT.lt Nat _ C D5 ∧ @LT.lt Nat _ D D5 ∧ AllLt D5 nw) (off : Off3 I C D nw) (hS : S ((D5, o5) :: nw)) (r : rest y ((D5, o5) :: nw)) :
    CompEnd h₀ L m s₁ I oI C oC D oD S rest y { s₁ with heap := h', toks := tk } := by
  refine CompEnd.intro F N ((D5, o5) :: nw) (fun p hp => ?_) (Off3.of fun p hp => ?_) hS r
  · rcases List.mem_cons.mp hp with rfl | hp
    · exact .tail _ (.head _)
    · rcases List.mem_cons.mp hp with rfl | hp
      · exact .tail _ (.tail _ (.head _))
      · rcases List.mem_cons.mp hp with rfl | hp
        · exact .tail _ (.tail _ (.tail _ (.head _)))
        · rcases List.mem_cons.mp hp with rfl | hp
          · exact .head _
          · exact .tail _ (.tail _ (.tail _ (.tail _ hp)))
  · rcases List.mem_cons.mp hp with rfl | hp
    · exact ⟨Nat.ne_of_gt hlt.1, Nat.ne_of_gt hlt.2.1, Nat.ne_of_gt hlt.2.2.1⟩
    · exact off.mem p hp
/-- the places of i signs, in the ledger -/
def PlN (ys : List Value) (nw : List (Addr × Obj)) (i : Nat) : Prop := ys.length = i ∧ ∀ j, j < i → ∃ tp t1 t2, ys[j]? = some (.ref tp) ∧ (tp, ({ cls := .type "tuple", data := .seq #[.int 2 t1, .int (12 + (j : Int)) t2] } : Obj)) ∈ nw
section
open LCg
local macro_rules | `(tactic| walk_at $s:str) => `(tactic| k_extra $s)
set_option maxRecDepth 100000 in
set_option maxHeartbeats 8000000 in
theorem c_law_read (w : World) (l : List Nat) (tt : Tok) (ts : List TK) (r : Option Nat) (hl : l.length < 1000) (hW : ∀ x pl, WorthAt w x pl l) (hR : Reads l 0 ts r)
    {A A₀ : Around} {base h₀ : Heap} {env : Env} {L : Addr} {m mg mb : Str → Option Value} {p : Program} {loose : List Str} {s : Shared} {Q E : Value → Shared → Prop}
    (B : Below A₀ base [] h₀) (F : Fr h₀ L s.heap m) (X : (Mine.kmaker.heap_39 w.params).In h₀) (T : TopRead p loose mg mb h₀) (hA : A.frames = some [env]) (hf : env.frame = some L) (hke : env.scope.kind = .function) (hh : A.handled = none)
    (hd : A.depth + 50 < recursionLimit) (hu : A.units + 400 < cLine)
    (hret : ∀ v h' tk', RR r ts v h' → (hideAll s.heap [L]).StaysIn h' → s.heap.UpToSlots h' → Q v { s with heap := h', toks := tk' }) :
    wpAny (model PG w) A (call (.ref 282) [.str (S l) tt]) Q E s := by
  refine wpAny_call (enterR [(Str.ofString "text", .str (S l) tt)] B F X T hA hf hke (by omega) ?_)
  intro L' h₁ F' N' B' X' T'
  k_fold
  k_with_none
  k_with "call ref" => refine hold_ ?_
  k_with "eval ListComp" => refine hold_ ?_
  have hSl := S_len l
  k_steps
  rename Fr _ _ _ _ => F1
  refine Hold.go (LCg.ListComp_U F1 (closureFor_none (by decide)) (by decide) (by rfl) (by decide) (by rfl) ?_)
  k_steps
  rename Fr _ _ _ _ => F2
  refine Hold.go (LCg.ListComp_U F2 (closureFor_none (by decide)) (by decide) (by rfl) (by decide) (by rfl) ?_)
  k_steps
  rename Fr _ _ _ _ => F3
  rename News _ _ _ _ => N3
  rename IsRange _ _ _ _ _ _ _ _ => hR3
  refine CompSrc.range ?hh F3 N3 hR3 ?hsm (n := l.length) ?hn ?hz (fun g => ?_)
  case hh => exact hh
  case hsm => rw [hSl]; refine small_one ?_ ?_ ?_ ?_ <;> omega
  case hn => rw [rangeSize_nat, hSl]; omega
  case hz => rw [sizeLine_eq]; omega
  refine (?gen : ∀ k i ys nw, i + k = l.length → PlN ys nw i → CompRest _ _ _ _ _ _ _ _ _ _ _ _ _ _ _ k i ys nw) l.length 0 [] [] (Nat.zero_add _) ⟨rfl, fun j hj => absurd hj (Nat.not_lt_zero j)⟩
  intro k
  induction k with
  | zero =>
    intro i ys nw hi hP
    refine CompRest.zero ?_
    intro D hD tkD FD ND _
    clear F3 N3
    dsimp only
    k_steps
    refine Hold.go (Gives.use (c_line w l D _) trivial ?_)
    rintro _ h6 tk6 ⟨x, dx, es, n, t6, rfl, hx, hdx, he1, he2, hxn, hdxn⟩ st6 F6 N6
    have N7 := news_add FD (news_add FD N6 hdx hdxn) hx hxn
    clear N6 FD ND hxn hdxn
    k_steps
    rename_i _ hE _ _ _
    rename Fr _ _ _ _ => F8
    rename News _ _ _ _ => N8
    have hPA : PlacesAt hE D l.length := ⟨ys, ⟨_, (N8 _ (.tail _ (.tail _ (.tail _ (.head _))))).1, rfl, _, rfl⟩, by rw [hP.1]; omega, fun j hj => by
      obtain ⟨tp, t1, t2, a, b⟩ := hP.2 j (by omega)
      exact ⟨tp, a, t1, t2, _, (N8 _ (.tail _ (.tail _ (.tail _ (.tail _ b))))).1, rfl, _, rfl⟩⟩
    refine Hold.go (Outs.use (c_tokens_of w x D _ l ts r hl (hW x D) hR) ⟨⟨_, (N8 _ (.head _)).1, rfl, _, rfl⟩, ⟨dx, es, n, t6, (N8 _ (.tail _ (.head _))).1, (N8 _ (.tail _ (.tail _ (.head _)))).1, he1, he2⟩, hPA⟩ ?_ ?_)
    · rintro v h9 tk9 ⟨hr, Dt, vs, c, rfl, hDt, hDtn, tl, hT, htl⟩ st9 F9 N9
      have N10 := news_add F8 (news_addL F8 N9 htl) hDt hDtn
      obtain ⟨news', hs', N', HK⟩ := keep_all F9 N10 hT st9 ts.length
      clear N9 N10
      have hvs : vs.toArray.size = ts.length := by rw [List.size_toArray, hT.1]
      refine CompSrc.ledger ?hh F9 N' (hs' _ (.head _)) ?hz (fun g2 => ?_)
      case hh => exact hh
      case hz =>
        rw [hvs, sizeLine_eq]
        rcases hR.len with q | q
        · rw [q]; exact Nat.zero_le _
        · omega
      refine (?gen2 : ∀ k i ys nw, i + k = vs.toArray.size → (∀ p ∈ news', p ∈ nw) → PlR s.heap L' ts ys nw i → CompRest _ _ _ _ _ _ _ _ _ _ _ _ _ _ _ k i ys nw) vs.toArray.size 0 [] news' (Nat.zero_add _) (fun p hp => hp) ⟨rfl, fun j hj => absurd hj (Nat.not_lt_zero j)⟩
      intro k2
      induction k2 with
      | zero =>
        intro i2 ys2 nw2 hi2 hin hP2
        refine CompRest.zero ?_
        intro D2 h2 tk2 FD2 ND2 _
        exact hret _ h2 _ (.inl ⟨hr, D2, ys2, rfl, ⟨_, (ND2 _ (.head _)).1, rfl, _, rfl⟩, by rw [hP2.1]; omega, fun j kk hk => by
          obtain ⟨tj, u1, u2, pj, a, b, K⟩ := hP2.2 j (by have := (List.getElem?_eq_some_iff.mp hk).1; omega) kk hk
          exact ⟨tj, u1, u2, pj, a, ⟨_, (ND2 _ (.tail _ b)).1, rfl, _, rfl⟩, K _ _ (fun p hp => .tail _ hp) FD2.keep ND2⟩⟩) (fun b o q => FD2.keep _ _ (of_hideAll _ q)) (Heap.UpToSlots.of_keeps FD2.keep)
      | succ k2 ih2 =>
        intro i2 ys2 nw2 hi2 hin hP2
        refine CompRest.succ (fun v I oI C oC D2 m₂ h tk E' hv hC hm F4 N4 off hne => ?_)
        obtain ⟨k0, hk0⟩ : ∃ k0, ts[i2]? = some k0 := ⟨_, List.getElem?_eq_getElem (by omega)⟩
        obtain ⟨xi, hxi, dxi, esi, ni, u1, u2, tpi, hm1, hm2, hg1, hg2, hg3, hK⟩ := HK i2 (by omega) k0 hk0
        obtain rfl : v = .ref xi := by
          have : vs[i2]? = some v := by simpa using hv
          rw [hxi] at this; exact (Option.some.inj this).symm
        have hin3 : ∀ p ∈ tl, p ∈ (I, oI) :: (C, oC) :: (D2, lst ys2) :: nw2 := fun p hp => .tail _ (.tail _ (.tail _ (hin p (hs' p (.tail _ (List.mem_append_left _ hp))))))
        have hxh := (N4 _ (hin3 _ hm1)).1
        have hdh := (N4 _ (hin3 _ hm2)).1
        have hTA : TokAt h xi k0 := ⟨dxi, esi, ni, u1, u2, tpi, hxh, hdh, hg1, hg2, hg3, hK h _ (fun p hp => .tail _ (.tail _ (.tail _ (hin p hp)))) F4.keep N4⟩
        k_with "getAttr ref" => first | (refine tok_kind (fun _ _ => ?_); dsimp only) | (refine tok_worth (fun _ _ => ?_); dsimp only) | (refine tok_at' hxh hdh hg3 rfl F4 X' (fun _ => ?_); dsimp only)
        k_steps
        rename_i y4 y3 y2 y1 y0 D5 h5 F5 N5 l5
        refine comp_end3 F5 N5 l5 off (.inr ⟨_, .tail _ (hin _ (hs' _ (.head _))), rfl, _, rfl⟩) (ih2 (i2 + 1) _ _ (by omega) (fun p hp => .tail _ (hin p hp)) ⟨by rw [List.length_append, hP2.1]; rfl, fun j hj kk hk => ?_⟩)
        rcases Nat.lt_succ_iff_lt_or_eq.mp hj with hj | rfl
        · obtain ⟨tj, v1, v2, pj, a, b, K⟩ := hP2.2 j hj kk hk
          exact ⟨tj, v1, v2, pj, by rw [List.getElem?_append_left (by rw [hP2.1]; exact hj)]; exact a, .tail _ b, K.more fun p hp => .tail _ hp⟩
        · obtain rfl := Option.some.inj (hk0.symm.trans hk)
          exact ⟨D5, y4, y2, tpi, by rw [← hP2.1, List.getElem?_concat_length], .head _, hK.more fun p hp => .tail _ (hin p hp)⟩
    · rintro k B₂ e dxE h9 tk9 hr H hB HF up
      have hgB := hid_frames rfl hf F8 hB
      have XG := X.keeps (base_hid F)
      have TG := T.keeps (base_hid F)
      have F8' := Fr.less (l := [L]) F8
      refine fly_note (Around.frames_deeper B'.stack) rfl H fun h10 H10 up10 => ?_
      refine fly_flight H10 fun h11 H11 up11 => ?_
      refine handle_tf fun E₁ => ?_
      have F11 := Fr.of_stays F8' (fun b o q => H11.1 b o (hgB b o q)) ((up.trans up10).trans up11)
      have N11 : News (hideAll s.heap [L]) L' h11 [] := News.nil
      clear N8
      dsimp only
      k_steps
      · exact tf_of (XG.keeps F11.keep)
      · obtain ⟨_, _, _, oe, _, _, _, _, he, ⟨hc, _⟩, _⟩ := H11
        exact ⟨oe, he, hc⟩
      · refine fly_flight H11 fun h12 H12 up12 => ?_
        intro E₃
        have U12 := ((up.trans up10).trans up11).trans up12
        have F12 := Fr.of_stays F8' (fun b o q => H12.1 b o (hgB b o q)) U12
        obtain ⟨mA, tp, hn, ha, hp⟩ := HF.slots ((up10.trans up11).trans up12)
        have hdL := ns_ne F12.ns hn rfl ha
        have htL := place_ne F12.ns hp
        clear F11 N11
        obtain ⟨hB12, _, _, oe, vsE, _, _, _, he, ⟨hc, hdx⟩, hdE, _⟩ := H12
        have heL := fields_ne F12.ns he hdE
        refine wpAny_storeName_local rfl F12.ns (fun h13 hn13 hs13 => ?_) rfl
        have F13 := F12.set hn13 hs13
        have N13 : News (hideAll s.heap [L]) L' h13 [] := News.nil
        intro E₄
        k_with "getAttr ref" => refine hold_ ?_
        dsimp only
        k_steps
        refine Hold.go (tf_get (XG.keeps F13.keep) ((hs13.2 _ heL).trans he) hc hdx hdE (hn.sameBut hs13 hdL) ha ?_)
        dsimp only
        refine wpAny_nameGoes rfl F13.ns rfl (fun h14 m14 hn14 hs14 => ?_)
        dsimp only
        exact hret _ h14 _ (.inr ⟨k, tp, hr, rfl, (hp.same hs13 htL).same hs14 htL⟩) (stays_same (stays_same (fun b o q => hB12 b o (hgB b o q)) hs13 F12.above) hs14 F12.above)
          (upTo_same (upTo_same ((Heap.UpToSlots.of_keeps F8.keep).trans U12) hs13 F8.above) hs14 F8.above)
  | succ k ih =>
    intro i ys nw hi hP
    refine CompRest.succ (fun v I oI C oC D m₂ h tk E' hv hC hm F4 N4 off hne => ?_)
    obtain ⟨tv, rfl⟩ := hv
    k_steps
    rename Fr _ _ _ _ => F5
    rename News _ _ _ _ => N5
    rename_i D5 _ hlt5
    refine CompEnd.intro F5 N5 ((D5, ({ cls := .type "tuple", data := .seq #[.int 2 tk, .int (12 + (0 + (i : Int))) (tk + 1 + 1)] } : Obj)) :: nw) (fun p hp => ?_) (Off3.of fun p hp => ?_) trivial (ih (i + 1) _ _ (by omega) ⟨by rw [List.length_append, hP.1]; rfl, fun j hj => ?_⟩)
    · rcases List.mem_cons.mp hp with rfl | hp
      · exact .tail _ (.head _)
      · rcases List.mem_cons.mp hp with rfl | hp
        · exact .tail _ (.tail _ (.head _))
        · rcases List.mem_cons.mp hp with rfl | hp
          · exact .tail _ (.tail _ (.tail _ (.head _)))
          · rcases List.mem_cons.mp hp with rfl | hp
            · exact .head _
            · exact .tail _ (.tail _ (.tail _ (.tail _ hp)))
    · rcases List.mem_cons.mp hp with rfl | hp
      · exact ⟨Nat.ne_of_gt hlt5.1, Nat.ne_of_gt hlt5.2.1, Nat.ne_of_gt hlt5.2.2.1⟩
      · exact off.mem p hp
    · rcases Nat.lt_succ_iff_lt_or_eq.mp hj with hj | rfl
      · obtain ⟨tp, t1, t2, a, b⟩ := hP.2 j hj
        exact ⟨tp, t1, t2, by rw [List.getElem?_append_left (by rw [hP.1]; exact hj)]; exact a, .tail _ b⟩
      · refine ⟨D5, tk, tk + 1 + 1, by rw [← hP.1, List.getElem?_concat_length], ?_⟩
        rw [show (12 : Int) + (0 + (j : Int)) = 12 + (j : Int) by omega]
        exact .head _
end
set_option maxRecDepth 100000 in
set_option maxHeartbeats 8000000 in
theorem c_run_end (w : World) (l sg : List Nat) (a b : Nat) (i : Int) (t1 t2 t3 : Tok) (hi : i = (a : Int)) (hab : a ≤ b) (hl : l.length < 1000) (hsg : sg.length < 1000) (hin : ∀ j, a ≤ j → j < b → ∃ c, l[j]? = some c ∧ c < 97 ∧ c ∈ sg) (hout : l[b]? = none ∨ ∃ c, l[b]? = some c ∧ c < 97 ∧ c ∉ sg) :
    Gives w 153 [.str (S l) t1, .int i t2, .str (S sg) t3] 6 24 (fun _ => True) (fun _ v _ => ∃ t, v = .int (b : Int) t) := by
  subst hi
  intro A A₀ base h₀ env outer L m mg mb p loose s Q E B F X T hA hf hke hh hpre hd hu hret
  refine wpAny_call (enterS [(Str.ofString "text", .str (S l) t1), (Str.ofString "at", .int (a : Int) t2), (Str.ofString "signs", .str (S sg) t3)] B F X T hA hf hke (by omega) ?_)
  intro L' h₁ F' N' B' X' T'
  k_fold
  k_with_none
  k_with "call ref" => refine hold_ ?_
  k_with "exec While BoolOp cons nil" => refine wpAny_While ?_
  have hSl := S_len l
  k_steps
  refine while_by (fun e : Nat => b + 1 - e) (fun e h => (∃ te, Fr s.heap L' h (fun y => if y = Str.ofString "at" then some (.int (e : Int) te) else List.lookup y [(Str.ofString "text", .str (S l) t1), (Str.ofString "at", .int (a : Int) t2), (Str.ofString "signs", .str (S sg) t3)].reverse)) ∧ a ≤ e ∧ e ≤ b) (fun e h tk P IH => ?_) a _ _ ⟨⟨t2, Fr.congr F' fun y => ?_⟩, Nat.le_refl _, hab⟩
  · obtain ⟨⟨te, F3⟩, hae, heb⟩ := P
    have N3 : News s.heap L' h [] := News.nil
    clear F'
    k_steps
    · obtain ⟨c, hc, hc97, hcc⟩ : ∃ c, l[e]? = some c ∧ c < 97 ∧ (e < b ∧ c ∈ sg ∨ e = b ∧ c ∉ sg) := by
        rcases Nat.lt_or_ge e b with q | q
        · obtain ⟨c, x, y, z⟩ := hin e hae q
          exact ⟨c, x, y, .inl ⟨q, z⟩⟩
        · obtain rfl : e = b := by omega
          rcases hout with z | ⟨c, x, y, z⟩
          · rw [List.getElem?_eq_none_iff] at z; omega
          · exact ⟨c, x, y, .inr ⟨rfl, z⟩⟩
      have hit : Txt.item (S l) (e : Int) = S [c] := by
        rw [item_S (by omega)]
        rw [List.getElem?_eq_getElem (by omega)] at hc
        rw [Option.some.inj hc]
      rw [hit]
      refine Hold.go (Gives.use (c_capital w c _ hc97) trivial ?_)
      rintro _ h2 tk2 ⟨t4, rfl⟩ st2 F4 N4
      clear F3 N3
      rcases hcc with ⟨hlt, hm⟩ | ⟨rfl, hm⟩
      · have hocc : (Builtin.Str.occurrences (S sg) (S [c]) 0 (S sg).length 1).isEmpty = false := by rw [in_S, Bool.not_eq_false', decide_eq_true_eq]; exact hm
        k_steps
        exact IH (e + 1) _ _ (by omega) ⟨⟨_, Fr.again (by assumption) rfl⟩, by omega, by omega⟩
      · have hocc : (Builtin.Str.occurrences (S sg) (S [c]) 0 (S sg).length 1).isEmpty = true := by rw [in_S, Bool.not_eq_true', decide_eq_false_iff_not]; exact hm
        k_steps
        dsimp only
        k_steps
        exact leaveS_ (by assumption) fun st => hret _ _ _ ⟨_, rfl⟩ st
    · obtain rfl : e = b := by
        rcases Nat.lt_or_ge e b with q | q
        · obtain ⟨c, x, _⟩ := hin e hae q
          have := (List.getElem?_eq_some_iff.mp x).1
          omega
        · omega
      dsimp only
      k_steps
      exact leaveS_ (by assumption) fun st => hret _ _ _ ⟨_, rfl⟩ st
  · by_cases q : y = Str.ofString "at"
    · rw [if_pos q, q]; rfl
    · rw [if_neg q]
theorem slice_one {l : List Nat} {a c : Nat} (h : l[a]? = some c) : Txt.slice (S l) (some (a : Int)) (some ((a : Int) + 1)) = S [c] := by
  rw [show ((a : Int) + 1) = ((a + 1 : Nat) : Int) by omega, slice_S _ _ _ (by omega), show a + 1 - a = 1 by omega, take1, h]; rfl
set_option maxRecDepth 100000 in
set_option maxHeartbeats 8000000 in
theorem c_number_end (w : World) (l : List Nat) (a c : Nat) (t1 t2 : Tok) (hl : l.length < 1000) (hc : l[a]? = some c) (hc97 : c < 97) (hnf : ¬ (48 ≤ c ∧ c ≤ 57)) (hnd : c ≠ 46) :
    Gives w 160 [.str (S l) t1, .int (a : Int) t2] 10 40 (fun _ => True) (fun _ v _ => ∃ t, v = .int (a : Int) t) := by
  intro A A₀ base h₀ env outer L m mg mb p loose s Q E B F X T hA hf hke hh hpre hd hu hret
  refine wpAny_call (enterS [(Str.ofString "text", .str (S l) t1), (Str.ofString "at", .int (a : Int) t2)] B F X T hA hf hke (by omega) ?_)
  intro L' h₁ F' N' B' X' T'
  k_fold
  k_with_none
  k_with "call ref" => refine hold_ ?_
  have hSl := S_len l
  have hsl := slice_one hc
  have hdot : (S [c] == Str.ofString ".") = false := by rw [na_dot, beq_eq_false_iff_ne]; exact hnd
  k_steps
  rw [lit_fig]
  refine Hold.go (Gives.use (c_run_end w l _ a a _ _ _ _ rfl (Nat.le_refl _) hl (by decide) (fun j h1 h2 => by omega) (.inr ⟨c, hc, hc97, by simp only [List.mem_cons, List.not_mem_nil, or_false]; omega⟩)) trivial ?_)
  rintro _ h2 tk2 ⟨t4, rfl⟩ st2 F4 N4
  k_steps
  dsimp only
  k_steps
  exact leaveS_ (by assumption) fun st => hret _ _ _ ⟨_, rfl⟩ st
section
open LCg
variable {prog : Program} {w : World} {A : Around} {E : Value → Shared → Prop} {s : Shared} {h₀ : Heap} {L : Addr} {m : Str → Option Value} {env : Env}
/-- what a comprehension over a text of plain signs has to show -/
def CompStr (prog : Program) (w : World) (A : Around) (h₀ : Heap) (L : Addr) (m : Str → Option Value) (env : Env) (elt : Expr) (x : Str) (scope : Scope) (cl : List (Str × Addr)) (Fin : Shared → List Value → List (Addr × Obj) → Prop) (xv : Value) (s₁ : Shared) : Prop :=
  ∃ y t news, xv = .str y t ∧ y.cps.all (· < 128) = true ∧ A.handled = none ∧ Fr h₀ L s₁.heap m ∧ News h₀ L s₁.heap news ∧ y.cps.size ≤ sizeLine ∧
    ∀ s₂ : Shared, (∃ h, s₂ = { s₁ with heap := h }) → CompRest prog w A h₀ L m env elt x scope cl s₂ (fun _ => True) (SignAt y) (Fin s₂) y.cps.size 0 [] news
theorem ListComp_S {elt iter : Expr} {x : Str} {px : Pos} {scope : Scope} {cl : List (Str × Addr)} {pos : Pos} {Q : Value → Shared → Prop} (_F₀ : Fr h₀ L s.heap m)
    (hclos : closureFor scope env = pure cl) (hcell : ∀ y ∈ scope.names, y.2 ≠ .cell) (hkind : scope.kind = .function)
    (hnames : ∀ y ∈ scope.names, y.2 = .local → scope.names.lookup y.1 = some .local) (hx : scope.names.lookup x = some .local)
    (h : wpAny (model prog w) A (eval iter env) (CompStr prog w A h₀ L m env elt x scope cl (fun s₂ => FinE h₀ L m s₂ Q)) E s)
    (hs : ∀ x, foldedSetIterable iter env x = pure x := by intro _; rfl) :
    wpAny (model prog w) A (eval (.ListComp elt [⟨.Name x px, iter, [], 0⟩] scope pos) env) Q E s := by
  rw [eval_ListComp]
  refine wpAny_comprehension_free (use := none) rfl hs hclos hkind hnames (wpAny_mono h (fun xv s₁ h₁ => ?_) fun _ _ e => e)
  obtain ⟨y, t, news, rfl, ha, hh, F, N, hsz, R⟩ := h₁
  refine wpAny_pyIter_ascii ha ?_
  refine block_U (Walks.strAscii hh s₁.heap.objs.size y t) hsz (fun i h st => by obtain ⟨o, e, _⟩ := st; exact ⟨o, e⟩) (fun i h h' o nw st e e' _ _ _ => by obtain ⟨o', q, r⟩ := st; rw [e] at q; cases q; exact ⟨o, e', r⟩) hcell hkind hx ⟨_, Heap.get?_push_size _ rfl, rfl, rfl⟩ (fun b hb => ?_)
    (F.keeps fun _ _ e => Heap.get?_push_of_some _ e) (N.grown fun _ _ e => Heap.get?_push_of_some _ e) (Nat.ne_of_lt F.ns.lt) (next_is_new F) (fun p hp => Nat.ne_of_lt (Heap.lt_size (N p hp).1)) trivial (R _ ⟨_, rfl⟩) ?_
  · rw [List.mem_singleton.mp hb]
    show s₁.heap.objs.size < (s₁.heap.push _).objs.size
    rw [Heap.size_push]; exact Nat.lt_succ_self _
  · intro D C h tk m' ys news' F' N' o1 hn hC₀ hD₀ hCL hDL hCD offC fin
    refine ⟨m', hn, fun h'' hs'' => fin D h'' tk (F'.change hs'' hCL hC₀) (fun p hp => ?_) o1⟩
    refine ⟨hs''.extBut _ _ ?_ (N' p hp).1, (N' p hp).2⟩
    rcases List.mem_cons.mp hp with rfl | hp
    · exact Ne.symm hCD
    · exact offC p hp
end
section
open LCg
local macro_rules | `(tactic| walk_at $s:str) => `(tactic| k_extra $s)
set_option maxRecDepth 100000 in
set_option maxHeartbeats 8000000 in
theorem c_capitals (w : World) (t1 : Tok) :
    Gives w 125 [.str (S [65]) t1] 10 40 (fun _ => True) (fun _ v _ => ∃ t, v = .str (S [65]) t) := by
  intro A A₀ base h₀ env outer L m mg mb p loose s Q E B F X T hA hf hke hh hpre hd hu hret
  refine wpAny_call (enterS [(Str.ofString "text", .str (S [65]) t1)] B F X T hA hf hke (by omega) ?_)
  intro L' h₁ F' N' B' X' T'
  k_fold
  k_with_none
  k_with "call ref" => refine hold_ ?_
  have hSl := S_len [65]
  k_with "eval ListComp" => refine hold_ ?_
  k_steps
  refine Hold.go (ListComp_S F' (closureFor_none (by decide)) (by decide) (by rfl) (by decide) (by rfl) ?_)
  k_steps
  refine ⟨_, _, [], rfl, by simp [S], hh, F', News.nil, by decide, fun s₂ hs₂ => ?_⟩
  obtain ⟨h2, rfl⟩ := hs₂
  refine CompRest.succ (fun v I oI C oC D m₂ h tk E' hv hC hm F4 N4 off hne => ?_)
  obtain ⟨c, u, hcu, rfl⟩ := hv
  obtain rfl : 65 = c := by simpa [S] using hcu
  k_steps
  refine Hold.go (Gives.use (c_capital w 65 _ (by decide)) trivial ?_)
  rintro _ h3 tk3 ⟨t3, rfl⟩ st3 F5 N5
  refine CompEnd.intro F5 N5 [] (fun p hp => hp) off trivial (CompRest.zero ?_)
  intro D2 h6 tk6 FD ND _
  clear F5 N5 F'
  dsimp only
  k_steps
  rw [show Txt.join (Str.ofString "") [S [65]] = S [65] by decide +kernel]
  exact leaveS_ FD fun st => hret _ _ _ ⟨_, rfl⟩ st
end
set_option maxRecDepth 100000 in
set_option maxHeartbeats 8000000 in
theorem c_mark_dot (w : World) (x pl : Addr) (l : List Nat) (a : Nat) (t1 : Tok) (hl : l.length < 1000) (hc : l[a]? = some 46) (hla : l.length = a + 1) :
    Gives w 214 [.ref x, .int (a : Int) t1] 6 24 (fun h => LineAt h x l pl) (fun _ v h' => ∃ tp u1 u2, v = .ref tp ∧ IsTup h' tp #[.str (Str.ofString "sign") u1, .str (S [46]) u2]) := by
  intro A A₀ base h₀ env outer L m mg mb p loose s Q E B F X T hA hf hke hh hpre hd hu hret
  refine wpAny_call (enterS [(Str.ofString "line", .ref x), (Str.ofString "at", .int (a : Int) t1)] B F X T hA hf hke (by omega) ?_)
  intro L' h₁ F' N' B' X' T'
  k_fold
  k_with_none
  k_with "call ref" => refine hold_ ?_
  k_with "subscriptTail Name Name str int" => refine at_S rfl hc (by omega) (fun _ _ => ?_)
  have hSl := S_len l
  have hsl : Txt.slice (S l) (some (a : Int)) (some ((a : Int) + 2)) = S [46] := by
    rw [na_slice, na_some hc, List.drop_eq_nil_of_le (by omega)]; rfl
  have hee : (S [46] == Str.ofString "==") = false := by decide +kernel
  have hdot : (S [46] == Str.ofString ".") = true := by decide +kernel
  have hss : (Builtin.Str.occurrences (Str.ofString "():+-*/=<>") (S [46]) 0 (Str.ofString "():+-*/=<>").length 1).isEmpty = true := by decide +kernel
  k_steps
  · refine Hold.go (Gives.use (c_parted w l (a + 1) _ _ _ hl rfl) trivial ?_)
    rintro _ h2 tk2 rfl st2 F4 N4
    rw [show decide (l.length ≤ a + 1 ∨ l[a + 1]? = some 32) = true from decide_eq_true (.inl (by omega))]
    k_steps
    rename News _ _ _ _ => N6
    exact leaveS_ (by assumption) fun st => hret _ _ _ ⟨_, _, _, rfl, News.isTup N6 (.head _)⟩ st
  · rename News _ _ _ _ => N6
    exact leaveS_ (by assumption) fun st => hret _ _ _ ⟨_, _, _, rfl, News.isTup N6 (.head _)⟩ st
section
open LCg LCt
variable {prog : Program} {w : World} {A : Around} {E : Value → Shared → Prop} {s : Shared} {h₀ : Heap} {L : Addr} {m : Str → Option Value} {env : Env}
/-- what a comprehension with a test over a text of plain signs has to show -/
def CompStrT (prog : Program) (w : World) (A : Around) (h₀ : Heap) (L : Addr) (m : Str → Option Value) (env : Env) (ct elt : Expr) (x : Str) (scope : Scope) (cl : List (Str × Addr)) (Fin : Shared → List Value → List (Addr × Obj) → Prop) (xv : Value) (s₁ : Shared) : Prop :=
  ∃ y t news, xv = .str y t ∧ y.cps.all (· < 128) = true ∧ A.handled = none ∧ Fr h₀ L s₁.heap m ∧ News h₀ L s₁.heap news ∧ y.cps.size ≤ sizeLine ∧
    ∀ s₂ : Shared, (∃ h, s₂ = { s₁ with heap := h }) → CompRestT prog w A h₀ L m env ct elt x scope cl s₂ (fun _ => True) (SignAt y) (Fin s₂) y.cps.size 0 [] news
theorem ListComp_ST {ct elt iter : Expr} {x : Str} {px : Pos} {scope : Scope} {cl : List (Str × Addr)} {pos : Pos} {Q : Value → Shared → Prop} (_F₀ : Fr h₀ L s.heap m)
    (hclos : closureFor scope env = pure cl) (hcell : ∀ y ∈ scope.names, y.2 ≠ .cell) (hkind : scope.kind = .function)
    (hnames : ∀ y ∈ scope.names, y.2 = .local → scope.names.lookup y.1 = some .local) (hx : scope.names.lookup x = some .local)
    (h : wpAny (model prog w) A (eval iter env) (CompStrT prog w A h₀ L m env ct elt x scope cl (fun s₂ => FinE h₀ L m s₂ Q)) E s)
    (hs : ∀ x, foldedSetIterable iter env x = pure x := by intro _; rfl) :
    wpAny (model prog w) A (eval (.ListComp elt [⟨.Name x px, iter, [ct], 0⟩] scope pos) env) Q E s := by
  rw [eval_ListComp]
  refine wpAny_comprehension_free (use := none) rfl hs hclos hkind hnames (wpAny_mono h (fun xv s₁ h₁ => ?_) fun _ _ e => e)
  obtain ⟨y, t, news, rfl, ha, hh, F, N, hsz, R⟩ := h₁
  refine wpAny_pyIter_ascii ha ?_
  refine block_T (Walks.strAscii hh s₁.heap.objs.size y t) hsz (fun i h st => by obtain ⟨o, e, _⟩ := st; exact ⟨o, e⟩) (fun i h h' o nw st e e' _ _ _ => by obtain ⟨o', q, r⟩ := st; rw [e] at q; cases q; exact ⟨o, e', r⟩) hcell hkind hx ⟨_, Heap.get?_push_size _ rfl, rfl, rfl⟩ (fun b hb => ?_)
    (F.keeps fun _ _ e => Heap.get?_push_of_some _ e) (N.grown fun _ _ e => Heap.get?_push_of_some _ e) (Nat.ne_of_lt F.ns.lt) (next_is_new F) (fun p hp => Nat.ne_of_lt (Heap.lt_size (N p hp).1)) trivial (R _ ⟨_, rfl⟩) ?_
  · rw [List.mem_singleton.mp hb]
    show s₁.heap.objs.size < (s₁.heap.push _).objs.size
    rw [Heap.size_push]; exact Nat.lt_succ_self _
  · intro D C h tk m' ys news' F' N' o1 hn hC₀ hD₀ hCL hDL hCD offC fin
    refine ⟨m', hn, fun h'' hs'' => fin D h'' tk (F'.change hs'' hCL hC₀) (fun p hp => ?_) o1⟩
    refine ⟨hs''.extBut _ _ ?_ (N' p hp).1, (N' p hp).2⟩
    rcases List.mem_cons.mp hp with rfl | hp
    · exact Ne.symm hCD
    · exact offC p hp
end
section
open LCg LCt
local macro_rules | `(tactic| walk_at $s:str) => `(tactic| k_extra $s)
set_option maxRecDepth 100000 in
set_option maxHeartbeats 8000000 in
theorem c_checked_word (w : World) (x pl : Addr) (l : List Nat) (a : Nat) (t1 t2 : Tok) (hl : l.length < 1000) (hc : l[a]? = some 65) :
    Gives w 179 [.ref x, .int (a : Int) t1, .int ((a : Int) + 1) t2] 14 60 (fun h => LineAt h x l pl) (fun _ v _ => ∃ t, v = .str (S [65]) t) := by
  intro A A₀ base h₀ env outer L m mg mb p loose s Q E B F X T hA hf hke hh hpre hd hu hret
  refine wpAny_call (enterS [(Str.ofString "line", .ref x), (Str.ofString "at", .int (a : Int) t1), (Str.ofString "end", .int ((a : Int) + 1) t2)] B F X T hA hf hke (by omega) ?_)
  intro L' h₁ F' N' B' X' T'
  k_fold
  k_with_none
  k_with "call ref" => refine hold_ ?_
  k_with "eval ListComp" => refine hold_ ?_
  have hSl := S_len l
  have hsl := slice_one hc
  have hlet : (Builtin.Str.occurrences (Str.ofString "ABCDEFGHIJKLMNOPQRSTUVWXYZ") (S [65]) 0 (Str.ofString "ABCDEFGHIJKLMNOPQRSTUVWXYZ").length 1).isEmpty = false := by decide +kernel
  have hmin : (S [65] == Str.ofString "-") = false := by decide +kernel
  have hS1 : (S [65]).length = 1 := S_len [65]
  k_steps
  refine Hold.go (Gives.use (c_capitals w _) trivial ?_)
  rintro _ h2 tk2 ⟨t4, rfl⟩ st2 F4 N4
  k_steps
  rename Fr _ _ _ _ => F5
  refine Hold.go (ListComp_ST F5 (closureFor_none (by decide)) (by decide) (by rfl) (by decide) (by rfl) ?_)
  k_steps
  rename News _ _ _ _ => N5
  refine ⟨_, _, _, rfl, by simp [S], hh, F5, N5, by decide, fun s₂ hs₂ => ?_⟩
  obtain ⟨h2, rfl⟩ := hs₂
  refine CompRestT.succ (fun v I oI C oC D m₂ h tk E' hv hC hm F6 N6 off hne => ?_)
  obtain ⟨c, u, hcu, rfl⟩ := hv
  obtain rfl : 65 = c := by simpa [S] using hcu
  replace hm : m₂ (Str.ofString "sign") = some (.str (S [65]) u) := hm
  k_steps
  · exact absurd (hlet.symm.trans (by assumption)) (by simp)
  · rename News _ _ _ _ => N7
    refine PySem.SeqAt.eq_list_lengthsAt ⟨_, (N7 _ (.tail _ (.head _))).1, rfl, _, rfl⟩ ⟨_, (N7 _ (.head _)).1, rfl, _, rfl⟩ (by rfl) (by simp only [units_deeper, units_in1]; omega) ?_
    k_steps
    dsimp only
    k_steps
    exact leaveS_ (by assumption) fun st => hret _ _ _ ⟨_, rfl⟩ st
end
theorem tfa {b : Bool} (h1 : b = true) (h2 : b = false) : False := by rw [h1] at h2; cases h2
set_option maxRecDepth 100000 in
set_option maxHeartbeats 8000000 in
theorem c_worth_dot (w : World) (x pl : Addr) (l : List Nat) (a : Nat) (t1 : Tok) (hl : l.length < 1000) (hc : l[a]? = some 46) (hla : l.length = a + 1) :
    Outs w 221 [.ref x, .int (a : Int) t1] 20 120 (fun h => LineAt h x l pl ∧ PlacesAt h pl l.length) (fun _ v h' => WRes (.ok (Str.ofString "sign", [46], a + 1)) v h') (fun k => False) := by
  intro A A₀ base h₀ env outer L m mg mb p loose s Q E B F X T hA hf hke hh hpre hd hu hret hbad
  obtain ⟨hL, hP⟩ := hpre
  refine wpAny_call (enterS [(Str.ofString "line", .ref x), (Str.ofString "at", .int (a : Int) t1)] B F X T hA hf hke (by omega) ?_)
  intro L' h₁ F' N' B' X' T'
  k_fold
  k_with_none
  k_with "call ref" => refine hold_ ?_
  k_with "subscriptTail Name Name str int" => refine at_S rfl hc (by omega) (fun _ _ => ?_)
  have hSl := S_len l
  have hsl : Txt.slice (S l) (some ((a : Int) + 1)) (some ((a : Int) + 2)) = S [] := by
    rw [slice_S1, List.drop_eq_nil_of_le (by omega)]; rfl
  have hemp : (S [] != Str.ofString "") = false := by decide +kernel
  have hlet : (Builtin.Str.occurrences (Str.ofString "ABCDEFGHIJKLMNOPQRSTUVWXYZ") (S [46]) 0 (Str.ofString "ABCDEFGHIJKLMNOPQRSTUVWXYZ").length 1).isEmpty = true := by decide +kernel
  have hfig : (Builtin.Str.occurrences (Str.ofString "0123456789") (S [46]) 0 (Str.ofString "0123456789").length 1).isEmpty = true := by decide +kernel
  have hdot : (S [46] == Str.ofString ".") = true := by decide +kernel
  have hquo : (Builtin.Str.occurrences (Str.ofString "\"'") (S [46]) 0 (Str.ofString "\"'").length 1).isEmpty = true := by decide +kernel
  have hS1 : (S [46]).length = 1 := S_len [46]
  k_steps
  refine Hold.go (Gives.use (c_capital w 46 _ (by decide)) trivial ?_)
  rintro _ h2 tk2 ⟨t2, rfl⟩ st2 F2 N2
  k_steps
  all_goals try (first | (refine (tfa hlet ?_).elim; assumption) | (refine (tfa hfig ?_).elim; assumption) | (refine (tfa hquo ?_).elim; assumption))
  rename Fr _ _ _ _ => F3
  refine Hold.go (Gives.use (c_mark_dot w x pl l a _ hl hc hla) (hL.keeps F3.keep) ?_)
  rintro _ h4 tk4 ⟨tp, u1, u2, rfl, ht⟩ st4 F4 N4
  k_steps
  refine unpackN_ F4 N4 ht hh rfl rfl (fun h9 F9 N9 => ?_)
  k_steps
  rename News _ _ _ _ => N7
  rw [hS1, show (a : Int) + ((1 : Nat) : Int) = ((a + 1 : Nat) : Int) by omega] at N7
  exact leaveS_ (by assumption) fun st => hret _ _ _ ⟨_, [46], a + 1, _, _, _, _, rfl, rfl, News.isTup N7 (.head _)⟩ st
set_option maxRecDepth 100000 in
set_option maxHeartbeats 8000000 in
theorem c_worth_A (w : World) (x pl : Addr) (l : List Nat) (a : Nat) (t1 : Tok) (hl : l.length < 1000) (hc : l[a]? = some 65) (hn : l[a + 1]? = some 32) :
    Outs w 221 [.ref x, .int (a : Int) t1] 20 120 (fun h => LineAt h x l pl ∧ PlacesAt h pl l.length) (fun _ v h' => WRes (.ok (Str.ofString "word", [65], a + 1)) v h') (fun k => False) := by
  intro A A₀ base h₀ env outer L m mg mb p loose s Q E B F X T hA hf hke hh hpre hd hu hret hbad
  obtain ⟨hL, hP⟩ := hpre
  refine wpAny_call (enterS [(Str.ofString "line", .ref x), (Str.ofString "at", .int (a : Int) t1)] B F X T hA hf hke (by omega) ?_)
  intro L' h₁ F' N' B' X' T'
  k_fold
  k_with_none
  k_with "call ref" => refine hold_ ?_
  k_with "subscriptTail Name Name str int" => refine at_S rfl hc (by omega) (fun _ _ => ?_)
  have hSl := S_len l
  have hlet : (Builtin.Str.occurrences (Str.ofString "ABCDEFGHIJKLMNOPQRSTUVWXYZ") (S [65]) 0 (Str.ofString "ABCDEFGHIJKLMNOPQRSTUVWXYZ").length 1).isEmpty = false := by decide +kernel
  have hfig : (Builtin.Str.occurrences (Str.ofString "0123456789") (S [65]) 0 (Str.ofString "0123456789").length 1).isEmpty = true := by decide +kernel
  k_steps
  refine Hold.go (Gives.use (c_capital w 65 _ (by decide)) trivial ?_)
  rintro _ h2 tk2 ⟨t2, rfl⟩ st2 F2 N2
  k_steps
  all_goals try (first | (refine (tfa ?_ hlet).elim; assumption) | (refine (tfa hfig ?_).elim; assumption))
  rw [lit_word]
  refine Hold.go (Gives.use (c_run_end w l _ a (a + 1) _ _ _ _ rfl (Nat.le_succ _) hl (by decide) (fun j h1 h2 => ⟨65, by rw [show j = a by omega]; exact hc, by decide, by decide⟩) (.inr ⟨32, hn, by decide, by decide⟩)) trivial ?_)
  rintro _ h4 tk4 ⟨t4, rfl⟩ st4 F4 N4
  k_steps
  refine Hold.go (Gives.use (c_number_end w l a 65 _ _ hl hc (by decide) (by decide) (by decide)) trivial ?_)
  rintro _ h5 tk5 ⟨t5, rfl⟩ st5 F5 N5
  k_steps
  all_goals try (refine (tfa hfig ?_).elim; assumption)
  rename Fr _ _ _ _ => F6
  refine Hold.go (Outs.use (c_need_apart w x pl l (a + 1) _ hl (.inr ⟨32, hn, .inl rfl⟩)) ⟨hL.keeps F6.keep, hP.keeps F6.keep⟩ ?_ ?_)
  · rintro v7 h7 tk7 hne st7 F7 N7
    k_steps
    rename Fr _ _ _ _ => F8
    refine Hold.go (Gives.use (c_checked_word w x pl l a _ _ hl hc) (hL.keeps F8.keep) ?_)
    rintro _ h9 tk9 ⟨t9, rfl⟩ st9 F9 N9
    k_steps
    rename News _ _ _ _ => N10
    exact leaveS_ (by assumption) fun st => hret _ _ _ ⟨_, [65], a + 1, _, _, _, _, rfl, rfl, News.isTup N10 (.head _)⟩ st
  · rintro k B₂ e' dx h7 tk7 ⟨hk, _⟩ H hB HF up
    rw [hn] at hk; cases hk
theorem Outs.imp {w : World} {f : Addr} {vs : List Value} {D U : Nat} {pre : Heap → Prop} {res res' : Heap → Value → Heap → Prop} {bad bad' : Nat → Prop} (C : Outs w f vs D U pre res bad) (h1 : ∀ h v h', res h v h' → res' h v h') (h2 : ∀ k, bad k → bad' k) :
    Outs w f vs D U pre res' bad' :=
  fun A A₀ base h₀ env outer L m mg mb p loose s Q E B F X T hA hf hke hh hp hd hu hret hbad => C A A₀ base h₀ env outer L m mg mb p loose s Q E B F X T hA hf hke hh hp hd hu (fun v h' tk' hr => hret v h' tk' (h1 _ _ _ hr)) fun k B e dx h' tk' hb => hbad k B e dx h' tk' (h2 k hb)
/-- worth_at's contract, all that the law needs -/
theorem c_worth (w : World) (x pl : Addr) (l : List Nat) (hl : l.length < 1000) : WorthAt w x pl l := by
  intro a ta r H
  cases H with
  | lit h h1 h2 =>
    refine (c_worth_lit w x pl l _ a _ _ ta hl h).imp (fun g v h' ⟨e, tp, t1, t2, t3, he, _, _, hv, ht⟩ => ?_) fun k hk => ?_
    · cases he
      exact ⟨_, _, _, tp, t1, t2, t3, rfl, hv, ht⟩
    · rcases hk with ⟨hk, _⟩ | ⟨e, he, hk, _⟩ | ⟨e, he, _, hk, _⟩
      · cases hk
      · cases he; exact absurd hk h1
      · exact absurd h2 hk
  | open_ h =>
    refine (c_worth_lit w x pl l _ a _ _ ta hl h).imp (fun g v h' ⟨e, tp, t1, t2, t3, he, _⟩ => ?_) fun k hk => ?_
    · cases he
    · rcases hk with ⟨_, rfl⟩ | ⟨e, he, _⟩ | ⟨e, he, _⟩
      · rfl
      · cases he
      · cases he
  | near h h1 =>
    refine (c_worth_lit w x pl l _ a _ _ ta hl h).imp (fun g v h' ⟨e, tp, t1, t2, t3, he, hne, _⟩ => ?_) fun k hk => ?_
    · cases he; exact absurd h1 hne
    · rcases hk with ⟨hk, _⟩ | ⟨e, he, _, rfl⟩ | ⟨e, he, hk, _⟩
      · cases hk
      · cases he; rfl
      · cases he; exact absurd h1 hk
  | long h h1 h2 =>
    refine (c_worth_lit w x pl l _ a _ _ ta hl h).imp (fun g v h' ⟨e, tp, t1, t2, t3, he, _, hlen, _⟩ => ?_) fun k hk => ?_
    · exact absurd hlen h2
    · rcases hk with ⟨hk, _⟩ | ⟨e, he, hk, _⟩ | ⟨e, he, _, hk, rfl⟩
      · cases hk
      · cases he; exact absurd hk h1
      · rfl
  | word h h2 => exact (c_worth_A w x pl l a ta hl h h2).imp (fun _ _ _ h => h) fun _ h => h.elim
  | dot h h2 => exact (c_worth_dot w x pl l a ta hl h h2).imp (fun _ _ _ h => h) fun _ h => h.elim
theorem LE.dbl_fin {q : Nat} {r : List Nat} (hr : r[0]? ≠ some q) : ∀ (t pre l : List Nat) (a e : Nat), l = pre ++ (dbl q t ++ q :: r) → a = pre.length → e = pre.length + (dbl q t).length + 1 → LE l q a (some e)
  | [], pre, l, a, e, hl, ha, he => by
    subst hl ha
    have he' : e = pre.length + 1 := by rw [he]; simp [dbl]
    rw [he']
    refine .fin ?_ ?_
    · simp [dbl]
    · rw [List.getElem?_append_right (by omega)]
      simp only [dbl, List.nil_append, Nat.add_sub_cancel_left, List.getElem?_cons_succ]
      exact hr
  | c :: t, pre, l, a, e, hl, ha, he => by
    by_cases hc : c = q
    · subst hc
      have hd : dbl c (c :: t) = c :: c :: dbl c t := by simp [dbl]
      rw [hd] at hl he
      refine .pair (by rw [hl, ha]; simp) (by rw [hl, ha, List.getElem?_append_right (by omega)]; simp) ?_
      exact LE.dbl_fin hr t (pre ++ [c, c]) l (a + 2) e (by rw [hl]; simp) (by rw [ha]; simp) (by rw [he]; simp; omega)
    · have hd : dbl q (c :: t) = c :: dbl q t := by simp [dbl, hc]
      rw [hd] at hl he
      refine .step (by rw [hl, ha]; simp) hc ?_
      exact LE.dbl_fin hr t (pre ++ [c]) l (a + 1) e (by rw [hl]; simp) (by rw [ha]; simp) (by rw [he]; simp; omega)
theorem LE.dbl_none {q : Nat} : ∀ (t pre l : List Nat) (a : Nat), l = pre ++ dbl q t → a = pre.length → LE l q a none
  | [], pre, l, a, hl, ha => .stop (by rw [hl, ha]; simp [dbl])
  | c :: t, pre, l, a, hl, ha => by
    by_cases hc : c = q
    · subst hc
      have hd : dbl c (c :: t) = c :: c :: dbl c t := by simp [dbl]
      rw [hd] at hl
      refine .pair (by rw [hl, ha]; simp) (by rw [hl, ha, List.getElem?_append_right (by omega)]; simp) ?_
      exact LE.dbl_none t (pre ++ [c, c]) l (a + 2) (by rw [hl]; simp) (by rw [ha]; simp)
    · have hd : dbl q (c :: t) = c :: dbl q t := by simp [dbl, hc]
      rw [hd] at hl
      refine .step (by rw [hl, ha]; simp) hc ?_
      exact LE.dbl_none t (pre ++ [c]) l (a + 1) (by rw [hl]; simp) (by rw [ha]; simp)
/-- a literal inside a longer text -/
theorem lit_in {q : Nat} (hq : q = 34 ∨ q = 39) (t pre r l : List Nat) (a e : Nat) (hr : r = [] ∨ ∃ c r', r = c :: r' ∧ (c = 32 ∨ c = 44 ∨ c = 65)) (hl : l = pre ++ (qd q t ++ r)) (ha : a = pre.length) (he : e = pre.length + (qd q t).length) : Lit l a q (some e) t := by
  have hl' : l = (pre ++ [q]) ++ (dbl q t ++ q :: r) := by rw [hl]; simp [qd]
  have hrq : r[0]? ≠ some q := by
    rcases hr with rfl | ⟨c, r', rfl, hc⟩
    · simp
    · simp only [List.getElem?_cons_zero, ne_eq, Option.some.injEq]; omega
  have hqd : (qd q t).length = (dbl q t).length + 2 := by simp [qd]
  refine ⟨by rw [hl', ha]; simp, hq, LE.dbl_fin hrq t (pre ++ [q]) l (a + 1) e hl' (by rw [ha]; simp) (by rw [he, hqd]; simp; omega), fun e' h => ?_, fun e' h => ?_, fun e' h => ?_⟩
  · cases h; rw [hl, he, ha, hqd]; simp only [List.length_append, hqd]; omega
  · cases h
    rw [hl', ha, he, hqd, show pre.length + 1 = (pre ++ [q]).length by simp, List.drop_left, show pre.length + ((dbl q t).length + 2) - 1 - (pre ++ [q]).length = (dbl q t).length by simp; omega, List.take_left]
  · cases h
    rcases hr with rfl | ⟨c, r', rfl, hc⟩
    · left; rw [hl, he]; simp
    · right
      refine ⟨c, ?_, hc⟩
      rw [hl, he, ← List.append_assoc, show pre.length + (qd q t).length = (pre ++ qd q t).length by simp]
      simp
theorem nb_quote {l : List Nat} {a q : Nat} (hq : q = 34 ∨ q = 39) (h : l[a]? = some q) : ¬ blankAt l a := by
  unfold blankAt; rw [h]; simp only [Option.some.injEq]; omega
theorem reads_q {q : Nat} (hq : q = 34 ∨ q = 39) (t : List Nat) (hlen : 1 ≤ t.length ∧ t.length ≤ 160) : Reads (qd q t) 0 [⟨Str.ofString "literal", t, 0⟩] none := by
  have H : Lit (qd q t) 0 q (some (qd q t).length) t := lit_in hq t [] [] _ 0 _ (.inl rfl) (by simp) rfl (by simp)
  exact .tok (nb_quote hq H.sign) (.lit H (by simp) hlen) (.stop (Nat.le_refl _))
theorem reads_long {q : Nat} (hq : q = 34 ∨ q = 39) (t : List Nat) (hlen : ¬ (1 ≤ t.length ∧ t.length ≤ 160)) : Reads (qd q t) 0 [] (some 0) := by
  have H : Lit (qd q t) 0 q (some (qd q t).length) t := lit_in hq t [] [] _ 0 _ (.inl rfl) (by simp) rfl (by simp)
  exact .bad (nb_quote hq H.sign) (.long H (by simp) hlen)
theorem reads_cut {q : Nat} (hq : q = 34 ∨ q = 39) (t : List Nat) : Reads (qd q t).dropLast 0 [] (some 0) := by
  have e : (qd q t).dropLast = [q] ++ dbl q t := by
    rw [show qd q t = (q :: dbl q t) ++ [q] from rfl, List.dropLast_concat]; rfl
  rw [e]
  have H : Lit ([q] ++ dbl q t) 0 q none t := ⟨rfl, hq, LE.dbl_none t [q] _ 1 rfl rfl, (fun _ h => nomatch h), (fun _ h => nomatch h), (fun _ h => nomatch h)⟩
  exact .bad (nb_quote hq H.sign) (.open_ H)
theorem reads_A {q : Nat} (hq : q = 34 ∨ q = 39) (t : List Nat) : Reads (qd q t ++ [65]) 0 [] (some (qd q t).length) := by
  have H : Lit (qd q t ++ [65]) 0 q (some (qd q t).length) t := lit_in hq t [] [65] _ 0 _ (.inr ⟨65, [], rfl, by omega⟩) (by simp) rfl (by simp)
  exact .bad (nb_quote hq H.sign) (.near H (by simp))
theorem reads_two (t u : List Nat) (ht : 1 ≤ t.length ∧ t.length ≤ 160) (hu : 1 ≤ u.length ∧ u.length ≤ 160) :
    Reads (qd 34 t ++ 44 :: 32 :: qd 34 u) 0 [⟨Str.ofString "literal", t, 0⟩, ⟨Str.ofString "literal", u, (qd 34 t).length + 2⟩] none := by
  have H1 : Lit (qd 34 t ++ 44 :: 32 :: qd 34 u) 0 34 (some (qd 34 t).length) t := lit_in (.inl rfl) t [] (44 :: 32 :: qd 34 u) _ 0 _ (.inr ⟨44, _, rfl, by omega⟩) (by simp) rfl (by simp)
  have H2 : Lit (qd 34 t ++ 44 :: 32 :: qd 34 u) ((qd 34 t).length + 2) 34 (some ((qd 34 t).length + 2 + (qd 34 u).length)) u := lit_in (.inl rfl) u (qd 34 t ++ [44, 32]) [] _ _ _ (.inl rfl) (by simp) (by simp) (by simp)
  have h44 : (qd 34 t ++ 44 :: 32 :: qd 34 u)[(qd 34 t).length]? = some 44 := by simp
  have h32 : (qd 34 t ++ 44 :: 32 :: qd 34 u)[(qd 34 t).length + 1]? = some 32 := by rw [List.getElem?_append_right (by omega)]; simp
  refine .tok (nb_quote (.inl rfl) H1.sign) (.lit H1 (by rw [h44]; simp) ht) (.skip (.inr ⟨.inl h44, .inr h32⟩) (.skip (.inl h32) (.tok (nb_quote (.inl rfl) H2.sign) (.lit H2 (by rw [List.getElem?_eq_none (by simp; omega)]; simp) hu) (.stop ?_))))
  simp; omega
theorem reads_three (t : List Nat) (ht : 1 ≤ t.length ∧ t.length ≤ 160) :
    Reads (65 :: 32 :: (qd 34 t ++ [32, 46])) 0 [⟨Str.ofString "word", [65], 0⟩, ⟨Str.ofString "literal", t, 2⟩, ⟨Str.ofString "sign", [46], (qd 34 t).length + 3⟩] none := by
  have H : Lit (65 :: 32 :: (qd 34 t ++ [32, 46])) 2 34 (some ((qd 34 t).length + 2)) t := lit_in (.inl rfl) t [65, 32] [32, 46] _ 2 _ (.inr ⟨32, _, rfl, by omega⟩) rfl rfl (by simp; omega)
  have h32 : (65 :: 32 :: (qd 34 t ++ [32, 46]))[(qd 34 t).length + 2]? = some 32 := by simp
  have h46 : (65 :: 32 :: (qd 34 t ++ [32, 46]))[(qd 34 t).length + 3]? = some 46 := by
    rw [show (qd 34 t).length + 3 = ((qd 34 t).length + 1) + 1 + 1 by omega, List.getElem?_cons_succ, List.getElem?_cons_succ, List.getElem?_append_right (by omega)]; simp
  have hz : (65 :: 32 :: (qd 34 t ++ [32, 46])).length = (qd 34 t).length + 3 + 1 := by simp
  refine .tok (e := 1) ?_ (.word rfl rfl) (.skip (.inl rfl) (.tok (nb_quote (.inl rfl) H.sign) (.lit H (by rw [h32]; simp) ht) (.skip (.inl h32) (.tok ?_ (.dot h46 hz) (.stop (by omega))))))
  · unfold blankAt; simp
  · unfold blankAt; rw [h46]; simp
/-- a literal's Token, its text alone -/
def TokLit (h : Heap) (x : Addr) (t : List Nat) : Prop :=
  ∃ dx es n t1 t2, h.get? x = some (instObj 109 dx) ∧ h.get? dx = some (dictOf es n) ∧ getL (Str.ofString "kind") es = some (some (.str (Str.ofString "literal") t1)) ∧ getL (Str.ofString "worth") es = some (some (.str (S t) t2))
theorem TokLit.keeps {h h' : Heap} {x : Addr} {t : List Nat} (st : h.StaysIn h') (H : TokLit h x t) : TokLit h' x t :=
  let ⟨dx, es, n, t1, t2, a, b, c, d⟩ := H; ⟨dx, es, n, t1, t2, st _ _ a, st _ _ b, c, d⟩
section
variable {prog : Program} {w : World} {A : Around} {E : Value → Shared → Prop} {s : Shared} {h₀ : Heap} {L x : Addr} {m : Str → Option Value} {t : List Nat} {expr : Bool}
theorem lit_kind {Q : Value → Shared → Prop} (h : ∀ t k', Q (.str (Str.ofString "literal") t) { s with toks := k' }) (F : Fr h₀ L s.heap m := by assumption) (X : (Mine.kmaker.heap_39 w.params).In h₀ := by assumption) (H : TokLit h₀ x t := by assumption) :
    wpAny (model prog w) A (getAttr (.ref x) (Str.ofString "kind") expr) Q E s := by
  obtain ⟨dx, es, n, t1, t2, a, b, c, d⟩ := H.keeps F.keep
  have I : InstAt s.heap x (instObj 109 dx) 109 (some (dictOf es n)) := ⟨a, rfl, rfl, b⟩
  refine get_own (attr := none) F X I ?_ ?_ ?_ ?_ c ?_ (h _ _)
  · k_dflt k_is
  · k_dflt k_is
  · k_dflt k_is
  · k_dflt k_is
  · k_handed
theorem lit_worth {Q : Value → Shared → Prop} (h : ∀ t' k', Q (.str (S t) t') { s with toks := k' }) (F : Fr h₀ L s.heap m := by assumption) (X : (Mine.kmaker.heap_39 w.params).In h₀ := by assumption) (H : TokLit h₀ x t := by assumption) :
    wpAny (model prog w) A (getAttr (.ref x) (Str.ofString "worth") expr) Q E s := by
  obtain ⟨dx, es, n, t1, t2, a, b, c, d⟩ := H.keeps F.keep
  have I : InstAt s.heap x (instObj 109 dx) 109 (some (dictOf es n)) := ⟨a, rfl, rfl, b⟩
  refine get_own (attr := none) F X I ?_ ?_ ?_ ?_ d ?_ (h _ _)
  · k_dflt k_is
  · k_dflt k_is
  · k_dflt k_is
  · k_dflt k_is
  · k_handed
end
set_option maxRecDepth 100000 in
set_option maxHeartbeats 8000000 in
theorem c_token_text (w : World) (x : Addr) (t : List Nat) : Gives w 270 [.ref x] 6 24 (fun h => TokLit h x t ∧ t.length < 1000) (fun _ v _ => ∃ t', v = .str (S (qd 34 t)) t') := by
  intro A A₀ base h₀ env outer L m mg mb p loose s Q E B F X T hA hf hke hh hpre hd hu hret
  obtain ⟨hpre, ht⟩ := hpre
  refine wpAny_call (enterS [(Str.ofString "token", .ref x)] B F X T hA hf hke (by omega) ?_)
  intro L' h₁ F' N' B' X' T'
  k_fold
  k_with_none
  k_with "call ref" => refine hold_ ?_
  k_with "getAttr ref" => first | (refine lit_kind (fun _ _ => ?_); dsimp only) | (refine lit_worth (fun _ _ => ?_); dsimp only)
  k_steps
  refine Hold.go (Gives.use (c_quoted w t _) ht ?_)
  rintro _ h3 tk3 ⟨t3, rfl⟩ st3 F5 N5
  dsimp only
  k_steps
  exact leaveS_ F5 fun st => hret _ _ _ ⟨_, rfl⟩ st
theorem take_succ_of {l : List Nat} {i c : Nat} (h : l[i]? = some c) : l.take (i + 1) = l.take i ++ [c] := by
  rw [List.take_succ, h]; rfl
/-- between the turns of _law_plainly's loop -/
def PL (g : Heap) (L it : Addr) (t : List Nat) (tt : Tok) (n : Nat) (h : Heap) : Prop :=
  ∃ i m tf, n + i = t.length ∧ Fr g L h m ∧ m (Str.ofString "found") = some (.str (S (34 :: dbl 34 (t.take i))) tf) ∧ it ≠ L ∧ g.get? it = none ∧ h.IsStrIter it "str_ascii_iterator" (S t) tt i
theorem pl_end (t : List Nat) : S (34 :: dbl 34 (t.take t.length)) ++ Str.ofString "\"" = S (qd 34 t) := by
  rw [List.take_length, lit_q, S_app]; rfl
theorem pl_q {t : List Nat} {i c : Nat} (h : t[i]? = some c) (hc : (S [c] == Str.ofString "\"") = true) : S (34 :: dbl 34 (t.take i)) ++ (S [c] ++ S [c]) = S (34 :: dbl 34 (t.take (i + 1))) := by
  rw [lit_q, S_beq, beq_iff_eq] at hc
  obtain rfl : c = 34 := by simpa using hc
  rw [take_succ_of h, dbl_app, S_app, S_app]; rfl
theorem pl_n {t : List Nat} {i c : Nat} (h : t[i]? = some c) (hc : (S [c] == Str.ofString "\"") = false) : S (34 :: dbl 34 (t.take i)) ++ S [c] = S (34 :: dbl 34 (t.take (i + 1))) := by
  rw [lit_q, S_beq] at hc
  have hc : c ≠ 34 := by simpa using hc
  rw [take_succ_of h, dbl_app, S_app]; simp [dbl, hc]
set_option maxRecDepth 100000 in
set_option maxHeartbeats 8000000 in
theorem c_law_plainly (w : World) (t : List Nat) (tt : Tok) : Gives w 289 [.str (S t) tt] 4 16 (fun _ => t.length < 400 ∧ ∀ c ∈ t, c < 128) (fun _ v _ => ∃ t', v = .str (S (qd 34 t)) t') := by
  intro A A₀ base h₀ env outer L m mg mb p loose s Q E B F X T hA hf hke hh hpre hd hu hret
  obtain ⟨hlen, hasc⟩ := hpre
  refine wpAny_call (enterS [(Str.ofString "text", .str (S t) tt)] B F X T hA hf hke (by omega) ?_)
  intro L' h₁ F' N' B' X' T'
  k_fold
  k_with_none
  k_with "call ref" => refine hold_ ?_
  k_with "exec For Name Name cons nil" => refine hold_ ?_
  have hSl := S_len t
  k_steps
  rename Fr _ _ _ _ => F1
  k_with "pyIter str" => refine hold_ ?_
  refine Hold.go (wpAny_For ?_)
  k_steps
  rename Heap => hB0
  have hall : (S t).cps.all (· < 128) = true := by
    rw [S_cps, Array.all_eq_true]
    intro i hi
    simpa using hasc _ (List.getElem_mem _)
  refine Hold.go (wpAny_pyIter_ascii hall ?_)
  refine codeAny_forLoop (fun n s' => ∃ h tk, s' = { s with heap := h, toks := tk } ∧ PL s.heap L' hB0.objs.size t tt n h) (fun n s' I => ?_) t.length ⟨_, _, rfl, 0, _, _, rfl, F1.pushS _, by rw [show (34 :: dbl 34 (t.take 0)) = [34] from rfl, ← lit_q]; rfl, Nat.ne_of_gt F1.ns.lt, none_of F1.keep (Heap.get?_none_of_le (Nat.le_refl _)), ⟨_, Heap.get?_push_size _ rfl, rfl, rfl⟩⟩
  generalize hB0.objs.size = it at I
  clear F1
  obtain ⟨h, tk', rfl, i, m', tf, hn, Fm, hmf, hi1, hi3, hit⟩ := I
  by_cases hil : i < t.length
  · have hx : (S t).cps[i]? = some t[i] := by simp [S, hil]
    have hx' : t[i]? = some t[i] := List.getElem?_eq_getElem hil
    have hc : t[i] < 128 := hasc _ (List.getElem_mem _)
    generalize t[i] = c at hx hx' hc
    refine wpAny_pyNext_ascii_item hit hx (fun h1 hit1 hs1 => ?_)
    obtain ⟨oi, hoi, hci, hdi⟩ := hit1
    have N2 : News s.heap L' h1 [(it, oi)] := fun q hq => by
      obtain rfl := List.mem_singleton.mp hq
      exact ⟨hoi, hi1, hi3⟩
    have F2 := Fr.congr (Fm.change hs1 hi1 hi3) (canon1 hmf)
    have hsz1 : (S (34 :: dbl 34 (t.take i))).length ≤ 1000 := by
      rw [S_len]
      have := dbl_le 34 (t.take i)
      have := List.length_take_le i t
      simp only [List.length_cons]; omega
    have hsz2 : (S [c]).length = 1 := rfl
    dsimp only
    refine wpAny_assign_Name (stN F2 N2 (fun h3 F3 N3 => ?_) rfl rfl)
    clear F2 N2 Fm
    dsimp only
    replace F3 : Fr s.heap L' h3 (fun y => if y = Str.ofString "sign" then some (Value.str (S [c]) tk') else if y = Str.ofString "found" then some (Value.str (S (34 :: dbl 34 (List.take i t))) tf) else m' y) := F3
    k_steps
    · have hil2 := (List.getElem?_eq_some_iff.mp hx').1
      have hn1 : n - 1 < n := by omega
      exact hn1
    · have hil2 := (List.getElem?_eq_some_iff.mp hx').1
      rename Fr _ _ _ _ => F5
      rename News _ _ _ _ => N5
      exact ⟨i + 1, _, _, by omega, F5, congrArg (fun x => some (Value.str x _)) (pl_q hx' (by assumption)), hi1, hi3, ⟨oi, (N5 _ (.head _)).1, hci, hdi⟩⟩
    · have hil2 := (List.getElem?_eq_some_iff.mp hx').1
      have hn1 : n - 1 < n := by omega
      exact hn1
    · have hil2 := (List.getElem?_eq_some_iff.mp hx').1
      rename Fr _ _ _ _ => F5
      rename News _ _ _ _ => N5
      exact ⟨i + 1, _, _, by omega, F5, congrArg (fun x => some (Value.str x _)) (pl_n hx' (by assumption)), hi1, hi3, ⟨oi, (N5 _ (.head _)).1, hci, hdi⟩⟩
  · refine wpAny_pyNext_ascii_end hh hit (by simp [S]; omega) (fun h1 he1 => ?_)
    obtain rfl : i = t.length := by omega
    have F2 := Fr.congr (Fr.butE Fm hi3 hi1 he1) (canon1 hmf)
    have N2 : News s.heap L' h1 [] := News.nil
    have hsz1 : (S (34 :: dbl 34 (t.take t.length))).length ≤ 1000 := by
      rw [S_len]
      have := dbl_le 34 (t.take t.length)
      have := List.length_take_le t.length t
      simp only [List.length_cons]; omega
    dsimp only
    k_steps
    dsimp only
    k_steps
    exact leaveS_ F2 fun st => hret _ _ _ ⟨_, congrArg (fun x => Value.str x _) (pl_end t)⟩ st
theorem canon2 {m : Str → Option Value} {a b : Str} {va vb : Value} (h1 : m a = some va) (h2 : m b = some vb) : ∀ y, m y = (if y = a then some va else if y = b then some vb else m y) := by
  intro y
  by_cases q : y = a
  · rw [if_pos q, q, h1]
  · rw [if_neg q]
    exact canon1 h2 y
theorem lt_num {z : Int} (h : 0 ≤ z ∧ z < 1000000000000000100) : 0 ≤ z.fdiv 12 + z.fmod 5 * 7 ∧ z.fdiv 12 + z.fmod 5 * 7 < 1000000000000000100 := by
  rw [Int.fdiv_eq_ediv_of_nonneg _ (by omega), Int.fmod_eq_emod_of_nonneg _ (by omega)]; omega
/-- an item of a tuple of signs, wherever it lies -/
theorem tab_item {prog : Program} {w : World} {A : Around} {E : Value → Shared → Prop} {s : Shared} {value slice : Expr} {D : Addr} {vs : List Value} {k : Int} {u : Tok} {Q : Value → Shared → Prop} (hT : IsTup s.heap D vs.toArray)
    (hk0 : 0 ≤ k) (hk1 : k < vs.length) (hz : vs.length < 1000) (hv : ∀ v ∈ vs, ∃ c t, v = .str (S [c]) t ∧ c < 128) (h : ∀ c t, c < 128 → Q (.str (S [c]) t) s)
    (hs : subscripted slice false (.ref D) (.int k u) = operate [.ref D, .int k u] (getItem (.ref D) (.int k u)) := by with_unfolding_all rfl) :
    wpAny (model prog w) A (subscriptTail value slice (.ref D) (.int k u)) Q E s := by
  have hi : k.toNat < vs.length := by omega
  obtain ⟨c, t, e, hc⟩ := hv vs[k.toNat] (List.getElem_mem _)
  have hx : vs.toArray[k.toNat]? = some (.str (S [c]) t) := by rw [← e]; simp [hi]
  exact tail_any hT.typeIs PyProof.Rows.slot_tuple_getitem.lookup (PyProof.Rows.getItem_tuple hT (by omega) (by omega) (PySem.StrLaws.seqIndex_nonneg hk0 (by rw [List.size_toArray]; exact hk1)) hx (h c t hc)) hs
theorem tab_ten : ∀ x ∈ ["\"", "a", "'", " ", ".", "\"", ",", "Z", "-", "'"], ∃ c, Str.ofString x = S [c] ∧ c < 128 := by
  intro x hx
  have : ∀ x ∈ ["\"", "a", "'", " ", ".", "\"", ",", "Z", "-", "'"], (Str.ofString x).cps.toList.length = 1 ∧ (Str.ofString x).cps.toList.headD 0 < 128 := by decide +kernel
  obtain ⟨h1, h2⟩ := this x hx
  obtain ⟨c, hc⟩ := List.length_eq_one_iff.mp h1
  rw [hc] at h2
  exact ⟨c, by rw [← S_of (Str.ofString x), hc], h2⟩
theorem ten_ok {x : String} (hx : x ∈ ["\"", "a", "'", " ", ".", "\"", ",", "Z", "-", "'"]) (t : Tok) : ∃ c t', Value.str (Str.ofString x) t = .str (S [c]) t' ∧ c < 128 :=
  let ⟨c, e, h⟩ := tab_ten x hx; ⟨c, t, by rw [e], h⟩
/-- between the turns of _law_text's loop -/
def LTx (g : Heap) (L it K : Nat) (n : Nat) (h : Heap) : Prop :=
  ∃ (i : Nat) (z : Int) (f : List Nat) (m : Str → Option Value) (tz tf : Tok), n + i = K ∧ Fr g L h m ∧ m (Str.ofString "number") = some (.int z tz) ∧ (0 ≤ z ∧ z < 1000000000000000100) ∧ m (Str.ofString "found") = some (.str (S f) tf) ∧ f.length = i ∧ (∀ c ∈ f, c < 128) ∧ it ≠ L ∧ g.get? it = none ∧ IsRangeIter h it (i : Int) ((K : Int) - (i : Int)) 1
set_option maxRecDepth 100000 in
set_option maxHeartbeats 8000000 in
theorem c_law_text (w : World) (z : Int) (tz : Tok) : Gives w 277 [.int z tz] 4 16 (fun _ => 0 ≤ z ∧ z < 1000000000000000000) (fun _ v _ => ∃ t t', v = .str (S t) t' ∧ 1 ≤ t.length ∧ t.length ≤ 12 ∧ ∀ c ∈ t, c < 128) := by
  intro A A₀ base h₀ env outer L m mg mb p loose s Q E B F X T hA hf hke hh hpre hd hu hret
  obtain ⟨hz0, hz1⟩ := hpre
  refine wpAny_call (enterS [(Str.ofString "number", .int z tz)] B F X T hA hf hke (by omega) ?_)
  intro L' h₁ F' N' B' X' T'
  k_fold
  k_with_none
  k_with "call ref" => refine hold_ ?_
  k_with "exec For Name Call cons nil" => refine hold_ ?_
  k_steps
  k_with "pyIter ref" => refine hold_ ?_
  refine Hold.go (wpAny_For ?_)
  k_steps
  rename Fr _ _ _ _ => F1
  rename IsRange _ _ _ _ _ _ _ _ => hR
  rename Heap => hB0
  have hm0 : 0 ≤ z.fmod 12 ∧ z.fmod 12 < 12 := ⟨Int.fmod_nonneg_of_pos _ (by omega), Int.fmod_lt_of_pos _ (by omega)⟩
  refine Hold.go (wpAny_pyIter_range hR ?_ ?_)
  · refine small_one ?_ ?_ ?_ ?_ <;> omega
  generalize hK : (z.fmod 12).toNat + 1 = K
  have hsz : Builtin.Range.rangeSize 0 (1 + z.fmod 12) 1 = (K : Int) := by
    rw [show 1 + z.fmod 12 = ((K : Nat) : Int) by omega]
    rw [rangeSize_nat]; omega
  rw [hsz]
  refine codeAny_forLoop (fun n s' => ∃ h tk, s' = { s with heap := h, toks := tk } ∧ LTx s.heap L' hB0.objs.size K n h) (fun n s' I => ?_) K ⟨_, _, rfl, 0, z, [], _, _, _, rfl, F1.pushS _, rfl, by omega, rfl, rfl, fun c hc => absurd hc List.not_mem_nil, Nat.ne_of_gt F1.ns.lt, none_of F1.keep (Heap.get?_none_of_le (Nat.le_refl _)), by rw [show (K : Int) - ((0 : Nat) : Int) = K by omega]; exact Heap.get?_push_size _ rfl⟩
  generalize hB0.objs.size = it at I
  clear F1 hR
  obtain ⟨h, tk', rfl, i, z, f, m', tz, tf, hn, Fm, hmz, hz, hmf, hfl, hfc, hi1, hi3, hit⟩ := I
  by_cases hil : i < K
  · refine wpAny_pyNext_range_item hit (by omega) (fun h1 hit1 hs1 => ?_)
    have N2 : News s.heap L' h1 [(it, _)] := fun q hq => by
      obtain rfl := List.mem_singleton.mp hq
      exact ⟨hit1, hi1, hi3⟩
    have F2 := Fr.congr (Fm.change hs1 hi1 hi3) (canon2 hmz hmf)
    have hsz1 : (S f).length ≤ 12 := by
      rw [S_len]; omega
    dsimp only
    refine wpAny_assign_Name (stN F2 N2 (fun h3 F3 N3 => ?_) rfl rfl)
    clear F2 N2 Fm
    dsimp only
    k_steps
    rename News _ _ _ _ => N4
    rename_i D4 _ _
    generalize hz2 : z.fdiv 12 + z.fmod 5 * 7 = z2
    have hzb := lt_num hz
    rw [hz2] at hzb
    have hm2 : 0 ≤ z2.fmod 10 ∧ z2.fmod 10 < 10 := ⟨Int.fmod_nonneg_of_pos _ (by omega), Int.fmod_lt_of_pos _ (by omega)⟩
    refine tab_item (vs := [.str _ _, .str _ _, .str _ _, .str _ _, .str _ _, .str _ _, .str _ _, .str _ _, .str _ _, .str _ _]) ⟨_, (N4 _ (.head _)).1, rfl, _, rfl⟩ hm2.1 hm2.2 (by simp) ?_ ?_
    · intro v hv
      simp only [List.mem_cons, List.not_mem_nil, or_false] at hv
      rcases hv with rfl | rfl | rfl | rfl | rfl | rfl | rfl | rfl | rfl | rfl <;> exact ten_ok (by simp) _
    intro c tc hc
    have hsz2 : (S [c]).length = 1 := rfl
    k_steps
    · have hn1 : n - 1 < n := by omega
      exact hn1
    · rename Fr _ _ _ _ => F5
      rename News _ _ _ _ => N5
      refine ⟨i + 1, z.fdiv 12 + z.fmod 5 * 7, f ++ [c], _, _, _, ?_, F5, rfl, by rw [hz2]; exact hzb, congrArg (fun x => some (Value.str x _)) (S_app f [c]), ?_, ?_, hi1, hi3, ?_⟩
      · omega
      · simp [hfl]
      · intro d hd
        rcases List.mem_append.mp hd with hd | hd
        · exact hfc d hd
        · rw [List.mem_singleton.mp hd]; exact hc
      · rw [show (((i + 1 : Nat) : Int)) = (i : Int) + 1 by omega, show (K : Int) - ((i : Int) + 1) = (K : Int) - (i : Int) - 1 by omega]
        exact (N5 _ (.tail _ (.head _))).1
  · refine wpAny_pyNext_range_end hh hit (by omega) (fun h1 he1 => ?_)
    have F2 := Fr.congr (Fr.butE Fm hi3 hi1 he1) (canon1 hmf)
    have N2 : News s.heap L' h1 [] := News.nil
    dsimp only
    k_steps
    dsimp only
    k_steps
    exact leaveS_ F2 fun st => hret _ _ _ ⟨f, _, rfl, by omega, by omega, hfc⟩ st
/-- what a token tells, as data -/
def tkDat (k : TK) : PySem.PyData := .tuple [.str k.kind, .str (S k.text), .tuple [.int 2, .int (12 + (k.at_ : Int))]]
def datOf : Option Nat → List TK → PySem.PyData
  | none, ts => .list (ts.map tkDat)
  | some k, _ => .tuple [.int 2, .int (12 + (k : Int))]
theorem reads_tup {h : Heap} {a : Addr} {vs : List Value} {xs : List PySem.PyData} {as : List Addr} (hT : IsTup h a vs.toArray) (H : PySem.ReadsAll h vs xs as) : PySem.Reads h (.ref a) (.tuple xs) as :=
  let ⟨_, ho, hc, _, hd⟩ := hT; .tuple ho hc hd H
theorem place_reads {h : Heap} {tp k : Nat} (H : PlaceAt h tp k) : ∃ as, PySem.Reads h (.ref tp) (.tuple [.int 2, .int (12 + (k : Int))]) as :=
  let ⟨_, _, hT⟩ := H; ⟨_, reads_tup (vs := [.int 2 _, .int _ _]) hT (.cons (.int _ _) (.cons (.int _ _) .nil))⟩
theorem readsAll_of {h : Heap} : ∀ (ts : List TK) (ys : List Value), ys.length = ts.length → (∀ (j : Nat) (k : TK), ts[j]? = some k → ∃ x, ys[j]? = some x ∧ ∃ as, PySem.Reads h x (tkDat k) as) → ∃ as, PySem.ReadsAll h ys (ts.map tkDat) as
  | [], ys, hl, _ => by
    obtain rfl : ys = [] := List.length_eq_zero_iff.mp hl
    exact ⟨_, .nil⟩
  | k :: ts, [], hl, _ => by simp at hl
  | k :: ts, y :: ys, hl, H => by
    obtain ⟨x, hx, as, hr⟩ := H 0 k rfl
    obtain rfl : y = x := by simpa using hx
    obtain ⟨bs, hb⟩ := readsAll_of ts ys (by simpa using hl) fun j k hk => H (j + 1) k hk
    exact ⟨_, .cons hr hb⟩
theorem RR.reads {r : Option Nat} {ts : List TK} {v : Value} {h : Heap} (H : RR r ts v h) : ∃ as, PySem.Reads h v (datOf r ts) as := by
  rcases H with ⟨rfl, D, ys, rfl, hl, hn, hy⟩ | ⟨k, tp, rfl, rfl, hp⟩
  · obtain ⟨as, ha⟩ := readsAll_of (h := h) ts ys hn fun j k hk => by
      obtain ⟨tj, t1, t2, pj, hj, hT, hp⟩ := hy j k hk
      obtain ⟨bs, hb⟩ := place_reads hp
      exact ⟨_, hj, _, reads_tup (vs := [.str _ _, .str _ _, .ref _]) hT (.cons (.str _ _) (.cons (.str _ _) (.cons hb .nil)))⟩
    obtain ⟨o, ho, hc, n, hd⟩ := hl
    exact ⟨_, .list ho hc hd ha⟩
  · exact place_reads hp
/-- it holds as long as the base and the ledger stay -/
def Kp (g : Heap) (L : Addr) (news : List (Addr × Obj)) (P : Heap → Prop) : Prop := ∀ h' n', (∀ p ∈ news, p ∈ n') → g.StaysIn h' → News g L h' n' → P h'
theorem Kp.more {g : Heap} {L : Addr} {news news' : List (Addr × Obj)} {P : Heap → Prop} (H : Kp g L news P) (hs : ∀ p ∈ news, p ∈ news') : Kp g L news' P := fun h' n' s' st N => H h' n' (fun p hp => s' p (hs p hp)) st N
theorem Kp.imp {g : Heap} {L : Addr} {news : List (Addr × Obj)} {P P' : Heap → Prop} (H : Kp g L news P) (hs : ∀ h, P h → P' h) : Kp g L news P' := fun h' n' s' st N => hs _ (H h' n' s' st N)
theorem keep_obj {g h : Heap} {L a : Addr} {o : Obj} {m : Str → Option Value} {news : List (Addr × Obj)} (F : Fr g L h m) (N : News g L h news) (ho : h.get? a = some o) (hne : a ≠ L) : ∃ news', (∀ p ∈ news, p ∈ news') ∧ News g L h news' ∧ Kp g L news' (fun h' => h'.get? a = some o) := by
  cases q : g.get? a with
  | some o' =>
    obtain rfl : o' = o := Option.some.inj ((F.keep _ _ q).symm.trans ho)
    exact ⟨news, fun p hp => hp, N, fun h' n' _ st _ => st _ _ q⟩
  | none =>
    refine ⟨(a, o) :: news, fun p hp => .tail _ hp, fun p hp => ?_, fun h' n' s' _ N' => (N' _ (s' _ (.head _))).1⟩
    rcases List.mem_cons.mp hp with rfl | hp
    · exact ⟨ho, hne, q⟩
    · exact N p hp
theorem seq_ne {h : Heap} {L a : Addr} {o : Obj} {m : Str → Option Value} {vs : Array Value} {n : Nat} (hL : h.Ns L m) (ho : h.get? a = some o) (hd : o.data = .seq vs n) : a ≠ L := by
  rintro rfl
  obtain ⟨o', es, ep, ho', hd', _⟩ := hL
  obtain rfl := Option.some.inj (ho'.symm.trans ho)
  rw [hd] at hd'; cases hd'
theorem keep_tup {g h : Heap} {L a : Addr} {items : Array Value} {m : Str → Option Value} {news : List (Addr × Obj)} (F : Fr g L h m) (N : News g L h news) (hT : IsTup h a items) : ∃ news', (∀ p ∈ news, p ∈ news') ∧ News g L h news' ∧ Kp g L news' (fun h' => IsTup h' a items) := by
  obtain ⟨o, ho, hc, n, hd⟩ := hT
  obtain ⟨news', h1, h2, h3⟩ := keep_obj F N ho (seq_ne F.ns ho hd)
  exact ⟨news', h1, h2, h3.imp fun h' q => ⟨o, q, hc, n, hd⟩⟩
theorem keep_toks {g h : Heap} {L : Addr} {m : Str → Option Value} {news : List (Addr × Obj)} {ts : List TK} {ys : List Value} (F : Fr g L h m) (N : News g L h news)
    (H : ∀ (j : Nat) (k : TK), ts[j]? = some k → ∃ tj t1 t2 pj, ys[j]? = some (.ref tj) ∧ IsTup h tj #[.str k.kind t1, .str (S k.text) t2, .ref pj] ∧ PlaceAt h pj k.at_) :
    ∀ n : Nat, ∃ news' : List (Addr × Obj), (∀ p ∈ news, p ∈ news') ∧ News g L h news' ∧ ∀ j : Nat, j < n → ∀ k : TK, ts[j]? = some k → ∃ tj t1 t2 pj, ys[j]? = some (.ref tj) ∧ Kp g L news' (fun h' => IsTup h' tj #[.str k.kind t1, .str (S k.text) t2, .ref pj] ∧ PlaceAt h' pj k.at_) := by
  intro n
  induction n with
  | zero => exact ⟨news, fun p hp => hp, N, fun i hi => absurd hi (Nat.not_lt_zero i)⟩
  | succ n ih =>
    obtain ⟨news1, s1, N1, H1⟩ := ih
    cases q : ts[n]? with
    | none =>
      refine ⟨news1, s1, N1, fun i hi k hk => ?_⟩
      rcases Nat.lt_succ_iff_lt_or_eq.mp hi with hi | rfl
      · exact H1 i hi k hk
      · rw [q] at hk; cases hk
    | some k0 =>
      obtain ⟨tj, t1, t2, pj, hj, hT, hp⟩ := H n k0 q
      obtain ⟨news2, s2, N2, K2⟩ := keep_tup F N1 hT
      obtain ⟨v1, v2, hpT⟩ := hp
      obtain ⟨news3, s3, N3, K3⟩ := keep_tup F N2 hpT
      refine ⟨news3, fun p hp => s3 p (s2 p (s1 p hp)), N3, fun i hi k hk => ?_⟩
      rcases Nat.lt_succ_iff_lt_or_eq.mp hi with hi | rfl
      · obtain ⟨tj', u1, u2, pj', a, b⟩ := H1 i hi k hk
        exact ⟨tj', u1, u2, pj', a, b.more fun p hp => s3 p (s2 p hp)⟩
      · obtain rfl := Option.some.inj (q.symm.trans hk)
        exact ⟨tj, t1, t2, pj, hj, fun h' n' s' st N' => ⟨(K2.more s3) h' n' s' st N', v1, v2, K3 h' n' s' st N'⟩⟩
theorem keep_RR {g h : Heap} {L : Addr} {m : Str → Option Value} {news : List (Addr × Obj)} {r : Option Nat} {ts : List TK} {v : Value} (F : Fr g L h m) (N : News g L h news) (H : RR r ts v h) :
    ∃ news', (∀ p ∈ news, p ∈ news') ∧ News g L h news' ∧ (∃ a, v = .ref a) ∧ Kp g L news' (RR r ts v) := by
  rcases H with ⟨rfl, D, ys, rfl, hl, hn, hy⟩ | ⟨k, tp, rfl, rfl, t1, t2, hp⟩
  · obtain ⟨o, ho, hc, n, hd⟩ := hl
    obtain ⟨news1, s1, N1, K1⟩ := keep_obj F N ho (seq_ne F.ns ho hd)
    obtain ⟨news2, s2, N2, K2⟩ := keep_toks F N1 hy ts.length
    refine ⟨news2, fun p hp => s2 p (s1 p hp), N2, ⟨_, rfl⟩, fun h' n' s' st N' => .inl ⟨rfl, D, ys, rfl, ⟨o, (K1.more s2) h' n' s' st N', hc, n, hd⟩, hn, fun j k hk => ?_⟩⟩
    obtain ⟨tj, u1, u2, pj, a, b⟩ := K2 j (List.getElem?_eq_some_iff.mp hk).1 k hk
    exact ⟨tj, u1, u2, pj, a, b h' n' s' st N'⟩
  · obtain ⟨news1, s1, N1, K1⟩ := keep_tup F N hp
    exact ⟨news1, s1, N1, ⟨_, rfl⟩, fun h' n' s' st N' => .inr ⟨k, tp, rfl, rfl, t1, t2, K1 h' n' s' st N'⟩⟩
/-- law's call of _law_read: what it hands back is told as data, and stays -/
theorem read_use {w : World} {l : List Nat} {tt : Tok} {ts : List TK} {r : Option Nat} (hR : Reads l 0 ts r) (hl : l.length < 1000)
    {A A₀ : Around} {base h₀ : Heap} {env : Env} {L : Addr} {m mg mb : Str → Option Value} {p : Program} {loose : List Str} {s : Shared} {Q E : Value → Shared → Prop} {news : List (Addr × Obj)}
    (hret : ∀ a h' tk' news', Fr h₀ L h' m → News h₀ L h' news' → (∀ p ∈ news, p ∈ news') → Kp h₀ L news' (fun h => ∃ as, PySem.Reads h (.ref a) (datOf r ts) as) → Q (.ref a) { s with heap := h', toks := tk' })
    (B : Below A₀ base [] h₀ := by assumption) (F : Fr h₀ L s.heap m := by assumption) (N : News h₀ L s.heap news := by assumption) (X : (Mine.kmaker.heap_39 w.params).In h₀ := by assumption) (T : TopRead p loose mg mb h₀ := by assumption)
    (hA : A.frames = some [env] := by first | assumption | exact Around.frames_deeper (Below.stack (by assumption))) (hf : env.frame = some L := by first | rfl | assumption) (hke : env.scope.kind = .function := by first | rfl | assumption) (hh : A.handled = none := by first | assumption | rfl)
    (hd : A.depth + 50 < recursionLimit := by first | omega | (simp only [depth_deeper, depth_in1]; omega)) (hu : A.units + 400 < cLine := by first | omega | (simp only [units_deeper, units_in1]; omega)) :
    wpAny (model PG w) A (call (.ref 282) [.str (S l) tt]) Q E s := by
  refine c_law_read w l tt ts r hl (fun x pl => c_worth w x pl l hl) hR B F X T hA hf hke hh hd hu fun v h' tk' hr st up => ?_
  have F' : Fr h₀ L h' m := Fr.of_stays F (fun b o q => st _ _ (base_hid F _ _ q)) up
  have N' : News h₀ L h' news := fun q hq => ⟨st _ _ (hideAll_get _ (N q hq).1 fun z => (N q hq).2.1 (List.mem_singleton.mp z)), (N q hq).2⟩
  obtain ⟨news', s1, N1, ⟨a, rfl⟩, K⟩ := keep_RR F' N' hr
  exact hret a h' tk' news' F' N1 s1 (K.imp fun _ q => q.reads)
theorem cuts_count (x : List Nat) (q : Nat) : ∀ (n i f : Nat), i + n = x.length + 1 → f ≤ i → (cutsFrom x [q] n i f).length = (x.drop i).count q
  | 0, i, f, hi, _ => by rw [List.drop_of_length_le (by omega)]; rfl
  | n + 1, i, f, hi, hf => by
    unfold cutsFrom
    by_cases hil : i < x.length
    · have hd := List.drop_eq_getElem_cons hil
      split
      · rename_i hc
        obtain ⟨_, _, h3⟩ := hc
        rw [hd] at h3
        have hx : x[i] = q := (List.cons.inj (show x[i] :: List.take 0 (x.drop (i + 1)) = [q] from h3)).1
        rw [List.length_cons, cuts_count x q n (i + 1) _ (by omega) (by simp), hd, hx, List.count_cons_self]
      · rename_i hc
        have hx : x[i] ≠ q := fun z => hc ⟨hf, by simp; omega, by rw [hd, z]; rfl⟩
        rw [cuts_count x q n (i + 1) f (by omega) (by omega), hd, List.count_cons_of_ne hx]
    · have hn : n = 0 := by omega
      subst hn
      rw [if_neg (fun hc => by have := hc.2.1; simp at this; omega), List.drop_of_length_le (by omega)]
      rfl
theorem count_S (x : List Nat) (q : Nat) : Txt.count (S x) (S [q]) = ((x.count q : Nat) : Int) := by
  have ho : Builtin.Str.occurrences (S x) (S [q]) 0 (S x).length ((S x).length + 1) = cutsFrom x [q] (x.length + 1) 0 0 := by
    rw [PySem.StrLaws.occ_eq, S_len, Nat.sub_zero]
    have := forIn_cuts x [q] (x.length + 1) 0 0 #[] (by simp)
    simpa using this
  unfold Txt.count
  rw [ho, cuts_count x q (x.length + 1) 0 0 (by omega) (Nat.le_refl _), List.drop_zero]
theorem told_len (t : List Nat) : ((S (qd 34 t)).length : Int) = ((S t).length : Int) + 2 + Txt.count (S t) (Str.ofString "\"") := by
  rw [lit_q, count_S, S_len, S_len]
  simp only [qd, List.length_cons, List.length_append, List.length_nil, dbl_len]
  omega
set_option maxRecDepth 100000 in
set_option maxHeartbeats 8000000 in
theorem c_token2 (w : World) (t : List Nat) (t1 t2 : Tok) :
    Gives w 109 [.str (Str.ofString "literal") t1, .str (S t) t2] 6 24 (fun _ => True) (fun _ v h' => ∃ x, v = .ref x ∧ TokLit h' x t) := by
  intro A A₀ base h₀ env outer L m mg mb p loose s Q E B F X T hA hf hke hh hpre hd hu hret
  refine wpAny_call (make_L F (X.keeps F.keep) (by k_dflt k_is) (fI := 99) (by k_dflt k_is) (by k_dflt k_is) ?_)
  intro x dx h1 st0 hx0 hdx0 F1 N1 hlt
  replace hlt := ltN hlt
  refine enterN [(Str.ofString "self", .ref x), (Str.ofString "kind", .str (Str.ofString "literal") t1), (Str.ofString "worth", .str (S t) t2), (Str.ofString "at", _), (Str.ofString "is_in_a", .bool false)] B F1 X T N1 hA hf hke (by rw [depth_under_make]; omega) ?_
  intro L' h₁ F' N' B' X' T' st₁
  k_fold
  k_with_none
  k_steps
  rename Fr _ _ _ _ => F2
  rename News _ _ _ _ => N2
  have stH : s.heap.StaysIn (hid h1 [(x, instObj 109 dx), (dx, emptyDict)]) := fun b o q => hideAll_get _ (st0 b o q) fun hm => by
    rcases List.mem_cons.mp hm with rfl | hm
    · rw [hx0] at q; cases q
    · rw [List.mem_singleton.mp hm, hdx0] at q; cases q
  exact leaveS_ F2 fun st => ⟨rfl, hret _ _ _ ⟨x, rfl, dx, _, _, _, _, (N2 _ (.head _)).1, (N2 _ (.tail _ (.head _))).1, rfl, rfl⟩ fun b o q => st b o (stH b o q)⟩
def TkOk (k : TK) : Prop := PyData.strOk k.kind = true ∧ ∀ c ∈ k.text, c < 128
theorem strOk_S {t : List Nat} (h : ∀ c ∈ t, c < 128) : PyData.strOk (S t) = true := by
  unfold PyData.strOk
  rw [S_cps, Array.all_eq_true]
  intro i hi
  have := h t[i] (List.getElem_mem _)
  simp; omega
theorem lay_tks : ∀ ts : List TK, (∀ k ∈ ts, TkOk k) → PyData.canLayAll0 (ts.map tkDat) = true ∧ PyData.depthAll (ts.map tkDat) ≤ 3
  | [], _ => by simp [PyData.canLayAll0, PyData.depthAll]
  | k :: ts, h => by
    have := lay_tks ts fun k hk => h k (.tail _ hk)
    have hk := h k (.head _)
    simp only [List.map_cons, PyData.canLayAll0, PyData.depthAll, this.1, tkDat, PyData.canLay0, PyData.depth, hk.1, strOk_S hk.2]
    simp
    omega
theorem shaped_dat (r : Option Nat) (ts : List TK) (h : ∀ k ∈ ts, TkOk k) : SeqAt.shaped (datOf r ts) = true := by
  cases r with
  | none =>
    have := lay_tks ts h
    simp only [datOf, SeqAt.shaped, PyData.canLay0, PyData.depth, this.1]
    simp
    omega
  | some k => simp [datOf, SeqAt.shaped, PyData.canLay0, PyData.canLayAll0, PyData.depth, PyData.depthAll]
theorem ok_lit {t : List Nat} {n : Nat} (h : ∀ c ∈ t, c < 128) : TkOk ⟨Str.ofString "literal", t, n⟩ := ⟨show PyData.strOk (Str.ofString "literal") = true by decide +kernel, h⟩
theorem ok_one {t : List Nat} {n : Nat} (h : ∀ c ∈ t, c < 128) : ∀ k ∈ [TK.mk (Str.ofString "literal") t n], TkOk k := fun k hk => by rw [List.mem_singleton.mp hk]; exact ok_lit h
theorem ok_three {t : List Nat} {n : Nat} (h : ∀ c ∈ t, c < 128) : ∀ k ∈ [TK.mk (Str.ofString "word") [65] 0, TK.mk (Str.ofString "literal") t 2, TK.mk (Str.ofString "sign") [46] n], TkOk k := fun k hk => by
  simp only [List.mem_cons, List.not_mem_nil, or_false] at hk
  rcases hk with rfl | rfl | rfl
  · exact ⟨show PyData.strOk (Str.ofString "word") = true by decide +kernel, show ∀ c ∈ [65], c < 128 by decide⟩
  · exact ok_lit h
  · exact ⟨show PyData.strOk (Str.ofString "sign") = true by decide +kernel, show ∀ c ∈ [46], c < 128 by decide⟩
theorem ok_two {t u : List Nat} {n : Nat} (h : ∀ c ∈ t, c < 128) (h' : ∀ c ∈ u, c < 128) : ∀ k ∈ [TK.mk (Str.ofString "literal") t 0, TK.mk (Str.ofString "literal") u n], TkOk k := fun k hk => by
  simp only [List.mem_cons, List.not_mem_nil, or_false] at hk
  rcases hk with rfl | rfl
  · exact ok_lit h
  · exact ok_lit h'
section
variable {prog : Program} {w : World} {A : Around} {E : Value → Shared → Prop} {s : Shared} {h₀ : Heap} {L : Addr} {m : Str → Option Value} {a b : Value} {n' news' : List (Addr × Obj)} {da db : PyData} {Q : Value → Shared → Prop} {ev : Env}
/-- what was read and what is written beside it, compared -/
theorem ne_kept (K : Kp h₀ L news' (fun h => ∃ as, PySem.Reads h a da as)) (F : Fr h₀ L s.heap m) (N : News h₀ L s.heap n') (hs : ∀ p ∈ news', p ∈ n') (rb : ∃ bs, PySem.Reads s.heap b db bs) (he : da = db) (hsh : SeqAt.shaped da = true)
    (h : Q (.bool false) s) (hu : A.units + 500 < cLine := by assumption) : wpAny (model prog w) (A.deeper ev) (compareOp .NotEq a b) Q E s := by
  obtain ⟨as, ra⟩ := K _ _ hs F.keep N
  obtain ⟨bs, rb⟩ := rb
  subst he
  refine ne_dataH ra rb hsh hsh (by simp only [units_deeper]; omega) ?_
  rw [SeqAt.eqv_refl _ (SeqAt.canLay_of_shaped hsh)]
  exact h
theorem eq_kept (K : Kp h₀ L news' (fun h => ∃ as, PySem.Reads h a da as)) (F : Fr h₀ L s.heap m) (N : News h₀ L s.heap n') (hs : ∀ p ∈ news', p ∈ n') (rb : ∃ bs, PySem.Reads s.heap b db bs) (hsa : SeqAt.shaped da = true) (hsb : SeqAt.shaped db = true) {c : Bool} (he : PyData.eqv da db = c)
    (h : Q (.bool c) s) (hu : A.units + 500 < cLine := by assumption) : wpAny (model prog w) (A.deeper ev) (compareOp .Eq a b) Q E s := by
  obtain ⟨as, ra⟩ := K _ _ hs F.keep N
  obtain ⟨bs, rb⟩ := rb
  refine eq_dataH ra rb hsa hsb (by simp only [units_deeper]; omega) ?_
  rw [he]
  exact h
end
section
variable {g h : Heap} {L a tp : Addr} {news : List (Addr × Obj)} {x k : Str} {i : Int} {t1 t2 : Tok} {v1 v2 v3 : Value} {d d1 d2 d3 : PyData} {c : Nat}
theorem rd_place (N : News g L h news) (hm : (tp, ({ cls := .type "tuple", data := .seq #[.int 2 t1, .int i t2] } : Obj)) ∈ news) : ∃ as, PySem.Reads h (.ref tp) (.tuple [.int 2, .int i]) as :=
  ⟨_, reads_tuple_at (N _ hm).1 rfl rfl (.cons (.int _ _) (.cons (.int _ _) .nil))⟩
theorem rd_tok (N : News g L h news) (hm : (a, ({ cls := .type "tuple", data := .seq #[.str k t1, .str x t2, v1] } : Obj)) ∈ news) (hp : ∃ as, PySem.Reads h v1 d as) : ∃ as, PySem.Reads h (.ref a) (.tuple [.str k, .str x, d]) as :=
  let ⟨_, r⟩ := hp; ⟨_, reads_tuple_at (N _ hm).1 rfl rfl (.cons (.str _ _) (.cons (.str _ _) (.cons r .nil)))⟩
theorem rd_l1 (N : News g L h news) (hm : (a, W.listOf #[v1] c) ∈ news) (h1 : ∃ as, PySem.Reads h v1 d1 as) : ∃ as, PySem.Reads h (.ref a) (.list [d1]) as :=
  let ⟨_, r1⟩ := h1; ⟨_, reads_list_at (N _ hm).1 rfl rfl (.cons r1 .nil)⟩
theorem rd_l2 (N : News g L h news) (hm : (a, W.listOf #[v1, v2] c) ∈ news) (h1 : ∃ as, PySem.Reads h v1 d1 as) (h2 : ∃ as, PySem.Reads h v2 d2 as) : ∃ as, PySem.Reads h (.ref a) (.list [d1, d2]) as :=
  let ⟨_, r1⟩ := h1; let ⟨_, r2⟩ := h2; ⟨_, reads_list_at (N _ hm).1 rfl rfl (.cons r1 (.cons r2 .nil))⟩
theorem rd_l3 (N : News g L h news) (hm : (a, W.listOf #[v1, v2, v3] c) ∈ news) (h1 : ∃ as, PySem.Reads h v1 d1 as) (h2 : ∃ as, PySem.Reads h v2 d2 as) (h3 : ∃ as, PySem.Reads h v3 d3 as) : ∃ as, PySem.Reads h (.ref a) (.list [d1, d2, d3]) as :=
  let ⟨_, r1⟩ := h1; let ⟨_, r2⟩ := h2; let ⟨_, r3⟩ := h3; ⟨_, reads_list_at (N _ hm).1 rfl rfl (.cons r1 (.cons r2 (.cons r3 .nil)))⟩
end
theorem lit_Ab : Str.ofString "A " = S [65, 32] := by decide +kernel
theorem lit_bd : Str.ofString " ." = S [32, 46] := by decide +kernel
theorem lit_A : Str.ofString "A" = S [65] := by decide +kernel
theorem three_is (l : List Nat) : Str.ofString "A " ++ S l ++ Str.ofString " ." = S (65 :: 32 :: (l ++ [32, 46])) := by
  rw [lit_Ab, lit_bd, S_app, S_app]; rfl
theorem single_is (t : List Nat) : Str.ofString "'" ++ Txt.replace (S t) (Str.ofString "'") (Str.ofString "''") ++ Str.ofString "'" = S (qd 39 t) := by
  rw [lit_s, lit_ss, replace_dbl, S_app, S_app]; rfl
theorem lit_pt : Str.ofString "." = S [46] := by decide +kernel
theorem three_dat (t : List Nat) : datOf none [⟨Str.ofString "word", [65], 0⟩, ⟨Str.ofString "literal", t, 2⟩, ⟨Str.ofString "sign", [46], (qd 34 t).length + 3⟩] =
    .list [.tuple [.str (Str.ofString "word"), .str (Str.ofString "A"), .tuple [.int 2, .int 12]], .tuple [.str (Str.ofString "literal"), .str (S t), .tuple [.int 2, .int 14]], .tuple [.str (Str.ofString "sign"), .str (Str.ofString "."), .tuple [.int 2, .int (15 + ((S (qd 34 t)).length : Int))]]] := by
  have e : (12 : Int) + (((qd 34 t).length + 3 : Nat) : Int) = 15 + ((S (qd 34 t)).length : Int) := by rw [S_len]; omega
  rw [lit_A, lit_pt, ← e]
  rfl
theorem place_dat (t : List Nat) : datOf (some (qd 34 t).length) [] = .tuple [.int 2, .int (12 + ((S (qd 34 t)).length : Int))] := by
  rw [S_len]; rfl
theorem single_sz (t : List Nat) (h : t.length < 1000) : (Txt.replace (S t) (Str.ofString "'") (Str.ofString "''")).length ≤ 2000 := by
  rw [lit_s, lit_ss, replace_dbl, S_len]; have := dbl_le 39 t; omega
section
local macro_rules | `(tactic| walk_at $s:str) => `(tactic| k_extra $s)
set_option maxRecDepth 100000 in
set_option maxHeartbeats 8000000 in
theorem law_turn (w : World) {oc dV kV doc pm cdv ct : Value} {an od : Option Addr} {name qual : Str} {params : Arguments} {body bd els : List Stmt} {scope : Scope} {osl : Array (Option Value)} {tg it : Expr} {ps : Pos}
    (hfn : (Mine.kmaker.heap_39 w.params).lookup 294 = some ⟨oc, od, .func (fnOf name qual params body scope dV kV doc pm an cdv ct), osl⟩) (hbd : body[2]? = some (.For tg it bd els ps))
    {A : Around} {base h₀ : Heap} {L fa : Addr} {cd : Value} {m mg mb : Str → Option Value} {p : Program} {loose : List Str} {s : Shared} {E : Value → Shared → Prop} {Q : Flow → Shared → Prop} {t : List Nat} {tt : Tok} {news : List (Addr × Obj)}
    (B : Below A base [] h₀) (F : Fr h₀ L s.heap m) (N : News h₀ L s.heap news) (X : (Mine.kmaker.heap_39 w.params).In h₀) (T : TopRead p loose mg mb h₀) (hh : A.handled = none) (hd : A.depth + 60 < recursionLimit) (hu : A.units + 500 < cLine)
    (hm : m (Str.ofString "text") = some (.str (S t) tt)) (ht : 1 ≤ t.length ∧ t.length ≤ 160) (hc : ∀ c ∈ t, c < 128)
    (hQ : ∀ h' tk' m', Fr h₀ L h' m' → News h₀ L h' news → (∀ y, y ≠ Str.ofString "told" → y ≠ Str.ofString "single" → m' y = m y) → Q .next { s with heap := h', toks := tk' }) :
    wpAny (model PG w) (A.deeper (envOf qual scope L fa cd)) (execs bd (envOf qual scope L fa cd)) Q E s := by
  rw [show (Mine.kmaker.heap_39 w.params).lookup 294 = some ⟨_, _, .func (fnOf _ _ _ _ _ _ _ _ _ _ _ _), _⟩ from by k_dflt k_is] at hfn
  cases hfn
  cases hbd
  have F1 := Fr.congr F (canon1 hm)
  clear F
  k_with_none
  k_with "call ref" => refine hold_ ?_
  k_with "compareOp NotEq ref ref" => refine hold_ ?_
  k_with "compareOp Eq ref ref" => refine hold_ ?_
  have hsz0 : (S t).length ≤ 160 := by rw [S_len]; exact ht.2
  have hqd : (qd 34 t).length ≤ 322 := by simp only [qd, List.length_cons, List.length_append, List.length_nil]; have := dbl_le 34 t; omega
  have hsz1 : (S (qd 34 t)).length ≤ 322 := by rw [S_len]; exact hqd
  k_steps
  refine Hold.go (Gives.use (c_quoted w t tt) (by omega) ?_)
  rintro _ h2 tk2 ⟨t2, rfl⟩ st2 F2 N2
  clear F1 N
  try dsimp only
  k_steps
  rename Fr _ _ _ _ => F3
  rename News _ _ _ _ => N3
  refine Hold.go (Gives.use (c_law_plainly w t tt) ⟨by omega, hc⟩ ?_)
  rintro _ h4 tk4 ⟨t4, rfl⟩ st4 F4 N4
  clear F3 N3
  try dsimp only
  k_steps
  · exact absurd (by assumption) (show ¬ ((S (qd 34 t) != S (qd 34 t)) = true) by simp)
  · exact absurd (told_len t) (by assumption)
  refine Hold.go (Gives.use (c_token2 w t _ tt) trivial ?_)
  rintro _ h5 tk5 ⟨x5, rfl, hx5⟩ st5 F5 N5
  clear F4 N4
  try dsimp only
  k_steps
  refine Hold.go (Gives.use (c_token_text w x5 t) ⟨hx5, by omega⟩ ?_)
  rintro _ h6 tk6 ⟨t6, rfl⟩ st6 F6 N6
  clear F5 N5 hx5
  try dsimp only
  k_steps
  refine Hold.go (read_use (reads_q (.inl rfl) t ht) (by omega) ?_)
  rintro a7 h7 tk7 news7 F7 N7 s7 K7
  clear F6 N6
  try dsimp only
  k_steps
  rename Fr _ _ _ _ => F8
  rename News _ _ _ _ => N8
  refine' Hold.go (ne_kept K7 F8 N8 (fun p hp => .tail _ (.tail _ (.tail _ hp))) ?rb ?he (shaped_dat _ _ (ok_one hc)) ?_)
  case rb => exact rd_l1 N8 (.head _) (rd_tok N8 (.tail _ (.head _)) (rd_place N8 (.tail _ (.tail _ (.head _)))))
  case he => rfl
  have N9 := KStt.news_of N8 fun p hp => .tail _ (.tail _ (.tail _ (s7 p hp)))
  clear N8 K7 s7
  try dsimp only
  k_steps
  rw [three_is]
  refine Hold.go (read_use (reads_three t ht) (by simp only [List.length_cons, List.length_append, List.length_nil]; omega) ?_)
  rintro a7 h7 tk7 news7 F7 N7 s7 K7
  clear N9 F8
  try dsimp only
  k_steps
  rename Fr _ _ _ _ => F8
  rename News _ _ _ _ => N8
  refine' Hold.go (ne_kept K7 F8 N8 (fun p hp => .tail _ (.tail _ (.tail _ (.tail _ (.tail _ (.tail _ (.tail _ hp))))))) ?rb ?he (shaped_dat _ _ (ok_three hc)) ?_)
  case rb => exact rd_l3 N8 (.head _) (rd_tok N8 (.tail _ (.tail _ (.tail _ (.tail _ (.tail _ (.head _)))))) (rd_place N8 (.tail _ (.tail _ (.tail _ (.tail _ (.tail _ (.tail _ (.head _))))))))) (rd_tok N8 (.tail _ (.tail _ (.tail _ (.head _)))) (rd_place N8 (.tail _ (.tail _ (.tail _ (.tail _ (.head _))))))) (rd_tok N8 (.tail _ (.head _)) (rd_place N8 (.tail _ (.tail _ (.head _)))))
  case he => exact three_dat t
  have N9 := KStt.news_of N8 fun p hp => .tail _ (.tail _ (.tail _ (.tail _ (.tail _ (.tail _ (.tail _ (s7 p hp)))))))
  clear N8 K7 s7
  try dsimp only
  have hsz3 := single_sz t (by omega)
  k_steps
  rename Fr _ _ _ _ => F9
  rename News _ _ _ _ => N10
  have hqd3 : (qd 39 t).length ≤ 322 := by simp only [qd, List.length_cons, List.length_append, List.length_nil]; have := dbl_le 39 t; omega
  rw [single_is]
  refine Hold.go (read_use (reads_q (.inr rfl) t ht) (by omega) ?_)
  rintro a7 h7 tk7 news7 F7 N7 s7 K7
  clear N10 F9
  try dsimp only
  k_steps
  rename Fr _ _ _ _ => F8
  rename News _ _ _ _ => N8
  refine' Hold.go (ne_kept K7 F8 N8 (fun p hp => .tail _ (.tail _ (.tail _ hp))) ?rb ?he (shaped_dat _ _ (ok_one hc)) ?_)
  case rb => exact rd_l1 N8 (.head _) (rd_tok N8 (.tail _ (.head _)) (rd_place N8 (.tail _ (.tail _ (.head _)))))
  case he => rfl
  have N9 := KStt.news_of N8 fun p hp => .tail _ (.tail _ (.tail _ (s7 p hp)))
  clear N8 K7 s7
  try dsimp only
  k_steps
  rename Fr _ _ _ _ => F9
  rename News _ _ _ _ => N10
  rw [slice_but1 _ (show qd 34 t ≠ [] from fun z => nomatch z)]
  refine Hold.go (read_use (reads_cut (.inl rfl) t) (by rw [List.length_dropLast]; omega) ?_)
  rintro a7 h7 tk7 news7 F7 N7 s7 K7
  clear N10 F9
  try dsimp only
  k_steps
  rename Fr _ _ _ _ => F8
  rename News _ _ _ _ => N8
  refine' Hold.go (eq_kept (c := false) K7 F8 N8 (fun p hp => .tail _ (.tail _ (.tail _ hp))) ?rb (shaped_dat _ _ (fun _ h => nomatch h)) ?hs ?he ?_)
  case rb => exact rd_l1 N8 (.head _) (rd_tok N8 (.tail _ (.head _)) (rd_place N8 (.tail _ (.tail _ (.head _)))))
  case hs => exact shaped_dat none _ (ok_one (t := t) (n := 0) hc)
  case he => rfl
  have N9 := KStt.news_of N8 fun p hp => .tail _ (.tail _ (.tail _ (s7 p hp)))
  clear N8 K7 s7
  try dsimp only
  k_steps
  rename Fr _ _ _ _ => F9
  rename News _ _ _ _ => N10
  rw [lit_A, S_app]
  refine Hold.go (read_use (reads_A (.inl rfl) t) (by simp only [List.length_append, List.length_cons, List.length_nil]; omega) ?_)
  rintro a7 h7 tk7 news7 F7 N7 s7 K7
  clear N10 F9
  try dsimp only
  k_steps
  rename Fr _ _ _ _ => F8
  rename News _ _ _ _ => N8
  refine' Hold.go (ne_kept K7 F8 N8 (fun p hp => .tail _ hp) ?rb ?he (shaped_dat _ _ (fun _ h => nomatch h)) ?_)
  case rb => exact rd_place N8 (.head _)
  case he => exact place_dat t
  have N9 := KStt.news_of N8 fun p hp => .tail _ (s7 p hp)
  clear N8 K7 s7
  try dsimp only
  k_steps
  refine hQ _ _ _ F8 N9 fun y h1 h2 => ?_
  rw [if_neg h2, if_neg h1]
  by_cases h3 : y = Str.ofString "text"
  · rw [if_pos h3, h3, hm]
  · rw [if_neg h3]
end
theorem both_is (a b : List Nat) : S (qd 34 a) ++ S (qd 34 b) = S (qd 34 (a ++ 34 :: b)) := by
  rw [S_app]; congr 1
  simp [qd, dbl_app, dbl]
theorem mid_is (a b : List Nat) : S a ++ Str.ofString "\"" ++ S b = S (a ++ 34 :: b) := by
  rw [lit_q, S_app, S_app]; congr 1; simp
theorem lit_cb : Str.ofString ", " = S [44, 32] := by decide +kernel
theorem sep_is (a b : List Nat) : S a ++ Str.ofString ", " ++ S b = S (a ++ 44 :: 32 :: b) := by
  rw [lit_cb, S_app, S_app]; congr 1; simp
theorem two_dat (a b : List Nat) : datOf none [⟨Str.ofString "literal", a, 0⟩, ⟨Str.ofString "literal", b, (qd 34 a).length + 2⟩] =
    .list [.tuple [.str (Str.ofString "literal"), .str (S a), .tuple [.int 2, .int 12]], .tuple [.str (Str.ofString "literal"), .str (S b), .tuple [.int 2, .int (14 + ((S (qd 34 a)).length : Int))]]] := by
  have e : (12 : Int) + (((qd 34 a).length + 2 : Nat) : Int) = 14 + ((S (qd 34 a)).length : Int) := by rw [S_len]; omega
  rw [← e]
  rfl
theorem lit_e : Str.ofString "" = S [] := by decide +kernel
theorem mul_S (c : Nat) (n : Int) : Txt.mul (S [c]) n = S (List.replicate n.toNat c) := by
  rw [← S_of (Txt.mul (S [c]) n)]; congr 1; exact mul_one_list c n
section
local macro_rules | `(tactic| walk_at $s:str) => `(tactic| k_extra $s)
set_option maxRecDepth 100000 in
set_option maxHeartbeats 8000000 in
theorem law_tail (w : World) {oc dV kV doc pm cdv ct : Value} {an od : Option Addr} {name qual : Str} {params : Arguments} {body : List Stmt} {scope : Scope} {osl : Array (Option Value)}
    (hfn : (Mine.kmaker.heap_39 w.params).lookup 294 = some ⟨oc, od, .func (fnOf name qual params body scope dV kV doc pm an cdv ct), osl⟩)
    {A : Around} {base h₀ : Heap} {L fa : Addr} {cd : Value} {m mg mb : Str → Option Value} {p : Program} {loose : List Str} {s : Shared} {E : Value → Shared → Prop} {Q : Flow → Shared → Prop} {a b : List Nat} {ta tb : Tok}
    (B : Below A base [] h₀) (F : Fr h₀ L s.heap m) (X : (Mine.kmaker.heap_39 w.params).In h₀) (T : TopRead p loose mg mb h₀) (hh : A.handled = none) (hd : A.depth + 60 < recursionLimit) (hu : A.units + 500 < cLine)
    (hma : m (Str.ofString "one") = some (.str (S a) ta)) (hmb : m (Str.ofString "other") = some (.str (S b) tb)) (hla : 1 ≤ a.length ∧ a.length ≤ 12) (hlb : 1 ≤ b.length ∧ b.length ≤ 12) (hca : ∀ c ∈ a, c < 128) (hcb : ∀ c ∈ b, c < 128)
    (hQ : ∀ h' tk' m', Fr h₀ L h' m' → Q (.ret (.bool true)) { s with heap := h', toks := tk' }) :
    wpAny (model PG w) (A.deeper (envOf qual scope L fa cd)) (execs (body.drop 3) (envOf qual scope L fa cd)) Q E s := by
  rw [show (Mine.kmaker.heap_39 w.params).lookup 294 = some ⟨_, _, .func (fnOf _ _ _ _ _ _ _ _ _ _ _ _), _⟩ from by k_dflt k_is] at hfn
  cases hfn
  simp only [List.drop_succ_cons, List.drop_zero]
  have F1 := Fr.congr F (canon2 hma hmb)
  have N1 : News h₀ L s.heap [] := News.nil
  clear F
  k_with_none
  k_with "call ref" => refine hold_ ?_
  k_with "compareOp NotEq ref ref" => refine hold_ ?_
  k_with "compareOp Eq ref ref" => refine hold_ ?_
  have hqa : (qd 34 a).length ≤ 26 := by simp only [qd, List.length_cons, List.length_append, List.length_nil]; have := dbl_le 34 a; omega
  have hqb : (qd 34 b).length ≤ 26 := by simp only [qd, List.length_cons, List.length_append, List.length_nil]; have := dbl_le 34 b; omega
  have hsa : (S a).length ≤ 12 := by rw [S_len]; exact hla.2
  have hsb : (S b).length ≤ 12 := by rw [S_len]; exact hlb.2
  have hsqa : (S (qd 34 a)).length ≤ 26 := by rw [S_len]; exact hqa
  have hsqb : (S (qd 34 b)).length ≤ 26 := by rw [S_len]; exact hqb
  k_steps
  refine Hold.go (Gives.use (c_quoted w a ta) (by omega) ?_)
  rintro _ h2 tk2 ⟨t2, rfl⟩ st2 F2 N2
  clear F1 N1
  try dsimp only
  k_steps
  refine Hold.go (Gives.use (c_quoted w b tb) (by omega) ?_)
  rintro _ h3 tk3 ⟨t3, rfl⟩ st3 F3 N3
  clear F2 N2
  try dsimp only
  k_steps
  rw [mid_is]
  have hab : (a ++ 34 :: b).length ≤ 25 := by simp only [List.length_append, List.length_cons]; omega
  refine Hold.go (Gives.use (c_quoted w (a ++ 34 :: b) _) (by omega) ?_)
  rintro _ h4 tk4 ⟨t4, rfl⟩ st4 F4 N4
  clear F3 N3
  try dsimp only
  rw [both_is]
  k_steps
  · exact absurd (by assumption) (show ¬ ((S (qd 34 (a ++ 34 :: b)) != S (qd 34 (a ++ 34 :: b))) = true) by simp)
  refine Hold.go (Gives.use (c_quoted w a ta) (by omega) ?_)
  rintro _ h5 tk5 ⟨t5, rfl⟩ st5 F5 N5
  clear F4 N4
  try dsimp only
  k_steps
  refine Hold.go (Gives.use (c_quoted w b tb) (by omega) ?_)
  rintro _ h6 tk6 ⟨t6, rfl⟩ st6 F6 N6
  clear F5 N5
  try dsimp only
  k_steps
  rw [both_is]
  have hqab : (qd 34 (a ++ 34 :: b)).length ≤ 52 := by simp only [qd, List.length_cons, List.length_append, List.length_nil]; have := dbl_le 34 (a ++ 34 :: b); omega
  have hcab : ∀ c ∈ a ++ 34 :: b, c < 128 := by
    intro c hc
    rcases List.mem_append.mp hc with hc | hc
    · exact hca c hc
    · rcases List.mem_cons.mp hc with rfl | hc
      · decide
      · exact hcb c hc
  refine Hold.go (read_use (reads_q (.inl rfl) (a ++ 34 :: b) (by simp only [List.length_append, List.length_cons]; omega)) (by omega) ?_)
  rintro a7 h7 tk7 news7 F7 N7 s7 K7
  clear F6 N6 s7
  try dsimp only
  k_steps
  rename Fr _ _ _ _ => F8
  rename News _ _ _ _ => N8
  refine' Hold.go (ne_kept K7 F8 N8 (fun p hp => .tail _ (.tail _ (.tail _ hp))) ?rb ?he (shaped_dat _ _ (ok_one hcab)) ?_)
  case rb => exact rd_l1 N8 (.head _) (rd_tok N8 (.tail _ (.head _)) (rd_place N8 (.tail _ (.tail _ (.head _)))))
  case he => rw [mid_is]; rfl
  have N9 : News h₀ L _ [] := KStt.news_of N8 fun p hp => nomatch hp
  clear N8 K7
  try dsimp only
  k_steps
  refine Hold.go (Gives.use (c_quoted w a ta) (by omega) ?_)
  rintro _ h5 tk5 ⟨t5, rfl⟩ st5 F5 N5
  clear F8 N9
  try dsimp only
  k_steps
  refine Hold.go (Gives.use (c_quoted w b tb) (by omega) ?_)
  rintro _ h6 tk6 ⟨t6, rfl⟩ st6 F6 N6
  clear F5 N5
  try dsimp only
  k_steps
  rw [sep_is]
  refine Hold.go (read_use (reads_two a b ⟨hla.1, by omega⟩ ⟨hlb.1, by omega⟩) (by simp only [List.length_append, List.length_cons]; omega) ?_)
  rintro a7 h7 tk7 news7 F7 N7 s7 K7
  clear F6 N6 s7
  try dsimp only
  k_steps
  rename Fr _ _ _ _ => Fz
  rename News _ _ _ _ => Nz
  refine Hold.go (Gives.use (c_quoted w a ta) (by omega) ?_)
  rintro _ h5 tk5 ⟨t5, rfl⟩ st5 F5 N5
  clear Fz Nz
  try dsimp only
  k_steps
  rename Fr _ _ _ _ => F8
  rename News _ _ _ _ => N8
  refine' Hold.go (ne_kept K7 F8 N8 (fun p hp => .tail _ (.tail _ (.tail _ (.tail _ (.tail _ hp))))) ?rb ?he (shaped_dat _ _ (ok_two hca hcb)) ?_)
  case rb => exact rd_l2 N8 (.head _) (rd_tok N8 (.tail _ (.tail _ (.tail _ (.head _)))) (rd_place N8 (.tail _ (.tail _ (.tail _ (.tail _ (.head _))))))) (rd_tok N8 (.tail _ (.head _)) (rd_place N8 (.tail _ (.tail _ (.head _)))))
  case he => exact two_dat a b
  have N9 : News h₀ L _ [] := KStt.news_of N8 fun p hp => nomatch hp
  clear N8 K7
  try dsimp only
  k_steps
  rw [lit_e]
  refine Hold.go (Gives.use (c_quoted w [] _) (by simp) ?_)
  rintro _ h5 tk5 ⟨t5, rfl⟩ st5 F5 N5
  clear F8 N9
  try dsimp only
  have hee : (S (qd 34 []) == Str.ofString "\"\"") = true := by rw [lit_qq, S_beq]; decide
  k_steps
  rw [lit_qq]
  refine Hold.go (read_use (show Reads [34, 34] 0 [] (some 0) from reads_long (.inl rfl) [] (by simp)) (by simp) ?_)
  rintro a7 h7 tk7 news7 F7 N7 s7 K7
  clear F5 N5 s7
  try dsimp only
  k_steps
  rename Fr _ _ _ _ => F8
  rename News _ _ _ _ => N8
  refine' Hold.go (eq_kept (c := true) K7 F8 N8 (fun p hp => .tail _ hp) ?rb (shaped_dat _ _ (fun _ h => nomatch h)) ?hs ?he ?_)
  case rb => exact rd_place N8 (.head _)
  case hs => rfl
  case he => rfl
  have N9 : News h₀ L _ [] := KStt.news_of N8 fun p hp => nomatch hp
  clear N8 K7
  try dsimp only
  k_steps
  rename Fr _ _ _ _ => F9
  rename News _ _ _ _ => N10
  rw [lit_s, mul_S, show (161 : Int).toNat = 161 from rfl]
  have hlong : (List.replicate 161 39).length = 161 := List.length_replicate
  have hqlong : (qd 34 (List.replicate 161 39)).length ≤ 400 := by simp only [qd, List.length_cons, List.length_append, List.length_nil]; have := dbl_le 34 (List.replicate 161 39); omega
  generalize List.replicate 161 39 = z at hlong hqlong
  refine Hold.go (Gives.use (c_quoted w z _) (by omega) ?_)
  rintro _ h5 tk5 ⟨t5, rfl⟩ st5 F5 N5
  clear F9 N10
  try dsimp only
  k_steps
  refine Hold.go (read_use (reads_long (.inl rfl) z (by omega)) (by omega) ?_)
  rintro a7 h7 tk7 news7 F7 N7 s7 K7
  clear F5 N5 s7
  try dsimp only
  k_steps
  rename Fr _ _ _ _ => F8
  rename News _ _ _ _ => N8
  refine' Hold.go (eq_kept (c := true) K7 F8 N8 (fun p hp => .tail _ hp) ?rb (shaped_dat _ _ (fun _ h => nomatch h)) ?hs ?he ?_)
  case rb => exact rd_place N8 (.head _)
  case hs => rfl
  case he => rfl
  have N9 : News h₀ L _ [] := KStt.news_of N8 fun p hp => nomatch hp
  clear N8 K7
  try dsimp only
  k_steps
  rename Fr _ _ _ _ => F9
  rename News _ _ _ _ => N10
  rw [lit_q]
  refine Hold.go (read_use (show Reads [34] 0 [] (some 0) from reads_cut (.inl rfl) []) (by simp) ?_)
  rintro a7 h7 tk7 news7 F7 N7 s7 K7
  clear F9 N10 s7
  try dsimp only
  k_steps
  rename Fr _ _ _ _ => F8
  rename News _ _ _ _ => N8
  refine' Hold.go (eq_kept (c := true) K7 F8 N8 (fun p hp => .tail _ hp) ?rb (shaped_dat _ _ (fun _ h => nomatch h)) ?hs ?he ?_)
  case rb => exact rd_place N8 (.head _)
  case hs => rfl
  case he => rfl
  have N9 : News h₀ L _ [] := KStt.news_of N8 fun p hp => nomatch hp
  clear N8 K7
  try dsimp only
  k_steps
  exact hQ _ _ _ F8
end
/-- one of the texts that law reads -/
def TextV (v : Value) : Prop := ∃ t tt, v = .str (S t) tt ∧ (1 ≤ t.length ∧ t.length ≤ 160) ∧ ∀ c ∈ t, c < 128
/-- between the turns of law's loop -/
def LL (g : Heap) (L D it K : Addr) (oD : Obj) (v1 v2 : Value) (n : Nat) (h : Heap) : Prop :=
  ∃ i m oi, n + i = K ∧ Fr g L h m ∧ News g L h [(it, oi), (D, oD)] ∧ it ≠ D ∧ oi.cls = .type "tuple_iterator" ∧ oi.data = .fields #[.ref D, .int ((i : Nat) : Int) 0] ∧ m (Str.ofString "one") = some v1 ∧ m (Str.ofString "other") = some v2
set_option maxRecDepth 100000 in
set_option maxHeartbeats 8000000 in
theorem law_loop (w : World) {oc dV kV doc pm cdv ct : Value} {an od : Option Addr} {name qual : Str} {params : Arguments} {body bd els : List Stmt} {scope : Scope} {osl : Array (Option Value)} {tg itr : Expr} {ps : Pos}
    (hfn : (Mine.kmaker.heap_39 w.params).lookup 294 = some ⟨oc, od, .func (fnOf name qual params body scope dV kV doc pm an cdv ct), osl⟩) (hbd : body[2]? = some (.For tg itr bd els ps))
    {A : Around} {base h₀ : Heap} {L fa D k : Addr} {cd : Value} {m mg mb : Str → Option Value} {p : Program} {loose : List Str} {s : Shared} {E : Value → Shared → Prop} {R : Result → Shared → Prop} {oD : Obj} {vals : List Value} {v1 v2 : Value}
    (B : Below A base [] h₀) (F : Fr h₀ L s.heap m) (N : News h₀ L s.heap [(D, oD)]) (X : (Mine.kmaker.heap_39 w.params).In h₀) (T : TopRead p loose mg mb h₀) (hh : A.handled = none) (hd : A.depth + 60 < recursionLimit) (hu : A.units + 500 < cLine)
    (hcD : oD.cls = .type "tuple") (hdD : oD.data = .seq vals.toArray k) (hv : ∀ v ∈ vals, TextV v) (h1 : m (Str.ofString "one") = some v1) (h2 : m (Str.ofString "other") = some v2)
    (hR : ∀ h' tk' m', Fr h₀ L h' m' → m' (Str.ofString "one") = some v1 → m' (Str.ofString "other") = some v2 → R (.ok .next) { s with heap := h', toks := tk' }) :
    wpAny (model PG w) (A.deeper (envOf qual scope L fa cd)) (pyIter (.ref D)) (fun it s₂ => codeAny (model PG w) (A.deeper (envOf qual scope L fa cd)) (.forLoop tg it bd els (envOf qual scope L fa cd)) R s₂) E s := by
  have hfn2 := hfn
  have hbd2 := hbd
  rw [show (Mine.kmaker.heap_39 w.params).lookup 294 = some ⟨_, _, .func (fnOf _ _ _ _ _ _ _ _ _ _ _ _), _⟩ from by k_dflt k_is] at hfn2
  cases hfn2
  cases hbd2
  refine wpAny_pyIter_tuple (items := vals.toArray) ⟨oD, (N _ (.head _)).1, hcD, k, hdD⟩ ?_
  have hDs : D < s.heap.objs.size := Heap.lt_size (N _ (.head _)).1
  refine codeAny_forLoop (fun n s' => ∃ h tk, s' = { s with heap := h, toks := tk } ∧ LL h₀ L D s.heap.objs.size vals.length oD v1 v2 n h) (fun n s' I => ?_) vals.length ⟨_, _, rfl, 0, m, { cls := .type "tuple_iterator", data := .fields #[.ref D, .int 0 0] }, rfl, F.pushS _, ?_, Nat.ne_of_gt hDs, rfl, rfl, h1, h2⟩
  rotate_left
  · intro q hq
    rcases List.mem_cons.mp hq with rfl | hq
    · exact ⟨Heap.get?_push_size _ rfl, Nat.ne_of_gt F.ns.lt, none_of F.keep (Heap.get?_none_of_le (Nat.le_refl _))⟩
    · exact ⟨Heap.get?_push_of_some _ (N _ hq).1, (N _ hq).2⟩
  generalize s.heap.objs.size = it at I
  clear F N h1 h2 hDs
  obtain ⟨h, tk, rfl, i, m', oi, hn, F, N, hne, hci, hdi, h1, h2⟩ := I
  have hit : h.IsTupleIter it D i := ⟨oi, (N _ (.head _)).1, hci, hdi⟩
  have hT : h.IsTuple D vals.toArray := ⟨oD, (N _ (.tail _ (.head _))).1, hcD, k, hdD⟩
  have hi0 := (N _ (.head _)).2
  have hD0 := (N _ (.tail _ (.head _))).2
  by_cases hil : i < vals.length
  · obtain ⟨t, tt, hx, ht, hc⟩ := hv vals[i] (List.getElem_mem _)
    have hx' : vals.toArray[i]? = some (.str (S t) tt) := by rw [← hx]; simp [hil]
    refine wpAny_pyNext_tuple_item hit hT hx' (fun h3 hit3 hs3 => ?_)
    obtain ⟨oi3, hoi3, hci3, hdi3⟩ := hit3
    have N3 : News h₀ L h3 [(it, oi3), (D, oD)] := fun q hq => by
      rcases List.mem_cons.mp hq with rfl | hq
      · exact ⟨hoi3, hi0⟩
      · obtain rfl := List.mem_singleton.mp hq
        exact ⟨(hs3.2 D (Ne.symm hne)).trans (N _ (.tail _ (.head _))).1, hD0⟩
    have F3 := F.change hs3 hi0.1 hi0.2
    refine wpAny_assign_Name (stN F3 N3 (fun h4 F4 N4 => ?_) rfl rfl)
    refine law_turn w hfn hbd B F4 N4 X T hh hd hu (if_pos rfl) ht hc fun h5 tk5 m5 F5 N5 hm5 => ?_
    have hn1 : n - 1 < n := by omega
    refine ⟨n - 1, hn1, h5, tk5, rfl, i + 1, m5, oi3, ?_, F5, N5, hne, hci3, hdi3, ?_, ?_⟩
    · omega
    · rw [hm5 _ (by decide) (by decide), if_neg (by decide)]; exact h1
    · rw [hm5 _ (by decide) (by decide), if_neg (by decide)]; exact h2
  · refine wpAny_pyNext_tuple_end hh hit hT (by simp; omega) (fun h3 he3 => ?_)
    have F3 := Fr.butE F hi0.2 hi0.1 he3
    exact wpAny_execs_nil (hR h3 _ m' F3 h1 h2)
theorem two_cells (ns : List Int) : ∃ z1 z2, List.take 2 (ns ++ [101, 7]) = [z1, z2] := by
  match ns with
  | [] => exact ⟨_, _, rfl⟩
  | [a] => exact ⟨_, _, rfl⟩
  | a :: b :: r => exact ⟨a, b, by simp⟩
theorem cell_ok (z : Int) : 0 ≤ (if z < 0 then -z else z).fmod (10 ^ Int.toNat 18) ∧ (if z < 0 then -z else z).fmod (10 ^ Int.toNat 18) < 1000000000000000000 := by
  have e : ((10 : Int) ^ Int.toNat 18) = 1000000000000000000 := by decide
  rw [e]
  exact ⟨Int.fmod_nonneg_of_pos _ (by omega), Int.fmod_lt_of_pos _ (by omega)⟩
theorem five_ok {a b : List Nat} {ta tb t1 t2 t3 : Tok} (hla : 1 ≤ a.length ∧ a.length ≤ 12) (hca : ∀ c ∈ a, c < 128) (hlb : 1 ≤ b.length ∧ b.length ≤ 12) (hcb : ∀ c ∈ b, c < 128) :
    ∀ v ∈ [Value.str (S a) ta, .str (S b) tb, .str (Txt.mul (Str.ofString "\"") 160) t1, .str (Str.ofString "x") t2, .str (Str.ofString "\"") t3], TextV v := by
  intro v hv
  simp only [List.mem_cons, List.not_mem_nil, or_false] at hv
  rcases hv with rfl | rfl | rfl | rfl | rfl
  · exact ⟨a, ta, rfl, by omega, hca⟩
  · exact ⟨b, tb, rfl, by omega, hcb⟩
  · refine ⟨List.replicate 160 34, t1, by rw [lit_q, mul_S]; rfl, by rw [List.length_replicate]; omega, fun c hc => ?_⟩
    rw [List.eq_of_mem_replicate hc]; decide
  · exact ⟨[120], t2, congrArg (fun x => Value.str x t2) (by decide +kernel), by decide, by decide⟩
  · exact ⟨[34], t3, congrArg (fun x => Value.str x t3) lit_q, by decide, by decide⟩
section
local macro_rules | `(tactic| walk_at $s:str) => `(tactic| k_extra $s)
set_option maxRecDepth 100000 in
set_option maxHeartbeats 8000000 in
theorem law_body (w : World) {oc dV kV doc pm cdv ct : Value} {an od : Option Addr} {name qual : Str} {params : Arguments} {body : List Stmt} {scope : Scope} {osl : Array (Option Value)}
    (hfn : (Mine.kmaker.heap_39 w.params).lookup 294 = some ⟨oc, od, .func (fnOf name qual params body scope dV kV doc pm an cdv ct), osl⟩)
    {A : Around} {base h₀ : Heap} {L fa l0 : Addr} {cd : Value} {mg mb : Str → Option Value} {p : Program} {loose : List Str} {s : Shared} {E : Value → Shared → Prop} {Q : Flow → Shared → Prop} {vs : List Value} {ns : List Int}
    (B : Below A base [] h₀) (F : Fr h₀ L s.heap (fun y => List.lookup y [(Str.ofString "script", Value.ref l0)])) (X : (Mine.kmaker.heap_39 w.params).In h₀) (T : TopRead p loose mg mb h₀) {mean : ExcName → Option Value} {p' : Program} {loose' : List Str} (T0 : Top p' loose' mean mg mb h₀) (hh : A.handled = none) (hd : A.depth + 60 < recursionLimit) (hu : A.units + 500 < cLine)
    (hL : h₀.IsList l0 vs.toArray) (hI : IntsAre vs ns) (hn : ns.length ≤ 63)
    (hQ : ∀ h' tk' m', Fr h₀ L h' m' → Q (.ret (.bool true)) { s with heap := h', toks := tk' }) :
    wpAny (model PG w) (A.deeper (envOf qual scope L fa cd)) (execs body (envOf qual scope L fa cd)) Q E s := by
  have hfn2 := hfn
  rw [show (Mine.kmaker.heap_39 w.params).lookup 294 = some ⟨_, _, .func (fnOf _ _ _ _ _ _ _ _ _ _ _ _), _⟩ from by k_dflt k_is] at hfn2
  cases hfn2
  have N1 : News h₀ L s.heap [] := News.nil
  k_with_none
  k_with "call ref" => refine hold_ ?_
  k_with "exec Assign cons ListComp" => refine hold_ ?_
  k_steps
  refine Hold.go (LCg.Assign_ListComp_U F (by rfl) (by with_unfolding_all rfl) (by with_unfolding_all rfl) (by decide) (by rfl) (by decide) (by rfl) (by rfl) (by rfl) ?_)
  k_steps
  rename Fr _ _ _ _ => F1
  rename News _ _ _ _ => N2
  rename IntsAre _ (List.take _ _) => hI2
  obtain ⟨z1, z2, hz⟩ := two_cells ns
  rw [hz] at hI2
  cases hI2 with
  | cons _ u1 hI2 =>
  cases hI2 with
  | cons _ u2 hI2 =>
  cases hI2
  refine LCg.CompSrc.ledger ?hh F1 N2 (.head _) ?hz (fun g => ?_)
  case hh => exact hh
  case hz => show 2 ≤ sizeLine; decide
  refine LCg.CompRest.succ (fun v I oI C oC D m₂ h tk E' hv hC hm F4 N4 off hne => ?_)
  obtain rfl : v = .int z1 u1 := by simpa using hv.symm
  k_steps
  refine LCg.CompEnd.intro F4 N4 _ (fun p hp => hp) off (.inr ⟨_, .head _, rfl, _, rfl⟩) (LCg.CompRest.succ (fun v I oI C oC D m₂ h tk E' hv hC hm F4 N4 off hne => ?_))
  obtain rfl : v = .int z2 u2 := by simpa using hv.symm
  k_steps
  refine LCg.CompEnd.intro F4 N4 _ (fun p hp => hp) off (.inr ⟨_, .head _, rfl, _, rfl⟩) (LCg.CompRest.zero ?_)
  intro D2 h2 tk2 FD2 ND2 _
  have ND3 := KStt.news_of ND2 (b := [(D2, _)]) fun p hp => by rw [List.mem_singleton.mp hp]; exact .head _
  clear ND2 N2 F1
  try dsimp only
  k_steps
  rename Fr _ _ _ _ => F5
  rename News _ _ _ _ => N5
  refine Hold.go (Gives.use (c_law_text w _ _) (cell_ok z1) ?_)
  rintro _ h6 tk6 ⟨a, ta, rfl, hla1, hla2, hca⟩ st6 F6 N6
  clear F5 N5
  try dsimp only
  k_steps
  rename Fr _ _ _ _ => F5
  rename News _ _ _ _ => N5
  refine Hold.go (Gives.use (c_law_text w _ _) (cell_ok z2) ?_)
  rintro _ h7 tk7 ⟨b, tb, rfl, hlb1, hlb2, hcb⟩ st7 F7 N7
  clear F5 N5
  try dsimp only
  k_with "exec For Name Tuple cons nil" => refine hold_ ?_
  k_steps
  rename Fr _ _ _ _ => F8
  rename News _ _ _ _ => N8
  refine unpackItemsN_ F8 N8 ⟨_, (N8 _ (.head _)).1, rfl, _, rfl⟩ hh rfl ?_
  intro h9 F9 N9
  have N10 : News h₀ L h9 [] := KStt.news_of N9 fun p hp => nomatch hp
  clear F8 N8 N9
  try dsimp only
  k_steps
  k_with "pyIter ref" => refine hold_ ?_
  refine Hold.go (wpAny_For ?_)
  k_steps
  rename Fr _ _ _ _ => F11
  rename News _ _ _ _ => N11
  have N12 := KStt.news_of N11 (b := [_]) fun p hp => by rw [List.mem_singleton.mp hp]; exact .head _
  refine Hold.go (law_loop w hfn rfl B F11 N12 X T hh hd hu rfl rfl ?hv rfl rfl ?_)
  case hv => exact five_ok ⟨hla1, hla2⟩ hca ⟨hlb1, hlb2⟩ hcb
  intro h13 tk13 m13 F13 h1 h2
  try dsimp only
  exact law_tail w hfn B F13 X T hh hd hu h1 h2 ⟨hla1, hla2⟩ ⟨hlb1, hlb2⟩ hca hcb fun h' tk' m' F' => hQ h' tk' m' F'
end
-- These names are taken beforehand, so that the head lays no quick twin of the greatest constants (their equations fill the compiled file).
theorem top.tw15517049486512540294 : True := trivial
theorem top.tw666261379890309472 : True := trivial
theorem top.tw9437893007894698314 : True := trivial
theorem top.tw7419471275299475770 : True := trivial
theorem top.tw15865747894454325196 : True := trivial
theorem top.tw3567177698169325468 : True := trivial
theorem top.tw8159302507568227503 : True := trivial
theorem top.tw17512577416206416963 : True := trivial
theorem top.tw11578502930711088577 : True := trivial
theorem top.tw877433047237710547 : True := trivial
theorem top.tw3561193834555079511 : True := trivial
theorem top.tw10956490626425055710 : True := trivial
theorem top.tw8538268897159353584 : True := trivial
theorem top.tw8184561461823581802 : True := trivial
theorem top.tw10448899703829047738 : True := trivial
theorem top.tw3858086207952616161 : True := trivial
theorem top.tw4872296631132183273 : True := trivial
set_option Elab.async true
set_option maxRecDepth 100000 in
set_option maxHeartbeats 8000000 in
theorem top : PySem.Challenge.rw_pb0242_01.Holds := by
  w_on; o_law; o_head (kHook Mine.kmaker.heap_39 [2, 3, 22, 24, 25, 27, 28, 29, 31, 32, 34, 35, 36, 37, 38, 39, 40, 43, 50, 51, 52, 54, 55, 57, 58, 59, 61, 62, 64, 65, 66, 67, 68, 69, 72, 79, 80, 81, 91, 92, 93, 95, 96, 98, 99, 100, 102, 103, 105, 106, 107, 108, 109, 110, 111, 114, 116, 117, 119, 120, 121, 124, 125, 126, 128, 129, 131, 132, 133, 135, 136, 138, 139, 140, 142, 143, 145, 146, 147, 149, 150, 152, 153, 154, 156, 157, 159, 160, 161, 163, 164, 166, 167, 168, 170, 171, 173, 174, 175, 178, 179, 180, 182, 183, 185, 186, 187, 189, 190, 192, 193, 194, 196, 197, 199, 200, 201, 203, 204, 206, 207, 208, 210, 211, 213, 214, 215, 217, 218, 220, 221, 222, 224, 225, 227, 228, 229, 231, 232, 234, 235, 236, 238, 239, 241, 242, 243, 245, 246, 248, 249, 250, 252, 253, 255, 256, 257, 259, 260, 262, 263, 264, 266, 267, 269, 270, 271, 273, 274, 276, 277, 278, 281, 282, 283, 285, 286, 288, 289, 290, 293, 294] (fun _ => by kernel_rfl)); (case hw => w_witness2)
  k_go0
  rename World => w
  rename Below _ _ _ _ => B0
  rename Fr _ _ _ _ => F0
  rename Top _ _ _ _ _ _ => T0
  rename Heap.IsList _ _ _ => hL0
  rename IntsAre _ _ => hI0
  rename Frag.In _ _ => X0
  refine law_body w (by k_dflt k_is) B0 F0 X0 (topRead_of T0) T0 rfl (by decide) ?hu hL0 hI0 ?hn fun h' tk' m' F' => ?_
  case hu => k_units
  case hn => omega

  k_steps
set_option Elab.async false
end Mine
set_option maxRecDepth 100000 in
set_option maxHeartbeats 8000000 in
theorem PySem.Challenge.cw_pb0242_01_holds : PySem.Challenge.rw_pb0242_01.Holds := by
  exact Mine.top
