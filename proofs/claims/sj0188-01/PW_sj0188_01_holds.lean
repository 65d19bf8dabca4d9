import PyProof.Rows.All
import Wide.All
import OpenK.AllK
import Wide.FinOn
import Lean
import PySem.Challenge.RW_sj0188_01
open PySem PySem.W PySem.Calls PyProof.Rows
set_option Elab.async false
set_option maxRecDepth 100000
set_option maxHeartbeats 4000000
namespace Mine
noncomputable section
/-- the text's view: its statements but those at 0, 5, 9 and 16 -/
def hd.view_39 : Program := { PySem.Challenge.pw_sj0188_01 with main := { PySem.Challenge.pw_sj0188_01.main with body := [1, 2, 3, 4, 6, 7, 8, 10, 11, 12, 13, 14, 15, 17, 18, 19, 20, 21].filterMap fun i => PySem.Challenge.pw_sj0188_01.main.body[i]? } }
local macro_rules | `(tactic| o_head $H:term) => do
  let (hl, hw, hc) := (Lean.mkIdent `hl, Lean.mkIdent `hw, Lean.mkIdent `hc)
  `(tactic| (refine holds_open (q := hd.view_39) (loose := [Str.ofString "SnobolError"]) (Xt := fun s => xlAt hd.view_39 [] s && recOk (RowW.records (OpenRow.toRowW (OpenLaw.row PySem.Challenge.rw_sj0188_01))) s) (XP := XL hd.view_39 []) (Yf := Hook.obs $H) (Ya := Hook.val $H) (YP := Hook.says $H) (N := 2506) ?$hl (Hook.of $H) (Hook.keeps $H) (fun s e => xl_of s (Bool.and_eq_true_iff.mp e).1) XL.keeps (by rfl) (by rfl) (by rfl) (fun s e => recFacts_of (Bool.and_eq_true_iff.mp e).2) (by rfl) (by first | assumption | decide +kernel) (by decide +kernel) ⟨rfl, rfl, rfl, rfl, rfl, by decide +kernel⟩ ?$hw ?$hc; (focus (intro w; kernel_rfl))))
open_top hd for PySem.Challenge.rw_sj0188_01


/-- a call's contract: whatever the caller; the ledger before, what comes back and the ledger behind -/
def Calls (w : World) (f : Addr) (k : Nat) (args : List Value) (news : List (Addr × Obj)) (P : Value → List (Addr × Obj) → Prop) : Prop :=
  ∀ (mean : ExcName → Option Value) (mg mb : Str → Option Value) (dp un : Nat) (gd : Option (List Code)) (cn : Str) (cs : Scope) (a : Addr) (ccd : Value) (cl : List (Str × Addr)) (outer : List Env) (A₀ : Around) (base h₀ : Heap) (L : Addr) (m : Str → Option Value) (s : Shared)
    (Q E : Value → Shared → Prop),
    Below A₀ base outer h₀ → Fr h₀ L s.heap m → (hd.heap_39 w.params).In h₀ → News h₀ L s.heap news → Top hd.view_39 (looseW hd.view_39 [Str.ofString "SnobolError"]) mean mg mb h₀ → cs.kind = .function → dp + k < recursionLimit → un + 8 * k < cLine →
    (∀ r news' h' tk', Fr h₀ L h' m → News h₀ L h' news' → P r news' → Q r { s with heap := h', toks := tk' }) →
    wpAny (model PySem.Challenge.rw_sj0188_01.row.prog w) (ktrTop dp un gd cn cs L a ccd cl outer) (call (.ref f) args) Q E s

theorem Calls.use {w : World} {f : Addr} {k : Nat} {args : List Value} {news : List (Addr × Obj)} {P : Value → List (Addr × Obj) → Prop} (C : Calls w f k args news P)
    {mean : ExcName → Option Value} {mg mb : Str → Option Value} {dp un : Nat} {gd : Option (List Code)} {cn : Str} {cs : Scope} {a : Addr} {ccd : Value} {cl : List (Str × Addr)} {outer : List Env} {A₀ : Around} {base h₀ : Heap} {L : Addr} {m : Str → Option Value} {s : Shared}
    {Q E : Value → Shared → Prop}
    (B : Below A₀ base outer h₀) (F : Fr h₀ L s.heap m) (X : (hd.heap_39 w.params).In h₀) (N : News h₀ L s.heap news) (T : Top hd.view_39 (looseW hd.view_39 [Str.ofString "SnobolError"]) mean mg mb h₀) (hk : cs.kind = .function) (hd : dp + k < recursionLimit) (hu : un + 8 * k < cLine)
    (h : ∀ r news' h' tk', Fr h₀ L h' m → News h₀ L h' news' → P r news' → Q r { s with heap := h', toks := tk' }) :
    wpAny (model PySem.Challenge.rw_sj0188_01.row.prog w) (ktrTop dp un gd cn cs L a ccd cl outer) (call (.ref f) args) Q E s := C _ _ _ _ _ _ _ _ _ _ _ _ _ _ _ _ _ _ _ _ B F X N T hk hd hu h

section
variable {prog : Program} {w : World} {A : Around} {E : Value → Shared → Prop} {s : Shared} {h₀ : Heap} {L : Addr} {m : Str → Option Value} {news : List (Addr × Obj)}

theorem isL (N : News h₀ L s.heap news) {l : Addr} {vs : List Value} {n : Nat} (hm : (l, listOf vs.toArray n) ∈ news) : s.heap.IsList l vs.toArray := ⟨_, (N _ hm).1, rfl, _, rfl⟩

theorem addL {l b : Addr} {vs ws : List Value} {n1 n2 : Nat} {Q : Value → Shared → Prop} (F : Fr h₀ L s.heap m) (N : News h₀ L s.heap news)
    (hl : (l, listOf vs.toArray n1) ∈ news) (hb : (b, listOf ws.toArray n2) ∈ news) (hsz : vs.length + ws.length ≤ 1000)
    (h : ∀ c h', Fr h₀ L h' m → News h₀ L h' ((c, listOf (vs ++ ws).toArray 0) :: news) → (∀ p ∈ news, p.1 < c) → Q (.ref c) { s with heap := h' }) :
    wpAny (model prog w) A (binaryOp .Add (.ref l) (.ref b)) Q E s :=
  add_lists (vs := vs) (ws := ws) (hsz := by rw [sizeLine_eq]; omega) F N (isL N hl) (isL N hb) fun h' F' N' => h _ h' F' N' fun p hp => Heap.lt_size (N p hp).1

theorem foldl_app (v : Value) : ∀ (k : Nat) (a : List Value), List.foldl (fun x1 x2 => x1 ++ x2) a.toArray (List.replicate k #[v]) = (a ++ List.replicate k v).toArray
  | 0, a => by simp
  | k + 1, a => by
    rw [List.replicate_succ, List.foldl_cons]
    have e : a.toArray ++ #[v] = (a ++ [v]).toArray := by simp
    rw [e, foldl_app v k (a ++ [v]), List.replicate_succ]
    simp

theorem mul1 {l : Addr} {v : Value} {n : Nat} {x : Int} {u : Tok} {Q : Value → Shared → Prop} (F : Fr h₀ L s.heap m) (N : News h₀ L s.heap news)
    (hl : (l, listOf [v].toArray n) ∈ news) (h0 : 0 ≤ x) (h1 : x ≤ 1000)
    (h : ∀ c h', Fr h₀ L h' m → News h₀ L h' ((c, listOf (List.replicate x.toNat v).toArray 0) :: news) → (∀ p ∈ news, p.1 < c) → Q (.ref c) { s with heap := h' }) :
    wpAny (model prog w) A (binaryOp .Mult (.ref l) (.int x u)) Q E s := by
  refine mul_list F N (N _ hl).1 (by omega) (by omega) (by simp; omega) fun h' F' N' => h _ h' F' ?_ fun p hp => Heap.lt_size (N p hp).1
  have e := foldl_app v x.toNat []
  simp only [List.nil_append] at e
  have e2 : ([v].toArray.isEmpty) = false := rfl
  rw [e2] at N'
  simp only [Bool.false_eq_true, if_false] at N'
  rw [show (#[] : Array Value) = ([] : List Value).toArray from rfl, e] at N'
  exact N'

theorem sliceAny {value slice : Expr} {l : Addr} {vs : List Value} {n : Nat} {vl vu vk : Value} {lo hi st : Option Int} {ops : List Value} {Q : Value → Shared → Prop} (ws : List Value)
    (F : Fr h₀ L s.heap m) (N : News h₀ L s.heap news) (hl : (l, listOf vs.toArray n) ∈ news) (pl : IsPart vl lo) (pu : IsPart vu hi) (pk : IsPart vk st) (h0 : st ≠ some 0) (hz : vs.length ≤ 1000) (e : slicePick vs.toArray lo hi st = ws.toArray)
    (h : ∀ c h', Fr h₀ L h' m → News h₀ L h' ((c, listOf ws.toArray 0) :: news) → (∀ p ∈ news, p.1 < c) → Q (.ref c) { s with heap := h' })
    (hs : subscripted slice false (.ref l) (.ref s.heap.objs.size) = operate ops (getItem (.ref l) (.ref s.heap.objs.size))) :
    wpAny (model prog w) A (subscriptTail value slice (.ref l) (.ref s.heap.objs.size)) Q E { s with heap := s.heap.push { cls := .type "slice", data := .fields #[vl, vu, vk] } } := by
  have hL := isL N hl
  refine tail_any (Heap.IsList.typeIs (s := { s with heap := s.heap.push { cls := .type "slice", data := .fields #[vl, vu, vk] } }) (hL.push _)) list_getitem_lookup
    (wpAny_getItem_list_slice (hL.push _) (Heap.IsSliceOf.new ..) pl pu pk h0 ?_ (by rw [sizeLine_eq, List.size_toArray]; omega)) hs
  have N1 := News.push (F.push { cls := .type "slice", data := .fields #[vl, vu, vk] }) (N.grown fun _ _ e => Heap.get?_push_of_some _ e) { cls := .type "list", data := .seq (slicePick vs.toArray lo hi st) }
  rw [e] at N1 ⊢
  exact h _ _ ((F.push _).push _) N1 fun p hp => Nat.lt_of_lt_of_le (Heap.lt_size (N p hp).1) (by show _ ≤ (s.heap.push _).objs.size; rw [Heap.size_push]; exact Nat.le_succ _)

theorem sliceTo {value slice : Expr} {l : Addr} {vs : List Value} {n : Nat} {x : Int} {u : Tok} {ops : List Value} {Q : Value → Shared → Prop}
    (F : Fr h₀ L s.heap m) (N : News h₀ L s.heap news) (hl : (l, listOf vs.toArray n) ∈ news) (hx : 0 ≤ x) (hz : vs.length ≤ 1000)
    (h : ∀ c h', Fr h₀ L h' m → News h₀ L h' ((c, listOf (vs.take x.toNat).toArray 0) :: news) → (∀ p ∈ news, p.1 < c) → Q (.ref c) { s with heap := h' })
    (hs : subscripted slice false (.ref l) (.ref s.heap.objs.size) = operate ops (getItem (.ref l) (.ref s.heap.objs.size))) :
    wpAny (model prog w) A (subscriptTail value slice (.ref l) (.ref s.heap.objs.size)) Q E { s with heap := s.heap.push { cls := .type "slice", data := .fields #[.none, .int x u, .none] } } :=
  sliceAny (vs.take x.toNat) F N hl .none (.int x u) .none (by decide) hz (by
    have e : x = (x.toNat : Int) := by omega
    rw [e, slicePick_upto']; simp [← e]) h hs
theorem sliceFrom {value slice : Expr} {l : Addr} {vs : List Value} {n : Nat} {x : Int} {u : Tok} {ops : List Value} {Q : Value → Shared → Prop}
    (F : Fr h₀ L s.heap m) (N : News h₀ L s.heap news) (hl : (l, listOf vs.toArray n) ∈ news) (hx : 0 ≤ x) (hz : vs.length ≤ 1000)
    (h : ∀ c h', Fr h₀ L h' m → News h₀ L h' ((c, listOf (vs.drop x.toNat).toArray 0) :: news) → (∀ p ∈ news, p.1 < c) → Q (.ref c) { s with heap := h' })
    (hs : subscripted slice false (.ref l) (.ref s.heap.objs.size) = operate ops (getItem (.ref l) (.ref s.heap.objs.size))) :
    wpAny (model prog w) A (subscriptTail value slice (.ref l) (.ref s.heap.objs.size)) Q E { s with heap := s.heap.push { cls := .type "slice", data := .fields #[.int x u, .none, .none] } } :=
  sliceAny (vs.drop x.toNat) F N hl (.int x u) .none .none (by decide) hz (by
    have e : x = (x.toNat : Int) := by omega
    rw [e, slicePick_from']; simp [← e]) h hs
theorem sliceRev {value slice : Expr} {l : Addr} {vs : List Value} {n : Nat} {u : Tok} {ops : List Value} {Q : Value → Shared → Prop}
    (F : Fr h₀ L s.heap m) (N : News h₀ L s.heap news) (hl : (l, listOf vs.toArray n) ∈ news) (hz : vs.length ≤ 1000)
    (h : ∀ c h', Fr h₀ L h' m → News h₀ L h' ((c, listOf vs.reverse.toArray 0) :: news) → (∀ p ∈ news, p.1 < c) → Q (.ref c) { s with heap := h' })
    (hs : subscripted slice false (.ref l) (.ref s.heap.objs.size) = operate ops (getItem (.ref l) (.ref s.heap.objs.size))) :
    wpAny (model prog w) A (subscriptTail value slice (.ref l) (.ref s.heap.objs.size)) Q E { s with heap := s.heap.push { cls := .type "slice", data := .fields #[.none, .none, .int (-1) u] } } :=
  sliceAny vs.reverse F N hl .none .none (.int (-1) u) (by decide) hz (krv_pick _) h hs
end

theorem newsSub {h₀ h : Heap} {L : Addr} {X news : List (Addr × Obj)} (N : News h₀ L h X) (hs : ∀ p ∈ news, p ∈ X) : News h₀ L h news := fun p hp => N p (hs p hp)
theorem ltSub {news X : List (Addr × Obj)} {c : Addr} (h : ∀ p ∈ X, p.1 < c) (hs : ∀ p ∈ news, p ∈ X) : ∀ p ∈ news, p.1 < c := fun p hp => h p (hs p hp)
theorem memKeep {q : Addr × Obj} {news X : List (Addr × Obj)} (hs : ∀ p ∈ news, p ∈ X) : ∀ p ∈ q :: news, p ∈ q :: X := fun p hp => (List.mem_cons.mp hp).elim (fun e => e ▸ List.mem_cons_self) fun h => List.mem_cons_of_mem _ (hs p h)

/-! comprehensions of any length -/
section
open LCg
variable {prog : Program} {w : World} {A : Around} {s : Shared} {h₀ : Heap} {L : Addr} {m : Str → Option Value} {env : Env}
theorem compRest_of {elt : Expr} {x : Str} {scope : Scope} {cl : List (Str × Addr)} {S : List (Addr × Obj) → Prop} {P : Nat → Value → Prop} {Fin : List Value → List (Addr × Obj) → Prop} {n : Nat}
    (Good : Nat → List Value → List (Addr × Obj) → Prop)
    (step : ∀ i ys news v I oI C oC D m₂ h tk (E' : Value → Shared → Prop), i < n → Good i ys news → P i v → NsObj oC m₂ → m₂ x = some v → Fr h₀ L h m → News h₀ L h ((I, oI) :: (C, oC) :: (D, lst ys) :: news) → Off3 I C D news → ((@Ne Nat I C) ∧ (@Ne Nat I D) ∧ (@Ne Nat C D)) →
      wpAny (model prog w) A (eval elt (compEnvC scope cl C env)) (CompEnd h₀ L m { s with heap := h, toks := tk } I oI C oC D (lst ys) S (fun y news' => Good (i + 1) (ys ++ [y]) news')) E' { s with heap := h, toks := tk })
    (fin : ∀ ys news, Good n ys news → Fin ys news) :
    ∀ (k i : Nat) (ys : List Value) (news : List (Addr × Obj)), i + k = n → Good i ys news → CompRest prog w A h₀ L m env elt x scope cl s S P Fin k i ys news
  | 0, i, ys, news, e, g => fin ys news (by rw [← e]; exact g)
  | k + 1, i, ys, news, e, g => CompRest.succ fun v I oI C oC D m₂ h tk E' hP hC hx F N off ne =>
      wpAny_mono (step i ys news v I oI C oC D m₂ h tk E' (by omega) g hP hC hx F N off ne) (fun y s' ⟨h', tk', news', e1, F', N', off', hS', g'⟩ =>
        ⟨h', tk', news', e1, F', N', off', hS', compRest_of Good step fin k (i + 1) (ys ++ [y]) news' (by omega) g'⟩) fun _ _ x => x
end

/-! tuples of a name and a value -/
abbrev tupObj (vs : List Value) : Obj := { cls := .type "tuple", data := .seq vs.toArray }
inductive TupsAt (l : List (Addr × Obj)) : List Value → List (Str × Value) → Prop
  | nil : TupsAt l [] []
  | cons {a : Addr} {x : Str} {t : Tok} {v : Value} {rs : List Value} {tl : List (Str × Value)} : (a, tupObj [.str x t, v]) ∈ l → TupsAt l rs tl → TupsAt l (.ref a :: rs) ((x, v) :: tl)
theorem TupsAt.mono {l l' : List (Addr × Obj)} (hs : ∀ p ∈ l, p ∈ l') : ∀ {rs : List Value} {tl : List (Str × Value)}, TupsAt l rs tl → TupsAt l' rs tl
  | _, _, .nil => .nil
  | _, _, .cons h r => .cons (hs _ h) (r.mono hs)
theorem TupsAt.snoc {l : List (Addr × Obj)} {a : Addr} {x : Str} {t : Tok} {v : Value} (h : (a, tupObj [.str x t, v]) ∈ l) : ∀ {rs : List Value} {tl : List (Str × Value)}, TupsAt l rs tl → TupsAt l (rs ++ [.ref a]) (tl ++ [(x, v)])
  | _, _, .nil => .cons h .nil
  | _, _, .cons h1 r => .cons h1 (r.snoc h)
theorem TupsAt.length {l : List (Addr × Obj)} : ∀ {rs : List Value} {tl : List (Str × Value)}, TupsAt l rs tl → rs.length = tl.length
  | _, _, .nil => rfl
  | _, _, .cons _ r => congrArg (· + 1) r.length

/-! the plain data: an int, or the null string -/
def den : Value → Option Int
  | .int i _ => some i
  | _ => none
inductive VOk : Value → Prop
  | int (i : Int) (t : Tok) : VOk (.int i t)
  | str (t : Tok) : VOk (.str (Str.ofString "") t)
/-- a plain dict: what stands under a name (no entry: none; the null string: some none) -/
abbrev PM := Str → Option (Option Int)
def upd (f : PM) (k : Str) (a : Option Int) : PM := fun x => if x = k then some a else f x

theorem valueAt_cons (a : Str × Value) (r : List (Str × Value)) (x : Str) : valueAt (a :: r) x = if a.1 = x then some a.2 else valueAt r x := by
  unfold valueAt
  rw [List.find?_cons]
  by_cases h : a.1 = x <;> simp [h]
theorem valueAt_map (k x : Str) (v : Value) : ∀ kvs : List (Str × Value), valueAt (kvs.map fun kv => if kv.1 = k then (kv.1, v) else kv) x = if x = k then (if kvs.any (fun kv => decide (kv.1 = k)) = true then some v else none) else valueAt kvs x
  | [] => by simp [valueAt]
  | a :: r => by
    rw [List.map_cons, valueAt_cons, valueAt_cons, valueAt_map k x v r, List.any_cons]
    by_cases h1 : a.1 = k
    · by_cases h2 : x = k
      · subst h2; simp [h1]
      · have h3 : ¬ a.1 = x := fun e => h2 (e ▸ h1)
        have h4 : ¬ k = x := fun e => h2 e.symm
        simp [h1, h2, h4]
    · have e : decide (a.1 = k) = false := decide_eq_false h1
      rw [e, Bool.false_or]
      by_cases h2 : x = k
      · subst h2; simp only [if_neg h1, if_true]
      · simp only [if_neg h1, if_neg h2]
theorem valueAt_snoc (k x : Str) (v : Value) : ∀ kvs : List (Str × Value), kvs.any (fun kv => decide (kv.1 = k)) = false → valueAt (kvs ++ [(k, v)]) x = if x = k then some v else valueAt kvs x
  | [], _ => by
    rw [List.nil_append, valueAt_cons]
    by_cases h : x = k
    · subst h; simp
    · have h' : ¬ k = x := fun e => h e.symm
      simp [h, h']
  | a :: r, ha => by
    rw [List.any_cons, Bool.or_eq_false_iff] at ha
    rw [List.cons_append, valueAt_cons, valueAt_cons, valueAt_snoc k x v r ha.2]
    have h1 : ¬ a.1 = k := by simpa using ha.1
    by_cases h : x = k
    · subst h; simp [h1]
    · simp [h]
theorem valueAt_stored (kvs : List (Str × Value)) (k x : Str) (v : Value) : valueAt (stored kvs k v) x = if x = k then some v else valueAt kvs x := by
  unfold stored
  by_cases ha : kvs.any (fun kv => decide (kv.1 = k)) = true
  · rw [if_pos ha, valueAt_map]
    simp only [ha, if_true]
  · rw [if_neg ha, valueAt_snoc k x v kvs (by rw [Bool.not_eq_true] at ha; exact ha)]
theorem stored_len (kvs : List (Str × Value)) (k : Str) (v : Value) : (stored kvs k v).length ≤ kvs.length + 1 := by
  unfold stored
  split
  · rw [List.length_map]; exact Nat.le_succ _
  · simp
theorem stored_all {P : Value → Prop} {kvs : List (Str × Value)} {k : Str} {v : Value} (h : ∀ e ∈ kvs, P e.2) (hv : P v) : ∀ e ∈ stored kvs k v, P e.2 := by
  intro e he
  unfold stored at he
  split at he
  · obtain ⟨a, ha, rfl⟩ := List.mem_map.mp he
    split
    · exact hv
    · exact h a ha
  · rcases List.mem_append.mp he with he | he
    · exact h e he
    · rw [List.mem_singleton.mp he]; exact hv
theorem valueAt_mem {kvs : List (Str × Value)} {x : Str} {v : Value} (h : valueAt kvs x = some v) : ∃ e ∈ kvs, e.2 = v := by
  unfold valueAt at h
  obtain ⟨e, he, rfl⟩ := Option.map_eq_some_iff.mp h
  exact ⟨e, List.mem_of_find?_eq_some he, rfl⟩

/-- a dict of strs and plain values -/
def DR (w : World) (o : Obj) (f : PM) (n : Nat) : Prop :=
  ∃ kvs, o.IsDictOf (PySem.strKind PySem.Challenge.rw_sj0188_01.row.prog w) kvs ∧ kvs.length ≤ n ∧ (∀ x, (valueAt kvs x).map den = f x) ∧ ∀ e ∈ kvs, VOk e.2
theorem DR.le {w : World} {o : Obj} {f : PM} {n k : Nat} (h : DR w o f n) (hk : n ≤ k) : DR w o f k :=
  let ⟨kvs, a, b, c, d⟩ := h; ⟨kvs, a, Nat.le_trans b hk, c, d⟩
theorem DR.nil {w : World} {o : Obj} (h : o.IsDictOf (PySem.strKind PySem.Challenge.rw_sj0188_01.row.prog w) []) : DR w o (fun _ => none) 0 :=
  ⟨[], h, Nat.le_refl _, fun _ => rfl, fun _ h => nomatch h⟩

section
variable {w : World} {A : Around} {E : Value → Shared → Prop} {s : Shared} {h₀ : Heap} {L d : Addr} {m : Str → Option Value} {news : List (Addr × Obj)} {g : Obj → List (Addr × Obj)} {o : Obj} {f : PM} {n : Nat} {x : Str} {t : Tok} {v dflt : Value}
theorem DR.method {pl : Sem Bool} {Q : Value × List Value → Shared → Prop} (N : News h₀ L s.heap news) (hp : (d, o) ∈ news) (hd : DR w o f n) (h : Q (.builtin "dict.get", [.ref d]) s) :
    wpAny (model PySem.Challenge.rw_sj0188_01.row.prog w) A (getMethod (.ref d) "get" pl) Q E s :=
  let ⟨_, hi, _⟩ := hd; kdg_method N hp hi h
theorem DR.get2 {Q : Value → Shared → Prop} (N : News h₀ L s.heap news) (hp : (d, o) ∈ news) (hd : DR w o f n) (lo : (d == sysModules) = false) (hv : VOk dflt)
    (h : ∀ r, VOk r → den r = (f x).getD (den dflt) → Q r { s with toks := s.toks + 1 }) :
    wpAny (model PySem.Challenge.rw_sj0188_01.row.prog w) A (call (.builtin "dict.get") [.ref d, .str x t, dflt]) Q E s := by
  obtain ⟨kvs, hi, _, hf, hk⟩ := hd
  refine kdg_get2 N hp hi lo (strKind_is _ _ _ _) (valueAt kvs x) rfl (h _ ?_ ?_)
  · cases hx : valueAt kvs x with
    | none => exact hv
    | some a => obtain ⟨e, he, rfl⟩ := valueAt_mem hx; exact hk e he
  · rw [← hf x]
    cases hx : valueAt kvs x <;> rfl
theorem DR.item {value slice : PySem.Expr} {a : Option Int} {Q : Value → Shared → Prop} (N : News h₀ L s.heap news) (hp : (d, o) ∈ news) (hd : DR w o f n) (hx : f x = some a)
    (h : ∀ r, VOk r → den r = a → Q r { s with toks := s.toks + 1 })
    (hs : subscripted slice false (.ref d) (.str x t) = operate [.ref d, .str x t] (getItem (.ref d) (.str x t))) :
    wpAny (model PySem.Challenge.rw_sj0188_01.row.prog w) A (subscriptTail value slice (.ref d) (.str x t)) Q E s := by
  obtain ⟨kvs, hi, _, hf, hk⟩ := hd
  have hq := hf x
  rw [hx] at hq
  obtain ⟨v, hv, rfl⟩ := Option.map_eq_some_iff.mp hq
  refine kdt_tail N hp hi (kdt_getItem N hp hi (strKind_is _ _ _ _) hv (h v ?_ rfl)) hs
  obtain ⟨e, he, rfl⟩ := valueAt_mem hv
  exact hk e he
theorem DR.has {Q : Value → Shared → Prop} (N : News h₀ L s.heap news) (hp : (d, o) ∈ news) (hd : DR w o f n) (lo : (d == sysModules) = false)
    (h : Q (.bool (f x).isSome) { s with toks := s.toks + 1 }) :
    wpAny (model PySem.Challenge.rw_sj0188_01.row.prog w) A (compareOp .In (.str x t) (.ref d)) Q E s := by
  obtain ⟨kvs, hi, _, hf, hk⟩ := hd
  refine kda_in N hp hi lo (strKind_is _ _ _ _) _ rfl ?_
  have : (valueAt kvs x).isSome = (f x).isSome := by rw [← hf x]; cases valueAt kvs x <;> rfl
  rw [this]; exact h
theorem DR.set {Q : Unit → Shared → Prop} (F : Fr h₀ L s.heap m) (N : News h₀ L s.heap news) (U : UpdF d o news g) (hd : DR w o f n) (hv : VOk v) (hz : n ≤ 1000)
    (h : ∀ h' o', Fr h₀ L h' m → News h₀ L h' (g o') → DR w o' (upd f x (den v)) (n + 1) → Q () { s with heap := h', toks := s.toks + 1 }) :
    wpAny (model PySem.Challenge.rw_sj0188_01.row.prog w) A (setItem (.ref d) (.str x t) v) Q E s := by
  obtain ⟨kvs, hi, hl, hf, hk⟩ := hd
  refine kda_set F N U hi (strKind_is _ _ _ _) (by rw [sizeLine_eq]; omega) fun h' o' F' N' hi' => h h' o' F' N' ⟨_, hi', ?_, fun y => ?_, stored_all hk hv⟩
  · exact Nat.le_trans (stored_len _ _ _) (Nat.succ_le_succ hl)
  · rw [valueAt_stored]
    unfold upd
    by_cases hy : y = x
    · simp [hy]
    · simp [hy, hf y]
end

/-- what was put aside for names: the values that the dict had -/
inductive SavedOf (f : PM) : List Str → List (Str × Value) → Prop
  | nil : SavedOf f [] []
  | cons {x : Str} {v : Value} {xs : List Str} {tl : List (Str × Value)} : VOk v → den v = (f x).getD none → SavedOf f xs tl → SavedOf f (x :: xs) ((x, v) :: tl)
theorem SavedOf.snoc {f : PM} {x : Str} {v : Value} (hv : VOk v) (hd : den v = (f x).getD none) : ∀ {xs : List Str} {tl : List (Str × Value)}, SavedOf f xs tl → SavedOf f (xs ++ [x]) (tl ++ [(x, v)])
  | _, _, .nil => .cons hv hd .nil
  | _, _, .cons h1 h2 r => .cons h1 h2 (r.snoc hv hd)
theorem SavedOf.length {f : PM} : ∀ {xs : List Str} {tl : List (Str × Value)}, SavedOf f xs tl → tl.length = xs.length
  | _, _, .nil => rfl
  | _, _, .cons _ _ r => congrArg (· + 1) r.length

def GoodT (base : List (Addr × Obj)) (f : PM) (names : List Str) (i : Nat) (ys : List Value) (nw : List (Addr × Obj)) : Prop :=
  ∃ newp tl, nw = newp ++ base ∧ TupsAt newp ys tl ∧ SavedOf f (names.take i) tl ∧ ∀ p ∈ newp, ∀ q ∈ base, q.1 < p.1

theorem strsAt : ∀ {vs : List Value} {ss : List Str}, StrsAre vs ss → ∀ {i : Nat} {v : Value}, vs.toArray[i]? = some v → ∃ x t, ss[i]? = some x ∧ v = .str x t
  | _, _, .nil, i, v, h => by simp at h
  | _, _, .cons x t r, 0, v, h => by simp at h; exact ⟨x, t, by simp, h.symm⟩
  | _, _, .cons x t r, i + 1, v, h => by
    simp only [List.getElem?_toArray, List.getElem?_cons_succ] at h
    have := strsAt r (i := i) (v := v) (by simpa using h)
    simpa using this
theorem strsApp : ∀ {vs ws : List Value} {ss tt : List Str}, StrsAre vs ss → StrsAre ws tt → StrsAre (vs ++ ws) (ss ++ tt)
  | _, _, _, _, .nil, h => h
  | _, _, _, _, .cons x t r, h => .cons x t (strsApp r h)
theorem strsLen : ∀ {vs : List Value} {ss : List Str}, StrsAre vs ss → vs.length = ss.length
  | _, _, .nil => rfl
  | _, _, .cons _ _ r => congrArg (· + 1) (strsLen r)
theorem newsCat {h₀ h : Heap} {L : Addr} {X Y : List (Addr × Obj)} (N : News h₀ L h X) (hs : ∀ p ∈ Y, p ∈ X) : News h₀ L h Y := fun p hp => N p (hs p hp)

theorem compEnd1 {h₀ : Heap} {L I C D : Addr} {m : Str → Option Value} {s₁ : Shared} {oI oC oD : Obj} {S : List (Addr × Obj) → Prop} {rest : Value → List (Addr × Obj) → Prop} {y : Value} {h' : Heap} {tk : Nat} {q : Addr × Obj} {X : List (Addr × Obj)}
    (F : Fr h₀ L h' m) (N : News h₀ L h' (q :: (I, oI) :: (C, oC) :: (D, oD) :: X)) (off : LCg.Off3 I C D X) (hl : I < q.1 ∧ C < q.1 ∧ D < q.1 ∧ AllLt q.1 X) (hS : S (q :: X)) (r : rest y (q :: X)) :
    LCg.CompEnd h₀ L m s₁ I oI C oC D oD S rest y { s₁ with heap := h', toks := tk } := by
  refine LCg.CompEnd.intro F N (q :: X) (fun p hp => ?_) ⟨⟨Nat.ne_of_gt hl.1, Nat.ne_of_gt hl.2.1, Nat.ne_of_gt hl.2.2.1⟩, off⟩ hS r
  simp only [List.mem_cons] at hp ⊢
  rcases hp with h | h | h | h | h
  · exact .inr (.inl h)
  · exact .inr (.inr (.inl h))
  · exact .inr (.inr (.inr (.inl h)))
  · exact .inl h
  · exact .inr (.inr (.inr (.inr h)))

theorem goodT_step {base newp : List (Addr × Obj)} {f : PM} {names : List Str} {i : Nat} {ys : List Value} {tl : List (Str × Value)} {x : Str} {tx : Tok} {v : Value} {q : Addr}
    (hT : TupsAt newp ys tl) (hS : SavedOf f (names.take i) tl) (hf : ∀ p ∈ newp, ∀ q ∈ base, q.1 < p.1) (hx : names[i]? = some x) (hv : VOk v) (hd : den v = (f x).getD none) (hl : AllLt q (newp ++ base)) :
    GoodT base f names (i + 1) (ys ++ [.ref q]) ((q, tupObj [.str x tx, v]) :: (newp ++ base)) := by
  refine ⟨_ :: newp, _, rfl, (hT.mono fun p hp => List.mem_cons_of_mem _ hp).snoc List.mem_cons_self, ?_, ?_⟩
  · rw [List.take_add_one, hx]
    exact hS.snoc hv hd
  · intro p hp b hb
    rcases List.mem_cons.mp hp with rfl | hp
    · exact ktn_ltOf hl b (List.mem_append_right _ hb)
    · exact hf p hp b hb

theorem off1_mem {D : Addr} : ∀ {l : List (Addr × Obj)}, LCg.Off1 D l → ∀ p ∈ l, p.1 ≠ D
  | [], _, _, h => nomatch h
  | _ :: _, x, p, h => by
    rcases List.mem_cons.mp h with rfl | h
    · exact x.1
    · exact off1_mem x.2 p h

/-! the dict of an object of an own class, its entries not written out -/
theorem isStr_other {k : Value} {x name : Str} (h : k.isStr name = true) (hne : x ≠ name) : k.isStr x = false := by
  cases k <;> simp_all [Value.isStr]
  exact fun e => hne e.symm
theorem putL_other {name x : Str} (hne : x ≠ name) (hsh : Int) (key v : Value) : ∀ es : List DictEntry, es.any (·.key.isStr name) = true → (putL name hsh key v es).find? (·.key.isStr x) = es.find? (·.key.isStr x)
  | [], h => by cases h
  | e :: r, h => by
    unfold putL
    by_cases hk : e.key.isStr name = true
    · rw [if_pos hk]
      have h1 := isStr_other hk hne
      simp only [List.find?_cons, h1]
    · rw [if_neg hk]
      have hr : r.any (·.key.isStr name) = true := by simpa [hk] using h
      simp only [List.find?_cons]
      rw [putL_other hne hsh key v r hr]
theorem putL_same {name : Str} (hsh : Int) (key v : Value) : ∀ es : List DictEntry, es.any (·.key.isStr name) = true → ((putL name hsh key v es).find? (·.key.isStr name)).map (·.val) = some v
  | [], h => by cases h
  | e :: r, h => by
    unfold putL
    by_cases hk : e.key.isStr name = true
    · rw [if_pos hk]
      simp [hk]
    · rw [if_neg hk]
      have hr : r.any (·.key.isStr name) = true := by simpa [hk] using h
      simp only [List.find?_cons]
      rw [Bool.not_eq_true] at hk
      rw [hk]
      exact putL_same hsh key v r hr
theorem putL_keys {name : Str} (hsh : Int) (key v : Value) : ∀ es : List DictEntry, es.any (·.key.isStr name) = true → (putL name hsh key v es).any (·.refKey) = es.any (·.refKey) ∧ (putL name hsh key v es).length = es.length
  | [], h => by cases h
  | e :: r, h => by
    unfold putL
    by_cases hk : e.key.isStr name = true
    · rw [if_pos hk]; exact ⟨rfl, rfl⟩
    · rw [if_neg hk]
      have hr : r.any (·.key.isStr name) = true := by simpa [hk] using h
      obtain ⟨a, b⟩ := putL_keys hsh key v r hr
      exact ⟨by rw [List.any_cons, List.any_cons, a], congrArg (· + 1) b⟩
theorem getL_any {name : Str} {v : Value} {es : List DictEntry} (h : getL name es = some (some v)) : es.any (·.key.isStr name) = true := by
  unfold getL at h
  cases hf : es.find? (·.key.isStr name) with
  | none => rw [hf] at h; dsimp only at h; split at h <;> cases h
  | some e => exact List.any_eq_true.mpr ⟨e, List.mem_of_find?_eq_some hf, by have := List.find?_some hf; exact this⟩
theorem getL_put_other {name x : Str} (hne : x ≠ name) {hsh : Int} {key v v0 : Value} {es : List DictEntry} (h : getL name es = some (some v0)) : getL x (putL name hsh key v es) = getL x es := by
  have ha := getL_any h
  unfold getL
  rw [putL_other hne hsh key v es ha, (putL_keys hsh key v es ha).1]
theorem getL_put_same {name : Str} {hsh : Int} {key v v0 : Value} {es : List DictEntry} (h : getL name es = some (some v0)) : getL name (putL name hsh key v es) = some (some v) := by
  have ha := getL_any h
  have := putL_same hsh key v es ha
  unfold getL
  cases hf : (putL name hsh key v es).find? (·.key.isStr name) with
  | none => rw [hf] at this; cases this
  | some e => rw [hf] at this; dsimp only; rw [show e.val = v from Option.some.inj this]

theorem UpdF.toUpd {d : Addr} {o o' : Obj} : ∀ {l : List (Addr × Obj)} {g : Obj → List (Addr × Obj)}, UpdF d o l g → Upd d o o' l (g o')
  | _, _, .head h => .head h
  | _, _, .tail h r => .tail h (UpdF.toUpd r)

section
variable {prog : Program} {w : World} {A : Around} {E : Value → Shared → Prop} {s : Shared} {K : Frag} {x C dx L D : Addr} {h₀ : Heap} {m : Str → Option Value} {news news' : List (Addr × Obj)} {g : Obj → List (Addr × Obj)} {ox : Obj} {es : List DictEntry} {n : Nat} {name : Str} {v v0 : Value}
theorem setF {Q : Unit → Shared → Prop} (F : Fr h₀ L s.heap m) (X₀ : K.In h₀) (N : News h₀ L s.heap news) (I : InstAt s.heap x ox C (some (dictOf es n))) (hd : ox.dict = some dx)
    (hs : findIn K (.ref C) "__setattr__" = some (some (.builtin "object.__setattr__"))) (hp : plainOver K C = true) (ht : takerIn K C name = some none) (hh : hasDictIn K C = true) (hl : getL name es = some (some v0))
    (U : UpdF dx (dictOf es n) news g) (hz : es.length ≤ 900)
    (h : ∀ es' n' h', es'.length ≤ 900 → (∀ y, y ≠ name → getL y es' = getL y es) → getL name es' = some (some v) → Fr h₀ L h' m → News h₀ L h' (g (dictOf es' n')) → Q () { s with heap := h', toks := s.toks + 2 }) :
    wpAny (model prog w) A (setAttr (.ref x) name v) Q E s := by
  have hk := putL_keys (PyData.keyHash w.params name) (.str name (s.toks + 1)) v es (getL_any hl)
  refine set_dict F X₀ N I hd hs hp ht hh (by rw [hl]; rfl) rfl (UpdF.toUpd U) (by rw [hk.2]; omega) fun h' F' N' => h _ _ h' (by rw [hk.2]; exact hz) (fun y hy => getL_put_other hy hl) (getL_put_same hl) F' N'

theorem appendL {vs : List Value} {n : Nat} {y : Value} {Q : Value → Shared → Prop} (F : Fr h₀ L s.heap m) (N : News h₀ L s.heap news) (U : UpdF D (listOf vs.toArray n) news g) (hz : vs.length ≤ 1000)
    (h : ∀ h', Fr h₀ L h' m → News h₀ L h' (g (listOf (vs ++ [y]).toArray (n + 1))) → Q .none { s with heap := h' }) : wpAny (model prog w) A (call (.builtin "list.append") [.ref D, y]) Q E s := by
  refine append_K (hsz := by rw [List.size_toArray, sizeLine_eq]; omega) F N (UpdF.toUpd U) fun h' F' N' => h h' F' ?_
  rw [List.push_toArray] at N'
  exact N'
end

section
variable {prog : Program} {w : World} {A : Around} {E : Value → Shared → Prop} {s : Shared} {env : Env} {h₀ : Heap} {L : Addr} {m : Str → Option Value} {news : List (Addr × Obj)}
theorem lenL {l : Addr} {vs : List Value} {n : Nat} {Q : Value → Shared → Prop} (N : News h₀ L s.heap news) (hl : (l, listOf vs.toArray n) ∈ news) (hz : vs.length ≤ 1000)
    (h : Q (.int vs.length (s.toks + 1)) { s with toks := s.toks + 1 + 1 }) : wpAny (model prog w) A (call (.builtin "len") [.ref l]) Q E s :=
  call_len_list (isL N hl) (by rw [List.size_toArray]; omega) (by rw [List.size_toArray]; exact h)

theorem zipL {l1 l2 : Addr} {vs₁ vs₂ : List Value} {n1 n2 : Nat} {xi xc : Str} {body : List Stmt} {Q : Flow → Shared → Prop} (J : Nat → (Str → Option Value) → List (Addr × Obj) → Prop) (hh : A.handled = none)
    (F : Fr h₀ env.locals s.heap m) (N : News h₀ env.locals s.heap news) (h1 : (l1, listOf vs₁.toArray n1) ∈ news) (h2 : (l2, listOf vs₂.toArray n2) ∈ news) (h0 : J 0 m news)
    (step : ∀ i v0 v1 m₁ news₁ s₁ own, (∃ h tk, s₁ = { s with heap := h, toks := tk }) → vs₁[i]? = some v0 → vs₂[i]? = some v1 → J i m₁ news₁ → news₁.map (·.1) = news.map (·.1) → (∀ p ∈ own, ∀ q ∈ news, p.1 = q.1 → p.1 = l1 ∨ p.1 = l2) →
      Fr h₀ env.locals s₁.heap (fun y => if y = xc then some v1 else if y = xi then some v0 else m₁ y) → News h₀ env.locals s₁.heap (own ++ news₁) →
      wpAny (model prog w) A (execs body env) (LoopStep3 h₀ env.locals own news₁ (J (i + 1)) s₁ (fun v s' => Q (.ret v) s') fun s' => Q .next s') E s₁)
    (done : ∀ h' tk m' news', Fr h₀ env.locals h' m' → News h₀ env.locals h' news' → news'.map (·.1) = news.map (·.1) → J (min vs₁.length vs₂.length) m' news' → Q .next { s with heap := h', toks := tk }) :
    wpAny (model prog w) A (call (.type "zip") [.ref l1, .ref l2]) (fun xv s₁ => wpAny (model prog w) A (pyIter xv) (fun it s₂ => PairAt3 prog w A h₀ env xi xc body Q E it s₂) E s₁) E s := by
  have hls1 := isL N h1
  have hls2 := isL N h2
  have a1 : l1 < s.heap.objs.size := Heap.lt_size (N _ h1).1
  have a2 : l2 < s.heap.objs.size := Heap.lt_size (N _ h2).1
  have hLs : env.locals < s.heap.objs.size := F.ns.lt
  have hab : h₀.objs.size ≤ env.locals := F.above
  refine call_zip_2 hls1 hls2 fun h' hz hTI hTO hit1 hit2 hsz hk => ?_
  have F' : Fr h₀ env.locals h' m := ⟨F.ns.keeps hk, fun b o e => hk b o (F.keep b o e), F.above⟩
  have N' : News h₀ env.locals h' news := fun p hp => ⟨hk _ _ (N p hp).1, (N p hp).2⟩
  have hlt : ∀ q ∈ news, q.1 < s.heap.objs.size := fun q hq => Heap.lt_size (N q hq).1
  have nw : ∀ k, h₀.get? (s.heap.objs.size + k) = none := fun k => Heap.get?_none_of_le (Nat.le_trans hab (Nat.le_trans (Nat.le_of_lt hLs) (Nat.le_add_right _ k)))
  have W := WalksT.zip2 (prog := prog) (w := w) hh (s.heap.objs.size + 4) (s.heap.objs.size + 2) (s.heap.objs.size + 3) s.heap.objs.size (s.heap.objs.size + 1) l1 l2 (zipApart_new a1 a2) vs₁.toArray vs₂.toArray
  have hst : IsZip h' (s.heap.objs.size + 4) (s.heap.objs.size + 2) (s.heap.objs.size + 3) .none ∧ IsPair h' (s.heap.objs.size + 2) (.ref s.heap.objs.size) (.ref (s.heap.objs.size + 1)) ∧ (∃ a b, IsPair h' (s.heap.objs.size + 3) a b) ∧
      h'.IsListIter s.heap.objs.size l1 0 ∧ h'.IsListIter (s.heap.objs.size + 1) l2 0 ∧ h'.IsList l1 vs₁.toArray ∧ h'.IsList l2 vs₂.toArray := ⟨hz, hTI, ⟨_, _, hTO⟩, hit1, hit2, hls1.at fun o e => hk l1 o e, hls2.at fun o e => hk l2 o e⟩
  refine W.self 0 { s with heap := h' } _ _ hst ?_
  refine ⟨s.heap.objs.size + 4, _, _, _, _, _, _, (fun i v0 v1 => vs₁[i]? = some v0 ∧ vs₂[i]? = some v1), m, news, J, rfl, W, ?_, ?_, ?_, ?_, hst, F', N', h0, ?_, ?_⟩
  · rintro i vals ⟨x, y, hx, hy, rfl⟩
    exact ⟨x, y, rfl, by simpa using hx, by simpa using hy⟩
  · intro hm
    simp only [List.mem_cons, List.not_mem_nil, or_false] at hm
    have up : ∀ k, env.locals ≠ s.heap.objs.size + k := fun k e => Nat.ne_of_lt (Nat.lt_of_lt_of_le hLs (Nat.le_add_right _ k)) e
    rcases hm with e | e | e | e | e | e | e
    · exact up 4 e
    · exact up 2 e
    · exact up 3 e
    · exact up 0 e
    · exact up 1 e
    · exact (N _ h1).2.1 e.symm
    · exact (N _ h2).2.1 e.symm
  · intro b hb
    simp only [List.mem_cons, List.not_mem_nil, or_false] at hb
    rcases hb with rfl | rfl | rfl | rfl
    · exact nw 4
    · exact nw 3
    · exact nw 0
    · exact nw 1
  · intro p hp hm
    have hq1 := hlt p hp
    simp only [List.mem_cons, List.not_mem_nil, or_false] at hm
    have dn : ∀ k, p.1 ≠ s.heap.objs.size + k := fun k e => Nat.ne_of_lt (Nat.lt_of_lt_of_le hq1 (Nat.le_add_right _ k)) e
    rcases hm with e | e | e | e
    · exact dn 4 e
    · exact dn 3 e
    · exact dn 0 e
    · exact dn 1 e
  · rintro i v0 v1 m₁ news₁ s₁ own ⟨hh', tk', rfl⟩ _ ⟨ha, hb⟩ hJ hmap hsub F₁ N₁
    refine step i v0 v1 m₁ news₁ _ own ⟨_, _, rfl⟩ ha hb hJ hmap (fun p hp q hq e => ?_) F₁ N₁
    have hs := hsub p hp
    have hq1 := hlt q hq
    simp only [List.mem_cons, List.not_mem_nil, or_false] at hs
    have dn : ∀ k, q.1 ≠ s.heap.objs.size + k := fun k e => Nat.ne_of_lt (Nat.lt_of_lt_of_le hq1 (Nat.le_add_right _ k)) e
    rcases hs with e1 | e1 | e1 | e1 | e1 | e1 | e1
    · exact absurd (e ▸ e1) (dn 4)
    · exact absurd (e ▸ e1) (dn 2)
    · exact absurd (e ▸ e1) (dn 3)
    · exact absurd (e ▸ e1) (dn 0)
    · exact absurd (e ▸ e1) (dn 1)
    · exact .inl e1
    · exact .inr e1
  · intro h₂ tk₂ m₂ news₂ F₂ N₂ hm₂ hJ₂
    refine done h₂ tk₂ m₂ news₂ F₂ N₂ hm₂ ?_
    simpa using hJ₂
end

/-! loops over a list of the ledger -/
def LEnd (h₀ : Heap) (L : Addr) (own news₀ : List (Addr × Obj)) (J : (Str → Option Value) → List (Addr × Obj) → Prop) (s₁ : Shared) (Q : Flow → Shared → Prop) (f : Flow) (s₂ : Shared) : Prop :=
  match f with
  | .ret v => Q (.ret v) s₂
  | .brk => Q .next s₂
  | _ => ∃ h' tk m' news', s₂ = { s₁ with heap := h', toks := tk } ∧ Fr h₀ L h' m' ∧ News h₀ L h' (own ++ news') ∧ news'.map (·.1) = news₀.map (·.1) ∧ J m' news'
theorem LEnd.intro {h₀ : Heap} {L : Addr} {own news₀ news' : List (Addr × Obj)} {J : (Str → Option Value) → List (Addr × Obj) → Prop} {s₁ : Shared} {Q : Flow → Shared → Prop} {h' : Heap} {tk : Nat} {m' : Str → Option Value}
    (F : Fr h₀ L h' m') (N : News h₀ L h' (own ++ news')) (ha : news'.map (·.1) = news₀.map (·.1)) (hj : J m' news') : LEnd h₀ L own news₀ J s₁ Q .next { s₁ with heap := h', toks := tk } := ⟨h', tk, m', news', rfl, F, N, ha, hj⟩

section
variable {prog : Program} {w : World} {A : Around} {E : Value → Shared → Prop} {s : Shared} {env : Env} {h₀ : Heap} {m : Str → Option Value} {news : List (Addr × Obj)}
theorem iterL {l : Addr} {vs : List Value} {n : Nat} {x : Str} {body : List Stmt} {Q : Flow → Shared → Prop} (J : Nat → (Str → Option Value) → List (Addr × Obj) → Prop) (hh : A.handled = none)
    (F : Fr h₀ env.locals s.heap m) (N : News h₀ env.locals s.heap news) (hl : (l, listOf vs.toArray n) ∈ news) (h0 : J 0 m news)
    (step : ∀ i v m₁ news₁ h tk own, vs[i]? = some v → J i m₁ news₁ → news₁.map (·.1) = news.map (·.1) → (∀ p ∈ own, ∀ q ∈ news, p.1 = q.1 → p.1 = l) → Fr h₀ env.locals h (fun y => if y = x then some v else m₁ y) → News h₀ env.locals h (own ++ news₁) →
      wpAny (model prog w) A (execs body env) (LEnd h₀ env.locals own news (J (i + 1)) { s with heap := h, toks := tk } Q) E { s with heap := h, toks := tk })
    (done : ∀ h' tk m' news', Fr h₀ env.locals h' m' → News h₀ env.locals h' news' → news'.map (·.1) = news.map (·.1) → J vs.length m' news' → Q .next { s with heap := h', toks := tk }) :
    wpAny (model prog w) A (pyIter (.ref l)) (fun it s₂ => LoopAtV prog w A h₀ env x body Q E it s₂) E s := by
  have hls := isL N hl
  have hlt : l < s.heap.objs.size := Heap.lt_size (N _ hl).1
  have hne : l ≠ s.heap.objs.size := Nat.ne_of_lt hlt
  refine wpAny_pyIter_list hls ?_
  have W := Walks.list (prog := prog) (w := w) hh s.heap.objs.size l hne vs.toArray
  have off : ∀ news' : List (Addr × Obj), news'.map (·.1) = news.map (·.1) → ∀ p ∈ news', p.1 ∉ [s.heap.objs.size] := fun news' ha p hp hm => by
    have h1 : p.1 ∈ news'.map (·.1) := List.mem_map.mpr ⟨p, hp, rfl⟩
    rw [ha] at h1
    obtain ⟨q, hq, e⟩ := List.mem_map.mp h1
    exact absurd (Heap.lt_size (N q hq).1) (by rw [e, List.mem_singleton.mp hm]; exact Nat.lt_irrefl _)
  refine ⟨_, _, _, vs.toArray.size, _, _, m, news, (fun i m₁ nw => nw.map (·.1) = news.map (·.1) ∧ J i m₁ nw), rfl, W, ?_, ?_, off news rfl, ⟨⟨_, Heap.get?_push_size _ rfl, rfl, rfl⟩, hls.at fun o e => Heap.get?_push_of_some _ e⟩, F.push _,
    (fun p hp => ⟨Heap.get?_push_of_some _ (N p hp).1, (N p hp).2⟩), ⟨rfl, h0⟩, ?_, ?_⟩
  · intro hm
    rcases List.mem_cons.mp hm with e | hm
    · exact absurd F.ns.lt (e ▸ Nat.lt_irrefl _)
    · exact (N _ hl).2.1 (List.mem_singleton.mp hm).symm
  · intro b hb
    rw [List.mem_singleton.mp hb]
    exact next_is_new F
  · rintro i v m₁ news₁ s₁ own ⟨hh', tk', rfl⟩ hin hP ⟨ha, hJ⟩ hoff hown _ _ _ F₁ N₁
    refine wpAny_mono (step i v m₁ news₁ hh' tk' own (by simpa using hP) hJ ha (fun p hp q hq e => ?_) F₁ N₁) (fun f s₂ p => ?_) fun _ _ e => e
    · rcases List.mem_cons.mp (hown p hp) with h1 | h1
      · exact absurd (Heap.lt_size (N q hq).1) (by rw [← e, h1]; exact Nat.lt_irrefl _)
      · exact List.mem_singleton.mp h1
    · have fin : (∃ h' tk m' news', s₂ = { s with heap := h', toks := tk } ∧ Fr h₀ env.locals h' m' ∧ News h₀ env.locals h' (own ++ news') ∧ news'.map (·.1) = news.map (·.1) ∧ J (i + 1) m' news') →
          LoopStepU h₀ env.locals [s.heap.objs.size] own (fun m₁ nw => nw.map (·.1) = news.map (·.1) ∧ J (i + 1) m₁ nw) { s with heap := hh', toks := tk' } .next s₂ := by
        rintro ⟨h', tk, m', news', e, F', N', ha', hm⟩
        exact ⟨rfl, h', tk, m', news', e, F', N', off news' ha', ha', hm⟩
      cases f with
      | ret v => exact .ret p
      | brk => exact .brk p
      | next => exact .next (fin p)
      | cont => exact .cont (fin p)
  · rintro h' tk m' news' F' N' _ ⟨ha, hJ⟩
    exact done h' tk m' news' F' N' ha (by simpa using hJ)

/-- the frame of a loop: its own names turn, the others stay -/
def JZ (m₀ : Str → Option Value) (xi xc : Str) (P : Nat → List (Addr × Obj) → Prop) (i : Nat) (m₁ : Str → Option Value) (nw : List (Addr × Obj)) : Prop :=
  (∃ u v, m₁ = fun z => if z = xc then v else if z = xi then u else m₀ z) ∧ P i nw
theorem JZ.start {m : Str → Option Value} {xi xc : Str} {P : Nat → List (Addr × Obj) → Prop} {nw : List (Addr × Obj)} (h : P 0 nw) : JZ m xi xc P 0 m nw := by
  refine ⟨⟨m xi, m xc, ?_⟩, h⟩
  funext z
  by_cases h1 : z = xc
  · simp [h1]
  · by_cases h2 : z = xi
    · subst h2; simp [h1]
    · simp [h1, h2]
theorem JZ.step {m₀ m₁ : Str → Option Value} {xi xc : Str} {P P' : Nat → List (Addr × Obj) → Prop} {nw nw' : List (Addr × Obj)} {i j : Nat} {a b : Option Value} (h : JZ m₀ xi xc P' i m₁ nw) (hp : P j nw') :
    JZ m₀ xi xc P j (fun y => if y = xc then a else if y = xi then b else m₁ y) nw' := by
  obtain ⟨⟨u, v, rfl⟩, _⟩ := h
  refine ⟨⟨b, a, ?_⟩, hp⟩
  funext z
  by_cases h1 : z = xc
  · simp [h1]
  · by_cases h2 : z = xi
    · simp [h1, h2]
    · simp [h1, h2]
def J1 (m₀ : Str → Option Value) (x : Str) (P : Nat → List (Addr × Obj) → Prop) (i : Nat) (m₁ : Str → Option Value) (nw : List (Addr × Obj)) : Prop :=
  (∃ u, m₁ = fun z => if z = x then u else m₀ z) ∧ P i nw
theorem J1.start {m : Str → Option Value} {x : Str} {P : Nat → List (Addr × Obj) → Prop} {nw : List (Addr × Obj)} (h : P 0 nw) : J1 m x P 0 m nw := by
  refine ⟨⟨m x, ?_⟩, h⟩
  funext z
  by_cases h1 : z = x
  · simp [h1]
  · simp [h1]
theorem J1.step {m₀ m₁ : Str → Option Value} {x : Str} {P P' : Nat → List (Addr × Obj) → Prop} {nw nw' : List (Addr × Obj)} {i j : Nat} {a : Option Value} (h : J1 m₀ x P' i m₁ nw) (hp : P j nw') :
    J1 m₀ x P j (fun y => if y = x then a else m₁ y) nw' := by
  obtain ⟨⟨u, rfl⟩, _⟩ := h
  refine ⟨⟨a, ?_⟩, hp⟩
  funext z
  by_cases h1 : z = x
  · simp [h1]
  · simp [h1]
end

/-! what a call gives its names -/
def setAll (g : PM) (l : List (Str × Option Int)) : PM := l.foldl (fun g e => upd g e.1 e.2) g
def binds (ps : List Str) (as : List (Option Int)) : List (Str × Option Int) := ps.zip ((as ++ List.replicate ps.length none).take ps.length)
theorem setAll_snoc (g : PM) (l : List (Str × Option Int)) (e : Str × Option Int) : setAll g (l ++ [e]) = upd (setAll g l) e.1 e.2 := by
  unfold setAll; rw [List.foldl_append]; rfl
theorem filled_get {avs : List Value} {k i : Nat} {u : Tok} {v : Value} (ha : ∀ v ∈ avs, VOk v) (h : ((avs ++ List.replicate k (Value.str (Str.ofString "") u)).take k)[i]? = some v) :
    VOk v ∧ ((avs.map den ++ List.replicate k none).take k)[i]? = some (den v) := by
  constructor
  · have hm := List.mem_of_mem_take (List.mem_of_getElem? h)
    rcases List.mem_append.mp hm with h1 | h1
    · exact ha v h1
    · rw [(List.mem_replicate.mp h1).2]; exact .str u
  · have e : (avs.map den ++ List.replicate k none).take k = ((avs ++ List.replicate k (Value.str (Str.ofString "") u)).take k).map den := by
      rw [List.map_take, List.map_append, List.map_replicate]; rfl
    rw [e, List.getElem?_map, h]; rfl
theorem binds_get {ps : List Str} {as : List (Option Int)} {i : Nat} {x : Str} {a : Option Int} (h1 : ps[i]? = some x) (h2 : ((as ++ List.replicate ps.length none).take ps.length)[i]? = some a) : (binds ps as)[i]? = some (x, a) := by
  unfold binds; simp [List.getElem?_zip_eq_some, h1, h2]
theorem binds_len (ps : List Str) (as : List (Option Int)) : (binds ps as).length = ps.length := by
  unfold binds; simp
theorem setAll_take {g : PM} {l : List (Str × Option Int)} {i : Nat} {x : Str} {a : Option Int} (h : l[i]? = some (x, a)) : setAll g (l.take (i + 1)) = upd (setAll g (l.take i)) x a := by
  rw [List.take_add_one, h]
  exact setAll_snoc _ _ _
def frameL (nm : Str) (ps : List Str) (as : List (Option Int)) (ls : List Str) : List (Str × Option Int) := (nm, none) :: (binds ps as ++ ls.map fun x => (x, none))
theorem setAll_frame (f : PM) (nm : Str) (ps : List Str) (as : List (Option Int)) (ls : List Str) :
    setAll (setAll (upd f nm none) (binds ps as)) (ls.map fun x => (x, none)) = setAll f (frameL nm ps as ls) := by
  unfold setAll frameL
  rw [List.foldl_cons, List.foldl_append]
theorem DR.take {w : World} {o : Obj} {g : PM} {l : List (Str × Option Int)} {i n k : Nat} (h : DR w o (setAll g (l.take i)) n) (hi : l.length ≤ i) (hk : n ≤ k) : DR w o (setAll g l) k := by
  rw [List.take_of_length_le hi] at h; exact h.le hk
/-- what enter leaves: the world's dict, the store, the list aside, what was put aside, its tuples -/
def Entered (w : World) (dw st sa : Addr) (wes : List DictEntry) (n4 : Nat) (sas : List Value) (d : Int) (f : PM) (nf : Nat) (nm : Str) (ps : List Str) (as : List (Option Int)) (ls : List Str) (base rest : List (Addr × Obj)) (r : Value) (news' : List (Addr × Obj)) : Prop :=
  ∃ D ys newp tl es' n' o', r = .ref D ∧ news' = (dw, dictOf es' n') :: (st, o') :: (sa, listOf (sas ++ [Value.ref D]).toArray (n4 + 1)) :: (D, LCg.lst ys) :: (newp ++ rest) ∧
    es'.length ≤ 900 ∧ (∀ y, y ≠ Str.ofString "depth" → getL y es' = getL y wes) ∧ (∃ t, getL (Str.ofString "depth") es' = some (some (.int (d + 1) t))) ∧
    DR w o' (setAll f (frameL nm ps as ls)) nf ∧ TupsAt newp ys tl ∧ SavedOf f (nm :: ps ++ ls) tl ∧ (∀ p ∈ newp, ∀ q ∈ base, q.1 < p.1) ∧ (∀ q ∈ base, q.1 ≠ D) ∧ (∀ p ∈ newp, p.1 ≠ D)

/-! loops over a list of the ledger, the target a tuple -/
def NEnd (h₀ : Heap) (L : Addr) (own news₀ : List (Addr × Obj)) (J : (Str → Option Value) → List (Addr × Obj) → Prop) (s₁ : Shared) (f : Flow) (s₂ : Shared) : Prop :=
  f = .next ∧ ∃ h' tk m' news', s₂ = { s₁ with heap := h', toks := tk } ∧ Fr h₀ L h' m' ∧ News h₀ L h' (own ++ news') ∧ news'.map (·.1) = news₀.map (·.1) ∧ J m' news'
theorem NEnd.intro {h₀ : Heap} {L : Addr} {own news₀ news' : List (Addr × Obj)} {J : (Str → Option Value) → List (Addr × Obj) → Prop} {s₁ : Shared} {h' : Heap} {tk : Nat} {m' : Str → Option Value}
    (F : Fr h₀ L h' m') (N : News h₀ L h' (own ++ news')) (ha : news'.map (·.1) = news₀.map (·.1)) (hj : J m' news') : NEnd h₀ L own news₀ J s₁ .next { s₁ with heap := h', toks := tk } := ⟨rfl, h', tk, m', news', rfl, F, N, ha, hj⟩
section
variable {prog : Program} {w : World} {A : Around} {E : Value → Shared → Prop} {s : Shared} {env : Env} {h₀ : Heap} {m : Str → Option Value} {news : List (Addr × Obj)}
theorem iterT {l : Addr} {vs : List Value} {n : Nat} {target : Expr} {body : List Stmt} {Q : Flow → Shared → Prop} (J : Nat → (Str → Option Value) → List (Addr × Obj) → Prop) (hh : A.handled = none)
    (F : Fr h₀ env.locals s.heap m) (N : News h₀ env.locals s.heap news) (hl : (l, listOf vs.toArray n) ∈ news) (h0 : J 0 m news)
    (step : ∀ i v m₁ news₁ (s₁ : Shared) own, vs[i]? = some v → J i m₁ news₁ → news₁.map (·.1) = news.map (·.1) → (∀ p ∈ own, ∀ q ∈ news, p.1 = q.1 → p.1 = l) → Fr h₀ env.locals s₁.heap m₁ → News h₀ env.locals s₁.heap (own ++ news₁) →
      wpAny (model prog w) A (assign target env v) (fun _ s₃ => wpAny (model prog w) A (execs body env) (NEnd h₀ env.locals own news (J (i + 1)) s₁) E s₃) E s₁)
    (done : ∀ h' tk m' news', Fr h₀ env.locals h' m' → News h₀ env.locals h' news' → news'.map (·.1) = news.map (·.1) → J vs.length m' news' → Q .next { s with heap := h', toks := tk }) :
    wpAny (model prog w) A (pyIter (.ref l)) (fun it s₂ => LoopAtT prog w A h₀ env target body Q E it s₂) E s := by
  have hls := isL N hl
  have hlt : l < s.heap.objs.size := Heap.lt_size (N _ hl).1
  have hne : l ≠ s.heap.objs.size := Nat.ne_of_lt hlt
  refine wpAny_pyIter_list hls ?_
  have W := Walks.list (prog := prog) (w := w) hh s.heap.objs.size l hne vs.toArray
  have off : ∀ news' : List (Addr × Obj), news'.map (·.1) = news.map (·.1) → ∀ p ∈ news', p.1 ∉ [s.heap.objs.size] := fun news' ha p hp hm => by
    have h1 : p.1 ∈ news'.map (·.1) := List.mem_map.mpr ⟨p, hp, rfl⟩
    rw [ha] at h1
    obtain ⟨q, hq, e⟩ := List.mem_map.mp h1
    exact absurd (Heap.lt_size (N q hq).1) (by rw [e, List.mem_singleton.mp hm]; exact Nat.lt_irrefl _)
  have fin : ∀ (i : Nat) (own : List (Addr × Obj)) (t : Shared) f s₂, NEnd h₀ env.locals own news (J (i + 1)) t f s₂ →
      LoopStepU h₀ env.locals [s.heap.objs.size] own (fun m₁ nw => nw.map (·.1) = news.map (·.1) ∧ J (i + 1) m₁ nw) t f s₂ := by
    rintro i own t f s₂ ⟨rfl, h', tk, m', news', e, F', N', ha', hm⟩
    exact ⟨rfl, h', tk, m', news', e, F', N', off news' ha', ha', hm⟩
  refine ⟨_, _, _, vs.toArray.size, _, _, m, news, (fun i m₁ nw => nw.map (·.1) = news.map (·.1) ∧ J i m₁ nw), rfl, W, ?_, ?_, off news rfl, ⟨⟨_, Heap.get?_push_size _ rfl, rfl, rfl⟩, hls.at fun o e => Heap.get?_push_of_some _ e⟩, F.push _,
    (fun p hp => ⟨Heap.get?_push_of_some _ (N p hp).1, (N p hp).2⟩), (fun i s' v Q' st hQ' => letGo_listiter st.1 hQ'), ⟨rfl, h0⟩, ?_, ?_⟩
  · intro hm
    rcases List.mem_cons.mp hm with e | hm
    · exact absurd F.ns.lt (e ▸ Nat.lt_irrefl _)
    · exact (N _ hl).2.1 (List.mem_singleton.mp hm).symm
  · intro b hb
    rw [List.mem_singleton.mp hb]
    exact next_is_new F
  · rintro i v m₁ news₁ s₁ own hin hP ⟨ha, hJ⟩ hoff hown _ _ _ F₁ N₁
    refine wpAny_mono (step i v m₁ news₁ s₁ own (by simpa using hP) hJ ha (fun p hp q hq e => ?_) F₁ N₁) (fun _ s₃ p => wpAny_mono p (fun f s₂ p => fin i own s₁ f s₂ p) fun _ _ e => e) fun _ _ e => e
    rcases List.mem_cons.mp (hown p hp) with h1 | h1
    · exact absurd (Heap.lt_size (N q hq).1) (by rw [← e, h1]; exact Nat.lt_irrefl _)
    · exact List.mem_singleton.mp h1
  · rintro h' tk m' news' F' N' _ ⟨ha, hJ⟩
    exact done h' tk m' news' F' N' ha (by simpa using hJ)
end

theorem TupsAt.rev {l : List (Addr × Obj)} : ∀ {rs : List Value} {tl : List (Str × Value)}, TupsAt l rs tl → TupsAt l rs.reverse tl.reverse
  | _, _, .nil => .nil
  | _, _, .cons h r => by rw [List.reverse_cons, List.reverse_cons]; exact r.rev.snoc h
theorem TupsAt.get {l : List (Addr × Obj)} : ∀ {rs : List Value} {tl : List (Str × Value)}, TupsAt l rs tl → ∀ {i : Nat} {v : Value}, rs[i]? = some v → ∃ a x t y, v = .ref a ∧ (a, tupObj [.str x t, y]) ∈ l ∧ tl[i]? = some (x, y)
  | _, _, .nil, i, v, h => by simp at h
  | _, _, .cons (a := a) (x := x) (t := t) (v := y) h r, 0, v, e => ⟨a, x, t, y, by simpa using e.symm, h, rfl⟩
  | _, _, .cons h r, i + 1, v, e => by
    rw [List.getElem?_cons_succ] at e ⊢
    exact r.get e
def undoL (tl : List (Str × Value)) : List (Str × Option Int) := tl.reverse.map fun e => (e.1, den e.2)
theorem undoL_get {tl : List (Str × Value)} {i : Nat} {x : Str} {v : Value} (h : tl.reverse[i]? = some (x, v)) : (undoL tl)[i]? = some (x, den v) := by
  unfold undoL; rw [List.getElem?_map, h]; rfl
theorem undoL_len (tl : List (Str × Value)) : (undoL tl).length = tl.length := by unfold undoL; simp

section
variable {prog : Program} {w : World} {A : Around} {E : Value → Shared → Prop} {s : Shared} {h₀ : Heap} {L D : Addr} {m : Str → Option Value} {news : List (Addr × Obj)} {g : Obj → List (Addr × Obj)}
theorem popL {vs : List Value} {y : Value} {n : Nat} {Q : Value → Shared → Prop} (F : Fr h₀ L s.heap m) (N : News h₀ L s.heap news) (U : UpdF D (listOf (vs ++ [y]).toArray n) news g) (hz : vs.length ≤ 1000)
    (h : ∀ h', Fr h₀ L h' m → News h₀ L h' (g (listOf vs.toArray (n + 1))) → Q y { s with heap := h' }) : wpAny (model prog w) A (call (.builtin "list.pop") [.ref D]) Q E s :=
  kl_pop F N (kpa_last y vs) (UpdF.toUpd U) (by rw [sizeLine_eq]; simp; omega) fun h' F' N' => h h' F' N'
end

/-- what restore leaves -/
def Restored (w : World) (dw st sa : Addr) (wes : List DictEntry) (sas : List Value) (d : Int) (f : PM) (nf : Nat) (tl : List (Str × Value)) (rest : List (Addr × Obj)) (r : Value) (news' : List (Addr × Obj)) : Prop :=
  ∃ es' n' o' n4', r = .none ∧ news' = (dw, dictOf es' n') :: (st, o') :: (sa, listOf sas.toArray n4') :: rest ∧
    es'.length ≤ 900 ∧ (∀ y, y ≠ Str.ofString "depth" → getL y es' = getL y wes) ∧ (∃ t, getL (Str.ofString "depth") es' = some (some (.int (d - 1) t))) ∧
    DR w o' (setAll f (undoL tl)) nf

local macro_rules | `(tactic| walk_at $s:str) => `(tactic| k_extra $s)
local macro_rules | `(tactic| k_ne) => `(tactic| k_extra "own ne")
theorem rg_1 : True := by
  (k_with "own lt" => (first | (with_reducible assumption) | ((with_reducible refine Nat.lt_trans ?_ (by assumption)); k_extra "own lt") | exact And.left (by with_reducible assumption) | exact And.left (And.right (by with_reducible assumption)) | exact And.left (And.right (And.right (by with_reducible assumption))) | exact And.left (And.right (And.right (And.right (by with_reducible assumption)))) | exact And.left (And.right (And.right (And.right (And.right (by with_reducible assumption))))) | exact And.left (And.right (And.right (And.right (And.right (And.right (by with_reducible assumption)))))) | exact And.left (And.right (And.right (And.right (And.right (And.right (And.right (by with_reducible assumption))))))) | exact And.left (And.right (And.right (And.right (And.right (And.right (And.right (And.right (by with_reducible assumption)))))))) | exact And.left (And.right (And.right (And.right (And.right (And.right (And.right (And.right (And.right (by with_reducible assumption))))))))) | exact And.left (And.right (And.right (And.right (And.right (And.right (And.right (And.right (And.right (And.right (by with_reducible assumption)))))))))) | exact And.left (And.right (And.right (And.right (And.right (And.right (And.right (And.right (And.right (And.right (And.right (by with_reducible assumption))))))))))) | exact And.left (And.right (And.right (And.right (And.right (And.right (And.right (And.right (And.right (And.right (And.right (And.right (by with_reducible assumption)))))))))))) | exact And.left (And.right (And.right (And.right (And.right (And.right (And.right (And.right (And.right (And.right (And.right (And.right (And.right (by with_reducible assumption))))))))))))) | fail "own lt"))
  (k_with "own ne" => ((refine neN ?_); (try dsimp only); (first | exact Nat.ne_of_gt (by k_extra "own lt") | exact Nat.ne_of_lt (by k_extra "own lt") | fail "own ne")))
  trivial
-- OWN LINES OF THE WALK
theorem rg_2 : True := by
  (k_with "getAttr ref" => (k_here; k_dflt (refine' get_own ?u9k1 ?u9k2 ?u9k3 ?u9k4 ?u9k5 ?u9k6 ?u9k7 ?u9k8 ?u9k9 ?_; (case u9k1 => k_asm); (case u9k2 => k_asm); (case u9k3 => k_inst); (case u9k4 => k_is); (case u9k5 => k_is); (case u9k6 => k_is); (case u9k7 => k_is); (case u9k8 => with_reducible assumption); (case u9k9 => k_handed); k_whole)))
  (k_with "getMethod ref" => (k_here; (with_reducible show wpAny _ _ (getMethod (Value.ref _) (Str.ofString "get") _) _ _ _); k_dflt (refine' DR.method ?u9N ?u9m ?u9d ?_; (case u9N => k_asm); (case u9m => k_mem); (case u9d => with_reducible assumption))))
  (k_with "call builtin:dict.get" => ((k_here; k_dflt (refine' DR.get2 ?u9N ?u9m ?u9d ?u9l ?u9v ?_; (case u9N => k_asm); (case u9m => k_mem); (case u9d => with_reducible assumption); (case u9l => with_reducible assumption); (case u9v => first | exact VOk.str _ | with_reducible assumption)); intro r' hv' hd'); (revert r' hv' hd'; intros)))
  (k_with "compareOp In str ref" => (k_here; k_dflt (refine' DR.has ?u9N ?u9m ?u9d ?u9l ?_; (case u9N => k_asm); (case u9m => k_mem); (case u9d => with_reducible assumption); (case u9l => with_reducible assumption))))
  (k_with "setItem ref str" => ((k_here; k_dflt (refine' DR.set ?u9F ?u9N ?u9U ?u9d ?u9v ?u9z ?_; (case u9F => k_asm); (case u9N => k_asm); (case u9U => k_updF); (case u9d => with_reducible assumption); (case u9v => first | exact VOk.str _ | with_reducible assumption); (case u9z => omega)); intro h' o' F' N' hd'; (try dsimp only at N')); (revert h' o' F' N' hd'; intros)))
  trivial
local macro_rules | `(tactic| k_mem) => `(tactic| first | exact List.mem_cons_self | (refine List.mem_cons_of_mem _ ?_; k_mem) | ktr_member)
local macro_rules | `(tactic| k_all) => `(tactic| with_reducible assumption)
theorem rg_3 : True := by
  (k_with "binaryOp Add ref ref" => ((k_here; k_dflt (refine' addL ?u9k1 ?u9k2 ?u9k3 ?u9k4 ?u9k5 ?_; (case u9k1 => k_asm); (case u9k2 => k_asm); (case u9k3 => k_mem); (case u9k4 => k_mem); (case u9k5 => ktr_rel); k_whole); intro c' h' F' N' l1; (have l2 := l1); (try k_lt l2)); (revert c' h' F' N' l1; intros)))
  trivial
-- tb_start: a part of a ledger lies in the ledger; tb_rel: an address above all of a ledger
local macro_rules | `(tactic| tb_start) => `(tactic| (intro p9 hp9; repeat (first | assumption | refine List.mem_cons_of_mem _ ?_)))
local macro_rules | `(tactic| tb_rel) => `(tactic| first | with_reducible assumption | (refine ltSub (by with_reducible assumption) ?_; tb_start))
-- ktr_rel: sizes of lists
local macro_rules | `(tactic| ktr_rel) => `(tactic| ((try simp only [List.length_append, List.length_cons, List.length_nil, List.length_replicate, List.length_take, List.length_drop, List.length_reverse]); omega))
theorem rg_4 : True := by
  (k_with "binaryOp Mult ref int" => ((k_here; k_dflt (refine' mul1 ?u9k1 ?u9k2 ?u9k3 ?u9k4 ?u9k5 ?_; (case u9k1 => k_asm); (case u9k2 => k_asm); (case u9k3 => k_mem); (case u9k4 => omega); (case u9k5 => omega); k_whole); intro c' h' F' N' l1; (have l2 := l1); (try k_lt l2)); (revert c' h' F' N' l1; intros)))
  (k_with "subscriptTail" => ((k_here; k_dflt (refine' sliceTo ?u9k1 ?u9k2 ?u9k3 ?u9k4 ?u9k5 ?_ ?u9k6; (case u9k1 => k_asm); (case u9k2 => k_asm); (case u9k3 => k_mem); (case u9k4 => omega); (case u9k5 => ktr_rel); (case u9k6 => with_unfolding_all rfl); k_whole); intro c' h' F' N' l1; (have l2 := l1); (try k_lt l2)); (revert c' h' F' N' l1; intros)))
  (k_with "subscriptTail" => ((k_here; k_dflt (refine' sliceFrom ?u9k1 ?u9k2 ?u9k3 ?u9k4 ?u9k5 ?_ ?u9k6; (case u9k1 => k_asm); (case u9k2 => k_asm); (case u9k3 => k_mem); (case u9k4 => omega); (case u9k5 => ktr_rel); (case u9k6 => with_unfolding_all rfl); k_whole); intro c' h' F' N' l1; (have l2 := l1); (try k_lt l2)); (revert c' h' F' N' l1; intros)))
  (k_with "subscriptTail" => ((k_here; k_dflt (refine' sliceRev ?u9k1 ?u9k2 ?u9k3 ?u9k5 ?_ ?u9k6; (case u9k1 => k_asm); (case u9k2 => k_asm); (case u9k3 => k_mem); (case u9k5 => ktr_rel); (case u9k6 => with_unfolding_all rfl); k_whole); intro c' h' F' N' l1; (have l2 := l1); (try k_lt l2)); (revert c' h' F' N' l1; intros)))
  (k_with "exec Assign cons ListComp" => (k_here; k_dflt (refine LCg.Assign_ListComp_U (F₀ := by k_asm) (by rfl) (by with_unfolding_all rfl) (by with_unfolding_all rfl) (by decide) (by rfl) (by decide) (by rfl) (by rfl) (by rfl) ?_)))
  (k_with "call builtin:list.append" => ((k_here; k_dflt (refine' appendL ?u9k1 ?u9k2 ?u9k3 ?u9k4 ?_; (case u9k1 => k_asm); (case u9k2 => k_asm); (case u9k3 => k_updF); (case u9k4 => ktr_rel)); intro h' F' N'; (try dsimp only at N')); (revert h' F' N'; intros)))
  (k_with "setAttr ref" => ((k_here; k_dflt (refine' setF ?u9k1 ?u9k2 ?u9k3 ?u9k4 ?u9k5 ?u9k6 ?u9k7 ?u9k8 ?u9k9 ?u9k10 ?u9k11 ?u9k12 ?_; (case u9k1 => k_asm); (case u9k2 => k_asm); (case u9k3 => k_asm); (case u9k4 => k_inst); (case u9k5 => exact rfl); (case u9k6 => k_is); (case u9k7 => k_is); (case u9k8 => k_is); (case u9k9 => k_is); (case u9k10 => with_reducible assumption); (case u9k11 => k_updF); (case u9k12 => with_reducible assumption)); intro es' n' h' hz' ho' hs' F' N'; (try dsimp only at N'); (try (have q' := (ho' (Str.ofString "store") (by decide)).trans (by with_reducible assumption))); (try (have q' := (ho' (Str.ofString "aside") (by decide)).trans (by with_reducible assumption)))); (revert es' n' h' hz' ho' hs' F' N'; intros)))
  (k_with "call builtin:len" => (k_here; (with_reducible show wpAny _ _ (call (Value.builtin "len") [Value.ref _]) _ _ _); k_dflt (refine' lenL ?u9N ?u9m ?u9z ?_; (case u9N => k_asm); (case u9m => k_mem); (case u9z => ktr_rel)); (try dsimp only)))
  trivial
local macro_rules | `(tactic| walk_at "exec For Tuple Subscript") => `(tactic| (k_here; (with_reducible rename Fr _ _ _ _ => kF); k_dflt (refine For_invTF kF ?_ (by intro _; with_unfolding_all rfl) ?_)))
theorem rg_5 : True := by
  (k_with "call builtin:list.pop" => ((k_here; (try dsimp only); k_dflt (refine' popL ?u9k1 ?u9k2 ?u9k3 ?u9k4 ?_; (case u9k1 => k_asm); (case u9k2 => k_asm); (case u9k3 => k_updF); (case u9k4 => ktr_rel)); intro h' F' N'; (try dsimp only at N')); (revert h' F' N'; intros)))
  trivial


theorem wt_vars : True := by
  w_top off
  trivial
theorem plain_var_calls (w : World) {aw dw st : Addr} {wes : List DictEntry} {wn n : Nat} {x : Str} {t : Tok} {ost : Obj} {f : PM} {news : List (Addr × Obj)}
    (h1 : (aw, instObj 76 dw) ∈ news) (h2 : (dw, dictOf wes wn) ∈ news) (h3 : (st, ost) ∈ news) (h4 : getL (Str.ofString "store") wes = some (some (.ref st)))
    (h5 : DR w ost f n) (h6 : (st == sysModules) = false) :
    Calls w 87 2 [.ref aw, .str x t] news (fun r news' => news' = news ∧ VOk r ∧ den r = (f x).getD none) := by
  unfold Calls
  k_fill
  intro mean mg mb dp un gd cn cs a ccd cl outer A₀ base h₀ L m s Q E B F X N T hk hdp hun hret
  refine wpAny_call ?_
  k_dflt ktr_enter
  k_steps
  rename_i hv hd _ _ _ _
  exact hret _ _ _ _ (by k_asm) (by k_asm) ⟨rfl, hv, hd⟩

theorem own_names_calls (w : World) {fa fd pa la : Addr} {fes : List DictEntry} {fn n1 n2 : Nat} {nm : Str} {t : Tok} {pvs lvs : List Value} {news : List (Addr × Obj)}
    (h1 : (fa, instObj 111 fd) ∈ news) (h2 : (fd, dictOf fes fn) ∈ news) (h3 : (pa, listOf pvs.toArray n1) ∈ news) (h4 : (la, listOf lvs.toArray n2) ∈ news)
    (h5 : getL (Str.ofString "name") fes = some (some (.str nm t))) (h6 : getL (Str.ofString "params") fes = some (some (.ref pa))) (h7 : getL (Str.ofString "local_names") fes = some (some (.ref la)))
    (h8 : pvs.length ≤ 100) (h9 : lvs.length ≤ 100) :
    Calls w 122 2 [.ref fa] news (fun r news' => ∃ l, r = .ref l ∧ news' = (l, listOf ([Value.str nm t] ++ pvs ++ lvs).toArray 0) :: news ∧ ∀ p ∈ news, p.1 < l) := by
  unfold Calls
  k_fill
  intro mean mg mb dp un gd cn cs a ccd cl outer A₀ base h₀ L m s Q E B F X N T hk hdp hun hret
  refine wpAny_call ?_
  k_dflt ktr_enter
  k_steps
  exact hret _ _ _ _ (by k_asm) (newsSub (by k_asm) (memKeep (by tb_start))) ⟨_, rfl, rfl, by tb_rel⟩

theorem filled_args_calls (w : World) {ar : Addr} {na k : Nat} {t : Tok} {avs : List Value} {news : List (Addr × Obj)}
    (h1 : (ar, listOf avs.toArray na) ∈ news) (h2 : avs.length ≤ 100) (h3 : k ≤ 100) :
    Calls w 129 2 [.ref ar, .int k t] news (fun r news' => ∃ l u, r = .ref l ∧ news' = (l, listOf ((avs ++ List.replicate k (Value.str (Str.ofString "") u)).take k).toArray 0) :: news ∧ ∀ p ∈ news, p.1 < l) := by
  unfold Calls
  k_fill
  intro mean mg mb dp un gd cn cs a ccd cl outer A₀ base h₀ L m s Q E B F X N T hk hdp hun hret
  refine wpAny_call ?_
  k_dflt ktr_enter
  k_steps
  exact hret _ _ _ _ (by k_asm) (newsSub (by k_asm) (memKeep (by tb_start))) ⟨_, _, rfl, rfl, by tb_rel⟩

-- OWN LINES: the contracts
theorem rg_6 : True := by
  (k_with "call ref" => ((k_here; (with_reducible show wpAny _ _ (call (Value.ref 87) _) _ _ _); k_dflt (refine' Calls.use (plain_var_calls _ ?u9a1 ?u9a2 ?u9a3 ?u9a4 ?u9a5 ?u9a6) ?u9B ?u9F ?u9X ?u9N ?u9T ?u9hk ?u9hd ?u9hu ?_; (case u9B => k_asm); (case u9F => k_asm); (case u9X => k_asm); (case u9N => k_asm); (case u9T => k_asm); (case u9hk => first | exact rfl | assumption); (case u9hd => ktr_room); (case u9hu => ktr_units); (case u9a1 => k_mem); (case u9a2 => k_mem); (case u9a4 => with_reducible assumption); (case u9a3 => k_mem); (case u9a5 => with_reducible assumption); (case u9a6 => with_reducible assumption)); (intro r' news' h' tk' F' N' hp'; obtain ⟨hn', hv', hd'⟩ := hp'; subst hn'; (try dsimp only))); (revert r' h' tk' F' N' hv' hd'; intros)))
  (k_with "call ref" => ((k_here; (with_reducible show wpAny _ _ (call (Value.ref 122) _) _ _ _); k_dflt (refine' Calls.use (own_names_calls _ ?u9a1 ?u9a2 ?u9a3 ?u9a4 ?u9a5 ?u9a6 ?u9a7 ?u9a8 ?u9a9) ?u9B ?u9F ?u9X ?u9N ?u9T ?u9hk ?u9hd ?u9hu ?_; (case u9B => k_asm); (case u9F => k_asm); (case u9X => k_asm); (case u9N => k_asm); (case u9T => k_asm); (case u9hk => first | exact rfl | assumption); (case u9hd => ktr_room); (case u9hu => ktr_units); (case u9a1 => k_mem); (case u9a2 => k_mem); (case u9a5 => with_reducible assumption); (case u9a6 => with_reducible assumption); (case u9a7 => with_reducible assumption); (case u9a3 => k_mem); (case u9a4 => k_mem); (case u9a8 => with_reducible assumption); (case u9a9 => with_reducible assumption)); (intro r' news' h' tk' F' N' hp'; obtain ⟨l', hr', hn', l1⟩ := hp'; subst hr' hn'; (have l2 := l1); (try k_lt l2); (try dsimp only))); (revert h' tk' F' N' l' l1; intros)))
  (k_with "call ref" => ((k_here; (with_reducible show wpAny _ _ (call (Value.ref 129) _) _ _ _); k_dflt (refine' Calls.use (filled_args_calls _ ?u9a1 ?u9a2 ?u9a3) ?u9B ?u9F ?u9X ?u9N ?u9T ?u9hk ?u9hd ?u9hu ?_; (case u9B => k_asm); (case u9F => k_asm); (case u9X => k_asm); (case u9N => k_asm); (case u9T => k_asm); (case u9hk => first | exact rfl | assumption); (case u9hd => ktr_room); (case u9hu => ktr_units); (case u9a1 => k_mem); (case u9a2 => ktr_rel); (case u9a3 => ktr_rel)); (intro r' news' h' tk' F' N' hp'; obtain ⟨l', u', hr', hn', l1⟩ := hp'; subst hr' hn'; (have l2 := l1); (try k_lt l2); (try dsimp only))); (revert h' tk' F' N' l' u' l1; intros)))
  trivial

theorem wt_enter : True := by
  w_top off
  trivial

theorem enter_ok_calls (w : World) {aw dw st sa fa fd pa la ar : Addr} {wes fes : List DictEntry} {wn fn n1 n2 n3 n4 : Nat} {nm : Str} {t td tn tm : Tok} {d md : Int} {pvs lvs avs sas : List Value} {ost : Obj} {f : PM} {nf : Nat} {rest : List (Addr × Obj)}
    (hw : (aw, instObj 76 dw) ∈ rest) (h1 : (fa, instObj 111 fd) ∈ rest) (h2 : (fd, dictOf fes fn) ∈ rest) (h3 : (pa, listOf pvs.toArray n1) ∈ rest) (h4 : (la, listOf lvs.toArray n2) ∈ rest) (ha : (ar, listOf avs.toArray n3) ∈ rest)
    (h5 : getL (Str.ofString "name") fes = some (some (.str nm t))) (h6 : getL (Str.ofString "params") fes = some (some (.ref pa))) (h7 : getL (Str.ofString "local_names") fes = some (some (.ref la)))
    (g1 : getL (Str.ofString "store") wes = some (some (.ref st))) (g2 : getL (Str.ofString "depth") wes = some (some (.int d td))) (g3 : getL (Str.ofString "nested") wes = some (some (.int 0 tn)))
    (g4 : getL (Str.ofString "most_depth") wes = some (some (.int md tm))) (g5 : getL (Str.ofString "aside") wes = some (some (.ref sa)))
    (ho : DR w ost f nf) (hnf : nf ≤ 100) (hs : (st == sysModules) = false)
    {ps ls : List Str} (hps : StrsAre pvs ps) (hav : ∀ v ∈ avs, VOk v) (hls : StrsAre lvs ls) (h8 : pvs.length ≤ 100) (h9 : lvs.length ≤ 100) (h10 : avs.length ≤ 100) (h11 : sas.length ≤ 100) (hd0 : 0 ≤ d) (hd : d < md) (hmd : md ≤ 100) (hwz : wes.length ≤ 900)
    (r1 : ∀ p ∈ rest, p.1 ≠ dw) (r2 : ∀ p ∈ rest, p.1 ≠ st) (r3 : ∀ p ∈ rest, p.1 ≠ sa) (x1 : @Ne Nat dw st) (x2 : @Ne Nat dw sa) (x3 : @Ne Nat st sa) :
    Calls w 134 5 [.ref aw, .ref fa, .ref ar] ((dw, dictOf wes wn) :: (st, ost) :: (sa, listOf sas.toArray n4) :: rest)
      (Entered w dw st sa wes n4 sas d f (nf + 1 + pvs.length + lvs.length) nm ps (avs.map den) ls ((dw, dictOf wes wn) :: (st, ost) :: (sa, listOf sas.toArray n4) :: rest) rest) := by
  unfold Calls
  k_fill
  intro mean mg mb dp un gd cn cs a ccd cl outer A₀ base h₀ L m s Q E B F X N T hk hdp hun hret
  refine wpAny_call ?_
  k_dflt (refine' code_defC ?k1 ?k2 ?k3 ?k4 ?k5 ?kA ?kF ?kK ?k6 ?k7 ?k8 ?k9 ?kB ?kD ?_ ?c2 ?c3 ?c4; (case kA => exact rfl); (case kF => exact rfl); (case kK => assumption); (case k1 => k_asm); (case k2 => k_asm); (case k3 => k_asm); (case k4 => k_asm); (case k5 => k_asm); (case k6 => k_is); (case k7 => k_is); (case k8 => ktr_room); (case k9 => exact BindsTo.of_eq rfl); (case kB => exact rfl); (case kD => decide +kernel); (case c2 => exact rfl); (case c3 => exact rfl); (case c4 => exact rfl); k_whole; intro g' L' h' tk' cells' FG' F' N' Y' B' X' T' l1; obtain ⟨o1, hE1, d1⟩ := CellsAre.one Y'; subst hE1; (try simp only [List.cons_append, List.nil_append] at N'); (try dsimp only); (try k_fold))
  k_steps
  refine LCg.CompSrc.ledger (by rfl) (by k_asm) (by k_asm) (by k_mem) (by rw [List.size_toArray, sizeLine_eq]; ktr_rel) ?_
  intro g
  refine compRest_of (GoodT _ f (nm :: ps ++ ls)) ?step ?fin _ 0 [] _ (Nat.zero_add _) ⟨[], [], rfl, .nil, .nil, fun _ h => nomatch h⟩
  case step =>
    intro i ys news v I oI C oC D m₂ h tk E' hi hg hP hC hx F N off ne
    obtain ⟨newp, tl, rfl, hT, hS, hf⟩ := hg
    obtain ⟨x, tx, hx9, rfl⟩ := strsAt (strsApp (strsApp (StrsAre.cons nm t StrsAre.nil) hps) hls) hP
    k_steps
    rename_i hN hl
    exact compEnd1 (by k_asm) hN off hl (.inr ⟨_, List.mem_cons_of_mem _ (List.mem_append_right _ List.mem_cons_self), rfl, _, rfl⟩) (goodT_step hT hS hf hx9 (by assumption) (by assumption) hl.2.2.2)
  case fin =>
    rintro ys news ⟨newp, tl, rfl, hT, hS, hf⟩ D h tk F N off
    have off := off1_mem off
    have N2 : News g' L' h ((dw, dictOf wes wn) :: (st, ost) :: (sa, listOf sas.toArray n4) :: (D, LCg.lst ys) :: (L' + 1, o1) :: (newp ++ rest)) := newsSub N (by
      intro p hp; simp only [List.mem_append, List.mem_cons] at hp ⊢; grind)
    have l1' := l1
    simp only [List.forall_mem_cons] at l1'
    obtain ⟨la1, la2, la3, la4⟩ := l1'
    replace la1 := ltN la1
    replace la2 := ltN la2
    replace la3 := ltN la3
    have y1 : @Ne Nat D dw := fun e => off (dw, dictOf wes wn) (by simp) e.symm
    have y2 : @Ne Nat D st := fun e => off (st, ost) (by simp) e.symm
    have y3 : @Ne Nat D sa := fun e => off (sa, listOf sas.toArray n4) (by simp) e.symm
    have y4 : @Ne Nat D (L' + 1) := fun e => off (L' + 1, o1) (by simp) e.symm
    have q1 : ∀ p ∈ newp ++ rest, p.1 ≠ dw := fun p hp => (List.mem_append.mp hp).elim (fun h e => Nat.lt_irrefl _ (e ▸ hf p h (dw, dictOf wes wn) (by simp))) (r1 p)
    have q2 : ∀ p ∈ newp ++ rest, p.1 ≠ st := fun p hp => (List.mem_append.mp hp).elim (fun h e => Nat.lt_irrefl _ (e ▸ hf p h (st, ost) (by simp))) (r2 p)
    have q3 : ∀ p ∈ newp ++ rest, p.1 ≠ sa := fun p hp => (List.mem_append.mp hp).elim (fun h e => Nat.lt_irrefl _ (e ▸ hf p h (sa, listOf sas.toArray n4) (by simp))) (r3 p)
    have q4 : ∀ p ∈ newp ++ rest, p.1 ≠ L' + 1 := fun p hp => (List.mem_append.mp hp).elim (fun h e => Nat.lt_irrefl _ (e ▸ hf p h (L' + 1, o1) (by simp))) (fun h => Nat.ne_of_lt (Nat.lt_succ_of_lt (la4 p h)))
    have q5 : ∀ p ∈ newp ++ rest, p.1 ≠ D := fun p hp => off p (by simp only [List.mem_append, List.mem_cons] at hp ⊢; grind)
    clear N
    generalize hr2 : newp ++ rest = rest2 at N2 q1 q2 q3 q4 q5
    have m1 : ∀ p ∈ rest, p ∈ rest2 := fun p hp => hr2 ▸ List.mem_append_right _ hp
    have hw' := m1 _ hw
    have h1' := m1 _ h1
    have h2' := m1 _ h2
    have h3' := m1 _ h3
    have h4' := m1 _ h4
    have ha' := m1 _ ha
    dsimp only
    k_steps
    rename_i es2 n2' h2x hz2 ho2 hs2 F2 N2x q1x q2x h3x o2 F3 N3 hd2 h4x tk4 F4 l9 u9 l19 N4 l29
    refine zipL (JZ _ (Str.ofString "name") (Str.ofString "value") (fun i nw => ∃ o, nw = (l9, listOf ((avs ++ List.replicate pvs.length (Value.str (Str.ofString "") u9)).take pvs.length).toArray 0) :: (dw, dictOf es2 n2') :: (st, o) :: (sa, listOf (sas ++ [Value.ref D]).toArray (n4 + 1)) :: (D, LCg.lst ys) :: (L' + 1, o1) :: rest2 ∧
      DR w o (setAll (upd f nm none) ((binds ps (avs.map den)).take i)) (nf + 1 + i))) rfl F4 N4 (by k_mem) (by k_mem) (JZ.start ⟨_, rfl, hd2⟩) ?step2 ?done2
    case step2 =>
      intro i v0 v1 m₁ news₁ s₁ own hs₁ hv0 hv1 hJ hmap hown Fs Ns
      obtain ⟨⟨u, v, rfl⟩, o, rfl, hdo⟩ := id hJ
      obtain ⟨hh9, tk9, rfl⟩ := hs₁
      obtain ⟨x, tx, hx9, rfl⟩ := strsAt hps (by simpa using hv0)
      obtain ⟨vo, vd⟩ := filled_get hav hv1
      have z1 : ∀ p ∈ own ++ (l9, listOf ((avs ++ List.replicate pvs.length (Value.str (Str.ofString "") u9)).take pvs.length).toArray 0) :: (sa, listOf (sas ++ [Value.ref D]).toArray (n4 + 1)) :: (D, LCg.lst ys) :: (L' + 1, o1) :: rest2, p.1 ≠ st := by
        intro p hp
        simp only [List.mem_append, List.mem_cons] at hp
        rcases hp with hp | rfl | rfl | rfl | rfl | hp
        · intro e
          rcases hown p hp (st, o2) (by simp) e with e1 | e1
          · exact r2 _ h3 (e1.symm.trans e)
          · have := l29.2.1
            rw [← e, e1] at this
            exact Nat.lt_irrefl _ this
        · exact Nat.ne_of_gt l29.2.1
        · exact x3.symm
        · exact y2
        · exact Nat.ne_of_gt (Nat.lt_succ_of_lt la2)
        · exact q2 p hp
      have N5 : News g' L' hh9 ((dw, dictOf es2 n2') :: (st, o) :: (own ++ (l9, listOf ((avs ++ List.replicate pvs.length (Value.str (Str.ofString "") u9)).take pvs.length).toArray 0) :: (sa, listOf (sas ++ [Value.ref D]).toArray (n4 + 1)) :: (D, LCg.lst ys) :: (L' + 1, o1) :: rest2)) := newsSub Ns (by
        intro p hp; simp only [List.mem_append, List.mem_cons] at hp ⊢; grind)
      clear Ns
      have k1 : (L' + 1, o1) ∈ own ++ (l9, listOf ((avs ++ List.replicate pvs.length (Value.str (Str.ofString "") u9)).take pvs.length).toArray 0) :: (sa, listOf (sas ++ [Value.ref D]).toArray (n4 + 1)) :: (D, LCg.lst ys) :: (L' + 1, o1) :: rest2 := by simp
      have k2 : (aw, instObj 76 dw) ∈ own ++ (l9, listOf ((avs ++ List.replicate pvs.length (Value.str (Str.ofString "") u9)).take pvs.length).toArray 0) :: (sa, listOf (sas ++ [Value.ref D]).toArray (n4 + 1)) :: (D, LCg.lst ys) :: (L' + 1, o1) :: rest2 := by simp [hw']
      generalize hr3 : own ++ (l9, listOf ((avs ++ List.replicate pvs.length (Value.str (Str.ofString "") u9)).take pvs.length).toArray 0) :: (sa, listOf (sas ++ [Value.ref D]).toArray (n4 + 1)) :: (D, LCg.lst ys) :: (L' + 1, o1) :: rest2 = rest3 at z1 N5 k1 k2
      have hle : i < pvs.length := (List.getElem?_eq_some_iff.mp hv0).1
      dsimp only
      k_steps
      rename_i o3 F6 N6 hd6
      refine ⟨rfl, _, _, _, (l9, _) :: (dw, _) :: (st, o3) :: (sa, _) :: (D, _) :: (L' + 1, _) :: rest2, rfl, F6, newsSub N6 ?_, rfl, JZ.step hJ ⟨o3, rfl, ?_⟩⟩
      · intro p hp
        rw [← hr3]
        simp only [List.mem_append, List.mem_cons] at hp ⊢
        grind
      · rw [setAll_take (binds_get hx9 (by rw [← strsLen hps]; exact vd))]
        exact hd6
    case done2 =>
      intro h5 tk5 m5 news5 F5 N5 hmap5 hJ5
      obtain ⟨⟨u5, v5, rfl⟩, o5, rfl, hd5⟩ := hJ5
      have hd5 := DR.take (k := nf + 1 + pvs.length) hd5 (by rw [binds_len, ← strsLen hps]; simp) (by simp)
      k_steps
      refine iterL (J1 _ (Str.ofString "name") (fun i nw => ∃ o, nw = (l9, listOf ((avs ++ List.replicate pvs.length (Value.str (Str.ofString "") u9)).take pvs.length).toArray 0) :: (dw, dictOf es2 n2') :: (st, o) :: (sa, listOf (sas ++ [Value.ref D]).toArray (n4 + 1)) :: (D, LCg.lst ys) :: (L' + 1, o1) :: rest2 ∧
        DR w o (setAll (setAll (upd f nm none) (binds ps (avs.map den))) ((ls.map fun x => (x, none)).take i)) (nf + 1 + pvs.length + i))) rfl (by k_asm) (by k_asm) (by k_mem) (J1.start ⟨_, rfl, hd5⟩) ?step3 ?done3
      case step3 =>
        intro i v m₁ news₁ hh9 tk9 own hv0 hJ hmap hown Fs Ns
        obtain ⟨⟨u, rfl⟩, o, rfl, hdo⟩ := id hJ
        obtain ⟨x, tx, hx9, rfl⟩ := strsAt hls (by simpa using hv0)
        have z1 : ∀ p ∈ own ++ (l9, listOf ((avs ++ List.replicate pvs.length (Value.str (Str.ofString "") u9)).take pvs.length).toArray 0) :: (sa, listOf (sas ++ [Value.ref D]).toArray (n4 + 1)) :: (D, LCg.lst ys) :: (L' + 1, o1) :: rest2, p.1 ≠ st := by
          intro p hp
          simp only [List.mem_append, List.mem_cons] at hp
          rcases hp with hp | rfl | rfl | rfl | rfl | hp
          · intro e
            exact r2 _ h4 ((hown p hp (st, o5) (by simp) e).symm.trans e)
          · exact Nat.ne_of_gt l29.2.1
          · exact x3.symm
          · exact y2
          · exact Nat.ne_of_gt (Nat.lt_succ_of_lt la2)
          · exact q2 p hp
        have N5 : News g' L' hh9 ((dw, dictOf es2 n2') :: (st, o) :: (own ++ (l9, listOf ((avs ++ List.replicate pvs.length (Value.str (Str.ofString "") u9)).take pvs.length).toArray 0) :: (sa, listOf (sas ++ [Value.ref D]).toArray (n4 + 1)) :: (D, LCg.lst ys) :: (L' + 1, o1) :: rest2)) := newsSub Ns (by
          intro p hp; simp only [List.mem_append, List.mem_cons] at hp ⊢; grind)
        clear Ns
        have k1 : (L' + 1, o1) ∈ own ++ (l9, listOf ((avs ++ List.replicate pvs.length (Value.str (Str.ofString "") u9)).take pvs.length).toArray 0) :: (sa, listOf (sas ++ [Value.ref D]).toArray (n4 + 1)) :: (D, LCg.lst ys) :: (L' + 1, o1) :: rest2 := by simp
        have k2 : (aw, instObj 76 dw) ∈ own ++ (l9, listOf ((avs ++ List.replicate pvs.length (Value.str (Str.ofString "") u9)).take pvs.length).toArray 0) :: (sa, listOf (sas ++ [Value.ref D]).toArray (n4 + 1)) :: (D, LCg.lst ys) :: (L' + 1, o1) :: rest2 := by simp [hw']
        generalize hr3 : own ++ (l9, listOf ((avs ++ List.replicate pvs.length (Value.str (Str.ofString "") u9)).take pvs.length).toArray 0) :: (sa, listOf (sas ++ [Value.ref D]).toArray (n4 + 1)) :: (D, LCg.lst ys) :: (L' + 1, o1) :: rest2 = rest3 at z1 N5 k1 k2
        have hle : i < lvs.length := (List.getElem?_eq_some_iff.mp hv0).1
        dsimp only
        k_steps
        rename_i o3 F6 N6 hd6
        refine LEnd.intro (news' := (l9, _) :: (dw, _) :: (st, o3) :: (sa, _) :: (D, _) :: (L' + 1, _) :: rest2) F6 (newsSub N6 ?_) rfl (J1.step hJ ⟨o3, rfl, ?_⟩)
        · intro p hp
          rw [← hr3]
          simp only [List.mem_append, List.mem_cons] at hp ⊢
          grind
        · rw [setAll_take (x := x) (a := none) (by rw [List.getElem?_map, hx9]; rfl)]
          exact hd6
      case done3 =>
        intro h6 tk6 m6 news6 F6 N6 hmap6 hJ6
        obtain ⟨⟨u6, rfl⟩, o6, rfl, hd6⟩ := hJ6
        have hd6 := DR.take (k := nf + 1 + pvs.length + lvs.length) hd6 (by rw [List.length_map, strsLen hls]; exact Nat.le_refl _) (by omega)
        rw [setAll_frame] at hd6
        dsimp only
        k_steps
        have hS := hS
        rw [List.take_of_length_le (by simp [strsLen hps, strsLen hls])] at hS
        refine hret _ ((dw, _) :: (st, o6) :: (sa, _) :: (D, LCg.lst ys) :: (newp ++ rest)) _ _ (by k_asm) (newsSub (by k_asm) ?_) ⟨D, ys, newp, tl, es2, n2', o6, rfl, rfl, hz2, ho2, ⟨_, hs2⟩, hd6, hT, hS, fun p hp q hq => hf p hp q (List.mem_cons_of_mem _ (List.mem_cons_of_mem _ hq)), fun q hq => off q (List.mem_append_right _ (List.mem_cons_of_mem _ (List.mem_cons_of_mem _ hq))), fun p hp => off p (List.mem_append_left _ hp)⟩
        intro p hp
        rw [hr2] at hp
        simp only [List.mem_cons] at hp ⊢
        grind


theorem wt_restore : True := by
  w_top off
  trivial

theorem restore_calls (w : World) {aw dw st sa D : Addr} {wes : List DictEntry} {wn n4 k : Nat} {td : Tok} {d : Int} {ys sas : List Value} {y : Value} {ost : Obj} {f : PM} {nf : Nat} {tl : List (Str × Value)} {rest : List (Addr × Obj)}
    (hw : (aw, instObj 76 dw) ∈ rest) (hD : (D, listOf ys.toArray k) ∈ rest) (hT : TupsAt rest ys tl) (hv : ∀ e ∈ tl, VOk e.2)
    (g1 : getL (Str.ofString "store") wes = some (some (.ref st))) (g2 : getL (Str.ofString "depth") wes = some (some (.int d td))) (g5 : getL (Str.ofString "aside") wes = some (some (.ref sa)))
    (ho : DR w ost f nf) (hnf : nf ≤ 100) (hs : (st == sysModules) = false) (h8 : ys.length ≤ 100) (h11 : sas.length ≤ 100) (hd0 : 0 ≤ d) (hmd : d ≤ 100) (hwz : wes.length ≤ 900)
    (r1 : ∀ p ∈ rest, p.1 ≠ dw) (r2 : ∀ p ∈ rest, p.1 ≠ st) (r3 : ∀ p ∈ rest, p.1 ≠ sa) (x1 : @Ne Nat dw st) (x2 : @Ne Nat dw sa) (x3 : @Ne Nat st sa) :
    Calls w 141 5 [.ref aw, .ref D] ((dw, dictOf wes wn) :: (st, ost) :: (sa, listOf (sas ++ [y]).toArray n4) :: rest)
      (Restored w dw st sa wes sas d f (nf + ys.length) tl rest) := by
  unfold Calls
  k_fill
  intro mean mg mb dp un gd cn cs a ccd cl outer A₀ base h₀ L m s Q E B F X N T hk hdp hun hret
  refine wpAny_call ?_
  k_dflt (refine' code_def ?k1 ?k2 ?k3 ?k4 ?k5 ?kA ?kF ?kK ?k6 ?k7 ?k8 ?k9 ?kB ?_ ?c2 ?c3 ?c4 ?c5; (case kA => exact rfl); (case kF => exact rfl); (case kK => assumption); (case k1 => k_asm); (case k2 => k_asm); (case k3 => k_asm); (case k4 => k_asm); (case k5 => k_asm); (case k6 => k_is); (case k7 => k_is); (case k8 => ktr_room); (case k9 => exact BindsTo.of_eq rfl); (case c5 => decide); (case kB => exact locs rfl); (case c2 => exact rfl); (case c3 => exact rfl); (case c4 => exact rfl); k_whole; intro g' L' h' FG' F' N' B' X' T'; (try dsimp only); (try k_fold))
  k_steps
  rename_i c9 h9 F9 N9 l9 l29
  refine iterT (JZ _ (Str.ofString "name") (Str.ofString "value") (fun i nw => ∃ o, nw = (c9, listOf ys.reverse.toArray 0) :: (dw, dictOf wes wn) :: (st, o) :: (sa, listOf (sas ++ [y]).toArray n4) :: rest ∧
      DR w o (setAll f ((undoL tl).take i)) (nf + i))) rfl F9 N9 (by k_mem) (JZ.start ⟨_, rfl, ho⟩) ?step ?done
  case step =>
    intro i v m₁ news₁ s₁ own hv0 hJ hmap hown Fs Ns
    obtain ⟨⟨u, v', rfl⟩, o, rfl, hdo⟩ := id hJ
    obtain ⟨a9, x9, t9, y9, rfl, hm9, hx9⟩ := hT.rev.get (by simpa using hv0)
    have hvo : VOk y9 := hv _ (List.mem_reverse.mp (List.mem_of_getElem? hx9))
    have z1 : ∀ p ∈ own ++ (c9, listOf ys.reverse.toArray 0) :: (sa, listOf (sas ++ [y]).toArray n4) :: rest, p.1 ≠ st := by
      intro p hp
      simp only [List.mem_append, List.mem_cons] at hp
      rcases hp with hp | rfl | rfl | hp
      · intro e
        have := hown p hp (st, ost) (by simp) e
        rw [e] at this
        exact Nat.lt_irrefl _ (this ▸ l29.2.1)
      · exact Nat.ne_of_gt l29.2.1
      · exact x3.symm
      · exact r2 p hp
    have N5 : News g' L' s₁.heap ((dw, dictOf wes wn) :: (st, o) :: (own ++ (c9, listOf ys.reverse.toArray 0) :: (sa, listOf (sas ++ [y]).toArray n4) :: rest)) := newsSub Ns (by
      intro p hp; simp only [List.mem_append, List.mem_cons] at hp ⊢; grind)
    clear Ns
    have k1 : (a9, tupObj [.str x9 t9, y9]) ∈ own ++ (c9, listOf ys.reverse.toArray 0) :: (sa, listOf (sas ++ [y]).toArray n4) :: rest := by simp [hm9]
    have k2 : (aw, instObj 76 dw) ∈ own ++ (c9, listOf ys.reverse.toArray 0) :: (sa, listOf (sas ++ [y]).toArray n4) :: rest := by simp [hw]
    generalize hr3 : own ++ (c9, listOf ys.reverse.toArray 0) :: (sa, listOf (sas ++ [y]).toArray n4) :: rest = rest3 at z1 N5 k1 k2
    have hle : i < ys.length := by have := (List.getElem?_eq_some_iff.mp hv0).1; simpa using this
    k_steps
    rename_i o3 F6 N6 hd6
    refine NEnd.intro (news' := (c9, _) :: (dw, _) :: (st, o3) :: (sa, _) :: rest) F6 (newsSub N6 ?_) rfl (JZ.step hJ ⟨o3, rfl, ?_⟩)
    · intro p hp
      rw [← hr3]
      simp only [List.mem_append, List.mem_cons] at hp ⊢
      grind
    · rw [setAll_take (undoL_get hx9)]
      exact hd6
  case done =>
    intro h5 tk5 m5 news5 F5 N5 hmap5 hJ5
    obtain ⟨⟨u5, v5, rfl⟩, o5, rfl, hd5⟩ := hJ5
    have hd5 := DR.take (k := nf + ys.length) hd5 (by rw [undoL_len, ← hT.length]; simp) (by simp)
    k_steps
    rename_i es7 n7 _ hz7 ho7 hs7 _ _ _ _ _ _ _ _
    refine hret _ ((dw, dictOf es7 n7) :: (st, o5) :: (sa, listOf sas.toArray (n4 + 1)) :: rest) _ _ (by k_asm) (newsSub (by k_asm) ?_) ⟨es7, n7, o5, n4 + 1, rfl, rfl, hz7, ho7, ⟨_, hs7⟩, hd5⟩
    intro p hp
    simp only [List.mem_cons] at hp ⊢
    grind


theorem wt_lib2 : True := by
  w_top off
  trivial

/-- a dict of which only the keys are asked -/
def HasD (w : World) (o : Obj) (p : Str → Bool) : Prop :=
  ∃ kvs, o.IsDictOf (PySem.strKind PySem.Challenge.rw_sj0188_01.row.prog w) kvs ∧ ∀ x, (valueAt kvs x).isSome = p x
section
variable {w : World} {A : Around} {E : Value → Shared → Prop} {s : Shared} {h₀ : Heap} {L d : Addr} {news : List (Addr × Obj)} {o : Obj} {p : Str → Bool} {x : Str} {t : Tok}
theorem HasD.not {Q : Value → Shared → Prop} (N : News h₀ L s.heap news) (hp : (d, o) ∈ news) (hd : HasD w o p) (lo : (d == sysModules) = false) (hx : p x = false)
    (h : Q (.bool false) { s with toks := s.toks + 1 }) :
    wpAny (model PySem.Challenge.rw_sj0188_01.row.prog w) A (compareOp .In (.str x t) (.ref d)) Q E s := by
  obtain ⟨kvs, hi, hf⟩ := hd
  exact kda_in N hp hi lo (strKind_is _ _ _ _) false ((hf x).trans hx) h
end

theorem rg_7 : True := by
  (k_with "compareOp In str ref" => (k_here; k_dflt (refine' HasD.not ?u9N ?u9m ?u9d ?u9l ?u9p ?_; (case u9N => k_asm); (case u9m => k_mem); (case u9d => with_reducible assumption); (case u9l => with_reducible assumption); (case u9p => with_reducible assumption))))
  trivial

theorem wt_setvar : True := by
  w_top off
  trivial

theorem set_var_calls (w : World) {aw dw st wr tr : Addr} {wes : List DictEntry} {wn : Nat} {x : Str} {tx : Tok} {v : Value} {ost owr otr : Obj} {f : PM} {nf : Nat} {p1 p2 : Str → Bool} {rest : List (Addr × Obj)}
    (hw : (aw, instObj 76 dw) ∈ rest) (hdw : (dw, dictOf wes wn) ∈ rest) (hwr : (wr, owr) ∈ rest) (htr : (tr, otr) ∈ rest)
    (g1 : getL (Str.ofString "store") wes = some (some (.ref st))) (g2 : getL (Str.ofString "write_names") wes = some (some (.ref wr))) (g3 : getL (Str.ofString "traced") wes = some (some (.ref tr)))
    (ho : DR w ost f nf) (hnf : nf ≤ 100) (hs : (st == sysModules) = false) (hv : VOk v) (q1 : HasD w owr p1) (q2 : HasD w otr p2) (e1 : p1 x = false) (e2 : p2 x = false) (k1 : (wr == sysModules) = false) (k2 : (tr == sysModules) = false)
    (r2 : ∀ p ∈ rest, p.1 ≠ st) :
    Calls w 94 5 [.ref aw, .str x tx, v] ((st, ost) :: rest)
      (fun r news' => ∃ o', r = .none ∧ news' = (st, o') :: rest ∧ DR w o' (upd f x (den v)) (nf + 1)) := by
  unfold Calls
  k_fill
  intro mean mg mb dp un gd cn cs a ccd cl outer A₀ base h₀ L m s Q E B F X N T hk hdp hun hret
  refine wpAny_call ?_
  k_dflt (refine' code_def ?k1 ?k2 ?k3 ?k4 ?k5 ?kA ?kF ?kK ?k6 ?k7 ?k8 ?k9 ?kB ?_ ?c2 ?c3 ?c4 ?c5; (case kA => exact rfl); (case kF => exact rfl); (case kK => assumption); (case k1 => k_asm); (case k2 => k_asm); (case k3 => k_asm); (case k4 => k_asm); (case k5 => k_asm); (case k6 => k_is); (case k7 => k_is); (case k8 => ktr_room); (case k9 => exact BindsTo.of_eq rfl); (case c5 => decide); (case kB => exact locs rfl); (case c2 => exact rfl); (case c3 => exact rfl); (case c4 => exact rfl); k_whole; intro g' L' h' FG' F' N' B' X' T'; (try dsimp only); (try k_fold))
  k_steps
  exact hret _ ((st, _) :: rest) _ _ (by k_asm) (by k_asm) ⟨_, rfl, rfl, by assumption⟩


theorem wt_lib3 : True := by
  w_top off
  trivial

theorem strsTake : ∀ {vs : List Value} {ss : List Str}, StrsAre vs ss → ∀ k, StrsAre (vs.take k) (ss.take k)
  | _, _, _, 0 => .nil
  | _, _, .nil, _ + 1 => .nil
  | _, _, .cons x t r, k + 1 => .cons x t (strsTake r k)
section
variable {prog : Program} {w : World} {A : Around} {E : Value → Shared → Prop} {s : Shared} {h₀ : Heap} {L : Addr} {news : List (Addr × Obj)}
theorem itemRef {value slice : PySem.Expr} {l : Addr} {vs : List Value} {n : Nat} {k : Int} {u : Tok} {x : Value} {ops : List Value} {Q : Value → Shared → Prop}
    (N : News h₀ L s.heap news) (hl : (l, listOf vs.toArray n) ∈ news) (h0 : 0 ≤ k) (hz : vs.length ≤ 1000) (hx : vs[k.toNat]? = some x) (h : Q x s)
    (hs : subscripted slice false (.ref l) (.int k u) = operate ops (getItem (.ref l) (.int k u))) :
    wpAny (model prog w) A (subscriptTail value slice (.ref l) (.int k u)) Q E s := by
  have hb := (List.getElem?_eq_some_iff.mp hx).1
  exact tail_any (isL N hl).typeIs list_getitem_lookup (wpAny_getItem_list (isL N hl) h0 (by omega) (by simpa using hx) h) hs
theorem itemStr {value slice : PySem.Expr} {l : Addr} {vs : List Value} {n : Nat} {k : Int} {u : Tok} {ss : List Str} {ops : List Value} {Q : Value → Shared → Prop}
    (N : News h₀ L s.heap news) (hl : (l, listOf vs.toArray n) ∈ news) (hS : StrsAre vs ss) (h0 : 0 ≤ k) (h1 : k < ss.length) (hz : ss.length ≤ 1000) (h : ∀ x t, ss[k.toNat]? = some x → Q (.str x t) s)
    (hs : subscripted slice false (.ref l) (.int k u) = operate ops (getItem (.ref l) (.int k u))) :
    wpAny (model prog w) A (subscriptTail value slice (.ref l) (.int k u)) Q E s := by
  have hlen := strsLen hS
  have hb : k.toNat < vs.length := by omega
  have hx : vs.toArray[k.toNat]? = some vs[k.toNat] := by simp [hb]
  obtain ⟨x, t, e1, e2⟩ := strsAt hS hx
  rw [e2] at hx
  exact itemRef N hl h0 (by omega) (by simpa using hx) (h x t e1) hs
theorem fdm {t : Int} (ht : 0 ≤ t) (a b : Nat) : (t.fdiv (a : Int)).fmod (b : Int) = ((t.toNat / a % b : Nat) : Int) := by
  rw [Int.fdiv_eq_ediv_of_nonneg _ (Int.natCast_nonneg a), Int.fmod_eq_emod_of_nonneg _ (Int.natCast_nonneg b)]
  have e : t = (t.toNat : Int) := by omega
  rw [e]
  simp
theorem fm {t : Int} (ht : 0 ≤ t) (b : Nat) : t.fmod (b : Int) = ((t.toNat % b : Nat) : Int) := by
  rw [Int.fmod_eq_emod_of_nonneg _ (Int.natCast_nonneg b)]
  have e : t = (t.toNat : Int) := by omega
  rw [e]
  simp
end
def words5 : List Str := [Str.ofString "A", Str.ofString "B", Str.ofString "F", Str.ofString "G", Str.ofString "H"]
def wd (i : Nat) : Str := (words5[i % 5]?).getD (Str.ofString "")
theorem wd_get {i : Nat} {x : Str} (h : words5[i % 5]? = some x) : x = wd i := by unfold wd; rw [h]; rfl
/-- what `_law_names` gives -/
def namesOf (t : Nat) : List Str := [wd (t / 3), wd (t / 15)].take (t % 3)

section
variable {prog : Program} {w : World} {A : Around} {E : Value → Shared → Prop} {s : Shared} {env : Env} {h₀ : Heap} {m : Str → Option Value} {news : List (Addr × Obj)}
theorem enumL {l1 : Addr} {vs₁ : List Value} {n1 : Nat} {xi xc : Str} {body : List Stmt} {Q : Flow → Shared → Prop} (J : Nat → (Str → Option Value) → List (Addr × Obj) → Prop) (hh : A.handled = none)
    (F : Fr h₀ env.locals s.heap m) (N : News h₀ env.locals s.heap news) (h1 : (l1, listOf vs₁.toArray n1) ∈ news) (h0 : J 0 m news)
    (step : ∀ i u v1 m₁ news₁ s₁ own, (∃ h tk, s₁ = { s with heap := h, toks := tk }) → vs₁[i]? = some v1 → J i m₁ news₁ → news₁.map (·.1) = news.map (·.1) → (∀ p ∈ own, ∀ q ∈ news, p.1 = q.1 → p.1 = l1) →
      Fr h₀ env.locals s₁.heap (fun y => if y = xc then some v1 else if y = xi then some (.int (i : Int) u) else m₁ y) → News h₀ env.locals s₁.heap (own ++ news₁) →
      wpAny (model prog w) A (execs body env) (LoopStep3 h₀ env.locals own news₁ (J (i + 1)) s₁ (fun v s' => Q (.ret v) s') fun s' => Q .next s') E s₁)
    (done : ∀ h' tk m' news', Fr h₀ env.locals h' m' → News h₀ env.locals h' news' → news'.map (·.1) = news.map (·.1) → J vs₁.length m' news' → Q .next { s with heap := h', toks := tk }) :
    wpAny (model prog w) A (call (.type "enumerate") [.ref l1]) (fun xv s₁ => wpAny (model prog w) A (pyIter xv) (fun it s₂ => PairAt3 prog w A h₀ env xi xc body Q E it s₂) E s₁) E s := by
  have hls1 := isL N h1
  have a1 : l1 < s.heap.objs.size := Heap.lt_size (N _ h1).1
  have hLs : env.locals < s.heap.objs.size := F.ns.lt
  have hab : h₀.objs.size ≤ env.locals := F.above
  refine call_enumerate_list hls1 fun h' hz hit1 hsz hk => ?_
  have F' : Fr h₀ env.locals h' m := ⟨F.ns.keeps hk, fun b o e => hk b o (F.keep b o e), F.above⟩
  have N' : News h₀ env.locals h' news := fun p hp => ⟨hk _ _ (N p hp).1, (N p hp).2⟩
  have hlt : ∀ q ∈ news, q.1 < s.heap.objs.size := fun q hq => Heap.lt_size (N q hq).1
  have nw : ∀ k, h₀.get? (s.heap.objs.size + k) = none := fun k => Heap.get?_none_of_le (Nat.le_trans hab (Nat.le_trans (Nat.le_of_lt hLs) (Nat.le_add_right _ k)))
  have W := WalksT.enumerate (prog := prog) (w := w) hh (s.heap.objs.size + 1) s.heap.objs.size l1 (Nat.succ_ne_self _) (Nat.ne_of_lt (Nat.lt_succ_of_lt a1)) (Nat.ne_of_lt a1) vs₁.toArray
  have hst : (∃ old, IsEnum h' (s.heap.objs.size + 1) s.heap.objs.size ((0 : Nat) : Int) old) ∧ h'.IsListIter s.heap.objs.size l1 0 ∧ h'.IsList l1 vs₁.toArray := ⟨⟨_, hz⟩, hit1, hls1.at fun o e => hk l1 o e⟩
  refine W.self 0 { s with heap := h' } _ _ hst ?_
  refine ⟨s.heap.objs.size + 1, _, _, _, _, _, _, (fun i v0 v1 => vs₁[i]? = some v1 ∧ ∃ u, v0 = .int (i : Int) u), m, news, J, rfl, W, ?_, ?_, ?_, ?_, hst, F', N', h0, ?_, ?_⟩
  · rintro i vals ⟨u, x, hx, rfl⟩
    exact ⟨.int i u, x, rfl, by simpa using hx, u, rfl⟩
  · intro hm
    simp only [List.mem_cons, List.not_mem_nil, or_false] at hm
    have up : ∀ k, env.locals ≠ s.heap.objs.size + k := fun k e => Nat.ne_of_lt (Nat.lt_of_lt_of_le hLs (Nat.le_add_right _ k)) e
    rcases hm with e | e | e
    · exact up 1 e
    · exact up 0 e
    · exact (N _ h1).2.1 e.symm
  · intro b hb
    simp only [List.mem_cons, List.not_mem_nil, or_false] at hb
    rcases hb with rfl | rfl
    · exact nw 1
    · exact nw 0
  · intro p hp hm
    have hq1 := hlt p hp
    simp only [List.mem_cons, List.not_mem_nil, or_false] at hm
    have dn : ∀ k, p.1 ≠ s.heap.objs.size + k := fun k e => Nat.ne_of_lt (Nat.lt_of_lt_of_le hq1 (Nat.le_add_right _ k)) e
    rcases hm with e | e
    · exact dn 1 e
    · exact dn 0 e
  · rintro i v0 v1 m₁ news₁ s₁ own ⟨hh', tk', rfl⟩ _ ⟨ha, u, rfl⟩ hJ hmap hsub F₁ N₁
    refine step i u v1 m₁ news₁ _ own ⟨_, _, rfl⟩ ha hJ hmap (fun p hp q hq e => ?_) F₁ N₁
    have hs := hsub p hp
    have hq1 := hlt q hq
    simp only [List.mem_cons, List.not_mem_nil, or_false] at hs
    have dn : ∀ k, q.1 ≠ s.heap.objs.size + k := fun k e => Nat.ne_of_lt (Nat.lt_of_lt_of_le hq1 (Nat.le_add_right _ k)) e
    rcases hs with e1 | e1 | e1
    · exact absurd (e ▸ e1) (dn 1)
    · exact absurd (e ▸ e1) (dn 0)
    · exact e1
  · intro h₂ tk₂ m₂ news₂ F₂ N₂ hm₂ hJ₂
    refine done h₂ tk₂ m₂ news₂ F₂ N₂ hm₂ ?_
    simpa using hJ₂
end
section
variable {w : World} {A : Around} {E : Value → Shared → Prop} {s : Shared} {h₀ : Heap} {L d : Addr} {m : Str → Option Value} {news : List (Addr × Obj)} {g : Obj → List (Addr × Obj)} {o : Obj} {x : Str} {t : Tok} {v : Value}
theorem made1 {Q : Value → Shared → Prop} (F : Fr h₀ L s.heap m) (N : News h₀ L s.heap news) (U : UpdF d o news g) (hd : o.IsDictOf (PySem.strKind PySem.Challenge.rw_sj0188_01.row.prog w) []) (hv : VOk v)
    (h : ∀ h' o', Fr h₀ L h' m → News h₀ L h' (g o') → DR w o' (upd (fun _ => none) x (den v)) 1 → Q (.ref d) { s with heap := h', toks := s.toks + 1 }) :
    KdnMade PySem.Challenge.rw_sj0188_01.row.prog w (PySem.strKind PySem.Challenge.rw_sj0188_01.row.prog w) d Q [(.str x t, v)] s := by
  refine kdn_made_str F N U hd rfl (by simp [strPairs]) fun h' o' F' N' hd' => h h' o' F' N' ⟨_, hd', by simp [strPairs], fun y => ?_, ?_⟩
  · show (valueAt [(x, v)] y).map den = _
    rw [valueAt_cons]
    unfold upd
    by_cases hy : y = x
    · subst hy; simp
    · have hy' : ¬ x = y := fun e => hy e.symm
      simp [hy, hy', valueAt]
  · intro e he
    have he : e ∈ [(x, v)] := he
    rw [List.mem_singleton.mp he]; exact hv
end
section
variable {prog : Program} {w : World} {A : Around} {E : Value → Shared → Prop} {s : Shared} {h₀ : Heap} {L : Addr} {news : List (Addr × Obj)}
theorem itemPad {value slice : PySem.Expr} {l : Addr} {avs : List Value} {n i : Nat} {u t1 t2 : Tok} {ops : List Value} {Q : Value → Shared → Prop}
    (N : News h₀ L s.heap news) (hl : (l, listOf (avs ++ [Value.str (Str.ofString "") t1, Value.str (Str.ofString "") t2]).toArray n) ∈ news) (hav : ∀ v ∈ avs, VOk v) (hi : i < avs.length + 2) (hz : avs.length ≤ 100)
    (h : ∀ v, VOk v → (avs.map den ++ [none, none])[i]? = some (den v) → Q v s)
    (hs : subscripted slice false (.ref l) (.int (i : Int) u) = operate ops (getItem (.ref l) (.int (i : Int) u))) :
    wpAny (model prog w) A (subscriptTail value slice (.ref l) (.int (i : Int) u)) Q E s := by
  have hb : i < (avs ++ [Value.str (Str.ofString "") t1, Value.str (Str.ofString "") t2]).length := by simpa using hi
  refine itemRef (vs := avs ++ [Value.str (Str.ofString "") t1, Value.str (Str.ofString "") t2]) (x := (avs ++ [Value.str (Str.ofString "") t1, Value.str (Str.ofString "") t2])[i]) N hl (Int.natCast_nonneg _) (by simp; omega) (by simp) (h _ ?_ ?_) hs
  · rcases List.mem_append.mp (List.getElem_mem hb) with h1 | h1
    · exact hav _ h1
    · simp only [List.mem_cons, List.not_mem_nil, or_false] at h1
      rcases h1 with h1 | h1 <;> rw [h1] <;> exact .str _
  · have e : avs.map den ++ [none, none] = (avs ++ [Value.str (Str.ofString "") t1, Value.str (Str.ofString "") t2]).map den := by rw [List.map_append]; rfl
    rw [e, List.getElem?_map, List.getElem?_eq_getElem hb]; rfl
end
theorem binds_pad {ps : List Str} {as : List (Option Int)} {i : Nat} {x : Str} {a : Option Int} (h2 : ps.length ≤ 2) (h1 : ps[i]? = some x) (h : (as ++ [none, none])[i]? = some a) : (binds ps as)[i]? = some (x, a) := by
  have hi := (List.getElem?_eq_some_iff.mp h1).1
  refine binds_get h1 ?_
  rw [List.getElem?_take_of_lt hi]
  by_cases ha : i < as.length
  · rw [List.getElem?_append_left ha] at h ⊢; exact h
  · have ha := Nat.le_of_not_lt ha
    rw [List.getElem?_append_right ha] at h ⊢
    rw [List.getElem?_replicate, if_pos (by omega)]
    have : i - as.length = 0 ∨ i - as.length = 1 := by omega
    rcases this with e | e <;> rw [e] at h <;> simpa using h

theorem rg_8 : True := by
  (k_with "subscriptTail" => ((k_here; (with_reducible refine' itemStr (ss := words5) ?u9k1 ?u9k3 ?u9k4 ?u9k5 ?u9k6 ?u9k7 ?_ ?u9k8); k_dflt ((case u9k1 => k_asm); (case u9k3 => k_mem); (case u9k4 => exact StrsAre.cons _ _ (StrsAre.cons _ _ (StrsAre.cons _ _ (StrsAre.cons _ _ (StrsAre.cons _ _ StrsAre.nil))))); (case u9k5 => with_reducible assumption); (case u9k6 => with_reducible assumption); (case u9k7 => decide); (case u9k8 => with_unfolding_all rfl); k_whole); intro x' t' e'); (revert x' t' e'; intros)))
  (k_with "subscriptTail" => (k_here; (with_reducible refine' itemRef ?u9k1 ?u9k3 ?u9k5 ?u9k7 ?u9k4 ?_ ?u9k8); k_dflt ((case u9k1 => k_asm); (case u9k3 => k_mem); (case u9k4 => with_reducible assumption); (case u9k5 => first | with_reducible assumption | omega); (case u9k7 => ktr_rel); (case u9k8 => with_unfolding_all rfl))))
  (k_with "eval Dict" => ((k_here; k_dflt (refine' kdn_eval (knd := PySem.strKind _ _) ?u9F ?u9N ?u9b ?u9a ?u9l ?u9e ?u9n ?_; (case u9F => k_asm); (case u9N => k_asm); (case u9b => exact Top.nolimit (by k_asm)); (case u9a => rfl); (case u9l => rfl); (case u9e => exact List.cons_ne_nil _ _); (case u9n => exact Nat.le_of_ble_eq_true rfl)); intro d' h' o' F' N' l1 lo' hd'; (have l2 := l1); (try k_lt l2)); (revert d' h' o' F' N' l1 lo' hd'; intros)))
  (k_with "KdnMade" => ((k_here; k_dflt (refine' made1 ?u9F ?u9N ?u9U ?u9d ?u9v ?_; (case u9F => k_asm); (case u9N => k_asm); (case u9U => k_updF); (case u9d => k_asm); (case u9v => first | exact VOk.str _ | with_reducible assumption)); intro h' o' F' N' hd'; (try dsimp only at N')); (revert h' o' F' N' hd'; intros)))
  (k_with "subscriptTail" => ((k_here; (with_reducible refine' itemPad ?u9k1 ?u9k3 ?u9k4 ?u9k5 ?u9k7 ?_ ?u9k8); k_dflt ((case u9k1 => k_asm); (case u9k3 => k_mem); (case u9k4 => with_reducible assumption); (case u9k5 => omega); (case u9k7 => omega); (case u9k8 => with_unfolding_all rfl)); intro r' hv' hd'); (revert r' hv' hd'; intros)))
  trivial

theorem wt_lawnames : True := by
  w_top off
  trivial

theorem law_names_calls (w : World) {t : Int} {u : Tok} {news : List (Addr × Obj)} (ht : 0 ≤ t) :
    Calls w 148 2 [.int t u] news
      (fun r news' => ∃ l vs, r = .ref l ∧ news' = (l, listOf vs.toArray 0) :: news ∧ (∀ p ∈ news, p.1 < l) ∧ StrsAre vs (namesOf t.toNat)) := by
  unfold Calls
  k_fill
  intro mean mg mb dp un gd cn cs a ccd cl outer A₀ base h₀ L m s Q E B F X N T hk hdp hun hret
  refine wpAny_call ?_
  k_dflt (refine' code_def ?k1 ?k2 ?k3 ?k4 ?k5 ?kA ?kF ?kK ?k6 ?k7 ?k8 ?k9 ?kB ?_ ?c2 ?c3 ?c4 ?c5; (case kA => exact rfl); (case kF => exact rfl); (case kK => assumption); (case k1 => k_asm); (case k2 => k_asm); (case k3 => k_asm); (case k4 => k_asm); (case k5 => k_asm); (case k6 => k_is); (case k7 => k_is); (case k8 => ktr_room); (case k9 => exact BindsTo.of_eq rfl); (case c5 => decide); (case kB => exact locs rfl); (case c2 => exact rfl); (case c3 => exact rfl); (case c4 => exact rfl); k_whole; intro g' L' h' FG' F' N' B' X' T'; (try dsimp only); (try k_fold))
  have b1 := fdm ht 3 5
  have b2 := fdm ht 15 5
  have b3 := fm ht 3
  have b4 := Nat.mod_lt (t.toNat / 3) (show 0 < 5 by decide)
  have b5 := Nat.mod_lt (t.toNat / 15) (show 0 < 5 by decide)
  have b6 := Nat.mod_lt t.toNat (show 0 < 3 by decide)
  have c1 : 0 ≤ (t.fdiv 3).fmod 5 := by rw [show (t.fdiv 3).fmod 5 = _ from b1]; exact Int.natCast_nonneg _
  have c2 : (t.fdiv 3).fmod 5 < words5.length := by rw [show (t.fdiv 3).fmod 5 = _ from b1]; exact Int.ofNat_lt.mpr b4
  have c3 : 0 ≤ (t.fdiv 15).fmod 5 := by rw [show (t.fdiv 15).fmod 5 = _ from b2]; exact Int.natCast_nonneg _
  have c4 : (t.fdiv 15).fmod 5 < words5.length := by rw [show (t.fdiv 15).fmod 5 = _ from b2]; exact Int.ofNat_lt.mpr b5
  have c5 : 0 ≤ t.fmod 3 := by rw [show t.fmod 3 = _ from b3]; exact Int.natCast_nonneg _
  k_steps
  rename_i x1 t1 e1 x2 t2 e2 _ _ _ _ _ c9 h9 F9 N9 l9 l29 _ k9 _ _
  rw [show (t.fdiv 3).fmod 5 = _ from b1] at e1
  rw [show (t.fdiv 15).fmod 5 = _ from b2] at e2
  have f1 : (t.fmod 3).toNat = t.toNat % 3 := by rw [show t.fmod 3 = _ from b3]; rfl
  rw [f1] at k9
  refine hret _ ((c9, listOf (List.take (t.toNat % 3) [Value.str x1 t1, Value.str x2 t2]).toArray 0) :: news) _ _ (by k_asm) (newsSub k9 ?_) ⟨c9, List.take (t.toNat % 3) [Value.str x1 t1, Value.str x2 t2], rfl, rfl, ktn_ltOf l29.2.2, ?_⟩
  · intro p hp
    simp only [List.mem_cons] at hp ⊢
    grind
  · unfold namesOf
    rw [wd_get e1, wd_get e2]
    exact strsTake (.cons _ _ (.cons _ _ .nil)) _

theorem rg_9 : True := by
  (k_with "call ref" => ((k_here; (with_reducible show wpAny _ _ (call (Value.ref 148) _) _ _ _); k_dflt (refine' Calls.use (law_names_calls _ ?u9a1) ?u9B ?u9F ?u9X ?u9N ?u9T ?u9hk ?u9hd ?u9hu ?_; (case u9B => k_asm); (case u9F => k_asm); (case u9X => k_asm); (case u9N => k_asm); (case u9T => k_asm); (case u9hk => first | exact rfl | assumption); (case u9hd => ktr_room); (case u9hu => ktr_units); (case u9a1 => with_reducible assumption)); (intro r' news' h' tk' F' N' hp'; obtain ⟨l', vs', hr', hn', l1, hS'⟩ := hp'; subst hr' hn'; (have l2 := l1); (try k_lt l2); (try dsimp only))); (revert h' tk' F' N' l' vs' l1 hS'; intros)))
  trivial

theorem wt_lawframe : True := by
  w_top off
  trivial

theorem law_frame_calls (w : World) {fa fd pa la ar : Addr} {fes : List DictEntry} {fn n1 n2 n3 : Nat} {nm : Str} {t : Tok} {pvs lvs avs : List Value} {rest : List (Addr × Obj)}
    (h1 : (fa, instObj 111 fd) ∈ rest) (h2 : (fd, dictOf fes fn) ∈ rest) (h3 : (pa, listOf pvs.toArray n1) ∈ rest) (h4 : (la, listOf lvs.toArray n2) ∈ rest) (ha : (ar, listOf avs.toArray n3) ∈ rest)
    (h5 : getL (Str.ofString "name") fes = some (some (.str nm t))) (h6 : getL (Str.ofString "params") fes = some (some (.ref pa))) (h7 : getL (Str.ofString "local_names") fes = some (some (.ref la)))
    {ps ls : List Str} (hps : StrsAre pvs ps) (hav : ∀ v ∈ avs, VOk v) (hls : StrsAre lvs ls) (h8 : pvs.length ≤ 2) (h9 : lvs.length ≤ 100) (h10 : avs.length ≤ 100) :
    Calls w 155 2 [.ref fa, .ref ar] rest
      (fun r news' => ∃ a o, r = .ref a ∧ news' = (a, o) :: rest ∧ (∀ p ∈ rest, p.1 < a) ∧ DR w o (setAll (fun _ => none) (frameL nm ps (avs.map den) ls)) (1 + pvs.length + lvs.length)) := by
  unfold Calls
  k_fill
  intro mean mg mb dp un gd cn cs a ccd cl outer A₀ base h₀ L m s Q E B F X N T hk hdp hun hret
  refine wpAny_call ?_
  k_dflt (refine' code_def ?k1 ?k2 ?k3 ?k4 ?k5 ?kA ?kF ?kK ?k6 ?k7 ?k8 ?k9 ?kB ?_ ?c2 ?c3 ?c4 ?c5; (case kA => exact rfl); (case kF => exact rfl); (case kK => assumption); (case k1 => k_asm); (case k2 => k_asm); (case k3 => k_asm); (case k4 => k_asm); (case k5 => k_asm); (case k6 => k_is); (case k7 => k_is); (case k8 => ktr_room); (case k9 => exact BindsTo.of_eq rfl); (case c5 => decide); (case kB => exact locs rfl); (case c2 => exact rfl); (case c3 => exact rfl); (case c4 => exact rfl); k_whole; intro g' L' h' FG' F' N' B' X' T'; (try dsimp only); (try k_fold))
  k_steps
  rename_i d9 _ _ _ _ _ l9 _ o8 hd8 _ F8 N8
  refine enumL (JZ _ (Str.ofString "turn") (Str.ofString "name") (fun i nw => ∃ o, nw = (d9, o) :: rest ∧ DR w o (setAll (upd (fun _ => none) nm none) ((binds ps (avs.map den)).take i)) (1 + i))) rfl F8 N8 (by k_mem) (JZ.start ⟨_, rfl, hd8⟩) ?step ?done
  case step =>
    intro i u v1 m₁ news₁ s₁ own hs₁ hv1 hJ hmap hown Fs Ns
    obtain ⟨⟨u', v', rfl⟩, o, rfl, hdo⟩ := id hJ
    obtain ⟨hh9, tk9, rfl⟩ := hs₁
    obtain ⟨x, tx, hx9, rfl⟩ := strsAt hps (by simpa using hv1)
    have z1 : ∀ p ∈ own ++ rest, p.1 ≠ d9 := by
      intro p hp
      rcases List.mem_append.mp hp with hp | hp
      · intro e
        have := hown p hp (d9, o8) (by simp) e
        rw [e] at this
        have h3' := l9 _ h3
        exact Nat.lt_irrefl _ (this ▸ h3')
      · exact Nat.ne_of_lt (l9 _ hp)
    have N5 : News g' L' hh9 ((d9, o) :: (own ++ rest)) := newsSub Ns (by
      intro p hp; simp only [List.mem_append, List.mem_cons] at hp ⊢; grind)
    clear Ns
    have k1 : (ar, listOf avs.toArray n3) ∈ own ++ rest := List.mem_append_right _ ha
    generalize hr3 : own ++ rest = rest3 at z1 N5 k1
    have hle : i < pvs.length := (List.getElem?_eq_some_iff.mp hv1).1
    dsimp only
    k_steps
    rename_i o3 F6 N6 hd6
    with_reducible rename (_ = some (den _)) => e6
    refine ⟨rfl, _, _, _, (d9, o3) :: rest, rfl, F6, newsSub N6 ?_, rfl, JZ.step hJ ⟨o3, rfl, ?_⟩⟩
    · intro p hp
      rw [← hr3]
      simp only [List.mem_append, List.mem_cons] at hp ⊢
      grind
    · rw [setAll_take (binds_pad (by rw [← strsLen hps]; exact h8) hx9 e6)]
      exact hd6
  case done =>
    intro h5 tk5 m5 news5 F5 N5 hmap5 hJ5
    obtain ⟨⟨u5, v5, rfl⟩, o5, rfl, hd5⟩ := hJ5
    have hd5 := DR.take (k := 1 + pvs.length) hd5 (by rw [binds_len, ← strsLen hps]; simp) (by simp)
    k_steps
    refine iterL (J1 _ (Str.ofString "name") (fun i nw => ∃ o, nw = (d9, o) :: rest ∧ DR w o (setAll (setAll (upd (fun _ => none) nm none) (binds ps (avs.map den))) ((ls.map fun x => (x, none)).take i)) (1 + pvs.length + i))) rfl (by k_asm) (by k_asm) (by k_mem) (J1.start ⟨_, rfl, hd5⟩) ?step3 ?done3
    case step3 =>
      intro i v m₁ news₁ hh9 tk9 own hv0 hJ hmap hown Fs Ns
      obtain ⟨⟨u, rfl⟩, o, rfl, hdo⟩ := id hJ
      obtain ⟨x, tx, hx9, rfl⟩ := strsAt hls (by simpa using hv0)
      have z1 : ∀ p ∈ own ++ rest, p.1 ≠ d9 := by
        intro p hp
        rcases List.mem_append.mp hp with hp | hp
        · intro e
          have := hown p hp (d9, o5) (by simp) e
          rw [e] at this
          have h4' := l9 _ h4
          exact Nat.lt_irrefl _ (this ▸ h4')
        · exact Nat.ne_of_lt (l9 _ hp)
      have N5 : News g' L' hh9 ((d9, o) :: (own ++ rest)) := newsSub Ns (by
        intro p hp; simp only [List.mem_append, List.mem_cons] at hp ⊢; grind)
      clear Ns
      generalize hr3 : own ++ rest = rest3 at z1 N5
      have hle : i < lvs.length := (List.getElem?_eq_some_iff.mp hv0).1
      dsimp only
      k_steps
      rename_i o3 F6 N6 hd6
      refine LEnd.intro (news' := (d9, o3) :: rest) F6 (newsSub N6 ?_) rfl (J1.step hJ ⟨o3, rfl, ?_⟩)
      · intro p hp
        rw [← hr3]
        simp only [List.mem_append, List.mem_cons] at hp ⊢
        grind
      · rw [setAll_take (x := x) (a := none) (by rw [List.getElem?_map, hx9]; rfl)]
        exact hd6
    case done3 =>
      intro h6 tk6 m6 news6 F6 N6 hmap6 hJ6
      obtain ⟨⟨u6, rfl⟩, o6, rfl, hd6⟩ := hJ6
      have hd6 := DR.take (k := 1 + pvs.length + lvs.length) hd6 (by rw [List.length_map, strsLen hls]; exact Nat.le_refl _) (by omega)
      rw [setAll_frame] at hd6
      dsimp only
      k_steps
      exact hret _ ((d9, o6) :: rest) _ _ (by k_asm) (newsSub (by k_asm) (fun p hp => hp)) ⟨d9, o6, rfl, rfl, l9, hd6⟩


theorem wt_lib4 : True := by
  w_top off
  trivial

/-- the dicts that a list of frames names -/
inductive FrAt (w : World) (k : Nat) (l : List (Addr × Obj)) : List Value → List PM → Prop
  | nil : FrAt w k l [] []
  | cons {a : Addr} {o : Obj} {g : PM} {rs : List Value} {gs : List PM} : (a, o) ∈ l → DR w o g k → (a == sysModules) = false → FrAt w k l rs gs → FrAt w k l (.ref a :: rs) (g :: gs)
theorem FrAt.mono {w : World} {k k' : Nat} {l l' : List (Addr × Obj)} (hs : ∀ p ∈ l, p ∈ l') (hk : k ≤ k') : ∀ {rs : List Value} {gs : List PM}, FrAt w k l rs gs → FrAt w k' l' rs gs
  | _, _, .nil => .nil
  | _, _, .cons h d m r => .cons (hs _ h) (d.le hk) m (r.mono hs hk)
theorem FrAt.snoc {w : World} {k : Nat} {l : List (Addr × Obj)} {a : Addr} {o : Obj} {g : PM} (h : (a, o) ∈ l) (d : DR w o g k) (m : (a == sysModules) = false) : ∀ {rs : List Value} {gs : List PM}, FrAt w k l rs gs → FrAt w k l (rs ++ [.ref a]) (gs ++ [g])
  | _, _, .nil => .cons h d m .nil
  | _, _, .cons h1 d1 m1 r => .cons h1 d1 m1 (r.snoc h d m)
theorem FrAt.length {w : World} {k : Nat} {l : List (Addr × Obj)} : ∀ {rs : List Value} {gs : List PM}, FrAt w k l rs gs → rs.length = gs.length
  | _, _, .nil => rfl
  | _, _, .cons _ _ _ r => congrArg (· + 1) r.length
theorem FrAt.rev {w : World} {k : Nat} {l : List (Addr × Obj)} : ∀ {rs : List Value} {gs : List PM}, FrAt w k l rs gs → FrAt w k l rs.reverse gs.reverse
  | _, _, .nil => .nil
  | _, _, .cons h d m r => by rw [List.reverse_cons, List.reverse_cons]; exact r.rev.snoc h d m
theorem FrAt.take {w : World} {k : Nat} {l : List (Addr × Obj)} : ∀ {rs : List Value} {gs : List PM}, FrAt w k l rs gs → ∀ n, FrAt w k l (rs.take n) (gs.take n)
  | _, _, _, 0 => .nil
  | _, _, .nil, _ + 1 => .nil
  | _, _, .cons h d m r, n + 1 => .cons h d m (r.take n)
theorem FrAt.get {w : World} {k : Nat} {l : List (Addr × Obj)} : ∀ {rs : List Value} {gs : List PM}, FrAt w k l rs gs → ∀ {i : Nat} {v : Value}, rs[i]? = some v → ∃ a o g, v = .ref a ∧ (a, o) ∈ l ∧ gs[i]? = some g ∧ DR w o g k ∧ (a == sysModules) = false
  | _, _, .nil, i, v, h => by simp at h
  | _, _, .cons (a := a) (o := o) (g := g) h d m r, 0, v, e => ⟨a, o, g, by simpa using e.symm, h, rfl, d, m⟩
  | _, _, .cons h d m r, i + 1, v, e => by
    rw [List.getElem?_cons_succ] at e ⊢
    exact r.get e

/-- what `_law_found` gives: the innermost dict that has the name -/
def foundR : List PM → Str → Option Int
  | [], _ => none
  | g :: r, x => (g x).getD (foundR r x)
def found (gs : List PM) (x : Str) : Option Int := foundR gs.reverse x
theorem foundR_skip {gs : List PM} {i : Nat} {g : PM} {x : Str} (hi : gs[i]? = some g) (hx : g x = none) : foundR (gs.drop i) x = foundR (gs.drop (i + 1)) x := by
  obtain ⟨hl, e⟩ := List.getElem?_eq_some_iff.mp hi
  rw [List.drop_eq_getElem_cons hl, e]
  simp [foundR, hx]
theorem foundR_hit {gs : List PM} {i : Nat} {g : PM} {x : Str} {a : Option Int} (hi : gs[i]? = some g) (hx : g x = some a) : foundR (gs.drop i) x = a := by
  obtain ⟨hl, e⟩ := List.getElem?_eq_some_iff.mp hi
  rw [List.drop_eq_getElem_cons hl, e]
  simp [foundR, hx]
section
variable {w : World} {A : Around} {E : Value → Shared → Prop} {s : Shared} {h₀ : Heap} {L d : Addr} {news : List (Addr × Obj)} {o : Obj} {f : PM} {n : Nat} {x : Str} {t : Tok}
theorem DR.hasT {a : Option Int} {Q : Value → Shared → Prop} (N : News h₀ L s.heap news) (hp : (d, o) ∈ news) (hd : DR w o f n) (lo : (d == sysModules) = false) (hx : f x = some a)
    (h : Q (.bool true) { s with toks := s.toks + 1 }) :
    wpAny (model PySem.Challenge.rw_sj0188_01.row.prog w) A (compareOp .In (.str x t) (.ref d)) Q E s := DR.has N hp hd lo (by rw [hx]; exact h)
theorem DR.hasF {Q : Value → Shared → Prop} (N : News h₀ L s.heap news) (hp : (d, o) ∈ news) (hd : DR w o f n) (lo : (d == sysModules) = false) (hx : f x = none)
    (h : Q (.bool false) { s with toks := s.toks + 1 }) :
    wpAny (model PySem.Challenge.rw_sj0188_01.row.prog w) A (compareOp .In (.str x t) (.ref d)) Q E s := DR.has N hp hd lo (by rw [hx]; exact h)
end

theorem rg_10 : True := by
  (k_with "compareOp In str ref" => (k_here; k_dflt (refine' DR.hasT ?u9N ?u9m ?u9d ?u9l ?u9p ?_; (case u9N => k_asm); (case u9m => k_mem); (case u9d => with_reducible assumption); (case u9l => with_reducible assumption); (case u9p => with_reducible assumption))))
  (k_with "compareOp In str ref" => (k_here; k_dflt (refine' DR.hasF ?u9N ?u9m ?u9d ?u9l ?u9p ?_; (case u9N => k_asm); (case u9m => k_mem); (case u9d => with_reducible assumption); (case u9l => with_reducible assumption); (case u9p => with_reducible assumption))))
  (k_with "subscriptTail" => ((k_here; (with_reducible refine' DR.item ?u9N ?u9m ?u9d ?u9p ?_ ?u9e); k_dflt ((case u9N => k_asm); (case u9m => k_mem); (case u9d => with_reducible assumption); (case u9p => with_reducible assumption); (case u9e => with_unfolding_all rfl)); intro r' hv' hd'); (revert r' hv' hd'; intros)))
  trivial
local macro_rules | `(tactic| walk_at "exec For Name Subscript cons nil") => `(tactic| (k_here; (with_reducible rename Fr _ _ _ _ => kF); k_dflt (refine For_invVF kF ?k1 ?k2 ?_ (by intro _; with_unfolding_all rfl); (case k1 => exact rfl); (case k2 => exact rfl))))

theorem wt_lawfound : True := by
  w_top off
  trivial

theorem law_found_calls (w : World) {fl : Addr} {n k : Nat} {vs : List Value} {gs : List PM} {x : Str} {t : Tok} {news : List (Addr × Obj)}
    (hl : (fl, listOf vs.toArray n) ∈ news) (hF : FrAt w k news vs gs) (hz : vs.length ≤ 100) :
    Calls w 162 2 [.ref fl, .str x t] news (fun r news' => news' = news ∧ VOk r ∧ den r = found gs x) := by
  unfold Calls
  k_fill
  intro mean mg mb dp un gd cn cs a ccd cl outer A₀ base h₀ L m s Q E B F X N T hk hdp hun hret
  refine wpAny_call ?_
  k_dflt (refine' code_def ?k1 ?k2 ?k3 ?k4 ?k5 ?kA ?kF ?kK ?k6 ?k7 ?k8 ?k9 ?kB ?_ ?c2 ?c3 ?c4 ?c5; (case kA => exact rfl); (case kF => exact rfl); (case kK => assumption); (case k1 => k_asm); (case k2 => k_asm); (case k3 => k_asm); (case k4 => k_asm); (case k5 => k_asm); (case k6 => k_is); (case k7 => k_is); (case k8 => ktr_room); (case k9 => exact BindsTo.of_eq rfl); (case c5 => decide); (case kB => exact locs rfl); (case c2 => exact rfl); (case c3 => exact rfl); (case c4 => exact rfl); k_whole; intro g' L' h' FG' F' N' B' X' T'; (try dsimp only); (try k_fold))
  k_steps
  rename_i c9 h9 F9 N9 l9 l29
  refine iterL (J1 _ (Str.ofString "frame") (fun i nw => nw = (c9, listOf vs.reverse.toArray 0) :: news ∧ foundR (gs.reverse.drop i) x = found gs x)) rfl F9 N9 (by k_mem) (J1.start ⟨rfl, rfl⟩) ?step ?done
  case step =>
    intro i v m₁ news₁ hh9 tk9 own hv0 hJ hmap hown Fs Ns
    obtain ⟨⟨u, rfl⟩, rfl, hfi⟩ := id hJ
    obtain ⟨a9, o9, g9, rfl, hm9, hg9, hd9, hs9⟩ := hF.rev.get (by simpa using hv0)
    have N5 : News g' L' hh9 (own ++ (c9, listOf vs.reverse.toArray 0) :: news) := Ns
    have k1 : (a9, o9) ∈ own ++ (c9, listOf vs.reverse.toArray 0) :: news := by simp [hm9]
    generalize hr3 : own ++ (c9, listOf vs.reverse.toArray 0) :: news = rest3 at N5 k1
    clear Ns
    cases hgx : g9 x with
    | none =>
      k_steps
      refine LEnd.intro (news' := (c9, listOf vs.reverse.toArray 0) :: news) (by k_asm) (newsSub (by k_asm) (fun p hp => by rw [← hr3]; exact hp)) rfl (J1.step hJ ⟨rfl, ?_⟩)
      exact (foundR_skip hg9 hgx).symm.trans hfi
    | some a =>
      have e9 := (foundR_hit hg9 hgx).symm.trans hfi
      k_steps
      rename_i hv9 hd9'
      show qk (Flow.ret _) _
      k_steps
      exact hret _ news _ _ (by k_asm) (newsSub (by k_asm) (fun p hp => by rw [← hr3]; simp [hp])) ⟨rfl, hv9, hd9'.trans e9⟩
  case done =>
    intro h5 tk5 m5 news5 F5 N5 hmap5 hJ5
    obtain ⟨⟨u5, rfl⟩, rfl, hfi⟩ := hJ5
    have hfi : none = found gs x := by
      rw [← hfi, List.drop_of_length_le (by rw [← hF.rev.length]; exact Nat.le_refl _)]; rfl
    k_steps
    exact hret _ news _ _ (by k_asm) (newsSub (by k_asm) (fun p hp => List.mem_cons_of_mem _ hp)) ⟨rfl, .str _, hfi⟩

theorem rg_11 : True := by
  (k_with "call ref" => ((k_here; (with_reducible show wpAny _ _ (call (Value.ref 162) _) _ _ _); k_dflt (refine' Calls.use (law_found_calls _ ?u9a1 (FrAt.mono ?u9a0 (Nat.le_refl _) ?u9a2) ?u9a3) ?u9B ?u9F ?u9X ?u9N ?u9T ?u9hk ?u9hd ?u9hu ?_; (case u9B => k_asm); (case u9F => k_asm); (case u9X => k_asm); (case u9N => k_asm); (case u9T => k_asm); (case u9hk => first | exact rfl | assumption); (case u9hd => ktr_room); (case u9hu => ktr_units); (case u9a1 => k_mem); (case u9a2 => with_reducible assumption); (case u9a0 => tb_start); (case u9a3 => ktr_rel)); (intro r' news' h' tk' F' N' hp'; obtain ⟨hn', hv', hd'⟩ := hp'; subst hn'; (try dsimp only))); (revert r' h' tk' F' N' hv' hd'; intros)))
  trivial

theorem wt_dictpairs : True := by
  w_top off
  trivial

section
variable {prog : Program} {w : World} {A : Around} {E : Value → Shared → Prop} {s : Shared}
theorem keysMiss_list {a : Addr} {xs : Array Value} {k : Nat} {Q : Option Value → Shared → Prop} (hx : s.heap.get? a = some (listOf xs k)) (hA : A.handled = none)
    (h : ∀ h' tk, (∀ b o, s.heap.get? b = some o → h'.get? b = some o) → Q none { s with heap := h', toks := tk }) :
    wpAny (model prog w) A (getAttr? (.ref a) (Str.ofString "keys")) Q E s := by
  have hmiss : typeLookup (.type "list") "keys" = pure none := am_miss_of_fast (by decide +kernel)
  obtain ⟨hp, g, d, tk, os⟩ := s
  have hT : ∀ tk', (⟨hp, g, d, tk', os⟩ : Shared).TypeIs (.ref a) "list" := fun _ => ⟨_, hx, rfl⟩
  have f1 := sub_AttributeError
  have f3 := F.slot_list_getattribute.lookup
  have f4 := F.slot_list_getattribute.bind (.ref a)
  have f5 := am_list_getattr_none
  unfold getAttr? getAttrBy? getAttrBy
  repeat (any_goals (first | assumption | exact hT _ | ((with_reducible show wpAny _ _ (call (Value.builtin "list.__getattribute__") _ _) _ _ _); refine call_meets F.slot_list_getattribute (hT _) am_entry_list_getattribute (F.args_list_getattribute_2 _ _) (meets_getattribute_miss_list a xs k #[] "keys" _ hmiss (by decide +kernel) (by size_fits)) ⟨hx, hA, fun h' tk' e hx' => ?_⟩) | wp_step))
  obtain ⟨t', u', he⟩ := hx'.there
  show wpAny _ _ (getattributeRaised _ _ _ _ _ _ _) _ _ _
  unfold getattributeRaised
  repeat (any_goals (first | assumption | wp_step))
  exact h _ _ hx'.keeps

theorem updPlain : plainId "dict.update.loop" = true := by decide +kernel
theorem updEntry : entryFor table "dict.update.loop" = some Builtin.«dict.update.loop» := entryFor_of_tree (by kernel_rfl)
def storeAll (kvs : List (Str × Value)) (tl : List (Str × Value)) : List (Str × Value) := tl.foldl (fun k e => stored k e.1 e.2) kvs

theorem updLoop {R : Result → Shared → Prop} {H : Heap} {d it l : Addr} {vs : List Value} {tl : List (Str × Value)} (hA : A.handled = none) (hl : H.IsList l vs.toArray) (hlen : vs.length = tl.length)
    (hT : ∀ (i : Nat) (v : Value), vs[i]? = some v → ∃ a x t y, v = .ref a ∧ H.get? a = some (tupObj [.str x t, y]) ∧ tl[i]? = some (x, y)) (hd : H.get? d = none) (hit : H.get? it = none) (hne : d ≠ it) (hz : vs.length ≤ 1000) :
    ∀ (k i : Nat) (s : Shared) (kvs : List (Str × Value)), i + k = vs.length → (∀ b o, H.get? b = some o → s.heap.get? b = some o) → s.heap.DictOf (PySem.strKind prog w) d kvs → s.heap.IsListIter it l i → kvs.length ≤ i →
      (∀ h' tk, (∀ b o, H.get? b = some o → h'.get? b = some o) → (∀ b o, b ≠ d → b ≠ it → s.heap.get? b = some o → h'.get? b = some o) → h'.DictOf (PySem.strKind prog w) d (storeAll kvs (tl.drop i)) → R (.ok (.ret .none)) { s with heap := h', toks := tk }) →
      codeAny (model prog w) A (.builtin "dict.update.loop" ⟨[.ref d, .ref it, rawInt (i : Int), .none], []⟩) R s := by
  have hnb : ∀ b o, H.get? b = some o → b ≠ d ∧ b ≠ it := fun b o e => by
    constructor
    · intro h; rw [h, hd] at e; cases e
    · intro h; rw [h, hit] at e; cases e
  intro k
  induction k with
  | zero =>
    intro i s kvs hi hk hD hI hkl hR
    have hls : s.heap.IsList l vs.toArray := hl.at fun o e => hk l o e
    refine codeAny_builtin updEntry ?_
    rw [Around.under_plainId updPlain _]
    show wpAny _ A.in1 (pyNext (.ref it) >>= _) _ _ s
    refine wpAny_bind (wpAny_pyNext_list_end hA hI hls (by simp [← hi]) fun h' hx => ?_)
    refine wpAny_bind ?_
    show wpAny _ A.in1 (Builtin.Dict.addKeywords d []) _ _ _
    refine wpAny_pure (wpAny_pure ?_)
    have := hR h' s.toks (fun b o e => hx b o (hnb b o e).2 (hk b o e)) (fun b o _ hb e => hx b o hb e) (by rw [List.drop_of_length_le (by omega)]; exact hD.extBut hx hne)
    exact this
  | succ k ih =>
    intro i s kvs hi hk hD hI hkl hR
    have hls : s.heap.IsList l vs.toArray := hl.at fun o e => hk l o e
    have hlt : i < vs.length := by omega
    obtain ⟨a, x, t, y, hv, ha, htl⟩ := hT i vs[i] (List.getElem?_eq_getElem hlt)
    refine codeAny_builtin updEntry ?_
    rw [Around.under_plainId updPlain _]
    show wpAny _ A.in1 (pyNext (.ref it) >>= _) _ _ s
    refine wpAny_bind (wpAny_pyNext_list_item hI hls (x := .ref a) (by rw [← hv]; simp [hlt]) fun h' hI' hS => ?_)
    have hk' : ∀ b o, H.get? b = some o → h'.get? b = some o := fun b o e => (hS.2 b (hnb b o e).2).trans (hk b o e)
    have ha' := hk' a _ ha
    have hD' := hD.sameBut hS hne
    dsimp only
    refine wpAny_bind (wpAny_holding (wpAny_bind (wpAny_tryCatch ?_)))
    unfold Builtin.Dict.pairItems
    refine wpAny_bind (wpAny_typeOf (T := "tuple") ⟨_, ha', rfl⟩ ?_)
    rw [if_pos (by decide)]
    refine wpAny_bind (wpAny_seqItems ha' rfl (wpAny_pure ?_))
    show wpAny _ _ (holding [.str x t, y] (dictSet d (.str x t) y)) _ _ _
    refine wpAny_holding (wpAny_dictSet_pairs (hsz := by rw [sizeLine_eq]; omega) (strKind_is _ _ _ _) hD' fun h2 hD2 hS2 => ?_)
    refine wpAny_pure ⟨plainId_quiet updPlain _, ?_⟩
    refine ih (i + 1) { s with heap := h2, toks := s.toks + 1 } (stored kvs x y) (by omega) (fun b o e => (hS2.2 b (hnb b o e).1).trans (hk' b o e)) hD2 ?_ (Nat.le_trans (stored_len _ _ _) (Nat.succ_le_succ hkl)) fun h3 tk hk3 ho3 hd3 => ?_
    · obtain ⟨oi, e1, r1⟩ := hI'
      exact ⟨oi, (hS2.2 it hne.symm).trans e1, r1⟩
    · refine hR h3 tk hk3 (fun b o n1 n2 e => ho3 b o n1 n2 ((hS2.2 b n1).trans ((hS.2 b n2).trans e))) ?_
      have e9 : storeAll kvs (tl.drop i) = storeAll (stored kvs x y) (tl.drop (i + 1)) := by
        obtain ⟨h1, h2⟩ := List.getElem?_eq_some_iff.mp htl
        rw [List.drop_eq_getElem_cons h1, h2]; rfl
      rw [e9]; exact hd3
end

def tmap (tl : List (Str × Value)) : List (Str × Option Int) := tl.map fun e => (e.1, den e.2)
theorem storeAll_len : ∀ (tl kvs : List (Str × Value)), (storeAll kvs tl).length ≤ kvs.length + tl.length
  | [], _ => Nat.le_refl _
  | e :: r, kvs => by
    have := storeAll_len r (stored kvs e.1 e.2)
    have h2 := stored_len kvs e.1 e.2
    show (storeAll (stored kvs e.1 e.2) r).length ≤ _
    rw [List.length_cons]; omega
theorem storeAll_map : ∀ (tl kvs : List (Str × Value)) (f : PM), (∀ x, (valueAt kvs x).map den = f x) → ∀ x, (valueAt (storeAll kvs tl) x).map den = setAll f (tmap tl) x
  | [], _, _, h => h
  | e :: r, kvs, f, h => by
    refine storeAll_map r (stored kvs e.1 e.2) (upd f e.1 (den e.2)) fun x => ?_
    rw [valueAt_stored]
    unfold upd
    by_cases hx : x = e.1
    · simp [hx]
    · simp [hx, h x]
theorem storeAll_all {P : Value → Prop} : ∀ (tl kvs : List (Str × Value)), (∀ e ∈ kvs, P e.2) → (∀ e ∈ tl, P e.2) → ∀ e ∈ storeAll kvs tl, P e.2
  | [], _, h, _ => h
  | e :: r, kvs, h, ht => storeAll_all r (stored kvs e.1 e.2) (stored_all h (ht e List.mem_cons_self)) fun q hq => ht q (List.mem_cons_of_mem _ hq)
theorem TupsAt.at {l : List (Addr × Obj)} {rs : List Value} {tl : List (Str × Value)} {h₀ h : Heap} {L : Addr} (N : News h₀ L h l) (T : TupsAt l rs tl) : ∀ (i : Nat) (v : Value), rs[i]? = some v → ∃ a x t y, v = .ref a ∧ h.get? a = some (tupObj [.str x t, y]) ∧ tl[i]? = some (x, y) :=
  fun i v e => let ⟨a, x, t, y, h1, h2, h3⟩ := T.get e; ⟨a, x, t, y, h1, (N _ h2).1, h3⟩
section
variable {w : World} {A : Around} {E : Value → Shared → Prop} {s : Shared} {h₀ : Heap} {L : Addr} {m : Str → Option Value} {news : List (Addr × Obj)}
theorem dictOfTups {l : Addr} {vs : List Value} {n : Nat} {tl : List (Str × Value)} {Q : Value → Shared → Prop} (hA : A.handled = none) (F : Fr h₀ L s.heap m) (N : News h₀ L s.heap news) (hbig : h₀.NoLimit) (hl : (l, listOf vs.toArray n) ∈ news)
    (hT : TupsAt news vs tl) (hv : ∀ e ∈ tl, VOk e.2) (hz : vs.length ≤ 1000)
    (h : ∀ d h' o tk, Fr h₀ L h' m → News h₀ L h' ((d, o) :: news) → (∀ p ∈ news, p.1 < d) → (d == sysModules) = false → DR w o (setAll (fun _ => none) (tmap tl)) tl.length → Q (.ref d) { s with heap := h', toks := tk }) :
    wpAny (model PySem.Challenge.rw_sj0188_01.row.prog w) A (call (.type "dict") [.ref l]) Q E s := by
  refine callType_codes (Q₁ := fun obj s₁ => obj = .ref s.heap.objs.size ∧ s₁ = { s with heap := s.heap.push { cls := .type "dict", data := .dict #[] } }) PySem.F.kt_called_dict (PySem.F.kt_typeCall_dict_1 _) PySem.F.entry_dict_init (kt_code_dict_new _ ⟨rfl, rfl⟩) ?_
  rintro obj s₁ ⟨rfl, rfl⟩
  have hnew : (s.heap.push { cls := .type "dict", data := .dict #[] }).DictOf (PySem.strKind PySem.Challenge.rw_sj0188_01.row.prog w) s.heap.objs.size [] := Heap.DictOf.new s.heap
  have hpk : ∀ b o, s.heap.get? b = some o → (s.heap.push { cls := .type "dict", data := .dict #[] }).get? b = some o := fun b o e => Heap.get?_push_of_some _ e
  have N1 := News.push F N { cls := .type "dict", data := .dict #[] }
  have F1 := F.push { cls := .type "dict", data := .dict #[] }
  have hll : (s.heap.push { cls := .type "dict", data := .dict #[] }).get? l = some (listOf vs.toArray n) := hpk _ _ (N _ hl).1
  refine ⟨hnew.typeIs, PySem.F.args_dict_init_2 _ _, ?_⟩
  unfold Builtin.«dict.__init__»
  refine wpAny_bind ?_
  unfold Builtin.Dict.selfAndRest
  refine wpAny_bind (wpAny_notOrdered_dict hnew.typeIs ?_)
  show wpAny _ _ (pure (s.heap.objs.size, [Value.ref l])) _ _ _
  refine wpAny_pure ?_
  show wpAny _ _ (Builtin.Dict.updateFrom "dict.__init__" s.heap.objs.size (.ref l) [] .none) _ _ _
  unfold Builtin.Dict.updateFrom
  refine wpAny_bind (wpAny_typeOf (T := "list") ⟨_, hll, rfl⟩ ?_)
  rw [if_pos (by decide)]
  refine wpAny_bind (keysMiss_list hll hA fun h1 tk1 hk1 => ?_)
  rw [if_pos (show (none : Option Value).isNone = true from rfl)]
  refine wpAny_bind (wpAny_rule (wpAny_bind (wpAny_pyIter_list (items := vs.toArray) ⟨_, hk1 _ _ hll, rfl, _, rfl⟩ ?_)))
  have hd1 : s.heap.objs.size < h1.objs.size := Heap.lt_size (hk1 _ _ (Heap.get?_push_size _ rfl))
  have hls := isL N hl
  refine wpAny_pure ⟨plainId_quiet updPlain _, updLoop (A := A.in1) (H := s.heap) (tl := tl) hA hls hT.length (hT.at N) (Heap.get?_none_of_le (Nat.le_refl _)) (Heap.get?_none_of_le (Nat.le_of_lt hd1)) (Nat.ne_of_lt hd1) hz vs.length 0 _ [] (Nat.zero_add _)
    (fun b o e => Heap.get?_push_of_some _ (hk1 _ _ (hpk _ _ e))) ?_ ⟨_, Heap.get?_push_size _ rfl, rfl, rfl⟩ (Nat.le_refl _) fun h' tk hk' _ hd' => ⟨rfl, ?_⟩⟩
  · obtain ⟨od, eo, ro⟩ := Heap.dictOf_iff.mp hnew
    exact Heap.dictOf_iff.mpr ⟨od, Heap.get?_push_of_some _ (hk1 _ _ eo), ro⟩
  · obtain ⟨o', ho', hdo⟩ := Heap.dictOf_iff.mp hd'
    refine h _ h' o' tk ⟨F.ns.keeps hk', fun b o e => hk' b o (F.keep b o e), F.above⟩ ?_ (fun p hp => Heap.lt_size (N p hp).1) (F.notModules (modules_low hbig)) ⟨_, hdo, ?_, ?_, ?_⟩
    · intro p hp
      rcases List.mem_cons.mp hp with rfl | hp
      · exact ⟨ho', (N1 _ (.head _)).2⟩
      · exact ⟨hk' _ _ (N p hp).1, (N p hp).2⟩
    · exact Nat.le_trans (storeAll_len _ _) (by simp)
    · exact storeAll_map tl [] (fun _ => none) fun _ => rfl
    · exact storeAll_all tl [] (fun _ h => nomatch h) hv
end


theorem wt_lib5 : True := by
  w_top off
  trivial

section
variable {prog : Program} {w : World} {A : Around} {E : Value → Shared → Prop} {s : Shared} {env : Env} {h₀ : Heap} {m : Str → Option Value} {news : List (Addr × Obj)}
end

section
variable {w : World} {A : Around} {E : Value → Shared → Prop} {s : Shared} {h₀ : Heap} {L a b : Addr} {news : List (Addr × Obj)} {oa ob : Obj} {f : PM} {n k : Nat}
theorem hitsOf {B : Around} {kb : List (Str × Value)} : ∀ {ka : List (Str × Value)}, (∀ e ∈ ka, ∃ y, valueAt kb e.1 = some y ∧ VOk e.2 ∧ VOk y ∧ den e.2 = den y) → KeqHits B s kb ka true
  | [], _ => .nil
  | (k, v) :: r, h => by
    obtain ⟨y, hy, hv, hw, he⟩ := h (k, v) List.mem_cons_self
    have ih := hitsOf (B := B) (ka := r) fun e he => h e (List.mem_cons_of_mem _ he)
    have e1 : SeqAt.EqAt B s v y true := by
      dsimp only at he hv
      cases hv with
      | int i t =>
        cases hw with
        | int j u =>
          have : i = j := by simpa [den] using he
          subst this
          have := SeqAt.EqAt.int_int (A := B) (s := s) i t i u
          simpa using this
        | str u => cases he
      | str t =>
        cases hw with
        | int j u => cases he
        | str u =>
          have := SeqAt.EqAt.str_str (A := B) (s := s) (Str.ofString "") t (Str.ofString "") u
          simpa using this
    have := KeqHits.hit hy e1 ih
    simpa using this
theorem DR.ne {Q : Value → Shared → Prop} (N : News h₀ L s.heap news) (pa : (a, oa) ∈ news) (pb : (b, ob) ∈ news) (da : DR w oa f n) (db : DR w ob f k) (la : (a == sysModules) = false) (lb : (b == sysModules) = false) (hu : A.units < cLine)
    (h : Q (.bool false) s) : wpAny (model PySem.Challenge.rw_sj0188_01.row.prog w) A (compareOp .NotEq (.ref a) (.ref b)) Q E s := by
  obtain ⟨ka, ia, _, fa, va⟩ := da
  obtain ⟨kb, ib, _, fb, vb⟩ := db
  have key : ∀ (kvs : List (Str × Value)), (∀ x, (valueAt kvs x).map den = f x) → ∀ x, x ∈ kvs.map (·.1) ↔ (f x).isSome = true := fun kvs hf x => by
    rw [← hf x, Option.isSome_map]
    constructor
    · intro hx
      obtain ⟨e, he, rfl⟩ := List.mem_map.mp hx
      unfold valueAt
      rw [Option.isSome_map, List.find?_isSome]
      exact ⟨e, he, by simp⟩
    · intro hx
      unfold valueAt at hx
      rw [Option.isSome_map, List.find?_isSome] at hx
      obtain ⟨e, he, h2⟩ := hx
      exact List.mem_map.mpr ⟨e, he, by simpa using h2⟩
  have nodup : ∀ {o : Obj} {kvs : List (Str × Value)}, o.IsDictOf (PySem.strKind PySem.Challenge.rw_sj0188_01.row.prog w) kvs → (kvs.map (·.1)).Nodup := fun hd => by
    obtain ⟨_, _, _, _, _, _, hn⟩ := hd
    exact hn
  have hlen : ka.length = kb.length := by
    have := ((List.perm_ext_iff_of_nodup (nodup ia) (nodup ib)).mpr fun x => (key ka fa x).trans (key kb fb x).symm).length_eq
    simpa using this
  refine kne_pairs (r := true) N pa pb ia ib la lb hlen hu (hitsOf fun e he => ?_) h
  have hx : (f e.1).isSome = true := (key ka fa e.1).mp (List.mem_map.mpr ⟨e, he, rfl⟩)
  have h1 := fa e.1
  have h2 := fb e.1
  cases hb : valueAt kb e.1 with
  | none => rw [hb] at h2; rw [← h2] at hx; cases hx
  | some y =>
    obtain ⟨q, hq, rfl⟩ := valueAt_mem hb
    refine ⟨_, rfl, va e he, vb q hq, ?_⟩
    obtain ⟨i, hi, hei⟩ := List.mem_iff_getElem.mp he
    have h3 : valueAt ka e.1 = some e.2 := valueAt_of_get (nodup ia) (i := i) (by rw [List.getElem?_eq_getElem hi, hei])
    rw [h3] at h1
    rw [hb] at h2
    exact Option.some.inj (h1.trans h2.symm)
end

section
variable {prog : Program} {w : World} {A : Around} {E : Value → Shared → Prop} {s : Shared} {env : Env} {h₀ : Heap} {m : Str → Option Value} {news : List (Addr × Obj)}
theorem rangeDownT {a : Nat} {t u v : Tok} {x : Str} {px : Pos} {body : List Stmt} {Q : Flow → Shared → Prop} (J : Nat → (Str → Option Value) → List (Addr × Obj) → Prop) (hh : A.handled = none)
    (F : Fr h₀ env.locals s.heap m) (N : News h₀ env.locals s.heap news) (hz : a ≤ 1000) (h0 : J 0 m news)
    (step : ∀ i u m₁ news₁ (s₁ : Shared) own, i < a → J i m₁ news₁ → news₁.map (·.1) = news.map (·.1) → (∀ p ∈ own, ∀ q ∈ news, p.1 ≠ q.1) → Fr h₀ env.locals s₁.heap m₁ → News h₀ env.locals s₁.heap (own ++ news₁) →
      wpAny (model prog w) A (assign (.Name x px) env (.int ((a - i : Nat) : Int) u)) (fun _ s₃ => wpAny (model prog w) A (execs body env) (NEnd h₀ env.locals own news (J (i + 1)) s₁) E s₃) E s₁)
    (done : ∀ h' tk m' news', Fr h₀ env.locals h' m' → News h₀ env.locals h' news' → news'.map (·.1) = news.map (·.1) → J a m' news' → Q .next { s with heap := h', toks := tk }) :
    wpAny (model prog w) A (call (.type "range") [.int (a : Int) t, .int 0 u, .int (-1) v]) (fun xv s₁ => wpAny (model prog w) A (pyIter xv) (fun it s₂ => LoopAtT prog w A h₀ env (.Name x px) body Q E it s₂) E s₁) E s := by
  have hrs : Builtin.Range.rangeSize (a : Int) 0 (-1) = (a : Nat) := by
    unfold Builtin.Range.rangeSize
    rw [if_neg (by decide), show (-(-1) : Int) = 1 from rfl, Int.ediv_one]
    split <;> omega
  have hsm : Builtin.Range.small (a : Int) 0 (-1) = true := by
    unfold Builtin.Range.small
    rw [hrs]
    unfold Builtin.Range.rangeFitsLong
    simp
    omega
  refine call_range_3 (by decide) ?_ (Or.inl (PyProof.noPylong_small (by decide)))
  refine wpAny_pyIter_range (Heap.get?_push_size _ rfl) hsm ?_
  rw [hrs]
  have e1 : (a : Int) + ((0 : Nat) : Int) * (-1) = a := by simp
  have e2 : ((a : Nat) : Int) - ((0 : Nat) : Int) = a := by simp
  dsimp only
  generalize hh2 : s.heap.push { cls := .type "range", data := .fields #[.int (a : Int) t, .int 0 u, .int (-1) v] } = h2
  have F2 : Fr h₀ env.locals h2 m := hh2 ▸ F.push _
  have N2 : News h₀ env.locals h2 news := hh2 ▸ fun p hp => ⟨Heap.get?_push_of_some _ (N p hp).1, (N p hp).2⟩
  have W := Walks.range (prog := prog) (w := w) hh h2.objs.size (a : Int) (-1) a
  have off : ∀ news' : List (Addr × Obj), news'.map (·.1) = news.map (·.1) → ∀ p ∈ news', p.1 ∉ [h2.objs.size] := fun news' ha p hp hm => by
    have h1 : p.1 ∈ news'.map (·.1) := List.mem_map.mpr ⟨p, hp, rfl⟩
    rw [ha] at h1
    obtain ⟨q, hq, e⟩ := List.mem_map.mp h1
    exact absurd (Heap.lt_size (N2 q hq).1) (by rw [e, List.mem_singleton.mp hm]; exact Nat.lt_irrefl _)
  refine ⟨_, _, _, a, _, _, m, news, (fun i m₁ nw => nw.map (·.1) = news.map (·.1) ∧ J i m₁ nw), rfl, W, ?_, ?_, off news rfl, ?_, F2.push _,
    (fun p hp => ⟨Heap.get?_push_of_some _ (N2 p hp).1, (N2 p hp).2⟩), (fun i s' v Q' st hQ' => wpAny_pure hQ'), ⟨rfl, h0⟩, ?_, ?_⟩
  · intro hm
    exact absurd F2.ns.lt (by rw [List.mem_singleton.mp hm]; exact Nat.lt_irrefl _)
  · intro b hb
    rw [List.mem_singleton.mp hb]
    exact next_is_new F2
  · show IsRangeIter _ _ ((a : Int) + ((0 : Nat) : Int) * (-1)) (((a : Nat) : Int) - ((0 : Nat) : Int)) (-1)
    rw [e1, e2]
    exact Heap.get?_push_size _ rfl
  · rintro i v m₁ news₁ s₁ own hin ⟨u', rfl⟩ ⟨ha, hJ⟩ hoff hown _ _ _ F₁ N₁
    have e : (a : Int) + (i : Int) * (-1) = ((a - i : Nat) : Int) := by omega
    rw [e]
    refine wpAny_mono (step i u' m₁ news₁ s₁ own hin hJ ha (fun p hp q hq e => ?_) F₁ N₁) (fun _ s₃ p => wpAny_mono p (fun f s₂ p => ?_) fun _ _ e => e) fun _ _ e => e
    · have h1 := List.mem_singleton.mp (hown p hp)
      exact absurd (Heap.lt_size (N2 q hq).1) (by rw [← e, h1]; exact Nat.lt_irrefl _)
    · obtain ⟨rfl, h', tk, m', news', e, F', N', ha', hm⟩ := p
      exact ⟨rfl, h', tk, m', news', e, F', N', off news' ha', ha', hm⟩
  · rintro h' tk m' news' F' N' _ ⟨ha, hJ⟩
    exact done h' tk m' news' F' N' ha (by simpa using hJ)
end


theorem wt_chain : True := by
  w_top off
  trivial

def dom5 (h : Str → Option Int) : PM := fun x => if x ∈ words5 then some (h x) else none
/-- what the law's dict `here` holds after the i innermost levels -/
def hereN (f : PM) (tls : List (List (Str × Value))) : Nat → PM
  | 0 => dom5 fun x => (f x).getD none
  | i + 1 => match tls[tls.length - 1 - i]? with
    | some tl => setAll (hereN f tls i) (undoL tl)
    | none => hereN f tls i
/-- the lists put aside -/
inductive AsAt (l : List (Addr × Obj)) : List Value → List (List (Str × Value)) → Prop
  | nil : AsAt l [] []
  | cons {D : Addr} {ys : List Value} {n : Nat} {tl : List (Str × Value)} {rs : List Value} {tls : List (List (Str × Value))} : (D, listOf ys.toArray n) ∈ l → TupsAt l ys tl → (∀ e ∈ tl, VOk e.2) → ys.length ≤ 100 → AsAt l rs tls → AsAt l (.ref D :: rs) (tl :: tls)

theorem AsAt.length {l : List (Addr × Obj)} : ∀ {rs : List Value} {tls : List (List (Str × Value))}, AsAt l rs tls → rs.length = tls.length
  | _, _, .nil => rfl
  | _, _, .cons _ _ _ _ r => congrArg (· + 1) r.length
theorem AsAt.get {l : List (Addr × Obj)} : ∀ {rs : List Value} {tls : List (List (Str × Value))}, AsAt l rs tls → ∀ {i : Nat} {v : Value}, rs[i]? = some v → ∃ D ys n tl, v = .ref D ∧ (D, listOf ys.toArray n) ∈ l ∧ TupsAt l ys tl ∧ (∀ e ∈ tl, VOk e.2) ∧ ys.length ≤ 100 ∧ tls[i]? = some tl
  | _, _, .nil, i, v, h => by simp at h
  | _, _, .cons (D := D) (ys := ys) (n := n) (tl := tl) h t o z r, 0, v, e => ⟨D, ys, n, tl, by simpa using e.symm, h, t, o, z, rfl⟩
  | _, _, .cons h t o z r, i + 1, v, e => by
    rw [List.getElem?_cons_succ] at e ⊢
    exact r.get e
theorem regroup {h₀ h : Heap} {L : Addr} {own news : List (Addr × Obj)} {p0 p1 p2 p3 p4 : Addr × Obj} (N : News h₀ L h (own ++ p0 :: p1 :: p2 :: p3 :: p4 :: news)) : ∃ rest, News h₀ L h (p2 :: p0 :: rest) ∧ rest = own ++ p1 :: p3 :: p4 :: news :=
  ⟨_, newsSub N (by intro p hp; simp only [List.mem_append, List.mem_cons] at hp ⊢; grind), rfl⟩
def Held (p : Prop) : Prop := p
theorem Held.out {p : Prop} (h : Held p) : p := h
theorem Held.mk {p : Prop} (h : p) : Held p := h

/-- tuples of the five words and what `h` says of each -/
def GoodW5 (base : List (Addr × Obj)) (h : Str → Option Int) (i : Nat) (ys : List Value) (nw : List (Addr × Obj)) : Prop :=
  ∃ newp tl, nw = newp ++ base ∧ TupsAt newp ys tl ∧ tmap tl = (words5.take i).map (fun x => (x, h x)) ∧ (∀ e ∈ tl, VOk e.2) ∧ ∀ p ∈ newp, ∀ q ∈ base, q.1 < p.1
theorem goodW5_nil (base : List (Addr × Obj)) (h : Str → Option Int) : GoodW5 base h 0 [] base := ⟨[], [], rfl, .nil, rfl, by simp, by simp⟩
theorem goodW5_step {base newp : List (Addr × Obj)} {h : Str → Option Int} {i : Nat} {ys : List Value} {tl : List (Str × Value)} {x : Str} {tx : Tok} {v : Value} {q : Addr}
    (hT : TupsAt newp ys tl) (hS : tmap tl = (words5.take i).map (fun x => (x, h x))) (ha : ∀ e ∈ tl, VOk e.2) (hf : ∀ p ∈ newp, ∀ q ∈ base, q.1 < p.1) (hx : words5[i]? = some x) (hv : VOk v) (hd : den v = h x) (hl : AllLt q (newp ++ base)) :
    GoodW5 base h (i + 1) (ys ++ [.ref q]) ((q, tupObj [.str x tx, v]) :: (newp ++ base)) := by
  refine ⟨_ :: newp, _, rfl, (hT.mono fun p hp => List.mem_cons_of_mem _ hp).snoc List.mem_cons_self, ?_, ?_, ?_⟩
  · unfold tmap at hS ⊢
    rw [List.map_append, hS, List.take_add_one, hx, List.map_append]
    simp [hd]
  · intro e he
    rcases List.mem_append.mp he with he | he
    · exact ha e he
    · rw [List.mem_singleton.mp he]; exact hv
  · intro p hp b hb
    rcases List.mem_cons.mp hp with rfl | hp
    · exact ktn_ltOf hl b (List.mem_append_right _ hb)
    · exact hf p hp b hb
theorem setAll_dom5 (h : Str → Option Int) : setAll (fun _ => none) (words5.map fun x => (x, h x)) = dom5 h := by
  funext y
  unfold dom5 setAll words5
  simp only [List.map_cons, List.map_nil, List.foldl_cons, List.foldl_nil, upd]
  by_cases a1 : y = Str.ofString "A" <;> by_cases a2 : y = Str.ofString "B" <;> by_cases a3 : y = Str.ofString "F" <;> by_cases a4 : y = Str.ofString "G" <;> by_cases a5 : y = Str.ofString "H" <;> simp_all
theorem words_at {vs : List Value} (hS : StrsAre vs words5) {i : Nat} {v : Value} (h : vs.toArray[i]? = some v) : ∃ x t, words5[i]? = some x ∧ v = .str x t := strsAt hS h

section
theorem rg_12 : True := by
  (k_with "CompSrc" => (k_here; refine Held.out ?_))
  (k_with "compareOp NotEq ref ref" => (k_here; k_dflt (refine' DR.ne ?u9N ?u9pa ?u9pb ?u9da ?u9db ?u9la ?u9lb ?u9hu ?_; (case u9N => k_asm); (case u9pa => k_mem); (case u9pb => k_mem); (case u9da => with_reducible assumption); (case u9db => with_reducible assumption); (case u9la => with_reducible assumption); (case u9lb => with_reducible assumption); (case u9hu => first | ktr_units | ke_room))))
  (k_with "call type:range" => (k_here; refine Held.out ?_))
  trivial
local macro_rules | `(tactic| walk_at "exec For Name Call cons nil") => `(tactic| (k_here; (with_reducible rename Fr _ _ _ _ => kF); k_dflt (refine For_invTF kF ?_ (by intro _; with_unfolding_all rfl) ?_)))
theorem law_chain_calls (w : World) {aw dw st sa fl : Addr} {wes : List DictEntry} {wn n4 n nf k : Nat} {td : Tok} {sas vs : List Value} {ost : Obj} {f : PM} {gs : List PM} {tls : List (List (Str × Value))} {news : List (Addr × Obj)}
    (hw : (aw, instObj 76 dw) ∈ news) (hdw : (dw, dictOf wes wn) ∈ news) (hst : (st, ost) ∈ news) (hsa : (sa, listOf sas.toArray n4) ∈ news) (hfl : (fl, listOf vs.toArray n) ∈ news)
    (g1 : getL (Str.ofString "store") wes = some (some (.ref st))) (g2 : getL (Str.ofString "depth") wes = some (some (.int (tls.length : Int) td))) (g5 : getL (Str.ofString "aside") wes = some (some (.ref sa)))
    (ho : DR w ost f nf) (hs : (st == sysModules) = false) (hF : FrAt w k news vs gs) (hA : AsAt news sas tls) (hlen : gs.length = tls.length + 1) (hz : vs.length ≤ 6)
    (hc : ∀ i, i ≤ tls.length → hereN f tls i = dom5 (found (gs.take (tls.length + 1 - i)))) :
    Calls w 167 5 [.ref aw, .ref fl] news (fun r news' => r = .bool true ∧ news' = news) := by
  unfold Calls
  k_fill
  intro mean mg mb dp un gd cn cs a ccd cl outer A₀ base h₀ L m s Q E B F X N T hk hdp hun hret
  refine wpAny_call ?_
  k_dflt (refine' code_defC ?k1 ?k2 ?k3 ?k4 ?k5 ?kA ?kF ?kK ?k6 ?k7 ?k8 ?k9 ?kB ?kD ?_ ?c2 ?c3 ?c4; (case kA => exact rfl); (case kF => exact rfl); (case kK => assumption); (case k1 => k_asm); (case k2 => k_asm); (case k3 => k_asm); (case k4 => k_asm); (case k5 => k_asm); (case k6 => k_is); (case k7 => k_is); (case k8 => ktr_room); (case k9 => exact BindsTo.of_eq rfl); (case kB => exact rfl); (case kD => decide +kernel); (case c2 => exact rfl); (case c3 => exact rfl); (case c4 => exact rfl); k_whole; intro g' L' h' tk' cells' FG' F' N' Y' B' X' T' l1)
  obtain ⟨o1, o2, o3, hE1, d1, d2, d3⟩ := CellsAre.three Y'
  subst hE1
  (try simp only [List.cons_append, List.nil_append] at N')
  (try dsimp only)
  (try k_fold)
  clear Y'
  k_steps
  refine Held.mk ?_
  refine LCg.CompSrc.ledger (by rfl) (by k_asm) (by k_asm) (by k_mem) (by rw [List.size_toArray, sizeLine_eq]; ktr_rel) ?_
  intro g
  refine compRest_of (GoodW5 _ (fun x => (f x).getD none)) ?step ?fin _ 0 [] _ (Nat.zero_add _) (goodW5_nil _ _)
  case step =>
    intro i ys news₁ v I oI C oC D m₂ h tk E' hi hg hP hC hx F N off ne
    obtain ⟨newp, tl, rfl, hT, hS, hv, hf⟩ := hg
    obtain ⟨x, tx, hx9, rfl⟩ := words_at (StrsAre.cons _ _ (StrsAre.cons _ _ (StrsAre.cons _ _ (StrsAre.cons _ _ (StrsAre.cons _ _ StrsAre.nil))))) hP
    k_steps
    rename_i hv9 hd9 _ _ _ hN hl
    exact compEnd1 (by k_asm) hN off hl (.inr ⟨_, List.mem_cons_of_mem _ (List.mem_append_right _ List.mem_cons_self), rfl, _, rfl⟩) (goodW5_step hT hS hv hf hx9 hv9 hd9 hl.2.2.2)
  case fin =>
    rintro ys news₁ ⟨newp, tl, rfl, hT, hS, hv, hf⟩ D h tk F N off
    have off := off1_mem off
    dsimp only
    k_steps
    have hS : tmap tl = words5.map (fun x => (x, (f x).getD none)) := hS
    have htl : tl.length = 5 := by
      have := congrArg List.length hS
      unfold tmap at this
      simp only [List.length_map] at this
      exact this
    refine dictOfTups rfl F N (Top.nolimit (by k_asm)) List.mem_cons_self (hT.mono fun p hp => List.mem_cons_of_mem _ (List.mem_append_left _ hp)) hv (by rw [hT.length, htl]; decide) ?_
    rw [hS, setAll_dom5, htl]
    intro d9 h9 o9 tk9 F9 N9 l9 s9 hd9
    have N8 := newsSub (news := (d9, o9) :: _) N9 (memKeep fun p hp => List.mem_cons_of_mem _ (List.mem_append_right _ hp))
    have l8 := ltSub l9 fun p hp => List.mem_cons_of_mem _ (List.mem_append_right _ hp)
    clear N9 l9 N hT hf off F
    dsimp only
    k_steps
    rename_i lw _ l3 _ _ _ _ _ kF kN
    refine Held.mk ?_
    have hvl : vs.length = tls.length + 1 := hF.length.trans hlen
    have hsl : sas.length = tls.length := hA.length
    refine rangeDownT (JZ _ (Str.ofString "name") (Str.ofString "value") (fun i nw => ∃ oc od, nw = (d9, od) :: (lw, _) :: (L' + 1 + 1 + 1, oc) :: (L' + 1 + 1, o2) :: (L' + 1, o3) :: news ∧ (∃ cv, oc.data = .cell cv) ∧ (i ≤ tls.length → DR w od (hereN f tls i) (5 + 100 * i)))) rfl kF kN (by omega) (JZ.start ⟨o1, o9, rfl, ⟨_, d1⟩, fun _ => hd9⟩) ?stepL ?doneL
    case stepL =>
      intro i u m₁ news₁ s₁ own hi hJ hmap hown Fs Ns
      obtain ⟨⟨u', v', rfl⟩, oc, od, rfl, ⟨cv, hcv⟩, hdo'⟩ := id hJ
      have hdo := hdo' (by omega)
      obtain ⟨rest3, N5, hr3⟩ := regroup Ns
      have z1 : ∀ p ∈ rest3, p.1 ≠ d9 := by
        intro p hp
        rw [hr3] at hp
        rcases List.mem_append.mp hp with hp | hp
        · exact hown p hp (d9, o9) (by simp)
        · exact Nat.ne_of_lt (l8 p (by simp only [List.mem_cons] at hp ⊢; grind))
      have z2 : ∀ p ∈ rest3, p.1 ≠ L' + 1 + 1 + 1 := by
        intro p hp
        rw [hr3] at hp
        rcases List.mem_append.mp hp with hp | hp
        · exact hown p hp (L' + 1 + 1 + 1, o1) (by simp)
        · rcases List.mem_cons.mp hp with rfl | hp
          · exact Nat.ne_of_gt l3.1
          rcases List.mem_cons.mp hp with rfl | hp
          · exact Nat.ne_of_lt (Nat.lt_succ_self _)
          rcases List.mem_cons.mp hp with rfl | hp
          · exact Nat.ne_of_lt (Nat.lt_succ_of_lt (Nat.lt_succ_self _))
          · exact Nat.ne_of_lt (Nat.lt_succ_of_lt (Nat.lt_succ_of_lt (Nat.lt_succ_of_lt (l1 p hp))))
      have z3 : @Ne Nat d9 (L' + 1 + 1 + 1) := Nat.ne_of_gt (l8 (L' + 1 + 1 + 1, o1) (by simp))
      have m3 : ∀ p ∈ news, p ∈ rest3 := fun p hp => by rw [hr3]; simp [hp]
      have hw3 := m3 _ hw
      have hdw3 := m3 _ hdw
      have hst3 := m3 _ hst
      have hsa3 := m3 _ hsa
      have hfl3 := m3 _ hfl
      have k1 : (L' + 1, o3) ∈ rest3 := by rw [hr3]; simp
      have k2 : (L' + 1 + 1, o2) ∈ rest3 := by rw [hr3]; simp
      obtain ⟨lwo, k3, k4⟩ : ∃ ts : List Value, (lw, listOf ts.toArray 0) ∈ rest3 ∧ StrsAre ts words5 := by
        rw [hr3]
        exact ⟨_, List.mem_append_right _ List.mem_cons_self, .cons _ _ (.cons _ _ (.cons _ _ (.cons _ _ (.cons _ _ .nil))))⟩
      clear Ns
      have N5 : News g' L' s₁.heap ((L' + 1 + 1 + 1, oc) :: (d9, od) :: rest3) := N5
      have Fs : Fr g' L' s₁.heap _ := Fs
      have z4 : ∀ p ∈ (d9, od) :: rest3, p.1 ≠ L' + 1 + 1 + 1 := fun p hp => (List.mem_cons.mp hp).elim (fun e => e ▸ z3) (z2 p)
      have z5 : ∀ p ∈ rest3, p.1 ≠ d9 := z1
      k_steps
      rename_i ocN _ _ dN
      refine Held.mk ?_
      refine LCg.CompSrc.ledger (by rfl) (by k_asm) (by k_asm) (by k_mem) (by rw [List.size_toArray, sizeLine_eq, strsLen k4]; decide) ?_
      intro g2
      refine compRest_of (GoodW5 _ (found (gs.take (vs.length - i)))) ?step2 ?fin2 _ 0 [] _ (Nat.zero_add _) (goodW5_nil _ _)
      case step2 =>
        intro j ys news₂ v I oI C oC D m₂ h tk E' hj hg hP hC hx F N off ne
        obtain ⟨newp2, tl2, rfl, hT2, hS2, hv2, hf2⟩ := hg
        obtain ⟨x, tx, hx9, rfl⟩ := words_at k4 hP
        generalize hr4 : newp2 ++ (L' + 1 + 1 + 1, ocN) :: (d9, od) :: rest3 = rest4 at N off
        have m4 : ∀ p ∈ rest3, p ∈ rest4 := fun p hp => by rw [← hr4]; simp [hp]
        have j1 : (L' + 1 + 1 + 1, ocN) ∈ rest4 := by rw [← hr4]; simp
        have j2 := m4 _ k2
        have j3 := m4 _ hfl3
        have hF4 := (hF.take (((vs.length - i : Nat) : Int)).toNat).mono (fun p hp => m4 p (m3 p hp)) (Nat.le_refl k)
        k_steps
        rename_i r9 _ _ hv9 hd9' q9 _ _ N9' l9'
        rw [Int.toNat_natCast] at hd9'
        have k5 := m4 _ k3
        subst hr4
        refine compEnd1 (q := (q9, tupObj [Value.str x tx, r9])) (by k_asm) (newsSub N9' ?_) off ⟨l9'.2.1, l9'.2.2.1, l9'.2.2.2.1, l9'.2.2.2.2⟩ (.inr ⟨_, List.mem_cons_of_mem _ k5, rfl, _, rfl⟩) (goodW5_step hT2 hS2 hv2 hf2 hx9 hv9 hd9' l9'.2.2.2.2)
        intro p hp
        simp only [List.mem_cons] at hp ⊢
        grind
      case fin2 =>
        rintro ys news₂ ⟨newp2, tl2, rfl, hT2, hS2, hv2, hf2⟩ D2 h2 tk2 F2 N2 off2
        have hS2 : tmap tl2 = words5.map (fun x => (x, found (gs.take (vs.length - i)) x)) := by
          have e5 : lwo.toArray.size = 5 := by rw [List.size_toArray, strsLen k4]; rfl
          rw [e5] at hS2
          exact hS2
        have htl2 : tl2.length = 5 := by
          have := congrArg List.length hS2
          unfold tmap at this
          simp only [List.length_map] at this
          exact this
        dsimp only
        k_steps
        refine dictOfTups rfl F2 N2 (Top.nolimit (by k_asm)) List.mem_cons_self (hT2.mono fun p hp => List.mem_cons_of_mem _ (List.mem_append_left _ hp)) hv2 (by rw [hT2.length, htl2]; decide) ?_
        rw [hS2, setAll_dom5, htl2, hvl, ← hc i (by omega)]
        intro d6 h6 o6 tk6 F6 N6 l6 s6 hd6
        have N7 := newsSub (news := (d6, o6) :: _) N6 (memKeep fun p hp => List.mem_cons_of_mem _ (List.mem_append_right _ hp))
        have l7 := ltSub l6 fun p hp => List.mem_cons_of_mem _ (List.mem_append_right _ hp)
        clear N6 l6 N2 hT2 hf2 off2 F2
        dsimp only
        rcases Nat.lt_or_ge 1 (vs.length - i) with hgt | hgt
        · obtain ⟨D5, ys5, n5, tl5, hv5, hD5, hT5, hvo5, hy5, ht5⟩ : ∃ D ys n tl, sas[(((vs.length - i : Nat) : Int) - 2).toNat]? = some (.ref D) ∧ (D, listOf ys.toArray n) ∈ rest3 ∧ TupsAt rest3 ys tl ∧ (∀ e ∈ tl, VOk e.2) ∧ ys.length ≤ 100 ∧ tls[tls.length - 1 - i]? = some tl := by
            have e7 : (((vs.length - i : Nat) : Int) - 2).toNat = tls.length - 1 - i := by omega
            have e8 : tls.length - 1 - i < sas.length := by rw [hA.length]; omega
            obtain ⟨D, ys, n, tl, q1, q2, q3, q4, q5, q6⟩ := hA.get (List.getElem?_eq_getElem e8)
            rw [e7]
            exact ⟨D, ys, n, tl, by rw [List.getElem?_eq_getElem e8, q1], m3 _ q2, q3.mono m3, q4, q5, q6⟩
          k_steps
          rename_i c5 h5 F5 N5' l5 l55
          have N6 : News g' L' h5 ((c5, listOf ys5.reverse.toArray 0) :: (L' + 1 + 1 + 1, ocN) :: (d9, od) :: rest3) := newsSub N5' (memKeep fun p hp => List.mem_cons_of_mem _ hp)
          clear N5'
          refine iterT (JZ _ (Str.ofString "name") (Str.ofString "value") (fun j nw => ∃ o, nw = (c5, listOf ys5.reverse.toArray 0) :: (L' + 1 + 1 + 1, ocN) :: (d9, o) :: rest3 ∧ DR w o (setAll (hereN f tls i) ((undoL tl5).take j)) (5 + 100 * i + j))) rfl F5 N6 (by k_mem) (JZ.start ⟨_, rfl, hdo⟩) ?step5 ?done5
          case step5 =>
            intro j v m₁ news₁ s₂ own2 hv0 hJ2 hmap2 hown2 Fs2 Ns2
            obtain ⟨⟨u2, v2, rfl⟩, o, rfl, hdo2⟩ := id hJ2
            obtain ⟨a9, x9, t9, y9, rfl, hm9, hx9⟩ := hT5.rev.get (by simpa using hv0)
            have hvo : VOk y9 := hvo5 _ (List.mem_reverse.mp (List.mem_of_getElem? hx9))
            have zz : ∀ p ∈ own2 ++ (c5, listOf ys5.reverse.toArray 0) :: (L' + 1 + 1 + 1, ocN) :: rest3, p.1 ≠ d9 := by
              intro p hp
              simp only [List.mem_append, List.mem_cons] at hp
              rcases hp with hp | rfl | rfl | hp
              · intro e
                have := hown2 p hp (d9, od) (by simp) e
                rw [e] at this
                exact Nat.lt_irrefl _ (this ▸ l55.2.2.1)
              · exact Nat.ne_of_gt l55.2.2.1
              · exact z3.symm
              · exact z1 p hp
            have N7' : News g' L' s₂.heap ((d9, o) :: (own2 ++ (c5, listOf ys5.reverse.toArray 0) :: (L' + 1 + 1 + 1, ocN) :: rest3)) := newsSub Ns2 (by
              intro p hp; simp only [List.mem_append, List.mem_cons] at hp ⊢; grind)
            clear Ns2
            have k9 : (a9, tupObj [.str x9 t9, y9]) ∈ own2 ++ (c5, listOf ys5.reverse.toArray 0) :: (L' + 1 + 1 + 1, ocN) :: rest3 := by simp [hm9]
            generalize hr9 : own2 ++ (c5, listOf ys5.reverse.toArray 0) :: (L' + 1 + 1 + 1, ocN) :: rest3 = rest9 at zz N7' k9
            have hle : j < ys5.length := by have := (List.getElem?_eq_some_iff.mp hv0).1; simpa using this
            k_steps
            rename_i o7 F7 N7 hd7
            refine NEnd.intro (news' := (c5, _) :: (L' + 1 + 1 + 1, ocN) :: (d9, o7) :: rest3) F7 (newsSub N7 ?_) rfl (JZ.step hJ2 ⟨o7, rfl, ?_⟩)
            · intro p hp
              rw [← hr9]
              simp only [List.mem_append, List.mem_cons] at hp ⊢
              grind
            · rw [setAll_take (undoL_get hx9)]
              exact hd7
          case done5 =>
            intro h8 tk8 m8 news8 F8 N8' hmap8 hJ8
            obtain ⟨⟨u8, v8, rfl⟩, o8, rfl, hd8⟩ := hJ8
            have hd8 := DR.take (k := 5 + 100 * (i + 1)) hd8 (by rw [undoL_len, ← hT5.length]; simp) (by simp; omega)
            k_steps
            refine NEnd.intro (news' := (d9, o8) :: (lw, _) :: (L' + 1 + 1 + 1, ocN) :: (L' + 1 + 1, o2) :: (L' + 1, o3) :: news) F8 (newsSub N8' ?_) rfl (JZ.step hJ ⟨ocN, o8, rfl, ⟨_, dN⟩, fun _ => ?_⟩)
            · intro p hp
              rw [hr3]
              simp only [List.mem_append, List.mem_cons] at hp ⊢
              grind
            · have e : hereN f tls (i + 1) = setAll (hereN f tls i) (undoL tl5) := by rw [hereN, ht5]
              rw [e]; exact hd8
        · k_steps
          refine NEnd.intro (news' := (d9, od) :: (lw, _) :: (L' + 1 + 1 + 1, ocN) :: (L' + 1 + 1, o2) :: (L' + 1, o3) :: news) (by k_asm) (newsSub N7 ?_) rfl ⟨⟨_, _, rfl⟩, ocN, od, rfl, ⟨_, dN⟩, fun h => absurd h (by omega)⟩
          intro p hp
          rw [hr3]
          simp only [List.mem_append, List.mem_cons] at hp ⊢
          grind
    case doneL =>
      intro h5 tk5 m5 news5 F5 N5 hmap5 hJ5
      obtain ⟨⟨u5, v5, rfl⟩, oc5, od5, rfl, _, _⟩ := hJ5
      k_steps
      · have e1 : ((sas.length : Int) == (vs.length : Int) - 1) = true := by rw [beq_iff_eq]; omega
        rw [e1]
        exact hret _ news _ _ (by k_asm) (newsSub (by k_asm) (fun p hp => by simp [hp])) ⟨rfl, rfl⟩
      · have e1 : ((tls.length : Int) == (vs.length : Int) - 1) = true := by rw [beq_iff_eq]; omega
        rw [e1]
        exact hret _ news _ _ (by k_asm) (newsSub (by k_asm) (fun p hp => by simp [hp])) ⟨rfl, rfl⟩
end
theorem rg_13 : True := by
  k_with_none
  (k_with "own lt" => (first | (with_reducible assumption) | ((with_reducible refine Nat.lt_trans ?_ (by assumption)); k_extra "own lt") | exact And.left (by with_reducible assumption) | exact And.left (And.right (by with_reducible assumption)) | exact And.left (And.right (And.right (by with_reducible assumption))) | exact And.left (And.right (And.right (And.right (by with_reducible assumption)))) | exact And.left (And.right (And.right (And.right (And.right (by with_reducible assumption))))) | exact And.left (And.right (And.right (And.right (And.right (And.right (by with_reducible assumption)))))) | exact And.left (And.right (And.right (And.right (And.right (And.right (And.right (by with_reducible assumption))))))) | exact And.left (And.right (And.right (And.right (And.right (And.right (And.right (And.right (by with_reducible assumption)))))))) | exact And.left (And.right (And.right (And.right (And.right (And.right (And.right (And.right (And.right (by with_reducible assumption))))))))) | exact And.left (And.right (And.right (And.right (And.right (And.right (And.right (And.right (And.right (And.right (by with_reducible assumption)))))))))) | exact And.left (And.right (And.right (And.right (And.right (And.right (And.right (And.right (And.right (And.right (And.right (by with_reducible assumption))))))))))) | exact And.left (And.right (And.right (And.right (And.right (And.right (And.right (And.right (And.right (And.right (And.right (And.right (by with_reducible assumption)))))))))))) | exact And.left (And.right (And.right (And.right (And.right (And.right (And.right (And.right (And.right (And.right (And.right (And.right (And.right (by with_reducible assumption))))))))))))) | fail "own lt"))
  (k_with "own ne" => ((refine neN ?_); (try dsimp only); (first | exact Nat.ne_of_gt (by k_extra "own lt") | exact Nat.ne_of_lt (by k_extra "own lt") | fail "own ne")))
  (k_with "getAttr ref" => (k_here; k_dflt (refine' get_own ?u9k1 ?u9k2 ?u9k3 ?u9k4 ?u9k5 ?u9k6 ?u9k7 ?u9k8 ?u9k9 ?_; (case u9k1 => k_asm); (case u9k2 => k_asm); (case u9k3 => k_inst); (case u9k4 => k_is); (case u9k5 => k_is); (case u9k6 => k_is); (case u9k7 => k_is); (case u9k8 => with_reducible assumption); (case u9k9 => k_handed); k_whole)))
  (k_with "getMethod ref" => (k_here; (with_reducible show wpAny _ _ (getMethod (Value.ref _) (Str.ofString "get") _) _ _ _); k_dflt (refine' DR.method ?u9N ?u9m ?u9d ?_; (case u9N => k_asm); (case u9m => k_mem); (case u9d => with_reducible assumption))))
  (k_with "call builtin:dict.get" => ((k_here; k_dflt (refine' DR.get2 ?u9N ?u9m ?u9d ?u9l ?u9v ?_; (case u9N => k_asm); (case u9m => k_mem); (case u9d => with_reducible assumption); (case u9l => with_reducible assumption); (case u9v => first | exact VOk.str _ | with_reducible assumption)); intro r' hv' hd'); (revert r' hv' hd'; intros)))
  (k_with "compareOp In str ref" => (k_here; k_dflt (refine' DR.has ?u9N ?u9m ?u9d ?u9l ?_; (case u9N => k_asm); (case u9m => k_mem); (case u9d => with_reducible assumption); (case u9l => with_reducible assumption))))
  (k_with "setItem ref str" => ((k_here; k_dflt (refine' DR.set ?u9F ?u9N ?u9U ?u9d ?u9v ?u9z ?_; (case u9F => k_asm); (case u9N => k_asm); (case u9U => k_updF); (case u9d => with_reducible assumption); (case u9v => first | exact VOk.str _ | with_reducible assumption); (case u9z => omega)); intro h' o' F' N' hd'; (try dsimp only at N')); (revert h' o' F' N' hd'; intros)))
  (k_with "binaryOp Add ref ref" => ((k_here; k_dflt (refine' addL ?u9k1 ?u9k2 ?u9k3 ?u9k4 ?u9k5 ?_; (case u9k1 => k_asm); (case u9k2 => k_asm); (case u9k3 => k_mem); (case u9k4 => k_mem); (case u9k5 => ktr_rel); k_whole); intro c' h' F' N' l1; (have l2 := l1); (try k_lt l2)); (revert c' h' F' N' l1; intros)))
  (k_with "binaryOp Mult ref int" => ((k_here; k_dflt (refine' mul1 ?u9k1 ?u9k2 ?u9k3 ?u9k4 ?u9k5 ?_; (case u9k1 => k_asm); (case u9k2 => k_asm); (case u9k3 => k_mem); (case u9k4 => omega); (case u9k5 => omega); k_whole); intro c' h' F' N' l1; (have l2 := l1); (try k_lt l2)); (revert c' h' F' N' l1; intros)))
  (k_with "subscriptTail" => ((k_here; k_dflt (refine' sliceTo ?u9k1 ?u9k2 ?u9k3 ?u9k4 ?u9k5 ?_ ?u9k6; (case u9k1 => k_asm); (case u9k2 => k_asm); (case u9k3 => k_mem); (case u9k4 => omega); (case u9k5 => ktr_rel); (case u9k6 => with_unfolding_all rfl); k_whole); intro c' h' F' N' l1; (have l2 := l1); (try k_lt l2)); (revert c' h' F' N' l1; intros)))
  (k_with "subscriptTail" => ((k_here; k_dflt (refine' sliceFrom ?u9k1 ?u9k2 ?u9k3 ?u9k4 ?u9k5 ?_ ?u9k6; (case u9k1 => k_asm); (case u9k2 => k_asm); (case u9k3 => k_mem); (case u9k4 => omega); (case u9k5 => ktr_rel); (case u9k6 => with_unfolding_all rfl); k_whole); intro c' h' F' N' l1; (have l2 := l1); (try k_lt l2)); (revert c' h' F' N' l1; intros)))
  (k_with "subscriptTail" => ((k_here; k_dflt (refine' sliceRev ?u9k1 ?u9k2 ?u9k3 ?u9k5 ?_ ?u9k6; (case u9k1 => k_asm); (case u9k2 => k_asm); (case u9k3 => k_mem); (case u9k5 => ktr_rel); (case u9k6 => with_unfolding_all rfl); k_whole); intro c' h' F' N' l1; (have l2 := l1); (try k_lt l2)); (revert c' h' F' N' l1; intros)))
  (k_with "exec Assign cons ListComp" => (k_here; k_dflt (refine LCg.Assign_ListComp_U (F₀ := by k_asm) (by rfl) (by with_unfolding_all rfl) (by with_unfolding_all rfl) (by decide) (by rfl) (by decide) (by rfl) (by rfl) (by rfl) ?_)))
  (k_with "call builtin:list.append" => ((k_here; k_dflt (refine' appendL ?u9k1 ?u9k2 ?u9k3 ?u9k4 ?_; (case u9k1 => k_asm); (case u9k2 => k_asm); (case u9k3 => k_updF); (case u9k4 => ktr_rel)); intro h' F' N'; (try dsimp only at N')); (revert h' F' N'; intros)))
  (k_with "setAttr ref" => ((k_here; k_dflt (refine' setF ?u9k1 ?u9k2 ?u9k3 ?u9k4 ?u9k5 ?u9k6 ?u9k7 ?u9k8 ?u9k9 ?u9k10 ?u9k11 ?u9k12 ?_; (case u9k1 => k_asm); (case u9k2 => k_asm); (case u9k3 => k_asm); (case u9k4 => k_inst); (case u9k5 => exact rfl); (case u9k6 => k_is); (case u9k7 => k_is); (case u9k8 => k_is); (case u9k9 => k_is); (case u9k10 => with_reducible assumption); (case u9k11 => k_updF); (case u9k12 => with_reducible assumption)); intro es' n' h' hz' ho' hs' F' N'; (try dsimp only at N'); (try (have q' := (ho' (Str.ofString "store") (by decide)).trans (by with_reducible assumption))); (try (have q' := (ho' (Str.ofString "aside") (by decide)).trans (by with_reducible assumption)))); (revert es' n' h' hz' ho' hs' F' N'; intros)))
  (k_with "call builtin:len" => (k_here; (with_reducible show wpAny _ _ (call (Value.builtin "len") [Value.ref _]) _ _ _); k_dflt (refine' lenL ?u9N ?u9m ?u9z ?_; (case u9N => k_asm); (case u9m => k_mem); (case u9z => ktr_rel)); (try dsimp only)))
  (k_with "call builtin:list.pop" => ((k_here; (try dsimp only); k_dflt (refine' popL ?u9k1 ?u9k2 ?u9k3 ?u9k4 ?_; (case u9k1 => k_asm); (case u9k2 => k_asm); (case u9k3 => k_updF); (case u9k4 => ktr_rel)); intro h' F' N'; (try dsimp only at N')); (revert h' F' N'; intros)))
  (k_with "call ref" => ((k_here; (with_reducible show wpAny _ _ (call (Value.ref 87) _) _ _ _); k_dflt (refine' Calls.use (plain_var_calls _ ?u9a1 ?u9a2 ?u9a3 ?u9a4 ?u9a5 ?u9a6) ?u9B ?u9F ?u9X ?u9N ?u9T ?u9hk ?u9hd ?u9hu ?_; (case u9B => k_asm); (case u9F => k_asm); (case u9X => k_asm); (case u9N => k_asm); (case u9T => k_asm); (case u9hk => first | exact rfl | assumption); (case u9hd => ktr_room); (case u9hu => ktr_units); (case u9a1 => k_mem); (case u9a2 => k_mem); (case u9a4 => with_reducible assumption); (case u9a3 => k_mem); (case u9a5 => with_reducible assumption); (case u9a6 => with_reducible assumption)); (intro r' news' h' tk' F' N' hp'; obtain ⟨hn', hv', hd'⟩ := hp'; subst hn'; (try dsimp only))); (revert r' h' tk' F' N' hv' hd'; intros)))
  (k_with "call ref" => ((k_here; (with_reducible show wpAny _ _ (call (Value.ref 122) _) _ _ _); k_dflt (refine' Calls.use (own_names_calls _ ?u9a1 ?u9a2 ?u9a3 ?u9a4 ?u9a5 ?u9a6 ?u9a7 ?u9a8 ?u9a9) ?u9B ?u9F ?u9X ?u9N ?u9T ?u9hk ?u9hd ?u9hu ?_; (case u9B => k_asm); (case u9F => k_asm); (case u9X => k_asm); (case u9N => k_asm); (case u9T => k_asm); (case u9hk => first | exact rfl | assumption); (case u9hd => ktr_room); (case u9hu => ktr_units); (case u9a1 => k_mem); (case u9a2 => k_mem); (case u9a5 => with_reducible assumption); (case u9a6 => with_reducible assumption); (case u9a7 => with_reducible assumption); (case u9a3 => k_mem); (case u9a4 => k_mem); (case u9a8 => with_reducible assumption); (case u9a9 => with_reducible assumption)); (intro r' news' h' tk' F' N' hp'; obtain ⟨l', hr', hn', l1⟩ := hp'; subst hr' hn'; (have l2 := l1); (try k_lt l2); (try dsimp only))); (revert h' tk' F' N' l' l1; intros)))
  (k_with "call ref" => ((k_here; (with_reducible show wpAny _ _ (call (Value.ref 129) _) _ _ _); k_dflt (refine' Calls.use (filled_args_calls _ ?u9a1 ?u9a2 ?u9a3) ?u9B ?u9F ?u9X ?u9N ?u9T ?u9hk ?u9hd ?u9hu ?_; (case u9B => k_asm); (case u9F => k_asm); (case u9X => k_asm); (case u9N => k_asm); (case u9T => k_asm); (case u9hk => first | exact rfl | assumption); (case u9hd => ktr_room); (case u9hu => ktr_units); (case u9a1 => k_mem); (case u9a2 => ktr_rel); (case u9a3 => ktr_rel)); (intro r' news' h' tk' F' N' hp'; obtain ⟨l', u', hr', hn', l1⟩ := hp'; subst hr' hn'; (have l2 := l1); (try k_lt l2); (try dsimp only))); (revert h' tk' F' N' l' u' l1; intros)))
  (k_with "compareOp In str ref" => (k_here; k_dflt (refine' HasD.not ?u9N ?u9m ?u9d ?u9l ?u9p ?_; (case u9N => k_asm); (case u9m => k_mem); (case u9d => with_reducible assumption); (case u9l => with_reducible assumption); (case u9p => with_reducible assumption))))
  (k_with "subscriptTail" => ((k_here; (with_reducible refine' itemStr (ss := words5) ?u9k1 ?u9k3 ?u9k4 ?u9k5 ?u9k6 ?u9k7 ?_ ?u9k8); k_dflt ((case u9k1 => k_asm); (case u9k3 => k_mem); (case u9k4 => exact StrsAre.cons _ _ (StrsAre.cons _ _ (StrsAre.cons _ _ (StrsAre.cons _ _ (StrsAre.cons _ _ StrsAre.nil))))); (case u9k5 => with_reducible assumption); (case u9k6 => with_reducible assumption); (case u9k7 => decide); (case u9k8 => with_unfolding_all rfl); k_whole); intro x' t' e'); (revert x' t' e'; intros)))
  (k_with "subscriptTail" => (k_here; (with_reducible refine' itemRef ?u9k1 ?u9k3 ?u9k5 ?u9k7 ?u9k4 ?_ ?u9k8); k_dflt ((case u9k1 => k_asm); (case u9k3 => k_mem); (case u9k4 => with_reducible assumption); (case u9k5 => first | with_reducible assumption | omega); (case u9k7 => ktr_rel); (case u9k8 => with_unfolding_all rfl))))
  (k_with "eval Dict" => ((k_here; k_dflt (refine' kdn_eval (knd := PySem.strKind _ _) ?u9F ?u9N ?u9b ?u9a ?u9l ?u9e ?u9n ?_; (case u9F => k_asm); (case u9N => k_asm); (case u9b => exact Top.nolimit (by k_asm)); (case u9a => rfl); (case u9l => rfl); (case u9e => exact List.cons_ne_nil _ _); (case u9n => exact Nat.le_of_ble_eq_true rfl)); intro d' h' o' F' N' l1 lo' hd'; (have l2 := l1); (try k_lt l2)); (revert d' h' o' F' N' l1 lo' hd'; intros)))
  (k_with "KdnMade" => ((k_here; k_dflt (refine' made1 ?u9F ?u9N ?u9U ?u9d ?u9v ?_; (case u9F => k_asm); (case u9N => k_asm); (case u9U => k_updF); (case u9d => k_asm); (case u9v => first | exact VOk.str _ | with_reducible assumption)); intro h' o' F' N' hd'; (try dsimp only at N')); (revert h' o' F' N' hd'; intros)))
  (k_with "subscriptTail" => ((k_here; (with_reducible refine' itemPad ?u9k1 ?u9k3 ?u9k4 ?u9k5 ?u9k7 ?_ ?u9k8); k_dflt ((case u9k1 => k_asm); (case u9k3 => k_mem); (case u9k4 => with_reducible assumption); (case u9k5 => omega); (case u9k7 => omega); (case u9k8 => with_unfolding_all rfl)); intro r' hv' hd'); (revert r' hv' hd'; intros)))
  (k_with "call ref" => ((k_here; (with_reducible show wpAny _ _ (call (Value.ref 148) _) _ _ _); k_dflt (refine' Calls.use (law_names_calls _ ?u9a1) ?u9B ?u9F ?u9X ?u9N ?u9T ?u9hk ?u9hd ?u9hu ?_; (case u9B => k_asm); (case u9F => k_asm); (case u9X => k_asm); (case u9N => k_asm); (case u9T => k_asm); (case u9hk => first | exact rfl | assumption); (case u9hd => ktr_room); (case u9hu => ktr_units); (case u9a1 => with_reducible assumption)); (intro r' news' h' tk' F' N' hp'; obtain ⟨l', vs', hr', hn', l1, hS'⟩ := hp'; subst hr' hn'; (have l2 := l1); (try k_lt l2); (try dsimp only))); (revert h' tk' F' N' l' vs' l1 hS'; intros)))
  (k_with "compareOp In str ref" => (k_here; k_dflt (refine' DR.hasT ?u9N ?u9m ?u9d ?u9l ?u9p ?_; (case u9N => k_asm); (case u9m => k_mem); (case u9d => with_reducible assumption); (case u9l => with_reducible assumption); (case u9p => with_reducible assumption))))
  (k_with "compareOp In str ref" => (k_here; k_dflt (refine' DR.hasF ?u9N ?u9m ?u9d ?u9l ?u9p ?_; (case u9N => k_asm); (case u9m => k_mem); (case u9d => with_reducible assumption); (case u9l => with_reducible assumption); (case u9p => with_reducible assumption))))
  (k_with "subscriptTail" => ((k_here; (with_reducible refine' DR.item ?u9N ?u9m ?u9d ?u9p ?_ ?u9e); k_dflt ((case u9N => k_asm); (case u9m => k_mem); (case u9d => with_reducible assumption); (case u9p => with_reducible assumption); (case u9e => with_unfolding_all rfl)); intro r' hv' hd'); (revert r' hv' hd'; intros)))
  (k_with "call ref" => ((k_here; (with_reducible show wpAny _ _ (call (Value.ref 162) _) _ _ _); k_dflt (refine' Calls.use (law_found_calls _ ?u9a1 (FrAt.mono ?u9a0 (Nat.le_refl _) ?u9a2) ?u9a3) ?u9B ?u9F ?u9X ?u9N ?u9T ?u9hk ?u9hd ?u9hu ?_; (case u9B => k_asm); (case u9F => k_asm); (case u9X => k_asm); (case u9N => k_asm); (case u9T => k_asm); (case u9hk => first | exact rfl | assumption); (case u9hd => ktr_room); (case u9hu => ktr_units); (case u9a1 => k_mem); (case u9a2 => with_reducible assumption); (case u9a0 => tb_start); (case u9a3 => ktr_rel)); (intro r' news' h' tk' F' N' hp'; obtain ⟨hn', hv', hd'⟩ := hp'; subst hn'; (try dsimp only))); (revert r' h' tk' F' N' hv' hd'; intros)))
  trivial


theorem wt_exc : True := by
  w_top off
  trivial

/-! the stations of a raised object of which a predicate is to last (its class, its dict) -/
section
open PySem.Heap
/-- e flies, with what `P` says of it -/
def TrP (h base : Heap) (e : Addr) (P : Obj → Prop) (fl : Value) : Prop :=
  ∃ oe vs T oT ts, h.get? e = some oe ∧ P oe ∧ oe.data = .fields vs ∧ vs[1]? = some (.ref T) ∧ base.get? T = none ∧ T ≠ e ∧ h.get? T = some oT ∧ oT.data = .fields ts ∧ ts[3]? = some fl
def FlP (base : Heap) (l : List Env) (e : Addr) (P : Obj → Prop) (fl : Value) (h : Heap) : Prop :=
  base.StaysIn h ∧ base.get? e = none ∧ h.FunFrames base l ∧ TrP h base e P fl
variable {M : Model} {A : Around} {E : Value → Shared → Prop} {s : Shared} {P : Obj → Prop}

theorem entryP {base : Heap} {env : Env} {outer : List Env} {L e : Addr} {oe : Obj} {vs : Array Value} {head : Value} {hadNext : Bool} {Q : Unit → Shared → Prop} (hP : ∀ o f, P o → P (Obj.mapFields f o))
    (hfr : A.frames = some (env :: outer)) (hl : s.heap.FunFrames base (env :: outer)) (hf : env.frame = some L)
    (he : s.heap.get? e = some oe) (hkb : base.StaysIn s.heap) (hen : base.get? e = none) (hd : oe.data = .fields vs) (hsz : 1 < vs.size) (hp : P oe)
    (h : ∀ h', FlP base (env :: outer) e P (rawInt L) h' → s.heap.UpToSlots h' → Q () { s with heap := h' }) :
    wpAny M A (do let a ← frameOf env; let pl ← entryPlaceOf L hadNext; let b ← EntryCells.newEntry head a .none (rawInt L) .none pl; setField (.ref e) 1 b) Q E s := by
  have hene : e ∉ (env :: outer).filterMap (·.frame) := fun hm => by
    obtain ⟨_, o, ho, hnf⟩ := hl.mem hm
    rw [he] at ho; injection ho with ho; subst ho; exact hnf vs hd
  refine wpAny_bind (wpAny_frameOf_fun hfr hl hf fun h₁ hs₁ => ?_)
  refine wpAny_bind (wpAny_entryPlaceOf fun pl hpl => ?_)
  unfold EntryCells.newEntry newFields
  refine wpAny_bind (wpAny_newObj_type ?_ (hpl.sizeOk5 _ _ _ _ _))
  have he₁ : h₁.get? e = some oe := (hs₁.2.1 e hene).trans he
  have kb₁ : base.StaysIn h₁ := fun b o hbo => (hs₁.2.1 b fun hm => by rw [(hl.mem hm).1] at hbo; cases hbo).trans (hkb b o hbo)
  generalize hto : ({ cls := .type "traceback", dict := none, data := .fields ([head, .ref L, .none, rawInt L, .none] ++ (if pl.isEmpty then List.replicate 6 Value.none else pl)).toArray } : Obj) = oT
  have hoT : oT.data = .fields ([head, .ref L, .none, rawInt L, .none] ++ (if pl.isEmpty then List.replicate 6 Value.none else pl)).toArray := by rw [← hto]
  have h3T : ([head, .ref L, .none, rawInt L, .none] ++ (if pl.isEmpty then List.replicate 6 Value.none else pl)).toArray[3]? = some (rawInt L) := by
    first | (simp; done) | (rcases hpl with rfl | ⟨_, _, _, _, _, _, _, rfl⟩ <;> simp)
  have hfT : oT.isFreed = false := Obj.isFreed_of_fields hoT
  have he₂ := Heap.get?_push_of_some (h := h₁) oT he₁
  refine wpAny_setField he₂ hd hsz ?_
  have hTe : h₁.objs.size ≠ e := Nat.ne_of_gt (Heap.lt_size he₁)
  have hd₃ := Obj.data_mapFields hd (·.setIfInBounds 1 (Value.ref h₁.objs.size))
  have he₃ := Heap.get?_update_self (Obj.mapFields (·.setIfInBounds 1 (Value.ref h₁.objs.size))) he₂ (Obj.isFreed_of_fields hd₃)
  have hT₃ := (Heap.get?_update_other (h₁.push oT) (Obj.mapFields (·.setIfInBounds 1 (Value.ref h₁.objs.size))) (Ne.symm hTe)).trans (Heap.get?_push_size h₁ hfT)
  have keep : ∀ b o, b ≠ e → h₁.get? b = some o → ((h₁.push oT).update e (Obj.mapFields (·.setIfInBounds 1 (Value.ref h₁.objs.size)))).get? b = some o := fun b o hbe hb => by
    rw [Heap.get?_update_other _ _ (Ne.symm hbe)]
    exact Heap.get?_push_of_some _ hb
  have noRecord : ∀ b o, s.heap.get? b = some o → (∀ vs, o.data ≠ .fields vs) → b ≠ e := fun b o hb hnf q => by
    rw [q, he] at hb; injection hb with hb; subst hb; exact hnf vs hd
  refine h _ ⟨fun b o hbo => keep b o (fun q => by rw [q, hen] at hbo; cases hbo) (kb₁ b o hbo), hen, hl.of_keeps fun b o hb hnf => ?_, ⟨_, _, h₁.objs.size, _, _, he₃, hP _ _ hp, hd₃, by simp [hsz], kb₁.fresh, hTe, hT₃, hoT, h3T⟩⟩ fun b o hb hnf => ?_
  · obtain ⟨sl, hs⟩ := hs₁.2.2 b o hb
    exact ⟨_, keep b _ (noRecord b o hb hnf) hs, rfl⟩
  · obtain ⟨sl, hs⟩ := hs₁.2.2 b o hb
    exact ⟨sl, keep b _ (noRecord b o hb hnf) hs⟩

theorem flightP {base : Heap} {l : List Env} {e : Addr} {fl : Value} {Q : Unit → Shared → Prop} (R : FlP base l e P fl s.heap)
    (h : ∀ h', FlP base l e P .none h' → s.heap.UpToSlots h' → Q () { s with heap := h' }) :
    wpAny M A (setFlight (.ref e) none) Q E s := by
  obtain ⟨hkb, hen, hl, oe, vs, T, oT, ts, he, hp, hd, h1, hnT, hTe, hT, hdT, h3⟩ := R
  have hsz3 : 3 < ts.size := (Array.getElem?_eq_some_iff.mp h3).1
  have other : ∀ b, b ≠ T → (s.heap.update T (Obj.mapFields (·.setIfInBounds 3 ((none : Option Addr).elim Value.none fun f => rawInt f)))).get? b = s.heap.get? b :=
    fun b hb => Heap.get?_update_other _ _ (Ne.symm hb)
  have noRecord : ∀ b o, s.heap.get? b = some o → (∀ vs, o.data ≠ .fields vs) → b ≠ T := fun b o hb hnf q => by
    rw [q, hT] at hb; injection hb with hb; subst hb; exact hnf ts hdT
  unfold setFlight
  refine wpAny_bind (wpAny_field he hd h1 ?_)
  rw [if_pos (show (Value.ref T != Value.none) = true from by simp)]
  refine wpAny_setField hT hdT hsz3 (h _ ⟨fun b o hbo => (other b fun q => by rw [q, hnT] at hbo; cases hbo).trans (hkb b o hbo), hen,
    hl.of_keeps fun b o hb hnf => ⟨o, (other b (noRecord b o hb hnf)).trans hb, rfl⟩, ?_⟩ fun b o hb hnf => ⟨o.slots, (other b (noRecord b o hb hnf)).trans hb⟩)
  exact ⟨oe, vs, T, _, _, (other e (Ne.symm hTe)).trans he, hp, hd, h1, hnT, hTe, Heap.get?_update_self _ hT (Obj.isFreed_of_fields (Obj.data_mapFields hdT _)), Obj.data_mapFields hdT _, by simp [hsz3]⟩

theorem leavesP {base : Heap} {env : Env} {outer : List Env} {L e : Addr} {oe : Obj} {vs : Array Value} {Q : Unit → Shared → Prop} (hP : ∀ o f, P o → P (Obj.mapFields f o))
    (hfr : A.frames = some (env :: outer)) (hl : s.heap.FunFrames base (env :: outer)) (hf : env.frame = some L)
    (he : s.heap.get? e = some oe) (hkb : base.StaysIn s.heap) (hen : base.get? e = none) (hd : oe.data = .fields vs) (h1 : vs[1]? = some .none) (hp : P oe)
    (h : ∀ h', FlP base outer e P .none h' → s.heap.UpToSlots h' → Q () { s with heap := h' }) : wpAny M A (leaving env (.ref e)) Q E s := by
  unfold leaving noteFrame
  simp only [hf]
  refine wpAny_bind (wpAny_bind (wpAny_field he hd h1 ?_))
  rw [if_neg (by decide)]
  refine entryP hP hfr hl hf he hkb hen hd (Array.getElem?_eq_some_iff.mp h1).1 hp fun h₁ R₁ u₁ => ?_
  refine flightP R₁ fun h₂ R₂ u₂ => ?_
  obtain ⟨k1, k2, ⟨_, _, k3⟩, k4⟩ := R₂
  exact h h₂ ⟨k1, k2, k3, k4⟩ (u₁.trans u₂)

theorem looksP {base : Heap} {env : Env} {outer : List Env} {L e : Addr} {Q : Unit → Shared → Prop} (hP : ∀ o f, P o → P (Obj.mapFields f o))
    (hfr : A.frames = some (env :: outer)) (hf : env.frame = some L) (R : FlP base (env :: outer) e P .none s.heap)
    (h : ∀ h', FlP base (env :: outer) e P (rawInt L) h' → s.heap.UpToSlots h' → Q () { s with heap := h' }) : wpAny M A (noteFrame (.ref e) env) Q E s := by
  obtain ⟨hkb, hen, hl, oe, vs, T, oT, ts, he, hp, hd, h1, hnT, hTe, hT, hdT, h3⟩ := R
  unfold noteFrame
  simp only [hf]
  refine wpAny_bind (wpAny_field he hd h1 ?_)
  rw [if_pos (show (Value.ref T != Value.none) = true from by simp)]
  refine wpAny_bind (wpAny_field hT hdT h3 ?_)
  rw [if_neg (show ¬ ((Value.none == rawInt L) = true) from by simp [rawInt])]
  refine wpAny_bind (wpAny_setField hT hdT (Array.getElem?_eq_some_iff.mp h3).1 ?_)
  have other : ∀ b, b ≠ T → (s.heap.update T (Obj.mapFields (·.setIfInBounds 3 Value.none))).get? b = s.heap.get? b := fun b hb => Heap.get?_update_other _ _ (Ne.symm hb)
  have noRecord : ∀ b o, s.heap.get? b = some o → (∀ vs, o.data ≠ .fields vs) → b ≠ T := fun b o hb hnf q => by
    rw [q, hT] at hb; injection hb with hb; subst hb; exact hnf ts hdT
  refine entryP hP hfr (hl.of_keeps fun b o hb hnf => ⟨o, (other b (noRecord b o hb hnf)).trans hb, rfl⟩) hf ((other e (Ne.symm hTe)).trans he)
    (fun b o hbo => (other b fun q => by rw [q, hnT] at hbo; cases hbo).trans (hkb b o hbo)) hen hd (Array.getElem?_eq_some_iff.mp h1).1 hp fun h' R' u => h h' R' fun b o hb hnf => u b o ((other b (noRecord b o hb hnf)).trans hb) hnf

/-- what an own exception with a dict has -/
def ExcIs (C dd : Addr) (o : Obj) : Prop := o.cls = .ref C ∧ o.dict = some dd
theorem ExcIs.keep {C dd : Addr} (o : Obj) (f : Array Value → Array Value) (h : ExcIs C dd o) : ExcIs C dd (Obj.mapFields f o) := by
  obtain ⟨c, d, dt, sl⟩ := o
  cases dt <;> exact h
/-- what stands where a raised own exception comes to the frame of a try -/
def RaisedD (base : Heap) (l : List Env) (e C dd : Addr) (news : List (Addr × Obj)) (h : Heap) : Prop :=
  ∃ B, base.StaysIn B ∧ (∀ q ∈ news, B.get? q.1 = some q.2 ∧ base.get? q.1 = none) ∧ FlP B l e (ExcIs C dd) .none h
end

section
variable {M : Model} {A : Around} {E : Value → Shared → Prop} {s : Shared} {base g : Heap} {env : Env} {outer : List Env} {L e tp dd C : Addr} {m : Str → Option Value} {news news' : List (Addr × Obj)} {Q : Unit → Shared → Prop}
theorem leave_raiseD (K : Below A base outer g) (F : Fr g L s.heap m) (N : News g L s.heap news) (he : (e, ({ cls := .ref C, dict := some dd, data := .fields #[.ref tp, .none, .none, .none, .bool false, .none] } : Obj)) ∈ news)
    (hs : ∀ p ∈ news', p ∈ news) (hne : ∀ p ∈ news', p.1 ≠ e) (hk : env.scope.kind = .function) (hf : env.frame = some L)
    (hQ : ∀ h', RaisedD base outer e C dd news' h' → g.UpToSlots h' → Q () { s with heap := h' }) :
    wpAny M (A.deeper env) (leaving env (.ref e)) Q E s := by
  obtain ⟨oL, esL, epL, hL, hLd, _⟩ := F.ns
  have hfr : (A.deeper env).frames = some (env :: outer) := by show A.frames.map _ = _; rw [K.stack]; rfl
  have hbL : base.get? L = none := by
    cases q : base.get? L with
    | none => rfl
    | some o => exact absurd (Nat.lt_of_lt_of_le (Heap.lt_size (K.stays _ _ q)) F.above) (Nat.lt_irrefl _)
  have fr : s.heap.FunFrames base (env :: outer) := ⟨by rw [hk]; decide, ⟨L, oL, hf, hbL, hL, fun vs q => by rw [hLd] at q; cases q⟩, K.frames.of_keeps fun b o q _ => ⟨o, F.keep b o q, rfl⟩⟩
  have st : base.StaysIn s.heap := fun b o q => F.keep b o (K.stays b o q)
  generalize hfs : (env :: outer).filterMap (·.frame) = fs
  have hbe : base.get? e = none := fresh_of_stays K.stays (N _ he).2.2
  have hBs : base.StaysIn (hideAll s.heap (e :: fs)) := fun b o q => hideAll_get _ (st b o q) fun hm => by
    rcases List.mem_cons.mp hm with z | hm
    · rw [z, hbe] at q; cases q
    · rw [← hfs] at hm
      rw [(fr.mem hm).1] at q; cases q
  have hin : ∀ env' ∈ (env :: outer), ∀ b, env'.frame = some b → b ∈ e :: fs := fun env' he' b hb => List.mem_cons_of_mem _ (hfs ▸ List.mem_filterMap.mpr ⟨env', he', hb⟩)
  have fr2 : s.heap.FunFrames (hideAll s.heap (e :: fs)) (env :: outer) := by
    have key : ∀ l : List Env, s.heap.FunFrames base l → (∀ env' ∈ l, ∀ b, env'.frame = some b → b ∈ e :: fs) → s.heap.FunFrames (hideAll s.heap (e :: fs)) l := by
      intro l
      induction l with
      | nil => exact fun _ _ => trivial
      | cons x r ih => exact fun ⟨h1, ⟨L', o, h2, _, h3, h4⟩, h5⟩ h6 => ⟨h1, ⟨L', o, h2, hideAll_none _ (h6 x List.mem_cons_self L' h2), h3, h4⟩, ih h5 fun y hy => h6 y (List.mem_cons_of_mem _ hy)⟩
    exact key _ fr hin
  have hl : ∀ q ∈ news', (hideAll s.heap (e :: fs)).get? q.1 = some q.2 ∧ base.get? q.1 = none := fun q hq => by
    refine ⟨hideAll_get _ (N q (hs q hq)).1 fun hm => ?_, fresh_of_stays K.stays (N q (hs q hq)).2.2⟩
    rcases List.mem_cons.mp hm with z | hm
    · exact hne q hq z
    · rw [← hfs] at hm
      obtain ⟨env', he', hf'⟩ := List.mem_filterMap.mp hm
      rcases List.mem_cons.mp he' with rfl | he'
      · rw [hf] at hf'
        exact (N q (hs q hq)).2.1 (Option.some.inj hf').symm
      · obtain ⟨o, ho, _⟩ := (K.frames.mem (List.mem_filterMap.mpr ⟨env', he', hf'⟩)).2
        rw [(N q (hs q hq)).2.2] at ho; cases ho
  refine leavesP (P := ExcIs C dd) ExcIs.keep hfr fr2 hf (N _ he).1 (fun b o q => of_hideAll _ q) (hideAll_none _ List.mem_cons_self) rfl rfl ⟨rfl, rfl⟩ fun h' R u => ?_
  exact hQ h' ⟨_, hBs, hl, R⟩ ((Heap.UpToSlots.of_keeps F.keep).trans u)
end


theorem wt_snob : True := by
  w_top off
  trivial


section
variable {prog : Program} {w : World} {A : Around} {R : Result → Shared → Prop} {h : Heap} {g : Array GenState} {d : Drawn} {t : Nat} {os : OsState}
  {nm q : Str} {C N fI : Addr} {bs bm : List Value} {hdct : Bool} {sn : List Str} {sub : List Value} {ab : Bool} {col : Option Bool} {cdd : Option Addr} {k0 k1 k2 k3 k5 : Option Value} {B newId initId : String}
abbrev excObj (C tp : Addr) (dd : Option Addr) : Obj := { cls := .ref C, dict := dd, data := .fields #[.ref tp, .none, .none, .none, .bool false, .none] }
/-- an own exception class with an `__init__` of its own is called: made, then its `__init__` -/
theorem exc_make (FE : ExcBaseFacts B newId initId bm) {rest : List Value} (hC : h.get? C = some (excClassObj nm q C N bs bm hdct sn sub ab col cdd k0 k1 k2 k3 k5 newId))
    (hi : Looks (model prog w) h (typeLookup (.ref C) "__init__") (some (.ref fI))) (hb : ∀ self, Looks (model prog w) h (bindSpecial (.ref fI) self) (.ref fI, [self])) (hrest : rest.length ≤ sizeLine)
    (hq : codeAny (model prog w) (A.under (.builtin "type.__call__" ⟨.ref C :: rest, []⟩)) (.call (.ref fI) ⟨.ref (h.objs.size + 1) :: rest, []⟩) (InitBack (h.objs.size + 1) R)
      ⟨(h.push (tupObj rest)).push (excObj C h.objs.size none), g, d, t, os⟩) :
    codeAny (model prog w) A (.call (.ref C) ⟨rest, []⟩) R ⟨h, g, d, t, os⟩ := by
  have f1 := tc_lookup
  have f2 := tc_bind (.ref C)
  have hT : (⟨h, g, d, t, os⟩ : Shared).TypeIs (.ref C) "type" := ⟨_, hC, rfl⟩
  refine codeAny_of_tree ?_
  show wpAny _ _ (callAny (.ref C) _) _ _ _
  repeat (any_goals (first | assumption | with_reducible refine wpAny_loadPart_at hC ?_ | wp_step))
  refine ⟨rfl, ?_⟩
  refine codeAny_call_builtin_at (Code.quiet_builtin _ (by decide +kernel)) entry_typeCall (wpAny_check_type_call_sub hC ?_)
  repeat (first | with_reducible refine wpAny_loadPart_at hC ?_ | with_reducible refine wpAny_madeBy_exc hC ?_ | wp_step)
  refine codeAny_call_builtin_code (Code.quiet_builtin _ FE.quiet) (wpAny_check_new_sub FE hC ?_)
  refine codeAny_exc_new_sub FE hC ?_ hrest
  show wpAny _ _ _ _ _ _
  have k : ∀ b o, h.get? b = some o → ((h.push (tupObj rest)).push (excObj C h.objs.size none)).get? b = some o := fun b o e => Heap.get?_push_of_some _ (Heap.get?_push_of_some _ e)
  have hC₁ := k _ _ hC
  have hget : ((h.push (tupObj rest)).push (excObj C h.objs.size none)).get? (h.objs.size + 1) = some (excObj C h.objs.size none) := by heap_get
  have hcC : (Value.ref C :: bm).contains (.ref C) = true := by simp
  have i1 := hi.keeps k
  have b1 := (hb (.ref (h.objs.size + 1))).keeps k
  have t1 : Looks (model prog w) ((h.push (tupObj rest)).push (excObj C h.objs.size none)) (typeOf (.ref (h.objs.size + 1))) (.ref C) := (Looks.ld hget).andThen .now
  have s1 : Looks (model prog w) ((h.push (tupObj rest)).push (excObj C h.objs.size none)) (isSubtype (.ref C) (.ref C)) true := fun A Q E s k q => by
    obtain ⟨hp, g, d, tk, os⟩ := s
    exact wpAny_isSubtype_exc (k _ _ hC₁) (by rw [hcC]; exact q)
  show wpAny _ _ _ _ _ ⟨(h.push (tupObj rest)).push (excObj C h.objs.size none), g, d, t, os⟩
  unfold isInstance callSpecial? specialOf
  repeat (first | with_reducible refine wpAny_call ?_ | lk)
  refine codeAny_mono hq fun r s' z => ?_
  rcases r with e | (v | _ | _ | _) <;> first | exact z | exact z.elim | skip
  obtain ⟨rfl, z⟩ := z
  exact wpAny_pure (wpAny_pure z)
end

section
abbrev mwObj (id : String) (e : Addr) : Obj := { cls := .type "method-wrapper", data := .fields #[.builtin id, .ref e] }
def c34 (K : Frag) : Bool := match K.lookup 34 with
  | some ⟨.type "type", _, .cls cd, sl⟩ => (match cd.mro, sl.toList with
    | .ref C' :: bm, [_, _, _, _, some (.builtin n), _] => C' == 34 && !cd.hasDel && bm == [.type "Exception", .type "BaseException", .type "object"] && n == "Exception.__new__"
    | _, _ => false)
  | _ => false
theorem c34_ok (P : Params) : c34 (hd.heap_39 P) = true := by kernel_rfl
theorem cls_34 {K : Frag} {h : Heap} (X : K.In h) (q : c34 K = true) : ∃ nm qn N bs hdct sn sub ab col dd k0 k1 k2 k3 k5,
    h.get? 34 = some (excClassObj nm qn 34 N bs [.type "Exception", .type "BaseException", .type "object"] hdct sn sub ab col dd k0 k1 k2 k3 k5 "Exception.__new__") := by
  unfold c34 at q
  split at q
  · rename_i dd cd sl ho
    split at q
    · rename_i C' bm k0 k1 k2 k3 n k5 hm hs
      simp only [Bool.and_eq_true, beq_iff_eq, Bool.not_eq_true'] at q
      obtain ⟨⟨⟨rfl, hdel⟩, rfl⟩, rfl⟩ := q
      obtain ⟨nm, bs, mro, ns, qn, hd, sn, sub, ab, col, del⟩ := cd
      dsimp only at hm hdel
      subst hm hdel
      have hsl : sl = #[k0, k1, k2, k3, some (.builtin "Exception.__new__"), k5] := by
        obtain ⟨l⟩ := sl
        simp only at hs
        rw [hs]
      subst hsl
      exact ⟨nm, qn, ns, bs, hd, sn, sub, ab, col, dd, k0, k1, k2, k3, k5, X _ _ ho⟩
    · cases q
  · cases q
theorem wd_type : typeOf (.builtin "Exception.__init__") = pure (.type "wrapper_descriptor") := by kernel_rfl
theorem wd_slot : Slot "wrapper_descriptor" "__get__" "wrapper_descriptor.__get__" :=
  .of (owner := "wrapper_descriptor") (n := "__get__") (by rw [typeLookup_type, builtinLookup_eq_fast]; kernel_rfl) (by decide +kernel) (by decide +kernel) (by decide +kernel)
    (by first | exact .inl (by decide +kernel) | exact .inr (by decide +kernel)) (by rw [isSubtype_type]; kernel_rfl)
theorem wd_entry : entryFor table "wrapper_descriptor.__get__" = some Builtin.«wrapper_descriptor.__get__» := entryFor_of_tree (by kernel_rfl)
theorem wd_args (a b c : Value) : argsOk "wrapper_descriptor.__get__" ⟨[a, b, c], []⟩ := by unfold argsOk; kernel_rfl
theorem wd_owner : (".".intercalate ("Exception.__init__".cutAt '.').dropLast) = "Exception" := by
  have e0 : "Exception.__init__".cutAt '.' = ["Exception", "__init__"] := by first | rfl | decide +kernel
  rw [e0]; decide +kernel
theorem wrap_get (w : World) {A : Around} {s : Shared} {e tp : Addr} {E : Value → Shared → Prop} (KX : (hd.heap_39 w.params).In s.heap) (he : s.heap.get? e = some (excObj 34 tp none)) :
    wpAny (model PySem.Challenge.rw_sj0188_01.row.prog w) A (call (.builtin "wrapper_descriptor.__get__") [.builtin "Exception.__init__", .ref e, .ref 34])
      (fun v s' => ∃ h' tk q, v = .ref q ∧ s' = { s with heap := h', toks := tk } ∧ (∀ b o, s.heap.get? b = some o → h'.get? b = some o) ∧ s.heap.get? q = none ∧ h'.get? q = some (mwObj "Exception.__init__" e)) E s := by
  obtain ⟨h, g, d, t, os⟩ := s
  obtain ⟨_, _, _, _, _, _, _, _, _, _, _, _, _, _, _, hC⟩ := cls_34 KX (c34_ok _)
  have hT5 : (⟨h, g, d, t, os⟩ : Shared).TypeIs (.builtin "Exception.__init__") "wrapper_descriptor" := wd_type
  have hcB : (Value.ref 34 :: [.type "Exception", .type "BaseException", .type "object"]).contains (.type (".".intercalate ("Exception.__init__".cutAt '.').dropLast)) = true := by
    rw [wd_owner]; decide +kernel
  refine wpAny_call (codeAny_call_builtin wd_slot.plain wd_entry (wd_slot.check _ _ _ _ _ _ _ _ hT5 (wd_args _ _ _) ?_))
  repeat (any_goals (first | assumption | (with_reducible refine wpAny_loadPart_at he ?_) | (with_reducible refine wpAny_isSubtype_exc hC ?_; rw [hcB]) | wp_step))
  exact ⟨_, _, _, rfl, rfl, fun b o e => Heap.get?_push_of_some _ e, Heap.get?_none_of_le (Nat.le_refl _), Heap.get?_push_size _ rfl⟩
end

section
theorem wd_lookup : typeLookup (.type "wrapper_descriptor") "__get__" = pure (some (.builtin "wrapper_descriptor.__get__")) := by rw [typeLookup_type, builtinLookup_eq_fast]; kernel_rfl
theorem along_init (P : Params) : alongIn (hd.heap_39 P) "__init__" [.type "Exception", .type "BaseException", .type "object"] = some (some (.builtin "Exception.__init__")) := by kernel_rfl
theorem no_third (P : Params) : nsIn (hd.heap_39 P) cStatics "thirdparty.any" = some none := by kernel_rfl
theorem mro_34 (P : Params) : (clsIn (hd.heap_39 P) 34).map (·.mro) = some [.ref 34, .type "Exception", .type "BaseException", .type "object"] := by kernel_rfl
section
variable {prog : Program} {w : World} {A : Around} {E : Value → Shared → Prop} {h : Heap} {g : Array GenState} {d : Drawn} {t : Nat} {os : OsState}
theorem superB_ga {so D x C : Addr} {l₀ l : List Value} {K : Frag} {name : Str} {tk : Tok} {id : String} {Q : PySem.Fin → Shared → Prop}
    (hso : h.get? so = some (ks_superObj D x C)) (hno : Looks (model prog w) h (opaqueClassAbove (.ref C)) none)
    (hC : Looks (model prog w) h (mroOf (.ref C)) l₀) (hl : (l₀.dropWhile (· != .ref D)).drop 1 = l) (X : K.In h)
    (hf : alongIn K name l = some (some (.builtin id))) (hty : typeOf (.builtin id) = pure (.type "wrapper_descriptor")) (hxC : x ≠ C) (hn : (name == ("__class__" : Str)) = false)
    (hq : ∀ {A' : Around} {E' : Value → Shared → Prop} {Q' : Value → Shared → Prop}, (∀ v s', Q (.done (.ret v)) s' → Q' v s') → wpAny (model prog w) A' (call (.builtin "wrapper_descriptor.__get__") [.builtin id, .ref x, .ref C]) Q' E' ⟨h, g, d, t, os⟩) :
    wpAny (model prog w) A (Builtin.«super.__getattribute__» ⟨[.ref so, .str name tk], []⟩) Q E ⟨h, g, d, t, os⟩ := by
  have hlk := wd_lookup
  have hne : (Value.ref x == Value.ref C) = false := by simp [hxC]
  have hdt : (ks_superObj D x C).data = .fields #[.ref D, .ref x, .ref C] := rfl
  have f0 : (#[.ref D, .ref x, .ref C] : Array Value)[0]? = some (.ref D) := rfl
  have f1 : (#[.ref D, .ref x, .ref C] : Array Value)[1]? = some (.ref x) := rfl
  have f2 : (#[.ref D, .ref x, .ref C] : Array Value)[2]? = some (.ref C) := rfl
  unfold Builtin.«super.__getattribute__»
  repeat (first
    | (with_reducible refine wpAny_field hso hdt f0 ?_) | (with_reducible refine wpAny_field hso hdt f1 ?_) | (with_reducible refine wpAny_field hso hdt f2 ?_)
    | (with_reducible refine ks_wpAny_notOpaque hno ?_)
    | (with_reducible refine Looks.at hC ?_; rw [hl])
    | (refine ks_forIn_along X (fun _ _ => rfl) rfl ?_ hf)
    | (simp only [hn, hne, Bool.or_false, Bool.false_eq_true, if_false])
    | (with_reducible refine hq ?_)
    | wp_step
    | dsimp only)
  all_goals (intro v s' z; exact wpAny_bind (wpAny_pure (wpAny_pure (wpAny_pure z))))
/-- what `super().__init__` of the own exception is: a bound wrapper -/
def GotMw (s₀ : Shared) (x : Addr) (v : Value) (s' : Shared) : Prop :=
  ∃ h' tk q, v = .ref q ∧ s' = { s₀ with heap := h', toks := tk } ∧ (∀ b o, s₀.heap.get? b = some o → h'.get? b = some o) ∧ s₀.heap.get? q = none ∧ h'.get? q = some (mwObj "Exception.__init__" x)
theorem superB_method {so x tp : Addr} {pl : Sem Bool} {Q : Value × List Value → Shared → Prop} (X : (hd.heap_39 w.params).In h)
    (hso : h.get? so = some (ks_superObj 34 x 34)) (hx : h.get? x = some (excObj 34 tp none)) (hxC : x ≠ 34)
    (hq : ∀ v s', GotMw ⟨h, g, d, t + 1, os⟩ x v s' → Q (v, []) s') :
    wpAny (model PySem.Challenge.rw_sj0188_01.row.prog w) A (getMethod (.ref so) "__init__" pl) Q E ⟨h, g, d, t, os⟩ := by
  have hno : Looks (model PySem.Challenge.rw_sj0188_01.row.prog w) h (opaqueClassAbove (.ref 34)) none := looks_opaque X (no_third _)
  have hC : Looks (model PySem.Challenge.rw_sj0188_01.row.prog w) h (mroOf (.ref 34)) [.ref 34, .type "Exception", .type "BaseException", .type "object"] := by
    obtain ⟨cd, hc, hm⟩ := Option.map_eq_some_iff.mp (mro_34 w.params)
    exact fun A Q E s k q => wpAny_bind ((looks_clsIn X hc) A _ E s k (wpAny_pure (by rw [hm]; exact q)))
  have hl : ([.ref 34, .type "Exception", .type "BaseException", .type "object"].dropWhile (· != Value.ref 34)).drop 1 = [.type "Exception", .type "BaseException", .type "object"] := by decide +kernel
  have hlk := PySem.F.ks_slot_super_ga.lookup
  have hcan := PySem.F.ks_canon_super_ga
  have hT : ∀ t', (⟨h, g, d, t', os⟩ : Shared).TypeIs (.ref so) "super" := fun _ => ⟨_, hso, rfl⟩
  unfold getMethod
  refine wpAny_bind (wpAny_specialOf (hT _) hlk ?_)
  show wpAny _ _ (if (Manifest.canonical "super.__getattribute__" != "object.__getattribute__") = true then _ else _) _ _ _
  rw [if_pos hcan]
  unfold getAttr getAttrBy
  refine wpAny_bind (wpAny_bind (wpAny_mkText (wpAny_holding (wpAny_bind (wpAny_typeOf (hT _) (wpAny_bind (wpAny_of_eq hlk ?_)))))))
  show wpAny _ _ (getAttrByItsOwn (.ref so) (.str "__init__" t) (.type "super") (.builtin "super.__getattribute__") true false) _ _ _
  unfold getAttrByItsOwn hookBefore callGetattribute boundAndCalled
  refine wpAny_bind (wpAny_of_eq (show (if onTheHeap (.type "super") then typeLookup (.type "super") "__getattr__" else pure none) = pure none from rfl) ?_)
  refine wpAny_bind (wpAny_attempt (wpAny_holding ?_))
  show wpAny _ _ (bindSpecial (.builtin "super.__getattribute__") (.ref so) >>= _) _ _ _
  refine wpAny_bind (wpAny_of_eq (PySem.F.ks_slot_super_ga.bind _) ?_)
  refine wpAny_mono (Q := GotMw ⟨h, g, d, t + 1, os⟩ x) (E := fun _ _ => False)
    (wpAny_call_entry PySem.F.ks_slot_super_ga (hT _) PySem.F.ks_entry_super_ga (superB_ga hso hno hC hl X (along_init _) wd_type hxC (by decide) ?_) (PySem.F.ks_gaArgs_super _ _)) (fun v s' hv => by obtain ⟨h', tk, q, rfl, r⟩ := hv; exact wpAny_pure (wpAny_pure (hq _ s' ⟨h', tk, q, rfl, r⟩))) fun _ _ z => z.elim
  intro A' E' Q' k
  refine wpAny_mono (wrap_get (s := ⟨h, g, d, t + 1, os⟩) w X hx) (fun v s' z => k v s' ⟨_, rfl, ?_⟩) fun _ _ z => z
  obtain ⟨h', tk, q, rfl, rfl, z1, z2, z3⟩ := z
  exact ⟨h', tk, q, rfl, rfl, z1, z2, z3⟩
end
end

section
theorem entry_init : entryFor table "Exception.__init__" = some Builtin.«BaseException.__init__» := PySem.F.excBase_Exception.initEntry
theorem plain_init : plainId "Exception.__init__" = true := by decide +kernel
variable {prog : Program} {w : World} {A : Around} {E : Value → Shared → Prop} {h : Heap} {g : Array GenState} {d : Drawn} {t : Nat} {os : OsState}
variable {nm qn : Str} {N : Addr} {bs bm : List Value} {hdct : Bool} {sn : List Str} {sub : List Value} {ab : Bool} {col : Option Bool} {cdd : Option Addr} {k0 k1 k2 k3 k5 : Option Value} {newId : String}
theorem bound_init {M : Model} {C x tp : Addr} {dd : Option Addr} {v : Value} {Q : Unit → Shared → Prop} (hC : h.get? C = some (excClassObj nm qn C N bs bm hdct sn sub ab col cdd k0 k1 k2 k3 k5 newId)) (hx : h.get? x = some (excObj C tp dd))
    (hq : Q () ⟨h, g, d, t, os⟩) : wpAny M A (checkBoundCall "Exception.__init__" ⟨[.ref x, v], []⟩) Q E ⟨h, g, d, t, os⟩ := by
  have F := PySem.F.excBase_Exception
  have hs := F.noStar
  unfold checkBoundCall
  simp only [F.initRow, F.initKind]
  show wpAny M A (Bind.checkArgs "Exception.__init__" ⟨.positional, "*", "Exception", .self, [⟨"args", .varPos, false⟩]⟩ ⟨[.ref x, v], []⟩) _ _ _
  repeat (first | (with_reducible refine wpAny_loadPart_at hx ?_) | with_reducible refine wpAny_loadPart_at hC ?_ | wp_step)
  exact hq
theorem mw_call {q C x tp : Addr} {v : Value} {Q : Value → Shared → Prop} (hC : h.get? C = some (excClassObj nm qn C N bs bm hdct sn sub ab col cdd k0 k1 k2 k3 k5 newId)) (hm : h.get? q = some (mwObj "Exception.__init__" x)) (hx : h.get? x = some (excObj C tp none))
    (hq : ∀ h' t', h'.get? x = some (excObj C t' none) → (∀ b o, b ≠ x → h.get? b = some o → h'.get? b = some o) → Q .none ⟨h', g, d, t, os⟩) :
    wpAny (model prog w) A (call (.ref q) [v]) Q E ⟨h, g, d, t, os⟩ := by
  refine wpAny_call (codeAny_of_tree ?_)
  show wpAny _ A.in1 (callAny (.ref q) _) _ _ _
  unfold callAny
  refine wpAny_bind (wpAny_load hm ?_)
  show wpAny _ _ (checkBoundCall "Exception.__init__" ⟨[.ref x, v], []⟩ >>= fun _ => again (.builtin "Exception.__init__" ⟨[.ref x, v], []⟩)) _ _ _
  refine wpAny_bind (bound_init hC hx (wpAny_pure ⟨plainId_quiet plain_init _, codeAny_builtin entry_init ?_⟩))
  unfold Builtin.«BaseException.__init__»
  have hx1 : (h.push { cls := .type "tuple", data := .seq #[v] }).get? x = some (excObj C tp none) := Heap.get?_push_of_some _ hx
  wp_walk
  refine hq _ h.objs.size ?_ fun b o hb e => ?_
  · rw [Heap.get?_update_self _ hx1 rfl]
    rfl
  · rw [Heap.get?_update_other _ _ (Ne.symm hb)]
    exact Heap.get?_push_of_some _ e
end

section
open PySem.Builtin PySem.Builtin.ObjectAttr PySem.Builtin.Getset_descriptor
theorem refuse_exc (self : Value) : refuseLoop self "__setattr__" [.ref 34, .type "Exception", .type "BaseException", .type "object"] = pure () := by
  rw [refuseLoop_ref]
  kernel_rfl
theorem set_34 (P : Params) : findIn (hd.heap_39 P) (.ref 34) "__setattr__" = some (some (.builtin "object.__setattr__")) := by kernel_rfl
theorem sub_34 (P : Params) : mroIn (hd.heap_39 P) 34 (.type "object") = some true := by kernel_rfl
theorem dict_34 (P : Params) : (clsIn (hd.heap_39 P) 34).map (fun c => (c.mro, c.hasDict)) = some ([.ref 34, .type "Exception", .type "BaseException", .type "object"], true) := by kernel_rfl
variable {od : Option Obj} {w : World} {A : Around} {E : Value → Shared → Prop} {R : Result → Shared → Prop} {h : Heap} {g : Array GenState} {d : Drawn} {t : Nat} {os : OsState}
theorem notCls_exc (C tp : Addr) (dd : Option Addr) : notCls (excObj C tp dd) = true := rfl
theorem putL_len (name : Str) (hsh : Int) (key v : Value) : ∀ es : List DictEntry, (putL name hsh key v es).length ≤ es.length + 1
  | [] => by simp [putL]
  | e :: r => by
    have := putL_len name hsh key v r
    unfold putL
    split <;> simp <;> omega
/-- a name is stored in a dict: what it holds behind -/
theorem store_dict {prog : Program} {dd : Addr} {es : List DictEntry} {n : Nat} {name : Str} {v : Value} {Q : PySem.Fin → Shared → Prop} {tk : Tok} (hd : h.get? dd = some (dictOf es n))
    (hr : es.any (·.refKey) = false) (hz : es.length ≤ 100)
    (hq : ∀ h' es' n', h'.get? dd = some (dictOf es' n') → (es' = putL name (PyData.keyHash w.params name) (.str name t) v es) → (∀ b o, b ≠ dd → h.get? b = some o → h'.get? b = some o) → Q (.done (.ret .none)) ⟨h', g, d, t + 1, os⟩) :
    wpAny (model prog w) A (storeInDict dd (.str name tk) name v) Q E ⟨h, g, d, t, os⟩ := by
  unfold storeInDict
  refine wpAny_bind (wpAny_pure (wpAny_bind ?_))
  unfold nsSet
  refine wpAny_bind (wpAny_bind (wpAny_askSetting (wpAny_pure (wpAny_bind (wpAny_mkText (wpAny_bind (wpAny_loadPart hd ?_)))))))
  have c : (!es.toArray.any (·.key.isStr name) && es.toArray.any (·.refKey)) = false := by
    rw [← Array.any_toList, ← Array.any_toList]
    simp [hr]
  dsimp only
  rw [aRefKeyMayBeTheName_at, c]
  refine wpAny_updatePart hd ?_
  have e := putName_dict name (PyData.keyHash w.params name) (.str name t) v es n
  have D' := Heap.get?_update_self (Obj.putName name (PyData.keyHash w.params name) (.str name t) v) hd (by rw [e]; rfl)
  rw [e] at D'
  refine wpAny_bind (wpAny_lookBehind D' (pastItsLine_dict ?_) ?_)
  · have := putL_len name (PyData.keyHash w.params name) (.str name t) v es
    rw [List.size_toArray, sizeLine_eq]; omega
  · exact wpAny_pure (hq _ _ _ D' rfl fun b o hb eb => by rw [Heap.get?_update_other _ _ (Ne.symm hb)]; exact eb)
theorem exc_open {x tp : Addr} {dd : Option Addr} {name : Str} {tk : Tok} {v : Value} (X : (hd.heap_39 w.params).In h) (hx : h.get? x = some (excObj 34 tp dd)) (I : InstAt h x (excObj 34 tp dd) 34 od)
    (ht : takerIn (hd.heap_39 w.params) 34 name = some none)
    (hq : ∀ b, wpAny (model PySem.Challenge.rw_sj0188_01.row.prog w) A.in1 (storeInOwnDict (.ref x) (.ref 34) (.str name tk) name v b)
      (fun fin s' => match fin with | .done f => R (.ok f) s' | .again c' => c'.quiet = true ∧ codeAny (model PySem.Challenge.rw_sj0188_01.row.prog w) A c' R s') (fun e s' => R (.error e) s') ⟨h, g, d, t, os⟩) :
    codeAny (model PySem.Challenge.rw_sj0188_01.row.prog w) A (.call (.builtin "object.__setattr__") ⟨[.ref x, .str name tk, v], []⟩) R ⟨h, g, d, t, os⟩ := by
  have SF := PySem.F.store_object
  obtain ⟨cd, hc, hm⟩ := Option.map_eq_some_iff.mp (dict_34 w.params)
  have hm1 : cd.mro = [.ref 34, .type "Exception", .type "BaseException", .type "object"] := congrArg Prod.fst hm
  have sub : Looks (model PySem.Challenge.rw_sj0188_01.row.prog w) h (isInstance (.ref x) (.type "object")) true := I.type.andThen (looks_mroIn X (sub_34 _))
  refine codeAny_call_builtin SF.slot.plain SF.entry (@check_slot (model PySem.Challenge.rw_sj0188_01.row.prog w) _ _ ⟨h, g, d, t, os⟩ "object.__setattr__" "object" "__setattr__" (.ref x) [.str name tk, v] [] _ SF.kind SF.split sub (SF.args (.ref x) (.str name tk) v) ?_)
  obtain ⟨attr, ha, hr⟩ := Option.bind_eq_some_iff.mp ht
  have hml : Looks (model PySem.Challenge.rw_sj0188_01.row.prog w) h (mroOf (.ref 34)) [.ref 34, .type "Exception", .type "BaseException", .type "object"] :=
    fun A Q E s k q => wpAny_bind ((looks_clsIn X hc) A _ E s k (wpAny_pure (by rw [hm1]; exact q)))
  have L3 : Looks (model PySem.Challenge.rw_sj0188_01.row.prog w) h (storeTaker? attr) none := by
    cases attr with
    | none => exact .now
    | some a =>
      obtain ⟨b, hb, hb2⟩ := Option.map_eq_some_iff.mp hr
      refine (looks_takesIn X hb).andThen ?_
      cases b
      · exact .now
      · cases hb2
  rw [osa_eq, refuse_eq]
  refine wpAny_bind (wpAny_bind (I.type.at (wpAny_bind (hml.at ?_))))
  rw [refuse_exc]
  exact wpAny_pure (wpAny_bind (I.type.at (wpAny_bind ((looks_findIn X ha).at (wpAny_bind (L3.at (hq _)))))))
theorem exc_new_dict {x tp : Addr} {name : Str} {tk : Tok} {v : Value} {b : Bool} {Q : PySem.Fin → Shared → Prop} (X : (hd.heap_39 w.params).In h) (hx : h.get? x = some (excObj 34 tp none))
    (hq : ∀ h' dd n', h'.get? x = some (excObj 34 tp (some dd)) → h.get? dd = none → h'.get? dd = some (dictOf [⟨PyData.keyHash w.params name, .str name t, v⟩] n') → (∀ b o, b ≠ x → h.get? b = some o → h'.get? b = some o) → Q (.done (.ret .none)) ⟨h', g, d, t + 1, os⟩) :
    wpAny (model PySem.Challenge.rw_sj0188_01.row.prog w) A (storeInOwnDict (.ref x) (.ref 34) (.str name tk) name v b) Q E ⟨h, g, d, t, os⟩ := by
  obtain ⟨cd, hc, hm⟩ := Option.map_eq_some_iff.mp (dict_34 w.params)
  have hm2 : cd.hasDict = true := congrArg Prod.snd hm
  unfold storeInOwnDict
  refine wpAny_bind (wpAny_pure ?_)
  show wpAny _ _ (ownDictForStores (.ref x) >>= _) _ _ _
  unfold ownDictForStores instanceDict
  refine wpAny_bind (wpAny_bind (wpAny_loadPart hx (wpAny_bind ((looks_clsIn X hc).at ?_))))
  rw [hm2]
  show wpAny _ _ (alloc emptyDict >>= fun d => update x (fun o => { o with dict := some d }) >>= fun _ => dictMade (.ref 34) x d) _ _ _
  have hx1 : (h.push emptyDict).get? x = some (excObj 34 tp none) := Heap.get?_push_of_some _ hx
  have hne : x ≠ h.objs.size := Nat.ne_of_lt (Heap.lt_size hx)
  refine wpAny_bind (wpAny_alloc (wpAny_bind (wpAny_update hx1 (wpAny_pure ?_))))
  have hx2 : ((h.push emptyDict).update x (fun o => { o with dict := some h.objs.size })).get? x = some (excObj 34 tp (some h.objs.size)) := Heap.get?_update_self _ hx1 rfl
  have hd2 : ((h.push emptyDict).update x (fun o => { o with dict := some h.objs.size })).get? h.objs.size = some (dictOf [] 0) := by
    rw [Heap.get?_update_other _ _ hne]
    exact Heap.get?_push_size _ rfl
  refine store_dict hd2 rfl (by simp) fun h' es' n' d1 d2 d3 => ?_
  subst d2
  refine hq h' h.objs.size n' (d3 _ _ hne hx2) (Heap.get?_none_of_le (Nat.le_refl _)) d1 fun b o hb eb => ?_
  refine d3 _ _ (Nat.ne_of_lt (Heap.lt_size eb)) ?_
  rw [Heap.get?_update_other _ _ (Ne.symm hb)]
  exact Heap.get?_push_of_some _ eb
theorem exc_old_dict {x tp dd : Addr} {es : List DictEntry} {n : Nat} {name : Str} {tk : Tok} {v : Value} {b : Bool} {Q : PySem.Fin → Shared → Prop} (X : (hd.heap_39 w.params).In h) (hx : h.get? x = some (excObj 34 tp (some dd)))
    (hd0 : h.get? dd = some (dictOf es n)) (hr : es.any (·.refKey) = false) (hz : es.length ≤ 100)
    (hq : ∀ h' es' n', h'.get? dd = some (dictOf es' n') → (es' = putL name (PyData.keyHash w.params name) (.str name t) v es) → (∀ b o, b ≠ dd → h.get? b = some o → h'.get? b = some o) → Q (.done (.ret .none)) ⟨h', g, d, t + 1, os⟩) :
    wpAny (model PySem.Challenge.rw_sj0188_01.row.prog w) A (storeInOwnDict (.ref x) (.ref 34) (.str name tk) name v b) Q E ⟨h, g, d, t, os⟩ := by
  obtain ⟨cd, hc, hm⟩ := Option.map_eq_some_iff.mp (dict_34 w.params)
  have hm2 : cd.hasDict = true := congrArg Prod.snd hm
  unfold storeInOwnDict
  refine wpAny_bind (wpAny_pure ?_)
  show wpAny _ _ (ownDictForStores (.ref x) >>= _) _ _ _
  unfold ownDictForStores instanceDict
  refine wpAny_bind (wpAny_bind (wpAny_loadPart hx (wpAny_bind ((looks_clsIn X hc).at ?_))))
  rw [hm2]
  show wpAny _ _ (pure (some dd)) _ _ _
  exact wpAny_pure (store_dict hd0 hr hz hq)
/-- the first field of an own exception -/
theorem exc_set1 {x tp : Addr} {name : Str} {v : Value} {Q : Unit → Shared → Prop} (X : (hd.heap_39 w.params).In h) (hx : h.get? x = some (excObj 34 tp none)) (ht : takerIn (hd.heap_39 w.params) 34 name = some none)
    (hq : ∀ h' dd n' hsh tk, h'.get? x = some (excObj 34 tp (some dd)) → h.get? dd = none → h'.get? dd = some (dictOf [⟨hsh, .str name tk, v⟩] n') → (∀ b o, b ≠ x → h.get? b = some o → h'.get? b = some o) → Q () ⟨h', g, d, t + 1 + 1, os⟩) :
    wpAny (model PySem.Challenge.rw_sj0188_01.row.prog w) A (setAttr (.ref x) name v) Q E ⟨h, g, d, t, os⟩ := by
  have I : InstAt h x (excObj 34 tp none) 34 none := ⟨hx, rfl, rfl, trivial⟩
  refine set_plain X I (set_34 _) (exc_open X hx I ht fun b => exc_new_dict X hx fun h' dd n' d1 d2 d3 d4 => ?_)
  exact hq h' dd n' _ _ d1 d2 d3 d4
theorem exc_set2 {x tp dd : Addr} {es : List DictEntry} {n : Nat} {name : Str} {v : Value} {Q : Unit → Shared → Prop} (X : (hd.heap_39 w.params).In h) (hx : h.get? x = some (excObj 34 tp (some dd))) (ht : takerIn (hd.heap_39 w.params) 34 name = some none)
    (hd0 : h.get? dd = some (dictOf es n)) (hr : es.any (·.refKey) = false) (hz : es.length ≤ 100)
    (hq : ∀ h' n' hsh tk, h'.get? dd = some (dictOf (putL name hsh (.str name tk) v es) n') → (∀ b o, b ≠ dd → h.get? b = some o → h'.get? b = some o) → Q () ⟨h', g, d, t + 1 + 1, os⟩) :
    wpAny (model PySem.Challenge.rw_sj0188_01.row.prog w) A (setAttr (.ref x) name v) Q E ⟨h, g, d, t, os⟩ := by
  have I : InstAt h x (excObj 34 tp (some dd)) 34 (some (dictOf es n)) := ⟨hx, rfl, rfl, hd0⟩
  refine set_plain X I (set_34 _) (exc_open X hx I ht fun b => exc_old_dict X hx hd0 hr hz fun h' es' n' d1 d2 d3 => ?_)
  subst d2
  exact hq h' n' _ _ d1 d3
end

section
theorem init_34 (P : Params) : findIn (hd.heap_39 P) (.ref 34) "__init__" = some (some (.ref 31)) := by kernel_rfl
theorem fn_31 (P : Params) : typeIn (hd.heap_39 P) (.ref 31) = some (.type "function") := by kernel_rfl
theorem taker_number (P : Params) : takerIn (hd.heap_39 P) 34 "number" = some none := by kernel_rfl
theorem taker_told (P : Params) : takerIn (hd.heap_39 P) 34 "told" = some none := by kernel_rfl
variable {w : World} {A : Around} {E : Value → Shared → Prop} {s : Shared} {h₀ : Heap} {L : Addr} {m : Str → Option Value} {news : List (Addr × Obj)}
theorem call_exc {pos : List Value} {Q : Value → Shared → Prop} (F : Fr h₀ L s.heap m) (X₀ : (hd.heap_39 w.params).In h₀) (N : News h₀ L s.heap news) (hp : pos.length ≤ 100)
    (h : ∀ x dx h', Fr h₀ L h' m → News h₀ L h' ((x, excObj 34 dx none) :: (dx, tupObj pos) :: news) → (∀ p ∈ news, p.1 < dx) → dx < x →
      codeAny (model PySem.Challenge.rw_sj0188_01.row.prog w) (A.under (.builtin "type.__call__" ⟨.ref 34 :: pos, []⟩)) (.call (.ref 31) ⟨.ref x :: pos, []⟩) (InitBack x fun r s' => match r with | .ok (.ret v) => Q v s' | .ok _ => False | .error e => E e s') { s with heap := h' }) :
    wpAny (model PySem.Challenge.rw_sj0188_01.row.prog w) A (call (.ref 34) pos) Q E s := by
  obtain ⟨hh, g, d, t, os⟩ := s
  have X := X₀.keeps F.keep
  obtain ⟨_, _, _, _, _, _, _, _, _, _, _, _, _, _, _, hC⟩ := cls_34 X (c34_ok _)
  refine wpAny_call (exc_make PySem.F.excBase_Exception hC (looks_findIn X (init_34 _)) (fun self => bind_fn X self (fn_31 _)) (by rw [sizeLine_eq]; omega) (h _ hh.objs.size _ ((F.push _).push _) ?_ (fun p hp => Heap.lt_size (N p hp).1) (Nat.lt_succ_self _)))
  have := (N.push F (tupObj pos)).push (F.push _) (excObj 34 hh.objs.size none)
  rwa [Heap.size_push] at this
/-- one object of the ledger turned, the others kept -/
theorem updLed {x : Addr} {o o' : Obj} {news' : List (Addr × Obj)} {h' : Heap} (F : Fr h₀ L s.heap m) (N : News h₀ L s.heap news) (U : Upd x o o' news news') (hx : h'.get? x = some o')
    (k : ∀ b o, b ≠ x → s.heap.get? b = some o → h'.get? b = some o) : Fr h₀ L h' m ∧ News h₀ L h' news' ∧ news'.map (·.1) = news.map (·.1) := by
  obtain ⟨pre, post, rfl, rfl, a, b⟩ := U.split
  have hN := N (x, o) (by simp)
  obtain ⟨oL, es, ep, hL, r⟩ := F.ns
  refine ⟨⟨⟨oL, es, ep, k _ _ hN.2.1.symm hL, r⟩, fun b o e => k b o (fun q => ?_) (F.keep b o e), F.above⟩, fun p hp => ?_, by simp⟩
  · rw [q] at e
    have := hN.2.2
    dsimp only at this
    rw [this] at e
    cases e
  · rcases List.mem_append.mp hp with hp | hp
    · have z := N p (List.mem_append_left _ hp)
      exact ⟨k _ _ (a p hp) z.1, z.2⟩
    · rcases List.mem_cons.mp hp with rfl | hp
      · exact ⟨hx, hN.2⟩
      · have z := N p (List.mem_append_right _ (List.mem_cons_of_mem _ hp))
        exact ⟨k _ _ (b p hp) z.1, z.2⟩
theorem freshLed {q : Addr} {oq : Obj} {h' : Heap} (F : Fr h₀ L s.heap m) (N : News h₀ L s.heap news) (k : ∀ b o, s.heap.get? b = some o → h'.get? b = some o) (hq : s.heap.get? q = none) (ho : h'.get? q = some oq) :
    Fr h₀ L h' m ∧ News h₀ L h' ((q, oq) :: news) ∧ ∀ p ∈ news, p.1 ≠ q := by
  obtain ⟨oL, es, ep, hL, r⟩ := F.ns
  refine ⟨⟨⟨oL, es, ep, k _ _ hL, r⟩, fun b o e => k b o (F.keep b o e), F.above⟩, fun p hp => ?_, fun p hp e => ?_⟩
  · rcases List.mem_cons.mp hp with rfl | hp
    · refine ⟨ho, fun e => ?_, ?_⟩
      · dsimp only at e; rw [e, hL] at hq; cases hq
      · cases z : h₀.get? q with
        | none => rfl
        | some o => have := F.keep _ _ z; rw [hq] at this; cases this
    · exact ⟨k _ _ (N p hp).1, (N p hp).2⟩
  · have := (N p hp).1
    rw [e, hq] at this
    cases this
theorem superB_K {so x tp : Addr} {pl : Sem Bool} {Q : Value × List Value → Shared → Prop} (F : Fr h₀ L s.heap m) (X₀ : (hd.heap_39 w.params).In h₀) (N : News h₀ L s.heap news)
    (hso : (so, ks_superObj 34 x 34) ∈ news) (hx : (x, excObj 34 tp none) ∈ news)
    (h : ∀ q h' tk, Fr h₀ L h' m → News h₀ L h' ((q, mwObj "Exception.__init__" x) :: news) → @Ne Nat q x → Q (.ref q, []) { s with heap := h', toks := tk }) :
    wpAny (model PySem.Challenge.rw_sj0188_01.row.prog w) A (getMethod (.ref so) "__init__" pl) Q E s := by
  obtain ⟨hh, g, d, t, os⟩ := s
  have X := X₀.keeps F.keep
  obtain ⟨_, _, _, _, _, _, _, _, _, _, _, _, _, _, _, hC⟩ := cls_34 X₀ (c34_ok _)
  refine superB_method X (N _ hso).1 (N _ hx).1 (fun e => ?_) fun v s' z => ?_
  · have := (N _ hx).2.2
    dsimp only at this
    rw [e, hC] at this
    cases this
  · obtain ⟨h', tk, q, rfl, rfl, z1, z2, z3⟩ := z
    obtain ⟨F', N', l'⟩ := freshLed F N z1 z2 z3
    exact h q h' tk F' N' (l' _ hx).symm
theorem mw_K {q x tp : Addr} {v : Value} {g : Obj → List (Addr × Obj)} {Q : Value → Shared → Prop} (F : Fr h₀ L s.heap m) (X₀ : (hd.heap_39 w.params).In h₀) (N : News h₀ L s.heap news) (hq : (q, mwObj "Exception.__init__" x) ∈ news)
    (U : UpdF x (excObj 34 tp none) news g) (h : ∀ t' h', Fr h₀ L h' m → News h₀ L h' (g (excObj 34 t' none)) → Q .none { s with heap := h' }) :
    wpAny (model PySem.Challenge.rw_sj0188_01.row.prog w) A (call (.ref q) [v]) Q E s := by
  obtain ⟨hh, g', d, t, os⟩ := s
  obtain ⟨_, _, _, _, _, _, _, _, _, _, _, _, _, _, _, hC⟩ := cls_34 (X₀.keeps F.keep) (c34_ok _)
  have hx : hh.get? x = some (excObj 34 tp none) := by
    obtain ⟨pre, post, rfl, _, _, _⟩ := (UpdF.toUpd (o' := excObj 34 tp none) U).split
    exact (N (x, excObj 34 tp none) (by simp)).1
  refine mw_call hC (N _ hq).1 hx fun h' t' e1 k => ?_
  obtain ⟨F', N', _⟩ := updLed F N (UpdF.toUpd U) e1 k
  exact h t' h' F' N'
theorem exc_set1K {x tp : Addr} {name : Str} {v : Value} {g : Obj → List (Addr × Obj)} {Q : Unit → Shared → Prop} (F : Fr h₀ L s.heap m) (X₀ : (hd.heap_39 w.params).In h₀) (N : News h₀ L s.heap news)
    (U : UpdF x (excObj 34 tp none) news g) (ht : takerIn (hd.heap_39 w.params) 34 name = some none)
    (h : ∀ dd n' hsh tk h', Fr h₀ L h' m → News h₀ L h' ((dd, dictOf [⟨hsh, .str name tk, v⟩] n') :: g (excObj 34 tp (some dd))) → (∀ p ∈ g (excObj 34 tp (some dd)), p.1 ≠ dd) → Q () { s with heap := h', toks := s.toks + 1 + 1 }) :
    wpAny (model PySem.Challenge.rw_sj0188_01.row.prog w) A (setAttr (.ref x) name v) Q E s := by
  obtain ⟨hh, g', d, t, os⟩ := s
  have hx : hh.get? x = some (excObj 34 tp none) := by
    obtain ⟨pre, post, rfl, _, _, _⟩ := (UpdF.toUpd (o' := excObj 34 tp none) U).split
    exact (N (x, excObj 34 tp none) (by simp)).1
  refine exc_set1 (X₀.keeps F.keep) hx ht fun h' dd n' hsh tk e1 e2 e3 k => ?_
  obtain ⟨F', N', e⟩ := updLed F N (UpdF.toUpd U) e1 k
  have hne : ∀ p ∈ g (excObj 34 tp (some dd)), p.1 ≠ dd := fun p hp q => by
    have hm : p.1 ∈ news.map (·.1) := e ▸ List.mem_map_of_mem hp
    obtain ⟨p', hp', e'⟩ := List.mem_map.mp hm
    have := (N p' hp').1
    rw [e', q] at this
    dsimp only at this
    rw [e2] at this
    cases this
  refine h dd n' hsh tk h' F' (fun p hp => ?_) hne
  rcases List.mem_cons.mp hp with rfl | hp
  · refine ⟨e3, fun q => ?_, ?_⟩
    · obtain ⟨oL, es, ep, hL, r⟩ := F.ns
      dsimp only at q hL
      rw [← q, e2] at hL; cases hL
    · cases z : h₀.get? dd with
      | none => rfl
      | some o => have := F.keep _ _ z; dsimp only at this; rw [e2] at this; cases this
  · exact N' p hp
theorem exc_set2K {x tp dd : Addr} {es : List DictEntry} {n : Nat} {name : Str} {v : Value} {g : Obj → List (Addr × Obj)} {Q : Unit → Shared → Prop} (F : Fr h₀ L s.heap m) (X₀ : (hd.heap_39 w.params).In h₀) (N : News h₀ L s.heap news)
    (hx : (x, excObj 34 tp (some dd)) ∈ news) (U : UpdF dd (dictOf es n) news g) (ht : takerIn (hd.heap_39 w.params) 34 name = some none) (hr : es.any (·.refKey) = false) (hz : es.length ≤ 100)
    (h : ∀ n' hsh tk h', Fr h₀ L h' m → News h₀ L h' (g (dictOf (putL name hsh (.str name tk) v es) n')) → Q () { s with heap := h', toks := s.toks + 1 + 1 }) :
    wpAny (model PySem.Challenge.rw_sj0188_01.row.prog w) A (setAttr (.ref x) name v) Q E s := by
  obtain ⟨hh, g', d, t, os⟩ := s
  have hd0 : hh.get? dd = some (dictOf es n) := by
    obtain ⟨pre, post, rfl, _, _, _⟩ := (UpdF.toUpd (o' := dictOf es n) U).split
    exact (N (dd, dictOf es n) (by simp)).1
  refine exc_set2 (X₀.keeps F.keep) (N _ hx).1 ht hd0 hr hz fun h' n' hsh tk e1 k => ?_
  obtain ⟨F', N', _⟩ := updLed F N (UpdF.toUpd U) e1 k
  exact h n' hsh tk h' F' N'
theorem raise_exc {env : Env} {x : Sem Value} {Q : Flow → Shared → Prop} (hh : A.handled = none)
    (h : wpAny (model PySem.Challenge.rw_sj0188_01.row.prog w) A x (fun v s₁ => ∃ e tp dd, v = .ref e ∧ (hd.heap_39 w.params).In s₁.heap ∧ s₁.heap.get? e = some (excObj 34 tp (some dd)) ∧ E (.ref e) s₁) E s) :
    wpAny (model PySem.Challenge.rw_sj0188_01.row.prog w) A (raiseStmt env (some x) none) Q E s := by
  unfold raiseStmt
  refine wpAny_bind (wpAny_mono h (fun v s₁ h₁ => ?_) fun _ _ x => x)
  obtain ⟨e, tp, dd, rfl, X, he, hE⟩ := h₁
  obtain ⟨_, _, _, _, _, _, _, _, _, _, _, _, _, _, _, hC⟩ := cls_34 X (c34_ok _)
  have hcB : (Value.ref 34 :: [.type "Exception", .type "BaseException", .type "object"]).contains (.type "BaseException") = true := by decide +kernel
  obtain ⟨hp, g, d, tk, os⟩ := s₁
  repeat (first | with_reducible refine wpAny_loadPart_at he ?_ | with_reducible refine wpAny_loadPart_at hC ?_ | (with_reducible refine wpAny_isSubtype_exc hC ?_; rw [hcB]) | wp_step)
  exact wpAny_raiseNew_none hh hE
end


theorem wt_deep : True := by
  w_top off
  trivial

theorem instExc {h₀ h : Heap} {L x C tp : Addr} {news : List (Addr × Obj)} (N : News h₀ L h news) (hx : (x, excObj C tp none) ∈ news) : InstAt h x (excObj C tp none) C none := ⟨(N _ hx).1, rfl, rfl, trivial⟩
/-- a call that raises the own exception, number 21: whatever the caller -/
def Throws (w : World) (f : Addr) (k : Nat) (args : List Value) (news : List (Addr × Obj)) : Prop :=
  ∀ (mean : ExcName → Option Value) (mg mb : Str → Option Value) (dp un : Nat) (gd : Option (List Code)) (cn : Str) (cs : Scope) (a : Addr) (ccd : Value) (cl : List (Str × Addr)) (outer : List Env) (A₀ : Around) (base h₀ : Heap) (L : Addr) (m : Str → Option Value) (s : Shared)
    (Q E : Value → Shared → Prop),
    Below A₀ base outer h₀ → Fr h₀ L s.heap m → (hd.heap_39 w.params).In h₀ → News h₀ L s.heap news → Top hd.view_39 (looseW hd.view_39 [Str.ofString "SnobolError"]) mean mg mb h₀ → cs.kind = .function → dp + k < recursionLimit → un + 8 * k < cLine →
    (∀ e dd es n t G h' tk', Fr h₀ L G m → G.UpToSlots h' → RaisedD base (envX cn cs L a ccd cl :: outer) e 34 dd ((dd, dictOf es n) :: news) h' → getL (Str.ofString "number") es = some (some (.int 21 t)) → E (.ref e) { s with heap := h', toks := tk' }) →
    wpAny (model PySem.Challenge.rw_sj0188_01.row.prog w) (ktrTop dp un gd cn cs L a ccd cl outer) (call (.ref f) args) Q E s
theorem Throws.use {w : World} {f : Addr} {k : Nat} {args : List Value} {news : List (Addr × Obj)} (C : Throws w f k args news)
    {mean : ExcName → Option Value} {mg mb : Str → Option Value} {dp un : Nat} {gd : Option (List Code)} {cn : Str} {cs : Scope} {a : Addr} {ccd : Value} {cl : List (Str × Addr)} {outer : List Env} {A₀ : Around} {base h₀ : Heap} {L : Addr} {m : Str → Option Value} {s : Shared}
    {Q E : Value → Shared → Prop}
    (B : Below A₀ base outer h₀) (F : Fr h₀ L s.heap m) (X : (hd.heap_39 w.params).In h₀) (N : News h₀ L s.heap news) (T : Top hd.view_39 (looseW hd.view_39 [Str.ofString "SnobolError"]) mean mg mb h₀) (hk : cs.kind = .function) (hd : dp + k < recursionLimit) (hu : un + 8 * k < cLine)
    (h : ∀ e dd es n t G h' tk', Fr h₀ L G m → G.UpToSlots h' → RaisedD base (envX cn cs L a ccd cl :: outer) e 34 dd ((dd, dictOf es n) :: news) h' → getL (Str.ofString "number") es = some (some (.int 21 t)) → E (.ref e) { s with heap := h', toks := tk' }) :
    wpAny (model PySem.Challenge.rw_sj0188_01.row.prog w) (ktrTop dp un gd cn cs L a ccd cl outer) (call (.ref f) args) Q E s := C _ _ _ _ _ _ _ _ _ _ _ _ _ _ _ _ _ _ _ _ B F X N T hk hd hu h
def MwP (q x : Addr) (h : Heap) : Prop := h.get? q = some (mwObj "Exception.__init__" x)
theorem keeps_mw {M : Model} {q x : Addr} (h : Heap) (X : MwP q x h) : ∃ k, (k = Keeper.frame ∨ k = Keeper.machine ∨ k = Keeper.boundFrame) ∧ Looks M h (keeperOf (.ref q)) k :=
  ⟨.machine, .inr (.inl rfl), (Looks.ld (part := none) X).andThen .now⟩
theorem callWith_mw {M : Model} {A : Around} {E : Value → Shared → Prop} {s : Shared} {env : Env} {pos : Pos} {first : List Value} {Q : Value → Shared → Prop} {h₀ : Heap} {L q x : Addr} {news : List (Addr × Obj)} {e : Expr} {rest : List Expr}
    (_N : News h₀ L s.heap news) (_q : (q, mwObj "Exception.__init__" x) ∈ news) (h : wpAny M A (spliced (backTo pos (starEach (e :: rest) env))) (fun vs s₁ => MwP q x s₁.heap ∧ wpAny M A (call (.ref q) (first ++ vs)) Q E s₁) E s)
    (he : starEach (e :: rest) env = (false, eval e env) :: starEach rest env := by rfl) (hplain : (backTo pos (starEach rest env)).any (·.1) = false := by rfl) :
    wpAny M A (callWith pos (.ref q) first (backTo pos (starEach (e :: rest) env)) []) Q E s := by
  rw [he] at h ⊢
  exact callWith_of (by show ((false || (backTo pos (starEach rest env)).any (·.1)) || false) = false; rw [hplain]; rfl) keeps_mw (evalArgs_plain h)
theorem mwP {h₀ h : Heap} {L q x : Addr} {news : List (Addr × Obj)} (N : News h₀ L h news) (hq : (q, mwObj "Exception.__init__" x) ∈ news) : MwP q x h := (N _ hq).1
section
theorem rg_14 : True := by
  (k_with "callWith ref" => (k_here; k_dflt (refine' callWith_mw ?u9k1 ?u9k2 ?_; (case u9k1 => k_asm); (case u9k2 => k_mem); k_whole)))
  (k_with "And" => ((with_reducible show MwP _ _ _ ∧ _); refine ⟨by k_dflt exact mwP (by k_asm) (by k_mem), ?_⟩; try dsimp only [List.nil_append, List.cons_append]))
  trivial
local macro_rules | `(tactic| k_inst) => `(tactic| exact instExc (by k_asm) (by k_mem))
theorem rg_15 : True := by
  (k_with "call ref" => ((k_here; k_dflt (refine' mw_K ?u9k1 ?u9k2 ?u9k3 ?u9k4 ?u9k5 ?_; (case u9k1 => k_asm); (case u9k2 => k_asm); (case u9k3 => k_asm); (case u9k4 => k_mem); (case u9k5 => k_updF)); intro t9 h9 F9 N9; (try dsimp only at N9)); (revert t9 h9 F9 N9; intros)))
  (k_with "setAttr ref" => ((k_here; k_dflt (refine' exc_set2K ?u9k1 ?u9k2 ?u9k3 ?u9k4 ?u9k5 ?u9k6 ?u9k7 ?u9k8 ?_; (case u9k1 => k_asm); (case u9k2 => k_asm); (case u9k3 => k_asm); (case u9k4 => k_mem); (case u9k5 => k_updF); (case u9k6 => exact taker_told _); (case u9k7 => rfl); (case u9k8 => exact Nat.le_of_ble_eq_true rfl)); intro n9 s9 t9 h9 F9 N9; (try dsimp only at N9)); (revert n9 s9 t9 h9 F9 N9; intros)))
  (k_with "setAttr ref" => ((k_here; k_dflt (refine' exc_set1K ?u9k1 ?u9k2 ?u9k3 ?u9k5 ?u9k6 ?_; (case u9k1 => k_asm); (case u9k2 => k_asm); (case u9k3 => k_asm); (case u9k5 => k_updF); (case u9k6 => exact taker_number _)); intro dd9 n9 s9 t9 h9 F9 N9 l9; (try dsimp only at N9 l9)); (revert dd9 n9 s9 t9 h9 F9 N9 l9; intros)))
  (k_with "exec Raise" => (k_here; refine Held.out ?_))
  (k_with "exec Raise Call" => (k_here; refine Held.out ?_))
  (k_with "exec Raise some none" => (k_here; refine Held.out ?_))
  (k_with "exec Raise some" => (k_here; refine Held.out ?_))
  (k_with "getMethod ref" => ((k_here; (with_reducible show wpAny _ _ (getMethod (Value.ref _) (Str.ofString "__init__") _) _ _ _); k_dflt (refine' superB_K ?u9k1 ?u9k2 ?u9k3 ?u9k4 ?u9k5 ?_; (case u9k1 => k_asm); (case u9k2 => k_asm); (case u9k3 => k_asm); (case u9k4 => k_mem); (case u9k5 => k_mem); intro q9 h9 t9 F9 N9 l9; (try dsimp only))); (revert q9 h9 t9 F9 N9 l9; intros)))
  trivial
theorem enter_deep (w : World) {aw dw fa fd ar : Addr} {wes fes : List DictEntry} {wn fn : Nat} {nm : Str} {t td tn tm : Tok} {d md : Int} {news : List (Addr × Obj)}
    (hw : (aw, instObj 76 dw) ∈ news) (hdw : (dw, dictOf wes wn) ∈ news) (h1 : (fa, instObj 111 fd) ∈ news) (h2 : (fd, dictOf fes fn) ∈ news)
    (h5 : getL (Str.ofString "name") fes = some (some (.str nm t)))
    (g2 : getL (Str.ofString "depth") wes = some (some (.int d td))) (g3 : getL (Str.ofString "nested") wes = some (some (.int 0 tn)))
    (g4 : getL (Str.ofString "most_depth") wes = some (some (.int md tm)))
    (hdm : md ≤ d) :
    Throws w 134 5 [.ref aw, .ref fa, .ref ar] news := by
  unfold Throws
  k_fill
  intro mean mg mb dp un gd cn cs a ccd cl outer A₀ base h₀ L m s Q E B F X N T hk hdp hun hret
  refine wpAny_call ?_
  k_dflt (refine' code_defC ?k1 ?k2 ?k3 ?k4 ?k5 ?kA ?kF ?kK ?k6 ?k7 ?k8 ?k9 ?kB ?kD ?_ ?c2 ?c3 ?c4; (case kA => exact rfl); (case kF => exact rfl); (case kK => assumption); (case k1 => k_asm); (case k2 => k_asm); (case k3 => k_asm); (case k4 => k_asm); (case k5 => k_asm); (case k6 => k_is); (case k7 => k_is); (case k8 => ktr_room); (case k9 => exact BindsTo.of_eq rfl); (case kB => exact rfl); (case kD => decide +kernel); (case c2 => exact rfl); (case c3 => exact rfl); (case c4 => exact rfl); k_whole; intro g' L' h' tk' cells' FG' F' N' Y' B' X' T' l1)
  obtain ⟨o1, hE1, d1⟩ := CellsAre.one Y'; subst hE1; (try simp only [List.cons_append, List.nil_append] at N'); (try dsimp only); (try k_fold)
  k_steps
  refine Held.mk ?_
  rw [arm_exec_Raise]
  refine wpAny_bind (wpAny_standAt ?_)
  dsimp only [evalOpt, Option.map]
  refine raise_exc rfl ?_
  refine wpAny_bind ?_
  k_steps
  refine call_exc (by k_asm) (by k_asm) (by k_asm) (Nat.le_of_ble_eq_true rfl) ?_
  intro x9 d9 h9 F9 N9 l9 l99
  (try k_lt l9)
  (try k_lt2 l99)
  have hnx : ∀ p ∈ news, p.1 ≠ x9 := fun p hp => Nat.ne_of_lt (Nat.lt_trans (ktn_ltOf l9.2 p hp) l99)
  k_dflt (refine' ks_code_super ?k1 ?k2 ?k3 ?k4 ?k5 ?kA ?kF ?kK ?k6 ?k7 ?k8 ?k9 ?kB ?_ ?c1 ?c2 ?c3 ?c4; (case kA => exact rfl); (case kF => exact rfl); (case kK => exact rfl); (case k1 => k_asm); (case k2 => k_asm); (case k3 => k_asm); (case k4 => k_asm); (case k5 => k_asm); (case k6 => k_is); (case k7 => k_is); (case k8 => ktr_room); (case k9 => exact binds_K (by k_in) rfl (by k_is) rfl rfl rfl); (case kB => exact locs rfl); (case c1 => decide); (case c2 => exact rfl); (case c3 => exact rfl); (case c4 => exact rfl); intro g2' L2' h2' FG2' F2' N2' B2' X2' T2' l2; (try k_lt l2); (try dsimp only))
  k_steps
  refine wpAny_bind (wpAny_standAt (wpAny_pure ?_))
  with_reducible rename News g' L' _ _ => kN
  with_reducible rename Fr g' L' _ _ => kF
  rename_i dd8 n8 s8 t8 h8 F8 N8 l8 n7 s7 t7 h7 F7 N7 T7 X7
  refine ⟨x9, _, _, rfl, X'.keeps (Fr.keep kF), (kN (x9, excObj 34 _ (some _)) (by k_mem)).1, ?_⟩
  show wpAny _ _ (leaving _ _) _ _ _
  have hx8 : @Ne Nat dd8 x9 := fun e => l8 (x9, excObj 34 _ (some dd8)) (by k_mem) e.symm
  refine leave_raiseD (news' := (dd8, dictOf (putL (Str.ofString "told") s7 (Value.str (Str.ofString "told") t7) (Value.str nm t) [{ hash := s8, key := Value.str (Str.ofString "number") t8, val := Value.int 21 329 }]) n7) :: news)
    B' kF kN (tp := _) (dd := dd8) (C := 34) (e := x9) (by k_mem) ?hs ?hne rfl rfl ?_
  case hs =>
    intro p hp
    simp only [List.mem_cons] at hp ⊢
    grind
  case hne =>
    intro p hp
    rcases List.mem_cons.mp hp with rfl | hp
    · exact hx8
    · exact hnx p hp
  intro h6 R6 u6
  exact hret _ _ _ _ 329 _ _ _ FG' u6 R6 (by with_unfolding_all rfl)
end
theorem rg_16 : True := by
  k_with_none
  (k_with "own lt" => (first | (with_reducible assumption) | ((with_reducible refine Nat.lt_trans ?_ (by assumption)); k_extra "own lt") | exact And.left (by with_reducible assumption) | exact And.left (And.right (by with_reducible assumption)) | exact And.left (And.right (And.right (by with_reducible assumption))) | exact And.left (And.right (And.right (And.right (by with_reducible assumption)))) | exact And.left (And.right (And.right (And.right (And.right (by with_reducible assumption))))) | exact And.left (And.right (And.right (And.right (And.right (And.right (by with_reducible assumption)))))) | exact And.left (And.right (And.right (And.right (And.right (And.right (And.right (by with_reducible assumption))))))) | exact And.left (And.right (And.right (And.right (And.right (And.right (And.right (And.right (by with_reducible assumption)))))))) | exact And.left (And.right (And.right (And.right (And.right (And.right (And.right (And.right (And.right (by with_reducible assumption))))))))) | exact And.left (And.right (And.right (And.right (And.right (And.right (And.right (And.right (And.right (And.right (by with_reducible assumption)))))))))) | exact And.left (And.right (And.right (And.right (And.right (And.right (And.right (And.right (And.right (And.right (And.right (by with_reducible assumption))))))))))) | exact And.left (And.right (And.right (And.right (And.right (And.right (And.right (And.right (And.right (And.right (And.right (And.right (by with_reducible assumption)))))))))))) | exact And.left (And.right (And.right (And.right (And.right (And.right (And.right (And.right (And.right (And.right (And.right (And.right (And.right (by with_reducible assumption))))))))))))) | fail "own lt"))
  (k_with "own ne" => ((refine neN ?_); (try dsimp only); (first | exact Nat.ne_of_gt (by k_extra "own lt") | exact Nat.ne_of_lt (by k_extra "own lt") | fail "own ne")))
  (k_with "getAttr ref" => (k_here; k_dflt (refine' get_own ?u9k1 ?u9k2 ?u9k3 ?u9k4 ?u9k5 ?u9k6 ?u9k7 ?u9k8 ?u9k9 ?_; (case u9k1 => k_asm); (case u9k2 => k_asm); (case u9k3 => k_inst); (case u9k4 => k_is); (case u9k5 => k_is); (case u9k6 => k_is); (case u9k7 => k_is); (case u9k8 => with_reducible assumption); (case u9k9 => k_handed); k_whole)))
  (k_with "getMethod ref" => (k_here; (with_reducible show wpAny _ _ (getMethod (Value.ref _) (Str.ofString "get") _) _ _ _); k_dflt (refine' DR.method ?u9N ?u9m ?u9d ?_; (case u9N => k_asm); (case u9m => k_mem); (case u9d => with_reducible assumption))))
  (k_with "call builtin:dict.get" => ((k_here; k_dflt (refine' DR.get2 ?u9N ?u9m ?u9d ?u9l ?u9v ?_; (case u9N => k_asm); (case u9m => k_mem); (case u9d => with_reducible assumption); (case u9l => with_reducible assumption); (case u9v => first | exact VOk.str _ | with_reducible assumption)); intro r' hv' hd'); (revert r' hv' hd'; intros)))
  (k_with "compareOp In str ref" => (k_here; k_dflt (refine' DR.has ?u9N ?u9m ?u9d ?u9l ?_; (case u9N => k_asm); (case u9m => k_mem); (case u9d => with_reducible assumption); (case u9l => with_reducible assumption))))
  (k_with "setItem ref str" => ((k_here; k_dflt (refine' DR.set ?u9F ?u9N ?u9U ?u9d ?u9v ?u9z ?_; (case u9F => k_asm); (case u9N => k_asm); (case u9U => k_updF); (case u9d => with_reducible assumption); (case u9v => first | exact VOk.str _ | with_reducible assumption); (case u9z => omega)); intro h' o' F' N' hd'; (try dsimp only at N')); (revert h' o' F' N' hd'; intros)))
  (k_with "binaryOp Add ref ref" => ((k_here; k_dflt (refine' addL ?u9k1 ?u9k2 ?u9k3 ?u9k4 ?u9k5 ?_; (case u9k1 => k_asm); (case u9k2 => k_asm); (case u9k3 => k_mem); (case u9k4 => k_mem); (case u9k5 => ktr_rel); k_whole); intro c' h' F' N' l1; (have l2 := l1); (try k_lt l2)); (revert c' h' F' N' l1; intros)))
  (k_with "binaryOp Mult ref int" => ((k_here; k_dflt (refine' mul1 ?u9k1 ?u9k2 ?u9k3 ?u9k4 ?u9k5 ?_; (case u9k1 => k_asm); (case u9k2 => k_asm); (case u9k3 => k_mem); (case u9k4 => omega); (case u9k5 => omega); k_whole); intro c' h' F' N' l1; (have l2 := l1); (try k_lt l2)); (revert c' h' F' N' l1; intros)))
  (k_with "subscriptTail" => ((k_here; k_dflt (refine' sliceTo ?u9k1 ?u9k2 ?u9k3 ?u9k4 ?u9k5 ?_ ?u9k6; (case u9k1 => k_asm); (case u9k2 => k_asm); (case u9k3 => k_mem); (case u9k4 => omega); (case u9k5 => ktr_rel); (case u9k6 => with_unfolding_all rfl); k_whole); intro c' h' F' N' l1; (have l2 := l1); (try k_lt l2)); (revert c' h' F' N' l1; intros)))
  (k_with "subscriptTail" => ((k_here; k_dflt (refine' sliceFrom ?u9k1 ?u9k2 ?u9k3 ?u9k4 ?u9k5 ?_ ?u9k6; (case u9k1 => k_asm); (case u9k2 => k_asm); (case u9k3 => k_mem); (case u9k4 => omega); (case u9k5 => ktr_rel); (case u9k6 => with_unfolding_all rfl); k_whole); intro c' h' F' N' l1; (have l2 := l1); (try k_lt l2)); (revert c' h' F' N' l1; intros)))
  (k_with "subscriptTail" => ((k_here; k_dflt (refine' sliceRev ?u9k1 ?u9k2 ?u9k3 ?u9k5 ?_ ?u9k6; (case u9k1 => k_asm); (case u9k2 => k_asm); (case u9k3 => k_mem); (case u9k5 => ktr_rel); (case u9k6 => with_unfolding_all rfl); k_whole); intro c' h' F' N' l1; (have l2 := l1); (try k_lt l2)); (revert c' h' F' N' l1; intros)))
  (k_with "exec Assign cons ListComp" => (k_here; k_dflt (refine LCg.Assign_ListComp_U (F₀ := by k_asm) (by rfl) (by with_unfolding_all rfl) (by with_unfolding_all rfl) (by decide) (by rfl) (by decide) (by rfl) (by rfl) (by rfl) ?_)))
  (k_with "call builtin:list.append" => ((k_here; k_dflt (refine' appendL ?u9k1 ?u9k2 ?u9k3 ?u9k4 ?_; (case u9k1 => k_asm); (case u9k2 => k_asm); (case u9k3 => k_updF); (case u9k4 => ktr_rel)); intro h' F' N'; (try dsimp only at N')); (revert h' F' N'; intros)))
  (k_with "setAttr ref" => ((k_here; k_dflt (refine' setF ?u9k1 ?u9k2 ?u9k3 ?u9k4 ?u9k5 ?u9k6 ?u9k7 ?u9k8 ?u9k9 ?u9k10 ?u9k11 ?u9k12 ?_; (case u9k1 => k_asm); (case u9k2 => k_asm); (case u9k3 => k_asm); (case u9k4 => k_inst); (case u9k5 => exact rfl); (case u9k6 => k_is); (case u9k7 => k_is); (case u9k8 => k_is); (case u9k9 => k_is); (case u9k10 => with_reducible assumption); (case u9k11 => k_updF); (case u9k12 => with_reducible assumption)); intro es' n' h' hz' ho' hs' F' N'; (try dsimp only at N'); (try (have q' := (ho' (Str.ofString "store") (by decide)).trans (by with_reducible assumption))); (try (have q' := (ho' (Str.ofString "aside") (by decide)).trans (by with_reducible assumption)))); (revert es' n' h' hz' ho' hs' F' N'; intros)))
  (k_with "call builtin:len" => (k_here; (with_reducible show wpAny _ _ (call (Value.builtin "len") [Value.ref _]) _ _ _); k_dflt (refine' lenL ?u9N ?u9m ?u9z ?_; (case u9N => k_asm); (case u9m => k_mem); (case u9z => ktr_rel)); (try dsimp only)))
  (k_with "call builtin:list.pop" => ((k_here; (try dsimp only); k_dflt (refine' popL ?u9k1 ?u9k2 ?u9k3 ?u9k4 ?_; (case u9k1 => k_asm); (case u9k2 => k_asm); (case u9k3 => k_updF); (case u9k4 => ktr_rel)); intro h' F' N'; (try dsimp only at N')); (revert h' F' N'; intros)))
  (k_with "call ref" => ((k_here; (with_reducible show wpAny _ _ (call (Value.ref 87) _) _ _ _); k_dflt (refine' Calls.use (plain_var_calls _ ?u9a1 ?u9a2 ?u9a3 ?u9a4 ?u9a5 ?u9a6) ?u9B ?u9F ?u9X ?u9N ?u9T ?u9hk ?u9hd ?u9hu ?_; (case u9B => k_asm); (case u9F => k_asm); (case u9X => k_asm); (case u9N => k_asm); (case u9T => k_asm); (case u9hk => first | exact rfl | assumption); (case u9hd => ktr_room); (case u9hu => ktr_units); (case u9a1 => k_mem); (case u9a2 => k_mem); (case u9a4 => with_reducible assumption); (case u9a3 => k_mem); (case u9a5 => with_reducible assumption); (case u9a6 => with_reducible assumption)); (intro r' news' h' tk' F' N' hp'; obtain ⟨hn', hv', hd'⟩ := hp'; subst hn'; (try dsimp only))); (revert r' h' tk' F' N' hv' hd'; intros)))
  (k_with "call ref" => ((k_here; (with_reducible show wpAny _ _ (call (Value.ref 122) _) _ _ _); k_dflt (refine' Calls.use (own_names_calls _ ?u9a1 ?u9a2 ?u9a3 ?u9a4 ?u9a5 ?u9a6 ?u9a7 ?u9a8 ?u9a9) ?u9B ?u9F ?u9X ?u9N ?u9T ?u9hk ?u9hd ?u9hu ?_; (case u9B => k_asm); (case u9F => k_asm); (case u9X => k_asm); (case u9N => k_asm); (case u9T => k_asm); (case u9hk => first | exact rfl | assumption); (case u9hd => ktr_room); (case u9hu => ktr_units); (case u9a1 => k_mem); (case u9a2 => k_mem); (case u9a5 => with_reducible assumption); (case u9a6 => with_reducible assumption); (case u9a7 => with_reducible assumption); (case u9a3 => k_mem); (case u9a4 => k_mem); (case u9a8 => with_reducible assumption); (case u9a9 => with_reducible assumption)); (intro r' news' h' tk' F' N' hp'; obtain ⟨l', hr', hn', l1⟩ := hp'; subst hr' hn'; (have l2 := l1); (try k_lt l2); (try dsimp only))); (revert h' tk' F' N' l' l1; intros)))
  (k_with "call ref" => ((k_here; (with_reducible show wpAny _ _ (call (Value.ref 129) _) _ _ _); k_dflt (refine' Calls.use (filled_args_calls _ ?u9a1 ?u9a2 ?u9a3) ?u9B ?u9F ?u9X ?u9N ?u9T ?u9hk ?u9hd ?u9hu ?_; (case u9B => k_asm); (case u9F => k_asm); (case u9X => k_asm); (case u9N => k_asm); (case u9T => k_asm); (case u9hk => first | exact rfl | assumption); (case u9hd => ktr_room); (case u9hu => ktr_units); (case u9a1 => k_mem); (case u9a2 => ktr_rel); (case u9a3 => ktr_rel)); (intro r' news' h' tk' F' N' hp'; obtain ⟨l', u', hr', hn', l1⟩ := hp'; subst hr' hn'; (have l2 := l1); (try k_lt l2); (try dsimp only))); (revert h' tk' F' N' l' u' l1; intros)))
  (k_with "compareOp In str ref" => (k_here; k_dflt (refine' HasD.not ?u9N ?u9m ?u9d ?u9l ?u9p ?_; (case u9N => k_asm); (case u9m => k_mem); (case u9d => with_reducible assumption); (case u9l => with_reducible assumption); (case u9p => with_reducible assumption))))
  (k_with "subscriptTail" => ((k_here; (with_reducible refine' itemStr (ss := words5) ?u9k1 ?u9k3 ?u9k4 ?u9k5 ?u9k6 ?u9k7 ?_ ?u9k8); k_dflt ((case u9k1 => k_asm); (case u9k3 => k_mem); (case u9k4 => exact StrsAre.cons _ _ (StrsAre.cons _ _ (StrsAre.cons _ _ (StrsAre.cons _ _ (StrsAre.cons _ _ StrsAre.nil))))); (case u9k5 => with_reducible assumption); (case u9k6 => with_reducible assumption); (case u9k7 => decide); (case u9k8 => with_unfolding_all rfl); k_whole); intro x' t' e'); (revert x' t' e'; intros)))
  (k_with "subscriptTail" => (k_here; (with_reducible refine' itemRef ?u9k1 ?u9k3 ?u9k5 ?u9k7 ?u9k4 ?_ ?u9k8); k_dflt ((case u9k1 => k_asm); (case u9k3 => k_mem); (case u9k4 => with_reducible assumption); (case u9k5 => first | with_reducible assumption | omega); (case u9k7 => ktr_rel); (case u9k8 => with_unfolding_all rfl))))
  (k_with "eval Dict" => ((k_here; k_dflt (refine' kdn_eval (knd := PySem.strKind _ _) ?u9F ?u9N ?u9b ?u9a ?u9l ?u9e ?u9n ?_; (case u9F => k_asm); (case u9N => k_asm); (case u9b => exact Top.nolimit (by k_asm)); (case u9a => rfl); (case u9l => rfl); (case u9e => exact List.cons_ne_nil _ _); (case u9n => exact Nat.le_of_ble_eq_true rfl)); intro d' h' o' F' N' l1 lo' hd'; (have l2 := l1); (try k_lt l2)); (revert d' h' o' F' N' l1 lo' hd'; intros)))
  (k_with "KdnMade" => ((k_here; k_dflt (refine' made1 ?u9F ?u9N ?u9U ?u9d ?u9v ?_; (case u9F => k_asm); (case u9N => k_asm); (case u9U => k_updF); (case u9d => k_asm); (case u9v => first | exact VOk.str _ | with_reducible assumption)); intro h' o' F' N' hd'; (try dsimp only at N')); (revert h' o' F' N' hd'; intros)))
  (k_with "subscriptTail" => ((k_here; (with_reducible refine' itemPad ?u9k1 ?u9k3 ?u9k4 ?u9k5 ?u9k7 ?_ ?u9k8); k_dflt ((case u9k1 => k_asm); (case u9k3 => k_mem); (case u9k4 => with_reducible assumption); (case u9k5 => omega); (case u9k7 => omega); (case u9k8 => with_unfolding_all rfl)); intro r' hv' hd'); (revert r' hv' hd'; intros)))
  (k_with "call ref" => ((k_here; (with_reducible show wpAny _ _ (call (Value.ref 148) _) _ _ _); k_dflt (refine' Calls.use (law_names_calls _ ?u9a1) ?u9B ?u9F ?u9X ?u9N ?u9T ?u9hk ?u9hd ?u9hu ?_; (case u9B => k_asm); (case u9F => k_asm); (case u9X => k_asm); (case u9N => k_asm); (case u9T => k_asm); (case u9hk => first | exact rfl | assumption); (case u9hd => ktr_room); (case u9hu => ktr_units); (case u9a1 => with_reducible assumption)); (intro r' news' h' tk' F' N' hp'; obtain ⟨l', vs', hr', hn', l1, hS'⟩ := hp'; subst hr' hn'; (have l2 := l1); (try k_lt l2); (try dsimp only))); (revert h' tk' F' N' l' vs' l1 hS'; intros)))
  (k_with "compareOp In str ref" => (k_here; k_dflt (refine' DR.hasT ?u9N ?u9m ?u9d ?u9l ?u9p ?_; (case u9N => k_asm); (case u9m => k_mem); (case u9d => with_reducible assumption); (case u9l => with_reducible assumption); (case u9p => with_reducible assumption))))
  (k_with "compareOp In str ref" => (k_here; k_dflt (refine' DR.hasF ?u9N ?u9m ?u9d ?u9l ?u9p ?_; (case u9N => k_asm); (case u9m => k_mem); (case u9d => with_reducible assumption); (case u9l => with_reducible assumption); (case u9p => with_reducible assumption))))
  (k_with "subscriptTail" => ((k_here; (with_reducible refine' DR.item ?u9N ?u9m ?u9d ?u9p ?_ ?u9e); k_dflt ((case u9N => k_asm); (case u9m => k_mem); (case u9d => with_reducible assumption); (case u9p => with_reducible assumption); (case u9e => with_unfolding_all rfl)); intro r' hv' hd'); (revert r' hv' hd'; intros)))
  (k_with "call ref" => ((k_here; (with_reducible show wpAny _ _ (call (Value.ref 162) _) _ _ _); k_dflt (refine' Calls.use (law_found_calls _ ?u9a1 (FrAt.mono ?u9a0 (Nat.le_refl _) ?u9a2) ?u9a3) ?u9B ?u9F ?u9X ?u9N ?u9T ?u9hk ?u9hd ?u9hu ?_; (case u9B => k_asm); (case u9F => k_asm); (case u9X => k_asm); (case u9N => k_asm); (case u9T => k_asm); (case u9hk => first | exact rfl | assumption); (case u9hd => ktr_room); (case u9hu => ktr_units); (case u9a1 => k_mem); (case u9a2 => with_reducible assumption); (case u9a0 => tb_start); (case u9a3 => ktr_rel)); (intro r' news' h' tk' F' N' hp'; obtain ⟨hn', hv', hd'⟩ := hp'; subst hn'; (try dsimp only))); (revert r' h' tk' F' N' hv' hd'; intros)))
  trivial


theorem wt_plain : True := by
  w_top off
  trivial

/-! the plain law -/
section
abbrev Stk := List (List (Str × Value) × PM)
def ChainP : PM → Stk → PM → Prop
  | here, [], g0 => here = dom5 (foundR [g0])
  | here, e :: r, g0 => here = dom5 (foundR (e.2 :: (r.map (·.2) ++ [g0]))) ∧ ChainP (setAll here (undoL e.1)) r g0
theorem ChainP.head : ∀ {here : PM} {stk : Stk} {g0 : PM}, ChainP here stk g0 → here = dom5 (foundR (stk.map (·.2) ++ [g0]))
  | _, [], _, h => h
  | _, _ :: _, _, h => h.1
theorem upd_or (f : PM) (k : Str) (a : Option Int) (x : Str) : upd f k a x = (upd (fun _ => none) k a x).or (f x) := by
  unfold upd
  by_cases h : x = k <;> simp [h]
theorem setAll_or : ∀ (l : List (Str × Option Int)) (f : PM) (x : Str), setAll f l x = (setAll (fun _ => none) l x).or (f x)
  | [], f, x => by simp [setAll]
  | e :: r, f, x => by
    show setAll (upd f e.1 e.2) r x = (setAll (upd (fun _ => none) e.1 e.2) r x).or (f x)
    rw [setAll_or r (upd f e.1 e.2) x, setAll_or r (upd (fun _ => none) e.1 e.2) x, upd_or f, Option.or_assoc]
theorem setAll_some : ∀ (l : List (Str × Option Int)) (x : Str), (setAll (fun _ => none) l x).isSome = true ↔ x ∈ l.map (·.1)
  | [], x => by simp [setAll]
  | e :: r, x => by
    show (setAll (upd (fun _ => none) e.1 e.2) r x).isSome = true ↔ _
    rw [setAll_or, Option.isSome_or, Bool.or_eq_true, setAll_some r x, List.map_cons, List.mem_cons]
    unfold upd
    by_cases h : x = e.1 <;> simp [h]
theorem setAll_none {l : List (Str × Option Int)} {x : Str} (h : x ∉ l.map (·.1)) : setAll (fun _ => none) l x = none := by
  cases hx : setAll (fun _ => none) l x with
  | none => rfl
  | some a => exact absurd ((setAll_some l x).mp (by rw [hx]; rfl)) h
theorem setAll_in {l : List (Str × Option Int)} {x : Str} (h : x ∈ l.map (·.1)) : ∃ a, setAll (fun _ => none) l x = some a := Option.isSome_iff_exists.mp ((setAll_some l x).mpr h)
theorem setAll_all {F : Str → Option Int} : ∀ (l : List (Str × Option Int)), (∀ e ∈ l, e.2 = F e.1) → ∀ x a, setAll (fun _ => none) l x = some a → a = F x
  | [], _, x, a, h => by simp [setAll] at h
  | e :: r, hl, x, a, h => by
    have h : setAll (upd (fun _ => none) e.1 e.2) r x = some a := h
    rw [setAll_or] at h
    cases hr : setAll (fun _ => none) r x with
    | some b =>
      rw [hr, Option.some_or] at h
      exact (Option.some.inj h) ▸ setAll_all r (fun e he => hl e (List.mem_cons_of_mem _ he)) x b hr
    | none =>
      rw [hr, Option.none_or] at h
      unfold upd at h
      by_cases hx : x = e.1
      · rw [if_pos hx] at h
        rw [hx, ← hl e List.mem_cons_self]
        exact (Option.some.inj h).symm
      · rw [if_neg hx] at h; cases h
theorem undo_keys (tl : List (Str × Value)) (x : Str) : x ∈ (undoL tl).map (·.1) ↔ x ∈ tl.map (·.1) := by
  unfold undoL
  simp only [List.map_map, List.mem_map, List.mem_reverse, Function.comp]
theorem saved_keys {f : PM} : ∀ {xs : List Str} {tl : List (Str × Value)}, SavedOf f xs tl → tl.map (·.1) = xs
  | _, _, .nil => rfl
  | _, _, .cons _ _ r => by rw [List.map_cons, saved_keys r]
theorem saved_vals {f : PM} : ∀ {xs : List Str} {tl : List (Str × Value)}, SavedOf f xs tl → ∀ e ∈ tl, VOk e.2 ∧ den e.2 = (f e.1).getD none
  | _, _, .nil, e, h => nomatch h
  | _, _, .cons hv hd r, e, h => by
    rcases List.mem_cons.mp h with rfl | h
    · exact ⟨hv, hd⟩
    · exact saved_vals r e h
theorem undo_vals {f : PM} {xs : List Str} {tl : List (Str × Value)} (S : SavedOf f xs tl) : ∀ e ∈ undoL tl, e.2 = (f e.1).getD none := by
  intro e he
  unfold undoL at he
  obtain ⟨q, hq, rfl⟩ := List.mem_map.mp he
  exact (saved_vals S q (List.mem_reverse.mp hq)).2
theorem binds_keys (ps : List Str) (as : List (Option Int)) : (binds ps as).map (·.1) = ps := by
  unfold binds
  rw [← List.unzip_fst, List.unzip_zip (by simp)]
theorem frame_keys (nm : Str) (ps : List Str) (as : List (Option Int)) (ls : List Str) : (frameL nm ps as ls).map (·.1) = nm :: ps ++ ls := by
  unfold frameL
  rw [List.map_cons, List.map_append, binds_keys, List.map_map]
  simp [Function.comp_def]
theorem dom5_in {F : Str → Option Int} {x : Str} (h : x ∈ words5) : dom5 F x = some (F x) := if_pos h
theorem dom5_out {F : Str → Option Int} {x : Str} (h : x ∉ words5) : dom5 F x = none := if_neg h

structure LawInv (f : PM) (stk : Stk) (g0 : PM) : Prop where
  chain : ChainP (dom5 fun x => (f x).getD none) stk g0
  keys : ∀ e ∈ stk, ∀ x, x ∈ e.1.map (·.1) ↔ (e.2 x).isSome = true
  words : ∀ e ∈ stk, ∀ x ∈ e.1.map (·.1), x ∈ words5

theorem LawInv.enter {f : PM} {stk : Stk} {g0 : PM} (I : LawInv f stk g0) {l : List (Str × Option Int)} {names : List Str} {tl : List (Str × Value)} (hl : l.map (·.1) = names) (S : SavedOf f names tl) (hw : ∀ x ∈ names, x ∈ words5) :
    LawInv (setAll f l) ((tl, setAll (fun _ => none) l) :: stk) g0 := by
  have hk := saved_keys S
  have hd := I.chain.head
  refine ⟨⟨?_, ?_⟩, fun e he => ?_, fun e he => ?_⟩
  · funext x
    by_cases hx : x ∈ words5
    · rw [dom5_in hx, dom5_in hx]
      have h1 := congrFun hd x
      rw [dom5_in hx, dom5_in hx] at h1
      have h1 := Option.some.inj h1
      dsimp only at h1 ⊢
      rw [setAll_or]
      show _ = some ((setAll (fun _ => none) l x).getD (foundR (stk.map (·.2) ++ [g0]) x))
      cases setAll (fun _ => none) l x with
      | some a => rfl
      | none => rw [Option.none_or, h1]; rfl
    · rw [dom5_out hx, dom5_out hx]
  · have e : setAll (dom5 fun x => (setAll f l x).getD none) (undoL tl) = dom5 fun x => (f x).getD none := by
      funext x
      rw [setAll_or]
      by_cases hm : x ∈ names
      · obtain ⟨a, ha⟩ := setAll_in (l := undoL tl) (x := x) ((undo_keys tl x).mpr (hk ▸ hm))
        rw [ha, Option.some_or, dom5_in (hw x hm), setAll_all (F := fun x => (f x).getD none) _ (undo_vals S) x a ha]
      · rw [setAll_none (l := undoL tl) (x := x) (fun h => hm (hk ▸ (undo_keys tl x).mp h)), Option.none_or]
        unfold dom5
        dsimp only
        rw [setAll_or l f, setAll_none (l := l) (x := x) (fun h => hm (hl ▸ h)), Option.none_or]
    show ChainP (setAll _ (undoL tl)) stk g0
    rw [e]
    exact I.chain
  · rcases List.mem_cons.mp he with rfl | he
    · intro x
      dsimp only
      rw [setAll_some, hk, hl]
    · exact I.keys e he
  · rcases List.mem_cons.mp he with rfl | he
    · intro x hx
      exact hw x (hk ▸ hx)
    · exact I.words e he

theorem LawInv.restore {f : PM} {stk : Stk} {g0 g : PM} {tl : List (Str × Value)} (I : LawInv f ((tl, g) :: stk) g0) : LawInv (setAll f (undoL tl)) stk g0 := by
  refine ⟨?_, fun e he => I.keys e (List.mem_cons_of_mem _ he), fun e he => I.words e (List.mem_cons_of_mem _ he)⟩
  have h := I.chain.2
  have e : (dom5 fun x => (setAll f (undoL tl) x).getD none) = setAll (dom5 fun x => (f x).getD none) (undoL tl) := by
    funext x
    rw [setAll_or]
    by_cases hm : x ∈ tl.map (·.1)
    · obtain ⟨a, ha⟩ := setAll_in (l := undoL tl) (x := x) ((undo_keys tl x).mpr hm)
      rw [ha, Option.some_or, dom5_in (I.words (tl, g) List.mem_cons_self x hm)]
      rw [setAll_or, ha]
      rfl
    · have hn := setAll_none (l := undoL tl) (x := x) (fun h => hm ((undo_keys tl x).mp h))
      rw [hn, Option.none_or]
      unfold dom5
      dsimp only
      rw [setAll_or, hn, Option.none_or]
  rw [e]
  exact h

def setIn (x : Str) (a : Option Int) : Stk → PM → Stk × PM
  | [], g0 => ([], upd g0 x a)
  | e :: r, g0 => if (e.2 x).isSome = true then ((e.1, upd e.2 x a) :: r, g0) else (e :: (setIn x a r g0).1, (setIn x a r g0).2)
theorem foundR_setIn (x : Str) (a : Option Int) : ∀ (stk : Stk) (g0 : PM) (y : Str), foundR ((setIn x a stk g0).1.map (·.2) ++ [(setIn x a stk g0).2]) y = if y = x then a else foundR (stk.map (·.2) ++ [g0]) y
  | [], g0, y => by
    simp only [setIn, List.map_nil, List.nil_append, foundR, upd]
    by_cases h : y = x <;> simp [h]
  | e :: r, g0, y => by
    unfold setIn
    by_cases he : (e.2 x).isSome = true
    · simp only [if_pos he, List.map_cons, List.cons_append, foundR, upd]
      by_cases h : y = x <;> simp [h]
    · simp only [if_neg he, List.map_cons, List.cons_append, foundR]
      rw [foundR_setIn x a r g0 y]
      by_cases h : y = x
      · subst h
        have : e.2 y = none := by simpa using he
        simp [this]
      · simp [h]
theorem setAll_upd_in {here : PM} {l : List (Str × Option Int)} {x : Str} {a : Option Int} (h : x ∈ l.map (·.1)) : setAll (upd here x a) l = setAll here l := by
  funext y
  rw [setAll_or, setAll_or l here]
  by_cases hy : y = x
  · subst hy
    obtain ⟨b, hb⟩ := setAll_in h
    rw [hb]; rfl
  · unfold upd; rw [if_neg hy]
theorem setAll_upd_out {here : PM} {l : List (Str × Option Int)} {x : Str} {a : Option Int} (h : x ∉ l.map (·.1)) : setAll (upd here x a) l = upd (setAll here l) x a := by
  funext y
  rw [setAll_or]
  unfold upd
  by_cases hy : y = x
  · subst hy
    rw [setAll_none h]; simp
  · simp only [if_neg hy]
    rw [← setAll_or]
theorem ChainP.set {x : Str} {a : Option Int} (hx : x ∈ words5) : ∀ {here : PM} {stk : Stk} {g0 : PM}, ChainP here stk g0 → (∀ e ∈ stk, ∀ x, x ∈ e.1.map (·.1) ↔ (e.2 x).isSome = true) →
    ChainP (upd here x a) (setIn x a stk g0).1 (setIn x a stk g0).2
  | here, [], g0, h, _ => by
    have h : here = dom5 (foundR [g0]) := h
    show upd here x a = dom5 (foundR [upd g0 x a])
    subst h
    funext y
    unfold upd
    by_cases hy : y = x
    · subst hy; rw [if_pos rfl, dom5_in hx]; simp [foundR]
    · rw [if_neg hy]; unfold dom5; simp [foundR, hy]
  | here, e :: r, g0, h, hk => by
    obtain ⟨h1, h2⟩ := h
    have hF := foundR_setIn x a (e :: r) g0
    have hd : upd here x a = dom5 (foundR ((setIn x a (e :: r) g0).1.map (·.2) ++ [(setIn x a (e :: r) g0).2])) := by
      subst h1
      funext y
      by_cases hy : y = x
      · subst hy
        rw [dom5_in hx, hF, if_pos rfl]
        exact if_pos rfl
      · by_cases hy5 : y ∈ words5
        · rw [dom5_in hy5, hF, if_neg hy]
          unfold upd; rw [if_neg hy, dom5_in hy5]; rfl
        · rw [dom5_out hy5]
          unfold upd; rw [if_neg hy, dom5_out hy5]
    unfold setIn at hd ⊢
    by_cases he : (e.2 x).isSome = true
    · rw [if_pos he] at hd ⊢
      refine ⟨hd, ?_⟩
      dsimp only
      rw [setAll_upd_in ((undo_keys _ _).mpr ((hk e List.mem_cons_self x).mpr he))]
      exact h2
    · rw [if_neg he] at hd ⊢
      refine ⟨hd, ?_⟩
      dsimp only
      rw [setAll_upd_out (fun h => he ((hk e List.mem_cons_self x).mp ((undo_keys _ _).mp h)))]
      exact ChainP.set hx h2 fun e he => hk e (List.mem_cons_of_mem _ he)
theorem setIn_mem (x : Str) (a : Option Int) : ∀ (stk : Stk) (g0 : PM), ∀ e ∈ (setIn x a stk g0).1, ∃ q ∈ stk, e.1 = q.1 ∧ ∀ y, (e.2 y).isSome = (q.2 y).isSome
  | [], g0, e, h => nomatch h
  | q :: r, g0, e, h => by
    unfold setIn at h
    by_cases he : (q.2 x).isSome = true
    · rw [if_pos he] at h
      rcases List.mem_cons.mp h with rfl | h
      · refine ⟨q, List.mem_cons_self, rfl, fun y => ?_⟩
        unfold upd
        by_cases hy : y = x
        · subst hy; simp [he]
        · simp [hy]
      · exact ⟨e, List.mem_cons_of_mem _ h, rfl, fun _ => rfl⟩
    · rw [if_neg he] at h
      rcases List.mem_cons.mp h with rfl | h
      · exact ⟨e, List.mem_cons_self, rfl, fun _ => rfl⟩
      · obtain ⟨q', h1, h2⟩ := setIn_mem x a r g0 e h
        exact ⟨q', List.mem_cons_of_mem _ h1, h2⟩
theorem setIn_fst (x : Str) (a : Option Int) : ∀ (stk : Stk) (g0 : PM), (setIn x a stk g0).1.map (·.1) = stk.map (·.1)
  | [], _ => rfl
  | e :: r, g0 => by
    unfold setIn
    split
    · rfl
    · rw [List.map_cons, List.map_cons, setIn_fst x a r g0]
theorem LawInv.set {f : PM} {stk : Stk} {g0 : PM} (I : LawInv f stk g0) {x : Str} (a : Option Int) (hx : x ∈ words5) : LawInv (upd f x a) (setIn x a stk g0).1 (setIn x a stk g0).2 := by
  refine ⟨?_, fun e he y => ?_, fun e he y hy => ?_⟩
  · have e : (dom5 fun y => (upd f x a y).getD none) = upd (dom5 fun y => (f y).getD none) x a := by
      funext y
      unfold upd
      by_cases hy : y = x
      · subst hy; rw [dom5_in hx]; simp
      · unfold dom5; simp [hy]
    rw [e]
    exact I.chain.set hx I.keys
  · obtain ⟨q, h1, h2, h3⟩ := setIn_mem x a stk g0 e he
    rw [h2, h3]
    exact I.keys q h1 y
  · obtain ⟨q, h1, h2, h3⟩ := setIn_mem x a stk g0 e he
    exact I.words q h1 y (h2 ▸ hy)

/-- the level that a value given changes: the innermost that has the name, or the outermost -/
def lvlR (x : Str) : List PM → Nat
  | [] => 0
  | g :: r => if (g x).isSome = true then r.length else lvlR x r
def lvl (x : Str) (gs : List PM) : Nat := lvlR x gs.reverse
theorem lvlR_lt (x : Str) : ∀ (r : List PM), r ≠ [] → lvlR x r < r.length
  | [], h => absurd rfl h
  | g :: r, _ => by
    unfold lvlR
    split
    · simp
    · by_cases hr : r = []
      · subst hr; simp [lvlR]
      · have := lvlR_lt x r hr; simp; omega
theorem lvl_lt (x : Str) {gs : List PM} (h : gs ≠ []) : lvl x gs < gs.length := by
  have := lvlR_lt x gs.reverse (by simpa using h)
  simpa [lvl] using this
theorem lvl_snoc (x : Str) (gs : List PM) (g : PM) : lvl x (gs ++ [g]) = if (g x).isSome = true then gs.length else lvl x gs := by
  unfold lvl
  rw [List.reverse_append, List.reverse_singleton, List.singleton_append, lvlR, List.length_reverse]
theorem setAt_in (x : Str) (a : Option Int) : ∀ (stk : Stk) (g0 g : PM), (g0 :: (stk.map (·.2)).reverse)[lvl x (g0 :: (stk.map (·.2)).reverse)]? = some g →
    (g0 :: (stk.map (·.2)).reverse).set (lvl x (g0 :: (stk.map (·.2)).reverse)) (upd g x a) = (setIn x a stk g0).2 :: ((setIn x a stk g0).1.map (·.2)).reverse
  | [], g0, g, h => by
    have e : lvl x (g0 :: (List.map (·.2) ([] : Stk)).reverse) = 0 := by unfold lvl; simp [lvlR]
    rw [e] at h ⊢
    have h : g0 = g := by simpa using h
    subst h
    rfl
  | e :: r, g0, g, h => by
    have ih := setAt_in x a r g0 g
    have e1 : g0 :: (List.map (·.2) (e :: r)).reverse = (g0 :: (r.map (·.2)).reverse) ++ [e.2] := by simp
    have hlt := lvl_lt x (gs := g0 :: (r.map (·.2)).reverse) (by simp)
    rw [e1] at h ⊢
    rw [lvl_snoc] at h ⊢
    unfold setIn
    by_cases he : (e.2 x).isSome = true
    · rw [if_pos he] at h ⊢
      rw [if_pos he]
      rw [List.getElem?_append_right (Nat.le_refl _), Nat.sub_self] at h
      have h : e.2 = g := by simpa using h
      subst h
      rw [List.set_append_right _ _ (Nat.le_refl _), Nat.sub_self]
      simp
    · rw [if_neg he] at h ⊢
      rw [if_neg he]
      rw [List.getElem?_append_left hlt] at h
      rw [List.set_append_left _ _ hlt, ih h]
      simp

def LawOk (f : PM) (tls : List (List (Str × Value))) (gs : List PM) : Prop := ∃ stk g0, tls = (stk.map (·.1)).reverse ∧ gs = g0 :: (stk.map (·.2)).reverse ∧ LawInv f stk g0
theorem LawOk.start : LawOk (fun _ => none) [] [fun _ => none] := by
  refine ⟨[], fun _ => none, rfl, rfl, ⟨?_, (fun _ h => nomatch h), (fun _ h => nomatch h)⟩⟩
  show dom5 _ = dom5 _
  rfl
theorem LawOk.len {f : PM} {tls : List (List (Str × Value))} {gs : List PM} (I : LawOk f tls gs) : gs.length = tls.length + 1 := by
  obtain ⟨stk, g0, rfl, rfl, _⟩ := I
  simp
theorem LawOk.enter {f : PM} {tls : List (List (Str × Value))} {gs : List PM} (I : LawOk f tls gs) {l : List (Str × Option Int)} {names : List Str} {tl : List (Str × Value)} (hl : l.map (·.1) = names) (S : SavedOf f names tl) (hw : ∀ x ∈ names, x ∈ words5) :
    LawOk (setAll f l) (tls ++ [tl]) (gs ++ [setAll (fun _ => none) l]) := by
  obtain ⟨stk, g0, rfl, rfl, I⟩ := I
  exact ⟨_, g0, by simp, by simp, I.enter hl S hw⟩
theorem LawOk.restore {f : PM} {tls : List (List (Str × Value))} {gs : List PM} {tl : List (Str × Value)} {g : PM} (I : LawOk f (tls ++ [tl]) (gs ++ [g])) : LawOk (setAll f (undoL tl)) tls gs := by
  obtain ⟨stk, g0, h1, h2, I⟩ := I
  cases stk with
  | nil => simp at h1
  | cons e r =>
    have h1 : tls ++ [tl] = (r.map (·.1)).reverse ++ [e.1] := by simpa using h1
    have h2 : gs ++ [g] = (g0 :: (r.map (·.2)).reverse) ++ [e.2] := by simpa using h2
    obtain ⟨h3, h4⟩ := List.append_inj' h1 rfl
    obtain ⟨h5, h6⟩ := List.append_inj' h2 rfl
    have h4 : tl = e.1 := by simpa using h4
    subst h4
    exact ⟨r, g0, h3, h5, I.restore (g := e.2)⟩
theorem LawOk.set {f : PM} {tls : List (List (Str × Value))} {gs : List PM} (I : LawOk f tls gs) {x : Str} {a : Option Int} {g : PM} (hx : x ∈ words5) (hg : gs[lvl x gs]? = some g) : LawOk (upd f x a) tls (gs.set (lvl x gs) (upd g x a)) := by
  obtain ⟨stk, g0, rfl, rfl, I⟩ := I
  refine ⟨(setIn x a stk g0).1, (setIn x a stk g0).2, ?_, setAt_in x a stk g0 g hg, I.set a hx⟩
  rw [setIn_fst]
theorem LawOk.ne {f : PM} {tls : List (List (Str × Value))} {gs : List PM} (I : LawOk f tls gs) : gs ≠ [] := by
  intro h
  have := I.len
  rw [h] at this
  cases this
theorem LawOk.last {f : PM} {tls : List (List (Str × Value))} {gs : List PM} (I : LawOk f tls gs) {k : Nat} (h : tls.length = k + 1) : ∃ tls' tl gs' g, tls = tls' ++ [tl] ∧ gs = gs' ++ [g] ∧ tls'.length = k := by
  have h2 := I.len
  have n1 : tls ≠ [] := fun e => by rw [e] at h; cases h
  refine ⟨tls.dropLast, tls.getLast n1, gs.dropLast, gs.getLast I.ne, (List.dropLast_concat_getLast n1).symm, (List.dropLast_concat_getLast I.ne).symm, ?_⟩
  rw [List.length_dropLast, h]; rfl
theorem LawOk.hc {f : PM} {tls : List (List (Str × Value))} {gs : List PM} (I : LawOk f tls gs) : ∀ i, i ≤ tls.length → hereN f tls i = dom5 (found (gs.take (tls.length + 1 - i))) := by
  obtain ⟨stk, g0, rfl, rfl, I⟩ := I
  have key : ∀ i, i ≤ stk.length → ChainP (hereN f (stk.map (·.1)).reverse i) (stk.drop i) g0 := by
    intro i
    induction i with
    | zero => intro _; exact I.chain
    | succ i ih =>
      intro hi
      have h := ih (by omega)
      have hlt : i < stk.length := hi
      rw [List.drop_eq_getElem_cons hlt] at h
      have e : ((stk.map (·.1)).reverse)[(stk.map (·.1)).reverse.length - 1 - i]? = some (stk[i].1) := by
        rw [List.getElem?_reverse (by simp; omega)]
        simp only [List.length_reverse, List.length_map]
        have : stk.length - 1 - (stk.length - 1 - i) = i := by omega
        rw [this, List.getElem?_map, List.getElem?_eq_getElem hlt]
        rfl
      have e2 : hereN f (stk.map (·.1)).reverse (i + 1) = setAll (hereN f (stk.map (·.1)).reverse i) (undoL stk[i].1) := by
        rw [hereN, e]
      rw [e2]
      exact h.2
  intro i hi
  have hi' : i ≤ stk.length := by simpa using hi
  rw [(key i hi').head]
  congr 1
  unfold found
  congr 1
  simp only [List.length_reverse, List.length_map]
  have e3 : stk.length + 1 - i = (stk.length - i) + 1 := by omega
  rw [e3, List.take_succ_cons, List.reverse_cons, List.take_reverse]
  simp only [List.length_map, List.reverse_reverse, List.map_drop]
  have : stk.length - (stk.length - i) = i := by omega
  rw [this]
end


theorem wt_lib6 : True := by
  w_top off
  trivial

/-! the law's own lists -/
def aabs (n : Int) : Int := if n < 0 then -n else n
def GoodI (base : List (Addr × Obj)) (ns : List Int) (i : Nat) (ys : List Value) (nw : List (Addr × Obj)) : Prop := nw = base ∧ IntsAre ys ((ns.take i).map aabs)
theorem GoodI.start (base : List (Addr × Obj)) (ns : List Int) : GoodI base ns 0 [] base := ⟨rfl, .nil⟩
theorem GoodI.step {base : List (Addr × Obj)} {ns : List Int} {i : Nat} {ys : List Value} {n : Int} {u : Tok} (hI : IntsAre ys ((ns.take i).map aabs)) (hn : ns[i]? = some n) : GoodI base ns (i + 1) (ys ++ [.int (if n < 0 then -n else n) u]) base := by
  refine ⟨rfl, ?_⟩
  rw [List.take_add_one, hn, List.map_append]
  exact hI.append (.cons _ _ .nil)
theorem compEnd0 {h₀ : Heap} {L I C D : Addr} {m : Str → Option Value} {s₁ : Shared} {oI oC oD : Obj} {S : List (Addr × Obj) → Prop} {rest : Value → List (Addr × Obj) → Prop} {y : Value} {h' : Heap} {tk : Nat} {X : List (Addr × Obj)}
    (F : Fr h₀ L h' m) (N : News h₀ L h' ((I, oI) :: (C, oC) :: (D, oD) :: X)) (off : LCg.Off3 I C D X) (hS : S X) (r : rest y X) :
    LCg.CompEnd h₀ L m s₁ I oI C oC D oD S rest y { s₁ with heap := h', toks := tk } := LCg.CompEnd.intro F N X (fun _ hp => hp) off hS r
/-- a mark in the context: at it the walk is held -/
def HoldAt (_ : Nat) : Prop := True
theorem HoldAt.mk (n : Nat) : HoldAt n := trivial
/-- seventeen ints, none below nought -/
def Cells17 (vs : List Value) : Prop := ∃ cs, IntsAre vs cs ∧ cs.length = 17 ∧ ∀ c ∈ cs, 0 ≤ c
theorem cells_ok {ys us : List Value} {ns ms : List Int} {k j : Nat} (hY : IntsAre ys ((ns.take k).map aabs)) (hk : k = ns.length) (hU : IntsAre us ms) (hm : ms.length = 17) (h0 : ∀ c ∈ ms, 0 ≤ c) (hj : j = ns.length) (hn : ns.length ≤ 17) :
    Cells17 (ys ++ us.drop j) := by
  refine ⟨_, hY.append (hU.drop j), ?_, fun c hc => ?_⟩
  · simp [hk, hm, hj]
    omega
  · rcases List.mem_append.mp hc with hc | hc
    · obtain ⟨n, _, rfl⟩ := List.mem_map.mp hc
      unfold aabs
      split <;> omega
    · exact h0 c (List.mem_of_mem_drop hc)
theorem Cells17.len {vs : List Value} (h : Cells17 vs) : vs.length = 17 := by
  obtain ⟨cs, hI, hl, _⟩ := h
  rw [hI.length, hl]
section
variable {prog : Program} {w : World} {A : Around} {E : Value → Shared → Prop} {s : Shared} {h₀ : Heap} {L : Addr} {news : List (Addr × Obj)}
theorem cellItem {value slice : PySem.Expr} {l : Addr} {vs : List Value} {n : Nat} {k : Int} {u : Tok} {ops : List Value} {Q : Value → Shared → Prop}
    (N : News h₀ L s.heap news) (hl : (l, listOf vs.toArray n) ∈ news) (hc : Cells17 vs) (h0 : 0 ≤ k) (h1 : k < 17) (h : ∀ c t, 0 ≤ c → Q (.int c t) s)
    (hs : subscripted slice false (.ref l) (.int k u) = operate ops (getItem (.ref l) (.int k u))) :
    wpAny (model prog w) A (subscriptTail value slice (.ref l) (.int k u)) Q E s := by
  have hlen := hc.len
  obtain ⟨cs, hI, hl17, hc0⟩ := hc
  have hb : k.toNat < vs.length := by omega
  obtain ⟨c, t, e1, e2⟩ := hI.at k.toNat vs[k.toNat] (List.getElem?_eq_getElem hb)
  refine itemRef N hl h0 (by omega) (x := .int c t) (by rw [List.getElem?_eq_getElem hb, e1]) (h c t (hc0 c (List.mem_of_getElem? e2))) hs
theorem fgh_item {k : Int} (h0 : 0 ≤ k) (h1 : k < 3) : Txt.item (Str.ofString "FGH") k ∈ words5 := by
  have : k = 0 ∨ k = 1 ∨ k = 2 := by omega
  rcases this with rfl | rfl | rfl <;> decide +kernel
theorem fghItem {value slice : PySem.Expr} {k : Int} {u t : Tok} {Q : Value → Shared → Prop} (h0 : 0 ≤ k) (h1 : k < 3) (h : ∀ x t' tk, x ∈ words5 → Q (.str x t') { s with toks := tk })
    (hs : subscripted slice false (.str (Str.ofString "FGH") t) (.int k u) = operate [.str (Str.ofString "FGH") t, .int k u] (getItem (.str (Str.ofString "FGH") t) (.int k u)))
    (ht : ∀ r, letTemporaryGo value (.str (Str.ofString "FGH") t) r = pure ()) :
    wpAny (model prog w) A (subscriptTail value slice (.str (Str.ofString "FGH") t) (.int k u)) Q E s := by
  have hl : (Str.ofString "FGH").length = 3 := by decide +kernel
  exact item_str (fitsSsize_of (N := 9223372036854775808) (by omega) (by omega) (Int.le_refl _)) (by rw [hl]; omega) (by rw [hl]; omega) (fun _ => h _ _ _ (fgh_item h0 h1)) hs ht
end
theorem namesOf_in (t : Nat) : ∀ x ∈ namesOf t, x ∈ words5 := by
  intro x hx
  have key : ∀ i, wd i ∈ words5 := fun i => by
    unfold wd
    have : i % 5 < 5 := Nat.mod_lt _ (by decide)
    rw [List.getElem?_eq_getElem (by exact this)]
    exact List.getElem_mem _
  have := List.mem_of_mem_take hx
  simp only [List.mem_cons, List.not_mem_nil, or_false] at this
  rcases this with rfl | rfl <;> exact key _
theorem namesOf_len (t : Nat) : (namesOf t).length ≤ 2 := by
  unfold namesOf
  rw [List.length_take]
  exact Nat.min_le_right _ _
/-- one of the three functions -/
def FnOk (l : List (Addr × Obj)) (v : Value) : Prop :=
  ∃ fa fd pa la fes fn n1 n2 nm t pvs lvs ps ls, v = .ref fa ∧ (fa, instObj 111 fd) ∈ l ∧ (fd, dictOf fes fn) ∈ l ∧ (pa, listOf pvs.toArray n1) ∈ l ∧ (la, listOf lvs.toArray n2) ∈ l ∧
    getL (Str.ofString "name") fes = some (some (.str nm t)) ∧ getL (Str.ofString "params") fes = some (some (.ref pa)) ∧ getL (Str.ofString "local_names") fes = some (some (.ref la)) ∧
    StrsAre pvs ps ∧ StrsAre lvs ls ∧ pvs.length ≤ 2 ∧ lvs.length ≤ 2 ∧ ∀ x ∈ nm :: ps ++ ls, x ∈ words5
theorem FnOk.mono {l l' : List (Addr × Obj)} (hs : ∀ p ∈ l, p ∈ l') {v : Value} (h : FnOk l v) : FnOk l' v := by
  obtain ⟨fa, fd, pa, la, fes, fn, n1, n2, nm, t, pvs, lvs, ps, ls, e, h1, h2, h3, h4, r⟩ := h
  exact ⟨fa, fd, pa, la, fes, fn, n1, n2, nm, t, pvs, lvs, ps, ls, e, hs _ h1, hs _ h2, hs _ h3, hs _ h4, r⟩
def GoodF (base : List (Addr × Obj)) (i : Nat) (ys : List Value) (nw : List (Addr × Obj)) : Prop :=
  ∃ newp, nw = newp ++ base ∧ ys.length = i ∧ (∀ y ∈ ys, FnOk newp y) ∧ ∀ p ∈ newp, ∀ q ∈ base, q.1 < p.1
theorem GoodF.start (base : List (Addr × Obj)) : GoodF base 0 [] base := ⟨[], rfl, rfl, by simp, by simp⟩
theorem GoodF.step {base newp : List (Addr × Obj)} {i : Nat} {ys : List Value} {v : Value} (add : List (Addr × Obj)) (hl : ys.length = i) (hF : ∀ y ∈ ys, FnOk newp y) (hf : ∀ p ∈ newp, ∀ q ∈ base, q.1 < p.1)
    (hv : FnOk add v) (ha : ∀ p ∈ add, ∀ q ∈ base, q.1 < p.1) : GoodF base (i + 1) (ys ++ [v]) (add ++ (newp ++ base)) := by
  refine ⟨add ++ newp, (List.append_assoc _ _ _).symm, by simp [hl], fun y hy => ?_, fun p hp => ?_⟩
  · rcases List.mem_append.mp hy with hy | hy
    · exact (hF y hy).mono fun p hp => List.mem_append_right _ hp
    · rw [List.mem_singleton.mp hy]
      exact hv.mono fun p hp => List.mem_append_left _ hp
  · rcases List.mem_append.mp hp with hp | hp
    · exact ha p hp
    · exact hf p hp
theorem cellsStep {h₀ h : Heap} {L c : Addr} {rest : List (Addr × Obj)} {ys us : List Value} {ns ms : List Int} {k j : Nat} (N : News h₀ L h ((c, listOf (ys ++ us.drop j).toArray 0) :: rest)) (hY : IntsAre ys ((ns.take k).map aabs)) (hk : k = ns.length) (hU : IntsAre us ms) (hm : ms.length = 17) (h0 : ∀ c ∈ ms, 0 ≤ c) (hj : j = ns.length) (hn : ns.length ≤ 17) :
    ∃ cvs, Cells17 cvs ∧ News h₀ L h ((c, listOf cvs.toArray 0) :: rest) := ⟨_, cells_ok hY hk hU hm h0 hj hn, N⟩
theorem newsDrop4 {h₀ h : Heap} {L : Addr} {c p1 p2 p3 p4 : Addr × Obj} {rest : List (Addr × Obj)} (N : News h₀ L h (c :: p1 :: p2 :: p3 :: p4 :: rest)) : News h₀ L h (c :: rest) := newsSub N (by
  intro p hp
  simp only [List.mem_cons] at hp ⊢
  grind)
theorem compEndAdd {h₀ : Heap} {L I C D : Addr} {m : Str → Option Value} {s₁ : Shared} {oI oC oD : Obj} {S : List (Addr × Obj) → Prop} {rest : Value → List (Addr × Obj) → Prop} {y : Value} {h' : Heap} {tk : Nat} {X : List (Addr × Obj)} {a1 a2 a3 a4 : Addr × Obj}
    (F : Fr h₀ L h' m) (N : News h₀ L h' (a1 :: a2 :: a3 :: a4 :: (I, oI) :: (C, oC) :: (D, oD) :: X)) (off : LCg.Off3 I C D X) (l4 : I < a4.1 ∧ C < a4.1 ∧ D < a4.1 ∧ AllLt a4.1 X) (l3 : a4.1 < a3.1) (l2 : a3.1 < a2.1) (l1 : a2.1 < a1.1)
    (hS : S ([a1, a2, a3, a4] ++ X)) (r : rest y ([a1, a2, a3, a4] ++ X)) :
    LCg.CompEnd h₀ L m s₁ I oI C oC D oD S rest y { s₁ with heap := h', toks := tk } := by
  have t3 := Nat.lt_trans l3 l2
  have t2 := Nat.lt_trans t3 l1
  refine LCg.CompEnd.intro F N _ (fun p hp => ?_) ?_ hS r
  · simp only [List.mem_cons, List.mem_append, List.not_mem_nil, or_false] at hp ⊢
    grind
  · obtain ⟨q1, q2, q3, _⟩ := l4
    have k : ∀ {z b : Addr}, z < a4.1 → a4.1 ≤ b → @Ne Nat b z := fun h1 h2 => Nat.ne_of_gt (Nat.lt_of_lt_of_le h1 h2)
    have e1 : a4.1 ≤ a1.1 := Nat.le_of_lt t2
    have e2 : a4.1 ≤ a2.1 := Nat.le_of_lt t3
    have e3 : a4.1 ≤ a3.1 := Nat.le_of_lt l3
    exact ⟨⟨k q1 e1, k q2 e1, k q3 e1⟩, ⟨k q1 e2, k q2 e2, k q3 e2⟩, ⟨k q1 e3, k q2 e3, k q3 e3⟩, ⟨k q1 (Nat.le_refl _), k q2 (Nat.le_refl _), k q3 (Nat.le_refl _)⟩, off⟩
theorem GoodF.step4 {base newp : List (Addr × Obj)} {i : Nat} {ys : List Value} {v : Value} {a1 a2 a3 a4 : Addr × Obj} (hl : ys.length = i) (hF : ∀ y ∈ ys, FnOk newp y) (hf : ∀ p ∈ newp, ∀ q ∈ base, q.1 < p.1)
    (hv : FnOk [a1, a2, a3, a4] v) (l4 : AllLt a4.1 (newp ++ base)) (l3 : a4.1 < a3.1) (l2 : a3.1 < a2.1) (l1 : a2.1 < a1.1) : GoodF base (i + 1) (ys ++ [v]) ([a1, a2, a3, a4] ++ (newp ++ base)) := by
  have t3 := Nat.lt_trans l3 l2
  have t2 := Nat.lt_trans t3 l1
  refine GoodF.step [a1, a2, a3, a4] hl hF hf hv fun p hp q hq => ?_
  have h4 := ktn_ltOf l4 q (List.mem_append_right _ hq)
  simp only [List.mem_cons, List.not_mem_nil, or_false] at hp
  rcases hp with rfl | rfl | rfl | rfl
  · exact Nat.lt_trans h4 t2
  · exact Nat.lt_trans h4 t3
  · exact Nat.lt_trans h4 l3
  · exact h4
theorem lawLedger {h₀ h : Heap} {L D c9 lw lu : Addr} {ys cvs ts : List Value} {newp : List (Addr × Obj)} {x3 o1 o2 o3 : Obj} {k : Nat}
    (N : News h₀ L h ((D, LCg.lst ys) :: (newp ++ [(c9, listOf cvs.toArray 0), (lw, listOf ts.toArray k), (lu, x3), (L + 1 + 1 + 1, o3), (L + 1 + 1, o2), (L + 1, o1)])))
    (off : LCg.Off1 D (newp ++ [(c9, listOf cvs.toArray 0), (lw, listOf ts.toArray k), (lu, x3), (L + 1 + 1 + 1, o3), (L + 1 + 1, o2), (L + 1, o1)]))
    (hf : ∀ p ∈ newp, ∀ q ∈ ([(c9, listOf cvs.toArray 0), (lw, listOf ts.toArray k), (lu, x3), (L + 1 + 1 + 1, o3), (L + 1 + 1, o2), (L + 1, o1)] : List (Addr × Obj)), q.1 < p.1) (l4 : L + 1 + 1 + 1 < c9) (l1 : L + 1 + 1 + 1 < lw) (hyF : ∀ y ∈ ys, FnOk newp y) :
    ∃ R0, News h₀ L h ((L + 1 + 1, o2) :: (L + 1 + 1 + 1, o3) :: R0) ∧ (D, LCg.lst ys) ∈ R0 ∧ (c9, listOf cvs.toArray 0) ∈ R0 ∧ (lw, listOf ts.toArray k) ∈ R0 ∧ (L + 1, o1) ∈ R0 ∧ (∀ y ∈ ys, FnOk R0 y) ∧ (∀ p ∈ (L + 1 + 1 + 1, o3) :: R0, p.1 ≠ L + 1 + 1) ∧ ∀ p ∈ R0, p.1 ≠ L + 1 + 1 + 1 := by
  have off := off1_mem off
  have a1 : L + 1 + 1 < c9 := Nat.lt_of_succ_lt l4
  have a2 : L + 1 + 1 < lw := Nat.lt_of_succ_lt l1
  refine ⟨(D, LCg.lst ys) :: (c9, listOf cvs.toArray 0) :: (lw, listOf ts.toArray k) :: (L + 1, o1) :: newp, newsSub N ?_, by simp, by simp, by simp, by simp, fun y hy => (hyF y hy).mono fun p hp => by simp [hp], ?_, ?_⟩
  · intro p hp
    simp only [List.mem_cons, List.mem_append, List.not_mem_nil, or_false] at hp ⊢
    grind
  · intro p hp
    simp only [List.mem_cons] at hp
    rcases hp with rfl | rfl | rfl | rfl | rfl | hp
    · exact Nat.ne_of_gt (Nat.lt_succ_self _)
    · exact fun e => off (L + 1 + 1, o2) (by simp) e.symm
    · exact Nat.ne_of_gt a1
    · exact Nat.ne_of_gt a2
    · exact Nat.ne_of_lt (Nat.lt_succ_self _)
    · exact Nat.ne_of_gt (hf p hp (L + 1 + 1, o2) (by simp))
  · intro p hp
    simp only [List.mem_cons] at hp
    rcases hp with rfl | rfl | rfl | rfl | hp
    · exact fun e => off (L + 1 + 1 + 1, o3) (by simp) e.symm
    · exact Nat.ne_of_gt l4
    · exact Nat.ne_of_gt l1
    · exact Nat.ne_of_lt (Nat.lt_succ_of_lt (Nat.lt_succ_self _))
    · exact Nat.ne_of_gt (hf p hp (L + 1 + 1 + 1, o3) (by simp))

theorem rg_17 : True := by
  (k_with "subscriptTail" => ((k_here; (with_reducible refine' cellItem ?u9k1 ?u9k3 ?u9k4 ?u9k5 ?u9k7 ?_ ?u9k8); k_dflt ((case u9k1 => k_asm); (case u9k3 => k_mem); (case u9k4 => with_reducible assumption); (case u9k5 => omega); (case u9k7 => omega); (case u9k8 => with_unfolding_all rfl)); intro c' t' hc'); (revert c' t' hc'; intros)))
  (k_with "subscriptTail" => ((k_here; (with_reducible refine' fghItem ?u9k1 ?u9k2 ?_ ?u9k3 ?u9k4); k_dflt ((case u9k1 => omega); (case u9k2 => omega); (case u9k3 => with_unfolding_all rfl); (case u9k4 => (intro _; with_unfolding_all rfl))); intro x' t' tk' hx'); (revert x' t' tk' hx'; intros)))
  trivial

theorem wt_world : True := by
  w_top off
  trivial

/-- a new world -/
def WorldNew (w : World) (news : List (Addr × Obj)) (r : Value) (news' : List (Addr × Obj)) : Prop :=
  ∃ aw dw st sa wr tr wes wn n4 ost owr otr, r = .ref aw ∧ news' = (dw, dictOf wes wn) :: (st, ost) :: (sa, listOf ([] : List Value).toArray n4) :: (aw, instObj 76 dw) :: (wr, owr) :: (tr, otr) :: news ∧
    wes.length ≤ 900 ∧ getL (Str.ofString "store") wes = some (some (.ref st)) ∧ getL (Str.ofString "aside") wes = some (some (.ref sa)) ∧ getL (Str.ofString "write_names") wes = some (some (.ref wr)) ∧ getL (Str.ofString "traced") wes = some (some (.ref tr)) ∧
    (∃ t, getL (Str.ofString "depth") wes = some (some (.int 0 t))) ∧ (∃ t, getL (Str.ofString "nested") wes = some (some (.int 0 t))) ∧ (∃ md t, getL (Str.ofString "most_depth") wes = some (some (.int md t))) ∧
    DR w ost (fun _ => none) 0 ∧ (st == sysModules) = false ∧ HasD w owr (fun x => decide (x = Str.ofString "OUTPUT")) ∧ (wr == sysModules) = false ∧ HasD w otr (fun _ => false) ∧ (tr == sysModules) = false ∧
    (∀ p ∈ news, p.1 < dw) ∧ @LT.lt Nat _ dw aw ∧ @LT.lt Nat _ aw st ∧ @LT.lt Nat _ st wr ∧ @LT.lt Nat _ wr tr ∧ @LT.lt Nat _ tr sa
theorem HasD.nil {w : World} {o : Obj} (h : o.IsDictOf (PySem.strKind PySem.Challenge.rw_sj0188_01.row.prog w) []) : HasD w o (fun _ => false) := ⟨[], h, fun _ => rfl⟩
theorem HasD.one {w : World} {o : Obj} {k : Str} {v : Value} (h : o.IsDictOf (PySem.strKind PySem.Challenge.rw_sj0188_01.row.prog w) [(k, v)]) : HasD w o (fun x => decide (x = k)) := by
  refine ⟨_, h, fun x => ?_⟩
  rw [valueAt_cons]
  by_cases hx : x = k
  · simp [hx]
  · have : ¬ k = x := fun e => hx e.symm
    simp [hx, this, valueAt]
theorem worldPack {w : World} {h₀ h : Heap} {L aw dw st sa wr tr : Addr} {X news : List (Addr × Obj)} {wes : List DictEntry} {wn n4 : Nat} {ost owr otr : Obj} {md : Int} {t1 t2 t3 t4 : Tok} {v5 : Value} (N : News h₀ L h X) (m1 : (dw, dictOf wes wn) ∈ X) (hz : wes.length ≤ 900)
    (g1 : getL (Str.ofString "store") wes = some (some (.ref st))) (g2 : getL (Str.ofString "aside") wes = some (some (.ref sa))) (g3 : getL (Str.ofString "write_names") wes = some (some (.ref wr))) (g4 : getL (Str.ofString "traced") wes = some (some (.ref tr)))
    (g5 : getL (Str.ofString "depth") wes = some (some (.int 0 t1))) (g6 : getL (Str.ofString "nested") wes = some (some (.int 0 t2))) (g7 : getL (Str.ofString "most_depth") wes = some (some (.int md t3)))
    (m2 : (st, ost) ∈ X) (m3 : (sa, listOf ([] : List Value).toArray n4) ∈ X) (m4 : (aw, instObj 76 dw) ∈ X) (m5 : (wr, owr) ∈ X) (m6 : (tr, otr) ∈ X) (hX : ∀ p ∈ news, p ∈ X)
    (o1 : ost.IsDictOf (PySem.strKind PySem.Challenge.rw_sj0188_01.row.prog w) []) (s1 : (st == sysModules) = false) (o2 : owr.IsDictOf (PySem.strKind PySem.Challenge.rw_sj0188_01.row.prog w) (strPairs [(.str (Str.ofString "OUTPUT") t4, v5)])) (s2 : (wr == sysModules) = false) (o3 : otr.IsDictOf (PySem.strKind PySem.Challenge.rw_sj0188_01.row.prog w) []) (s3 : (tr == sysModules) = false)
    (l0 : ∀ p ∈ news, p.1 < dw) (l1 : @LT.lt Nat _ dw aw) (l2 : @LT.lt Nat _ aw st) (l3 : @LT.lt Nat _ st wr) (l4 : @LT.lt Nat _ wr tr) (l5 : @LT.lt Nat _ tr sa) : ∃ news', News h₀ L h news' ∧ WorldNew w news (.ref aw) news' := by
  refine ⟨_, newsSub N ?_, aw, dw, st, sa, wr, tr, wes, wn, n4, ost, owr, otr, rfl, rfl, hz, g1, g2, g3, g4, ⟨_, g5⟩, ⟨_, g6⟩, ⟨_, _, g7⟩, DR.nil o1, s1, HasD.one o2, s2, HasD.nil o3, s3, l0, l1, l2, l3, l4, l5⟩
  intro p hp
  simp only [List.mem_cons] at hp
  rcases hp with rfl | rfl | rfl | rfl | rfl | rfl | hp
  · exact m1
  · exact m2
  · exact m3
  · exact m4
  · exact m5
  · exact m6
  · exact hX p hp
theorem world_calls (w : World) {news : List (Addr × Obj)} : Calls w 76 5 [] news (WorldNew w news) := by
  unfold Calls
  k_fill
  intro mean mg mb dp un gd cn cs a ccd cl outer A₀ base h₀ L m s Q E B F X N T hk hdp hun hret
  k_dflt (refine' call_cls ?k1 ?k2 ?k3 ?k4 ?k5 ?k6 ?_; (case k1 => k_asm); (case k2 => k_asm); (case k3 => k_asm); (case k4 => k_is); (case k5 => k_is); (case k6 => k_is))
  intro x9 d9 h9 F9 N9 l9 l99
  have l10 := l9
  (try k_lt l10)
  (try k_lt2 l99)
  k_dflt (refine' code_def ?k1 ?k2 ?k3 ?k4 ?k5 ?kA ?kF ?kK ?k6 ?k7 ?k8 ?k9 ?kB ?_ ?c2 ?c3 ?c4 ?c5; (case kA => exact rfl); (case kF => exact rfl); (case kK => assumption); (case k1 => k_asm); (case k2 => k_asm); (case k3 => k_asm); (case k4 => k_asm); (case k5 => k_asm); (case k6 => k_is); (case k7 => k_is); (case k8 => ktr_room); (case k9 => exact binds_K (by k_in) rfl (by k_is) rfl rfl rfl); (case c5 => decide); (case kB => exact locs rfl); (case c2 => exact rfl); (case c3 => exact rfl); (case c4 => exact rfl); intro g' L' h' FG' F' N' B' X' T'; (try dsimp only); (try k_fold))
  k_steps
  with_reducible rename News h₀ L _ _ => kN
  obtain ⟨nw, hN, hW⟩ := worldPack (w := w) (news := news) (aw := x9) (dw := d9) kN (by k_mem) (Nat.le_of_ble_eq_true rfl) (by with_unfolding_all rfl) (by with_unfolding_all rfl) (by with_unfolding_all rfl) (by with_unfolding_all rfl) (by with_unfolding_all rfl) (by with_unfolding_all rfl) (by with_unfolding_all rfl)
    (by k_mem) (by k_mem) (by k_mem) (by k_mem) (by k_mem) (by tb_start) (by assumption) (by assumption) (by assumption) (by assumption) (by assumption) (by assumption) l9 (by omega) (by omega) (by omega) (by omega) (by omega)
  exact hret _ nw _ _ (by k_asm) hN hW

theorem rg_18 : True := by
  (k_with "call ref" => ((k_here; (with_reducible show wpAny _ _ (call (Value.ref 76) _) _ _ _); k_dflt (refine' Calls.use (world_calls _) ?u9B ?u9F ?u9X ?u9N ?u9T ?u9hk ?u9hd ?u9hu ?_; (case u9B => k_asm); (case u9F => k_asm); (case u9X => k_asm); (case u9N => k_asm); (case u9T => k_asm); (case u9hk => first | exact rfl | assumption); (case u9hd => ktr_room); (case u9hu => ktr_units)); (intro r' news' h' tk' F' N' hp'; obtain ⟨aw', dw', st', sa', wr', tr', wes', wn', n4', ost', owr', otr', hr', hn', hw'⟩ := hp'; subst hr' hn'; (try dsimp only))); (revert h' tk' F' N' aw' dw' st' sa' wr' tr' wes' wn' n4' ost' owr' otr' hw'; intros)))
  trivial

theorem wt_mid : True := by
  w_top off
  trivial

/-! the law's own text, read out of the row -/
def lawDef : Option (List Stmt × Scope) := match PySem.Challenge.pw_sj0188_01.main.body.getLast? with
  | some (.FunctionDef _ _ b _ _ _ sc _ _ _) => some (b, sc)
  | _ => none
def lawBody : List Stmt := (lawDef.map (·.1)).getD []
def lawScope : Scope := (lawDef.map (·.2)).getD default
def forBody : List Stmt := match lawBody[6]? with
  | some (Stmt.For _ _ b _ _) => b
  | _ => []
def lawCells (L : Addr) : List (Str × Addr) := [(Str.ofString "name", L + 1 + 1 + 1), (Str.ofString "frames", L + 1 + 1), (Str.ofString "cells", L + 1)]


theorem wt_catchd : True := by
  w_top off
  trivial

section
variable {w : World} {A₀ : Around} {E : Value → Shared → Prop} {s' : Shared} {h₀ G : Heap} {outer : List Env} {L a e dd : Addr} {m : Str → Option Value} {name : Str} {scope : Scope} {cd : Value} {cl : List (Str × Addr)}
  {n : Str} {b₀ : Stmt} {suite : List Stmt} {pos np : Pos} {rest : List ExceptHandler} {Q : Flow → Shared → Prop} {news : List (Addr × Obj)}
  {p : Program} {loose : List Str} {mg mb : Str → Option Value} {x : Str}
theorem belowPush {h : Heap} (K : Below A₀ h₀ outer h₀) (F : Fr h₀ L h m) (hk : scope.kind = .function) : Below (A₀.deeper (envX name scope L a cd cl)) h₀ (envX name scope L a cd cl :: outer) h := by
  have hnew : h₀.get? L = none := by
    cases hq : h₀.get? L with
    | none => rfl
    | some o => exact absurd (Nat.lt_of_lt_of_le (Heap.lt_size (K.stays L o hq)) F.above) (Nat.lt_irrefl _)
  refine ⟨Around.frames_deeper K.stack, fun b o e => F.keep b o (K.stays b o e), ?_⟩
  exact .cons (by show scope.kind ≠ .module; rw [hk]; decide) rfl F.ns hnew (K.frames.of_keeps fun b o e _ => ⟨o, F.keep b o e, rfl⟩)
/-- an own exception with a dict comes to the clause of its class in the frame of the try -/
theorem caught_D (K : Below A₀ h₀ outer h₀) (F : Fr h₀ L G m) (hsm : G.UpToSlots s'.heap) (R : RaisedD h₀ (envX name scope L a cd cl :: outer) e 34 dd news s'.heap) (XB : (hd.heap_39 w.params).In h₀) (T : TopRead p loose mg mb h₀)
    (ex : nsIn (hd.heap_39 w.params) mainGlobals x = some (some (.ref 34)))
    (k : ∀ h' oe tk, Fr h₀ L h' (fun y => if y = n then some (.ref e) else m y) → News h₀ L h' ((e, oe) :: news) → oe.cls = .ref 34 → oe.dict = some dd → notCls oe = true →
      wpAny (model PySem.Challenge.rw_sj0188_01.row.prog w) ((A₀.deeper (envX name scope L a cd cl)).mark (some (.ref e))) (execs (b₀ :: suite) (envX name scope L a cd cl))
        (fun f s₄ => wpAny (model PySem.Challenge.rw_sj0188_01.row.prog w) (A₀.deeper (envX name scope L a cd cl)) (do bindName (envX name scope L a cd cl) n .none; unbindBehindTheSuite (envX name scope L a cd cl) n pos) (fun _ s₅ => Q f s₅) E s₄)
        (AsSuiteRaised (model PySem.Challenge.rw_sj0188_01.row.prog w) ((A₀.deeper (envX name scope L a cd cl)).mark (some (.ref e))) (envX name scope L a cd cl) n pos (notedBy (model PySem.Challenge.rw_sj0188_01.row.prog w) ((A₀.deeper (envX name scope L a cd cl)).mark (some (.ref e))) (envX name scope L a cd cl) (cameBackBy (model PySem.Challenge.rw_sj0188_01.row.prog w) (A₀.deeper (envX name scope L a cd cl)) (envX name scope L a cd cl) E)))
        { s' with heap := h', toks := tk })
    (hk : scope.kind = .function := by rfl) (hlo : (envX name scope L a cd cl).kindOf n = some .local := by rfl) (hx : (envX name scope L a cd cl).kindOf x = some .globalImplicit := by rfl) (hd : (x == ("__debug__" : Str)) = false := by decide) :
    wpAny (model PySem.Challenge.rw_sj0188_01.row.prog w) (A₀.deeper (envX name scope L a cd cl)) (noteFrame (.ref e) (envX name scope L a cd cl))
      (fun _ s₂ => wpAny (model PySem.Challenge.rw_sj0188_01.row.prog w) (A₀.deeper (envX name scope L a cd cl)) (setFlight (.ref e) none) (fun _ s₃ =>
        wpAny (model PySem.Challenge.rw_sj0188_01.row.prog w) (A₀.deeper (envX name scope L a cd cl)) (handleBy (.ref e) (envX name scope L a cd cl) (.ExceptHandler (some (.Name x np)) (some n) (b₀ :: suite) pos :: rest)) Q E s₃) E s₂) E s' := by
  obtain ⟨B, hB, hl, hfl⟩ := R
  have hL : B.get? L = none := by
    obtain ⟨_, ⟨L', _, hf, hn', _⟩, _⟩ := hfl.2.2.1
    obtain rfl : L = L' := Option.some.inj hf
    exact hn'
  have base : ∀ {h : Heap} {l : List Env} {fl : Value}, FlP B l e (ExcIs 34 dd) fl h → h₀.StaysIn h ∧ ∃ oe, h.get? e = some oe ∧ ExcIs 34 dd oe ∧ notCls oe = true := fun hh => by
    obtain ⟨k1, _, _, oe, _, _, _, _, he, hp, hd, _⟩ := hh
    exact ⟨fun b o q => k1 b o (hB b o q), oe, he, hp, by unfold notCls; rw [hd]⟩
  refine looksP ExcIs.keep (Around.frames_deeper K.stack) rfl hfl fun h₄ hheld₄ hsm₄ => ?_
  refine flightP hheld₄ fun h₅ hheld hsm₅' => ?_
  have hsm₅ := hsm₄.trans hsm₅'
  obtain ⟨st5, ob, hob, hobc, _⟩ := base hheld
  have F₅ := F.of_stays st5 (hsm.trans hsm₅)
  obtain ⟨_, _, _, _, _, _, _, _, _, _, _, _, _, _, _, hC⟩ := cls_34 (XB.keeps F₅.keep) (c34_ok _)
  refine wpAny_handleBy_cons (codeAny_handlers_test (nameX_K F₅ XB T ex ?_ hk hx hd)) (by intro q; cases q)
  refine wpAny_excMatches_sub_self hC hob hobc.1 (by decide +kernel) (codeAny_handlers_suite_as ?_)
  refine flightP hheld fun h₆ hfl₆ hsm₆ => ?_
  obtain ⟨st6, oe, hoe, hoec, hno⟩ := base hfl₆
  have F₆ := F.of_stays st6 ((hsm.trans hsm₅).trans hsm₆)
  have e0 : h₀.get? e = none := by
    cases q : h₀.get? e with
    | none => rfl
    | some o => have := hB _ _ q; rw [hfl.2.1] at this; cases this
  have eL : e ≠ L := by
    intro q
    obtain ⟨oL, es, ep, hLh, hLd, _⟩ := F₆.ns
    obtain ⟨_, _, _, oe', vs, _, _, _, he', _, hd', _⟩ := hfl₆
    rw [q, hLh] at he'
    cases he'
    rw [hLd] at hd'
    cases hd'
  have N₆ : News h₀ L h₆ ((e, oe) :: news) := fun q hq => by
    rcases List.mem_cons.mp hq with rfl | hq
    · exact ⟨hoe, eL, e0⟩
    · exact ⟨hfl₆.1 _ _ (hl q hq).1, (fun z => by have := (hl q hq).1; rw [z, hL] at this; cases this), (hl q hq).2⟩
  refine storeX_L F₆ N₆ (fun h₇ F₇ N₇ => ?_) hk hlo
  exact k h₇ oe _ F₇ N₇ hoec.1 hoec.2 hno
end


theorem wt_state : True := by
  w_top off
  trivial

/-! the law's state between two deeds -/
inductive FD (w : World) (k : Nat) : List (Addr × Obj) → List PM → Prop
  | nil : FD w k [] []
  | cons {p : Addr × Obj} {g : PM} {fds : List (Addr × Obj)} {gs : List PM} : DR w p.2 g k → (p.1 == sysModules) = false → FD w k fds gs → FD w k (p :: fds) (g :: gs)
abbrev refsOf (fds : List (Addr × Obj)) : List Value := fds.map fun p => Value.ref p.1
theorem FD.frAt {w : World} {k : Nat} {l : List (Addr × Obj)} : ∀ {fds : List (Addr × Obj)} {gs : List PM}, FD w k fds gs → (∀ p ∈ fds, p ∈ l) → FrAt w k l (refsOf fds) gs
  | _, _, .nil, _ => .nil
  | _, _, .cons (p := p) d m r, h => .cons (a := p.1) (o := p.2) (h _ List.mem_cons_self) d m (r.frAt fun q hq => h q (List.mem_cons_of_mem _ hq))
theorem FD.mono {w : World} {k k' : Nat} (hk : k ≤ k') : ∀ {fds : List (Addr × Obj)} {gs : List PM}, FD w k fds gs → FD w k' fds gs
  | _, _, .nil => .nil
  | _, _, .cons d m r => .cons (d.le hk) m (r.mono hk)
theorem FD.length {w : World} {k : Nat} : ∀ {fds : List (Addr × Obj)} {gs : List PM}, FD w k fds gs → fds.length = gs.length
  | _, _, .nil => rfl
  | _, _, .cons _ _ r => congrArg (· + 1) r.length
theorem FD.snoc {w : World} {k : Nat} {p : Addr × Obj} {g : PM} (d : DR w p.2 g k) (m : (p.1 == sysModules) = false) : ∀ {fds : List (Addr × Obj)} {gs : List PM}, FD w k fds gs → FD w k (fds ++ [p]) (gs ++ [g])
  | _, _, .nil => .cons d m .nil
  | _, _, .cons d1 m1 r => .cons d1 m1 (r.snoc d m)
theorem FD.init {w : World} {k : Nat} : ∀ {fds : List (Addr × Obj)} {gs : List PM} {p : Addr × Obj} {g : PM}, FD w k (fds ++ [p]) (gs ++ [g]) → FD w k fds gs
  | [], [], _, _, _ => .nil
  | [], g1 :: gs, p, g, h => by
    have := h.length
    simp at this
  | p1 :: fds, [], p, g, h => by
    have := h.length
    simp at this
  | p1 :: fds, g1 :: gs, p, g, h => by
    cases h with
    | cons d m r => exact .cons d m (FD.init r)
theorem FD.get {w : World} {k : Nat} : ∀ {fds : List (Addr × Obj)} {gs : List PM}, FD w k fds gs → ∀ {i : Nat} {g : PM}, gs[i]? = some g → ∃ p, fds[i]? = some p ∧ DR w p.2 g k ∧ (p.1 == sysModules) = false
  | _, _, .nil, i, g, h => by simp at h
  | _, _, .cons (p := p) d m r, 0, g, h => ⟨p, rfl, by rw [List.getElem?_cons_zero] at h; exact (Option.some.inj h) ▸ d, m⟩
  | _, _, .cons d m r, i + 1, g, h => by
    rw [List.getElem?_cons_succ] at h ⊢
    exact r.get h
theorem FD.set {w : World} {k : Nat} {o : Obj} {g : PM} (d : DR w o g k) : ∀ {fds : List (Addr × Obj)} {gs : List PM}, FD w k fds gs → ∀ {i : Nat} {p : Addr × Obj}, fds[i]? = some p → FD w k (fds.set i (p.1, o)) (gs.set i g)
  | _, _, .nil, i, p, h => by simp at h
  | _, _, .cons (p := q) d1 m r, 0, p, h => by
    have h : q = p := by simpa using h
    subst h
    exact .cons d m r
  | _, _, .cons d1 m r, i + 1, p, h => by
    rw [List.getElem?_cons_succ] at h
    exact .cons d1 m (r.set d h)
theorem fds_set_fst {fds : List (Addr × Obj)} {i : Nat} {p : Addr × Obj} {o : Obj} (h : fds[i]? = some p) : (fds.set i (p.1, o)).map (·.1) = fds.map (·.1) := by
  rw [List.map_set]
  obtain ⟨hl, e⟩ := List.getElem?_eq_some_iff.mp h
  subst e
  have : (fds.map (·.1))[i]'(by simpa using hl) = fds[i].1 := by simp
  rw [← this, List.set_getElem_self]
theorem refs_set {fds : List (Addr × Obj)} {i : Nat} {p : Addr × Obj} {o : Obj} (h : fds[i]? = some p) : refsOf (fds.set i (p.1, o)) = refsOf fds := by
  have e : ∀ l : List (Addr × Obj), refsOf l = (l.map (·.1)).map Value.ref := fun l => by simp [refsOf]
  rw [e, e, fds_set_fst h]

structure Adr where
  aw : Addr
  dw : Addr
  st : Addr
  sa : Addr
  wr : Addr
  tr : Addr
  sv : Addr
  fl : Addr
  fD : Addr
  c9 : Addr
  lw : Addr
structure Ord (L : Addr) (a : Adr) : Prop where
  o1 : @LT.lt Nat _ (L + 1 + 1 + 1) a.dw
  o2 : @LT.lt Nat _ a.dw a.st
  o3 : @LT.lt Nat _ a.st a.sa
  o4 : @LT.lt Nat _ a.sa a.fl
  o5 : @LT.lt Nat _ a.fl a.sv
  s1 : (a.st == sysModules) = false
  s2 : (a.wr == sysModules) = false
  s3 : (a.tr == sysModules) = false
def OffP (L : Addr) (a : Adr) (q : Addr) : Prop := @Ne Nat q a.dw ∧ @Ne Nat q a.st ∧ @Ne Nat q a.sa ∧ @Ne Nat q a.sv ∧ @Ne Nat q a.fl ∧ @Ne Nat q (L + 1 + 1 + 1)
structure Stat (w : World) (L : Addr) (a : Adr) (cvs ys : List Value) (R : List (Addr × Obj)) : Prop where
  haw : (a.aw, instObj 76 a.dw) ∈ R
  hwr : ∃ o, (a.wr, o) ∈ R ∧ HasD w o (fun x => decide (x = Str.ofString "OUTPUT"))
  htr : ∃ o, (a.tr, o) ∈ R ∧ HasD w o (fun _ => false)
  hc9 : (a.c9, listOf cvs.toArray 0) ∈ R
  cells : Cells17 cvs
  hlw : ∃ ts k, (a.lw, listOf ts.toArray k) ∈ R ∧ StrsAre ts words5
  hfD : (a.fD, LCg.lst ys) ∈ R
  three : ys.length = 3
  fns : ∀ y ∈ ys, FnOk R y
  hc1 : ∃ o, (L + 1, o) ∈ R ∧ o.data = .cell (some (.ref a.c9))
  hc2 : ∃ o, (L + 1 + 1, o) ∈ R ∧ o.data = .cell (some (.ref a.fl))
theorem Stat.mono {w : World} {L : Addr} {a : Adr} {cvs ys : List Value} {R R' : List (Addr × Obj)} (h : Stat w L a cvs ys R) (hs : ∀ p ∈ R, p ∈ R') : Stat w L a cvs ys R' := by
  obtain ⟨h1, ⟨o2, h2, h2'⟩, ⟨o3, h3, h3'⟩, h4, h5, ⟨ts, k, h6, h6'⟩, h7, h8, h9, ⟨o10, h10, h10'⟩, ⟨o11, h11, h11'⟩⟩ := h
  exact ⟨hs _ h1, ⟨o2, hs _ h2, h2'⟩, ⟨o3, hs _ h3, h3'⟩, hs _ h4, h5, ⟨ts, k, hs _ h6, h6'⟩, hs _ h7, h8, fun y hy => (h9 y hy).mono hs, ⟨o10, hs _ h10, h10'⟩, ⟨o11, hs _ h11, h11'⟩⟩
theorem AsAt.mono {l l' : List (Addr × Obj)} (hs : ∀ p ∈ l, p ∈ l') : ∀ {rs : List Value} {tls : List (List (Str × Value))}, AsAt l rs tls → AsAt l' rs tls
  | _, _, .nil => .nil
  | _, _, .cons h t v z r => .cons (hs _ h) (t.mono hs) v z (r.mono hs)
theorem AsAt.snoc {l : List (Addr × Obj)} {D : Addr} {ys : List Value} {n : Nat} {tl : List (Str × Value)} (h : (D, listOf ys.toArray n) ∈ l) (t : TupsAt l ys tl) (v : ∀ e ∈ tl, VOk e.2) (z : ys.length ≤ 100) :
    ∀ {rs : List Value} {tls : List (List (Str × Value))}, AsAt l rs tls → AsAt l (rs ++ [.ref D]) (tls ++ [tl])
  | _, _, .nil => .cons h t v z .nil
  | _, _, .cons h1 t1 v1 z1 r => .cons h1 t1 v1 z1 (r.snoc h t v z)
theorem AsAt.last {l : List (Addr × Obj)} : ∀ {rs : List Value} {tls : List (List (Str × Value))} {tl : List (Str × Value)}, AsAt l rs (tls ++ [tl]) →
    ∃ rs' D ys n, rs = rs' ++ [.ref D] ∧ (D, listOf ys.toArray n) ∈ l ∧ TupsAt l ys tl ∧ (∀ e ∈ tl, VOk e.2) ∧ ys.length ≤ 100 ∧ AsAt l rs' tls
  | _, [], tl, h => by
    cases h with
    | cons h t v z r =>
      cases r
      exact ⟨[], _, _, _, rfl, h, t, v, z, .nil⟩
  | _, tl1 :: tls, tl, h => by
    cases h with
    | cons h t v z r =>
      obtain ⟨rs', D, ys, n, rfl, h1, t1, v1, z1, r1⟩ := AsAt.last r
      exact ⟨_ :: rs', D, ys, n, rfl, h1, t1, v1, z1, .cons h t v z r1⟩

/-- the facts of the state; O: what a loop keeps beside -/
structure LS (w : World) (L : Addr) (a : Adr) (cvs ys : List Value) (md : Int) (b : Nat) (O : List (Addr × Obj)) (wes : List DictEntry) (ost : Obj) (sas : List Value) (fds : List (Addr × Obj)) (o3 : Obj) (R : List (Addr × Obj)) (f : PM) (tls : List (List (Str × Value))) (gs : List PM) : Prop where
  len : wes.length ≤ 900
  g1 : getL (Str.ofString "store") wes = some (some (.ref a.st))
  g2 : ∃ t, getL (Str.ofString "depth") wes = some (some (.int (tls.length : Int) t))
  g3 : ∃ t, getL (Str.ofString "nested") wes = some (some (.int 0 t))
  g4 : ∃ t, getL (Str.ofString "most_depth") wes = some (some (.int md t))
  g5 : getL (Str.ofString "aside") wes = some (some (.ref a.sa))
  g6 : getL (Str.ofString "write_names") wes = some (some (.ref a.wr))
  g7 : getL (Str.ofString "traced") wes = some (some (.ref a.tr))
  c3 : ∃ v, o3.data = .cell v
  dr : DR w ost f b
  fd : FD w (b + 10) fds gs
  as : AsAt R sas tls
  ok : LawOk f tls gs
  le : (tls.length : Int) ≤ md
  five : ∀ tl ∈ tls, tl.length ≤ 5
  stat : Stat w L a cvs ys R
  offF : ∀ p ∈ fds, OffP L a p.1
  offO : ∀ p ∈ O, OffP L a p.1
  offR : ∀ p ∈ R, OffP L a p.1
  nodup : (fds.map (·.1)).Nodup
  apart : ∀ p ∈ O ++ R, ∀ q ∈ fds, @Ne Nat p.1 q.1
  apartO : ∀ p ∈ O, ∀ q ∈ R, @Ne Nat p.1 q.1
def ledger (L : Addr) (a : Adr) (wes : List DictEntry) (wn : Nat) (ost : Obj) (sas : List Value) (n4 nsv : Nat) (fds : List (Addr × Obj)) (nfl : Nat) (o3 : Obj) (O R : List (Addr × Obj)) : List (Addr × Obj) :=
  (a.dw, dictOf wes wn) :: (a.st, ost) :: (a.sa, listOf sas.toArray n4) :: (a.sv, listOf sas.toArray nsv) :: (a.fl, listOf (refsOf fds).toArray nfl) :: (L + 1 + 1 + 1, o3) :: (fds ++ (O ++ R))
def LSt (w : World) (L : Addr) (a : Adr) (cvs ys : List Value) (md : Int) (b : Nat) (O news : List (Addr × Obj)) : Prop :=
  ∃ wes wn ost sas n4 nsv fds nfl o3 R f tls gs, news = ledger L a wes wn ost sas n4 nsv fds nfl o3 O R ∧ LS w L a cvs ys md b O wes ost sas fds o3 R f tls gs
/-- the names that a deed does not turn -/
structure MapOk (a : Adr) (m : Str → Option Value) : Prop where
  world : m (Str.ofString "world") = some (.ref a.aw)
  functions : m (Str.ofString "functions") = some (.ref a.fD)
  words : m (Str.ofString "_law_words") = some (.ref a.lw)
  saved : m (Str.ofString "saved") = some (.ref a.sv)
def mapOf (a : Adr) (m : Str → Option Value) : Str → Option Value := fun z => if z = Str.ofString "world" then some (.ref a.aw) else if z = Str.ofString "functions" then some (.ref a.fD) else if z = Str.ofString "_law_words" then some (.ref a.lw) else if z = Str.ofString "saved" then some (.ref a.sv) else m z
theorem MapOk.form {a : Adr} {m : Str → Option Value} (h : MapOk a m) : m = mapOf a m := by
  funext z
  unfold mapOf
  split
  · next e => rw [e, h.world]
  · split
    · next e => rw [e, h.functions]
    · split
      · next e => rw [e, h.words]
      · split
        · next e => rw [e, h.saved]
        · rfl
theorem MapOk.of (a : Adr) (m : Str → Option Value) : MapOk a (mapOf a m) := ⟨by unfold mapOf; rw [if_pos rfl], by unfold mapOf; rw [if_neg (by decide +kernel), if_pos rfl], by unfold mapOf; rw [if_neg (by decide +kernel), if_neg (by decide +kernel), if_pos rfl], by unfold mapOf; rw [if_neg (by decide +kernel), if_neg (by decide +kernel), if_neg (by decide +kernel), if_pos rfl]⟩
theorem MapOk.store {a : Adr} {m : Str → Option Value} (h : MapOk a m) {x : Str} {v : Option Value} (hx : x ∉ [Str.ofString "world", Str.ofString "functions", Str.ofString "_law_words", Str.ofString "saved"]) : MapOk a (fun z => if z = x then v else m z) := by
  simp only [List.mem_cons, List.not_mem_nil, or_false, not_or] at hx
  obtain ⟨h1, h2, h3, h4⟩ := hx
  exact ⟨by rw [if_neg (fun e => h1 e.symm)]; exact h.world, by rw [if_neg (fun e => h2 e.symm)]; exact h.functions, by rw [if_neg (fun e => h3 e.symm)]; exact h.words, by rw [if_neg (fun e => h4 e.symm)]; exact h.saved⟩
/-- a deed's end -/
def DeedEnd (w : World) (h₀ : Heap) (L : Addr) (a : Adr) (cvs ys : List Value) (md : Int) (b : Nat) (O : List (Addr × Obj)) (s : Shared) (f : Flow) (s' : Shared) : Prop :=
  f = .next ∧ ∃ h' tk m' news', s' = { s with heap := h', toks := tk } ∧ Fr h₀ L h' m' ∧ News h₀ L h' news' ∧ MapOk a m' ∧ LSt w L a cvs ys md b O news'
def setBody : List Stmt := match forBody[1]? with
  | some (Stmt.If _ _ (Stmt.If _ b _ _ :: _) _) => b
  | _ => []
def restoreBody : List Stmt := match forBody[1]? with
  | some (Stmt.If _ _ (Stmt.If _ _ b _ :: _) _) => b
  | _ => []
def enterBody : List Stmt := match forBody[1]? with
  | some (Stmt.If _ b _ _) => b
  | _ => []


theorem wt_lvl : True := by
  w_top off
  trivial

/-! the level that has a name -/
def hasAt (gs : List PM) (x : Str) (j : Nat) : Bool := ((gs[j]?).bind fun g => g x).isSome
theorem hasAt_snoc (gs : List PM) (g : PM) (x : Str) (j : Nat) : hasAt (gs ++ [g]) x j = if j < gs.length then hasAt gs x j else if j = gs.length then (g x).isSome else false := by
  unfold hasAt
  by_cases h1 : j < gs.length
  · rw [if_pos h1, List.getElem?_append_left h1]
  · rw [if_neg h1, List.getElem?_append_right (Nat.le_of_not_lt h1)]
    by_cases h2 : j = gs.length
    · subst h2; simp
    · rw [if_neg h2]
      have : 1 ≤ j - gs.length := by omega
      rw [List.getElem?_eq_none (by simpa using this)]
      rfl
theorem hasAt_lt {gs : List PM} {x : Str} {j : Nat} (h : hasAt gs x j = true) : j < gs.length := by
  unfold hasAt at h
  cases hg : gs[j]? with
  | none => rw [hg] at h; cases h
  | some g => exact (List.getElem?_eq_some_iff.mp hg).1
theorem lvl_spec (x : Str) (r : List PM) : (hasAt r.reverse x (lvlR x r) = true ∨ (lvlR x r = 0 ∧ ∀ j, hasAt r.reverse x j = false)) ∧ ∀ j, hasAt r.reverse x j = true → j ≤ lvlR x r := by
  induction r with
  | nil => exact ⟨.inr ⟨rfl, fun j => by simp [hasAt]⟩, fun j h => by simp [hasAt] at h⟩
  | cons g r ih =>
    rw [List.reverse_cons]
    unfold lvlR
    by_cases hg : (g x).isSome = true
    · rw [if_pos hg]
      refine ⟨.inl ?_, fun j hj => ?_⟩
      · rw [hasAt_snoc, if_neg (by simp), if_pos (by simp)]; exact hg
      · have := hasAt_lt hj
        simp at this
        omega
    · rw [if_neg hg]
      have hj' : ∀ j, hasAt (r.reverse ++ [g]) x j = true → hasAt r.reverse x j = true := fun j hj => by
        rw [hasAt_snoc] at hj
        split at hj
        · exact hj
        · split at hj
          · exact absurd hj hg
          · cases hj
      refine ⟨?_, fun j hj => ih.2 j (hj' j hj)⟩
      rcases ih.1 with h | ⟨h1, h2⟩
      · left
        rw [hasAt_snoc, if_pos (hasAt_lt h)]
        exact h
      · right
        refine ⟨h1, fun j => ?_⟩
        cases hb : hasAt (r.reverse ++ [g]) x j with
        | false => rfl
        | true => have h3 := hj' j hb; rw [h2 j] at h3; cases h3
def lvls (gs : List PM) (x : Str) (i : Nat) : List Int := ((List.range i).filter (hasAt gs x)).map fun j : Nat => (j : Int)
theorem lvls_succ (gs : List PM) (x : Str) (i : Nat) : lvls gs x (i + 1) = if hasAt gs x i = true then lvls gs x i ++ [(i : Int)] else lvls gs x i := by
  unfold lvls
  rw [List.range_succ, List.filter_append, List.map_append]
  by_cases h : hasAt gs x i = true
  · rw [if_pos h]; simp [h]
  · rw [if_neg h]; simp [h]
theorem max_lvl {gs : List PM} {x : Str} {M : Int} (h1 : M ∈ (0 : Int) :: lvls gs x gs.length) (h2 : ∀ k ∈ (0 : Int) :: lvls gs x gs.length, k ≤ M) : M = (lvl x gs : Int) := by
  have hs := lvl_spec x gs.reverse
  rw [List.reverse_reverse] at hs
  show M = ((lvlR x gs.reverse : Nat) : Int)
  have mem : ∀ {k : Int}, k ∈ lvls gs x gs.length → ∃ j : Nat, k = (j : Int) ∧ hasAt gs x j = true := fun hk => by
    unfold lvls at hk
    obtain ⟨j, hj, rfl⟩ := List.mem_map.mp hk
    exact ⟨j, rfl, (List.mem_filter.mp hj).2⟩
  have up : M ≤ ((lvlR x gs.reverse : Nat) : Int) := by
    rcases List.mem_cons.mp h1 with rfl | h1
    · omega
    · obtain ⟨j, rfl, hj⟩ := mem h1
      have := hs.2 j hj
      omega
  rcases hs.1 with h | ⟨h, h'⟩
  · have hin : ((lvlR x gs.reverse : Nat) : Int) ∈ lvls gs x gs.length := by
      unfold lvls
      exact List.mem_map.mpr ⟨_, List.mem_filter.mpr ⟨List.mem_range.mpr (hasAt_lt h), h⟩, rfl⟩
    have := h2 _ (List.mem_cons_of_mem _ hin)
    omega
  · have := h2 0 List.mem_cons_self
    omega
def GoodL (base : List (Addr × Obj)) (gs : List PM) (x : Str) (i : Nat) (ys : List Value) (nw : List (Addr × Obj)) : Prop := nw = base ∧ IntsAre ys (lvls gs x i)
theorem GoodL.start (base : List (Addr × Obj)) (gs : List PM) (x : Str) : GoodL base gs x 0 [] base := ⟨rfl, .nil⟩
theorem GoodL.hit {base : List (Addr × Obj)} {gs : List PM} {x : Str} {i : Nat} {ys : List Value} {k : Int} {u : Tok} (hI : IntsAre ys (lvls gs x i)) (hk : k = (i : Int)) (h : hasAt gs x i = true) : GoodL base gs x (i + 1) (ys ++ [.int k u]) base := by
  refine ⟨rfl, ?_⟩
  rw [lvls_succ, if_pos h, hk]
  exact hI.append (.cons _ _ .nil)
theorem GoodL.miss {base : List (Addr × Obj)} {gs : List PM} {x : Str} {i : Nat} {ys : List Value} (hI : IntsAre ys (lvls gs x i)) (h : hasAt gs x i = false) : GoodL base gs x (i + 1) ys base := by
  refine ⟨rfl, ?_⟩
  rw [lvls_succ, if_neg (by rw [h]; decide)]
  exact hI
section
open LCg LCt
variable {prog : Program} {w : World} {A : Around} {s : Shared} {h₀ : Heap} {L : Addr} {m : Str → Option Value} {env : Env}
theorem compRestT_of {ct elt : Expr} {x : Str} {scope : Scope} {cl : List (Str × Addr)} {S : List (Addr × Obj) → Prop} {P : Nat → Value → Prop} {Fin : List Value → List (Addr × Obj) → Prop} {n : Nat}
    (Good : Nat → List Value → List (Addr × Obj) → Prop)
    (step : ∀ i ys news v I oI C oC D m₂ h tk (E' : Value → Shared → Prop), i < n → Good i ys news → P i v → NsObj oC m₂ → m₂ x = some v → Fr h₀ L h m → News h₀ L h ((I, oI) :: (C, oC) :: (D, lst ys) :: news) → Off3 I C D news → ((@Ne Nat I C) ∧ (@Ne Nat I D) ∧ (@Ne Nat C D)) →
      wpAny (model prog w) A (isTrue ct (compEnvC scope cl C env) (eval ct (compEnvC scope cl C env))) (fun ok s' => if ok = true then
        wpAny (model prog w) A (eval elt (compEnvC scope cl C env)) (CompEnd h₀ L m { s with heap := h, toks := tk } I oI C oC D (lst ys) S (fun y news' => Good (i + 1) (ys ++ [y]) news')) E' s'
        else CompEnd h₀ L m { s with heap := h, toks := tk } I oI C oC D (lst ys) S (fun _ news' => Good (i + 1) ys news') Value.none s') E' { s with heap := h, toks := tk })
    (fin : ∀ ys news, Good n ys news → Fin ys news) :
    ∀ (k i : Nat) (ys : List Value) (news : List (Addr × Obj)), i + k = n → Good i ys news → CompRestT prog w A h₀ L m env ct elt x scope cl s S P Fin k i ys news
  | 0, i, ys, news, e, g => fin ys news (by rw [← e]; exact g)
  | k + 1, i, ys, news, e, g => CompRestT.succ fun v I oI C oC D m₂ h tk E' hP hC hx F N off ne =>
      wpAny_mono (step i ys news v I oI C oC D m₂ h tk E' (by omega) g hP hC hx F N off ne) (fun ok s' hs => by
        cases ok with
        | true =>
          simp only [if_true] at hs ⊢
          exact wpAny_mono hs (fun y s'' ⟨h', tk', news', e1, F', N', off', hS', g'⟩ => ⟨h', tk', news', e1, F', N', off', hS', compRestT_of Good step fin k (i + 1) (ys ++ [y]) news' (by omega) g'⟩) fun _ _ x => x
        | false =>
          simp only [Bool.false_eq_true, if_false] at hs ⊢
          obtain ⟨h', tk', news', e1, F', N', off', hS', g'⟩ := hs
          exact ⟨h', tk', news', e1, F', N', off', hS', compRestT_of Good step fin k (i + 1) ys news' (by omega) g'⟩) fun _ _ x => x
end
theorem split_at {α : Type} {l : List α} {i : Nat} {p : α} (h : l[i]? = some p) : ∃ pre post, l = pre ++ p :: post ∧ ∀ q, l.set i q = pre ++ q :: post := by
  obtain ⟨hl, e⟩ := List.getElem?_eq_some_iff.mp h
  refine ⟨l.take i, l.drop (i + 1), ?_, fun q => ?_⟩
  · rw [← e, List.getElem_cons_drop, List.take_append_drop]
  · rw [List.set_eq_take_append_cons_drop, if_pos hl]
theorem mem_set_fst {fds : List (Addr × Obj)} {i : Nat} {p q : Addr × Obj} {o : Obj} (h : fds[i]? = some p) (hq : q ∈ fds.set i (p.1, o)) : ∃ q' ∈ fds, q'.1 = q.1 := by
  have : q.1 ∈ (fds.set i (p.1, o)).map (·.1) := List.mem_map_of_mem hq
  rw [fds_set_fst h] at this
  obtain ⟨q', h1, h2⟩ := List.mem_map.mp this
  exact ⟨q', h1, h2⟩
theorem LS.set {w : World} {L : Addr} {a : Adr} {cvs ys : List Value} {md : Int} {b : Nat} {O : List (Addr × Obj)} {wes : List DictEntry} {ost o3 : Obj} {sas : List Value} {fds : List (Addr × Obj)} {R : List (Addr × Obj)} {f : PM} {tls : List (List (Str × Value))} {gs : List PM}
    (S : LS w L a cvs ys md b O wes ost sas fds o3 R f tls gs) {i : Nat} {p : Addr × Obj} {g : PM} {o' ost' o3' : Obj} {x : Str} {av : Option Int} (hp : fds[i]? = some p) (hi : i = lvl x gs) (hg : gs[i]? = some g) (hx : x ∈ words5)
    (dr' : DR w ost' (upd f x av) (b + 1)) (d' : DR w o' (upd g x av) (b + 10 + 1)) (c3' : ∃ v, o3'.data = .cell v) :
    LS w L a cvs ys md (b + 5) O wes ost' sas (fds.set i (p.1, o')) o3' R (upd f x av) tls (gs.set i (upd g x av)) where
  len := S.len
  g1 := S.g1
  g2 := S.g2
  g3 := S.g3
  g4 := S.g4
  g5 := S.g5
  g6 := S.g6
  g7 := S.g7
  c3 := c3'
  dr := dr'.le (by omega)
  fd := (S.fd.mono (k' := b + 5 + 10) (by omega)).set (d'.le (by omega)) hp
  as := S.as
  ok := by subst hi; exact S.ok.set hx hg
  le := S.le
  five := S.five
  stat := S.stat
  offF := fun q hq => by
    obtain ⟨q', h1, h2⟩ := mem_set_fst hp hq
    exact h2 ▸ S.offF q' h1
  offO := S.offO
  offR := S.offR
  nodup := by rw [fds_set_fst hp]; exact S.nodup
  apart := fun q hq r hr => by
    obtain ⟨q', h1, h2⟩ := mem_set_fst hp hr
    exact h2 ▸ S.apart q hq q' h1
  apartO := S.apartO


theorem wt_deedset : True := by
  w_top off
  trivial

theorem frK {h₀ h : Heap} {L : Addr} {m m' : Str → Option Value} (F : Fr h₀ L h m) (e : m = m') : Fr h₀ L h m' := e ▸ F
section
theorem rg_19 : True := by
  (k_with "CompSrcT" => (k_here; refine Held.out ?_))
  (k_with "call ref" => (k_here; (with_reducible rename HoldAt 5 => hz9); clear hz9; refine Held.out ?_))
  (k_with "subscriptTail" => ((k_here; (with_reducible refine' itemStr (ss := words5) ?u9k1 ?u9k3 ?u9k4 ?u9k5 ?u9k6 ?u9k7 ?_ ?u9k8); k_dflt ((case u9k1 => k_asm); (case u9k3 => k_mem); (case u9k4 => with_reducible assumption); (case u9k5 => with_reducible assumption); (case u9k6 => with_reducible assumption); (case u9k7 => decide); (case u9k8 => with_unfolding_all rfl); k_whole); intro x' t' e'); (revert x' t' e'; intros)))
  (k_with "subscriptTail" => (k_here; (with_reducible refine' itemRef ?u9k1 ?u9k3 ?u9k5 ?u9k7 ?u9k4 ?_ ?u9k8); k_dflt ((case u9k1 => k_asm); (case u9k3 => k_mem); (case u9k4 => with_reducible assumption); (case u9k5 => first | with_reducible assumption | omega); (case u9k7 => ktr_rel); (case u9k8 => with_unfolding_all rfl))))
  (k_with "eval ListComp" => (k_here; k_dflt (refine LCt.ListComp_T (F₀ := by k_asm) (by with_unfolding_all rfl) (by decide) (by rfl) (by decide) (by rfl) ?_)))
  (k_with "binaryOp Add ref ref" => (k_here; refine Held.out ?_))
  (k_with "CompEnd" => (k_here; refine Held.out ?_))
  (k_with "call builtin:max" => (k_here; refine Held.out ?_))
  trivial
theorem deed_set (w : World) {mean : ExcName → Option Value} {mg mb : Str → Option Value} {fa : Addr} {ccd : Value} {h₀ : Heap} {L : Addr} {m : Str → Option Value} {s : Shared} {a : Adr} {cvs ys : List Value} {md t v : Int} {tt tv : Tok} {b : Nat} {O news : List (Addr × Obj)} {E : Value → Shared → Prop}
    (sc : Scope) (hsc : sc = lawScope) (body : List Stmt) (hb : body = setBody) (o : Ord L a)
    (F : Fr h₀ L s.heap m) (X : (hd.heap_39 w.params).In h₀) (T : Top hd.view_39 (looseW hd.view_39 [Str.ofString "SnobolError"]) mean mg mb h₀) (N : News h₀ L s.heap news) (hM : MapOk a m)
    (ht : m (Str.ofString "told") = some (.int t tt)) (hv : m (Str.ofString "value") = some (.int v tv)) (ht0 : 0 ≤ t) (hS : LSt w L a cvs ys md b O news) (hb9 : b ≤ 70) (hmd : md ≤ 4) :
    wpAny (model PySem.Challenge.rw_sj0188_01.row.prog w) (callerA.deeper (envX (Str.ofString "law") sc L fa ccd (lawCells L))) (execs body (envX (Str.ofString "law") sc L fa ccd (lawCells L))) (DeedEnd w h₀ L a cvs ys md (b + 5) O s) E s := by
  revert X
  k_fill
  intro X
  delta setBody forBody lawBody lawDef PySem.Challenge.pw_sj0188_01 at hb; dsimp only [List.getLast?, List.getLast, Option.map, Option.getD, List.getElem?_cons_succ, List.getElem?_cons_zero] at hb
  subst hb
  delta lawScope lawDef PySem.Challenge.pw_sj0188_01 at hsc; dsimp only [List.getLast?, List.getLast, Option.map, Option.getD] at hsc
  subst hsc
  have K0 := below_caller h₀
  obtain ⟨wes, wn, ost, sas, n4, nsv, fds, nfl, o3, R, f, tls, gs, rfl, S⟩ := hS
  obtain ⟨m1, hm1⟩ : ∃ m1, m = fun z => if z = Str.ofString "told" then some (.int t tt) else if z = Str.ofString "value" then some (.int v tv) else mapOf a m1 z := ⟨m, by
    funext z
    split
    · next e => rw [e, ht]
    · split
      · next e => rw [e, hv]
      · exact congrFun hM.form z⟩
  subst hm1
  clear ht hv hM
  unfold mapOf at F
  unfold ledger at N
  obtain ⟨v3, hc3⟩ := S.c3
  obtain ⟨o1, o2, o3', o4, o5, s1, s2, s3⟩ := o
  obtain ⟨tw, kw, hlw, hSw⟩ := S.stat.hlw
  have mR : ∀ p ∈ R, p ∈ fds ++ (O ++ R) := fun p hp => List.mem_append_right _ (List.mem_append_right _ hp)
  have hlw9 := mR _ hlw
  have offA : ∀ p ∈ fds ++ (O ++ R), OffP L a p.1 := fun p hp => (List.mem_append.mp hp).elim (S.offF p) fun hp => (List.mem_append.mp hp).elim (S.offO p) (S.offR p)
  have z3 : ∀ p ∈ fds ++ (O ++ R), p.1 ≠ L + 1 + 1 + 1 := fun p hp => (offA p hp).2.2.2.2.2
  generalize hr : fds ++ (O ++ R) = rest at N mR hlw9 offA z3
  have b1 : 0 ≤ (t.fdiv 3).fmod 5 := by rw [show (t.fdiv 3).fmod 5 = _ from fdm ht0 3 5]; exact Int.natCast_nonneg _
  have b2 : (t.fdiv 3).fmod 5 < words5.length := by
    rw [show (t.fdiv 3).fmod 5 = _ from fdm ht0 3 5]
    exact Int.ofNat_lt.mpr (Nat.mod_lt _ (by decide))
  have hold5 := HoldAt.mk 5
  have hlen : (refsOf fds).length ≤ 5 := by
    have h1 := S.fd.length
    have h2 := S.ok.len
    have h3 := S.le
    have h4 : (refsOf fds).length = fds.length := by simp [refsOf]
    omega
  k_steps
  refine Held.mk ?_
  rename_i x tx ex h1 oN F1 N1 dN
  have hx5 : x ∈ words5 := List.mem_of_getElem? ex
  obtain ⟨owr, hwr, hasW⟩ := S.stat.hwr
  obtain ⟨otr, htr, hasT⟩ := S.stat.htr
  have N2 := newsSub (news := (a.st, ost) :: (a.dw, dictOf wes wn) :: (a.sa, listOf sas.toArray n4) :: (a.sv, listOf sas.toArray nsv) :: (a.fl, listOf (refsOf fds).toArray nfl) :: (L + 1 + 1 + 1, oN) :: rest) N1 (by
    intro p hp; simp only [List.mem_cons] at hp ⊢; grind)
  have up : ∀ p ∈ R, p ∈ (a.dw, dictOf wes wn) :: (a.sa, listOf sas.toArray n4) :: (a.sv, listOf sas.toArray nsv) :: (a.fl, listOf (refsOf fds).toArray nfl) :: (L + 1 + 1 + 1, oN) :: rest := fun p hp => by
    simp only [List.mem_cons]
    exact .inr (.inr (.inr (.inr (.inr (mR p hp)))))
  have hOUT : decide (x = Str.ofString "OUTPUT") = false := by
    refine decide_eq_false fun e => ?_
    subst e
    exact absurd hx5 (by decide +kernel)
  have rS : ∀ p ∈ (a.dw, dictOf wes wn) :: (a.sa, listOf sas.toArray n4) :: (a.sv, listOf sas.toArray nsv) :: (a.fl, listOf (refsOf fds).toArray nfl) :: (L + 1 + 1 + 1, oN) :: rest, p.1 ≠ a.st := by
    intro p hp
    simp only [List.mem_cons] at hp
    rcases hp with rfl | rfl | rfl | rfl | rfl | hp
    · k_ne
    · k_ne
    · k_ne
    · k_ne
    · k_ne
    · exact (offA p hp).2.1
  refine Calls.use (set_var_calls w (up _ S.stat.haw) List.mem_cons_self (up _ hwr) (up _ htr) S.g1 S.g6 S.g7 S.dr (by omega) s1 (VOk.int v tv) hasW hasT hOUT rfl s2 s3 rS) K0 F1 X N2 T rfl (by ktr_room) (by ktr_units) ?_
  rintro r news' h2 tk2 F2 N3 ⟨ost', rfl, rfl, hdr'⟩
  clear N1 N2 F1
  obtain ⟨oF, hoF', hdF⟩ := S.stat.hc2
  have hoF := mR _ hoF'
  dsimp only
  k_steps
  with_reducible rename IsRange _ _ _ _ _ _ _ _ => hR6
  with_reducible rename Fr _ _ _ _ => F6
  with_reducible rename News _ _ _ _ => N6
  refine Held.mk ?_
  have hgl : (refsOf fds).length = gs.length := by
    have := S.fd.length
    simpa [refsOf] using this
  rw [hgl] at hR6 hlen
  refine LCt.CompSrcT.range (n := gs.length) (by rfl) F6 N6 hR6 ?hsm ?hrs (by rw [sizeLine_eq]; omega) ?_
  case hrs =>
    unfold Builtin.Range.rangeSize
    rw [if_pos (by decide), Int.ediv_one]
    split <;> omega
  case hsm =>
    unfold Builtin.Range.small
    rw [show Builtin.Range.rangeSize 0 (gs.length : Int) 1 = (gs.length : Nat) from by
      unfold Builtin.Range.rangeSize
      rw [if_pos (by decide), Int.ediv_one]
      split <;> omega]
    unfold Builtin.Range.rangeFitsLong
    simp
    omega
  intro g6
  refine compRestT_of (GoodL _ gs x) ?step ?fin _ 0 [] _ (Nat.zero_add _) (GoodL.start _ gs x)
  case step =>
    intro i ys' news v9 I oI C oC D m₂ h tk E' hi hg hP hC hx F N off ne
    obtain ⟨rfl, hY⟩ := hg
    obtain ⟨t9, rfl⟩ := hP
    have hi0 : (0 : Int) ≤ (0 : Int) + (i : Int) := by omega
    have hiN : ((0 : Int) + (i : Int)).toNat = i := by omega
    obtain ⟨⟨a9, o9⟩, hp9, hd9, hs9⟩ := S.fd.get (List.getElem?_eq_getElem hi)
    have hx9 : (refsOf fds)[((0 : Int) + (i : Int)).toNat]? = some (.ref a9) := by
      rw [hiN, List.getElem?_map, hp9]; rfl
    have hm9 : (a9, o9) ∈ rest := hr ▸ List.mem_append_left _ (List.mem_of_getElem? hp9)
    have hat : ∀ r, (gs[i] x = r) → hasAt gs x i = r.isSome := fun r hr => by
      unfold hasAt
      rw [List.getElem?_eq_getElem hi, ← hr]; rfl
    have hk9 : (0 : Int) + (i : Int) = (i : Int) := Int.zero_add _
    generalize (0 : Int) + (i : Int) = at9 at hi0 hiN hx hx9 hk9
    dsimp only at hd9
    cases hgx : gs[i] x with
    | none =>
      have hat := hat _ hgx
      k_steps
      refine Held.mk ?_
      exact compEnd0 (by k_asm) (by k_asm) off trivial (GoodL.miss hY hat)
    | some r =>
      have hat := hat _ hgx
      k_steps
      refine Held.mk ?_
      exact compEnd0 (by k_asm) (by k_asm) off trivial (GoodL.hit hY hk9 hat)
  case fin =>
    rintro ys' news ⟨rfl, hY⟩ D h tk F N off
    clear F6 N6 hR6
    dsimp only
    k_steps
    refine Held.mk ?_
    have hyl : ys'.length ≤ 5 := by
      rw [hY.length]
      unfold lvls
      rw [List.length_map]
      exact Nat.le_trans (List.length_filter_le _ _) (by simpa using hlen)
    refine addL F N (vs := [Value.int 0 _]) (ws := ys') (by k_mem) (by k_mem) (by simp; omega) ?_
    intro c9 h9 F9 N9 l9
    k_steps
    refine Held.mk ?_
    refine kso_max F9 N9 (isL N9 List.mem_cons_self) (IntsAre.cons 0 _ hY) (by simp) rfl ?_
    intro h10 M tM tk10 F10 N10 hM1 hM2
    have hMl := max_lvl hM1 hM2
    have hlt := lvl_lt x S.ok.ne
    have hM0 : 0 ≤ M := by omega
    have hMN : M.toNat = lvl x gs := by omega
    have hg9 := List.getElem?_eq_getElem hlt
    obtain ⟨⟨a9, o9⟩, hp9, hd9, hs9⟩ := S.fd.get hg9
    obtain ⟨pre, post, hfd, hset⟩ := split_at hp9
    have hx9 : (refsOf fds)[M.toNat]? = some (.ref a9) := by
      rw [hMN, List.getElem?_map, hp9]; rfl
    have N11 := newsSub (news := (a9, o9) :: (a.st, ost') :: (a.dw, dictOf wes wn) :: (a.sa, listOf sas.toArray n4) :: (a.sv, listOf sas.toArray nsv) :: (a.fl, listOf (refsOf fds).toArray nfl) :: (L + 1 + 1 + 1, oN) :: (pre ++ (post ++ (O ++ R)))) N10 (by
      intro p hp
      rw [← hr, hfd]
      simp only [List.mem_cons, List.mem_append] at hp ⊢
      grind)
    have hF9 := S.offF (a9, o9) (List.mem_of_getElem? hp9)
    have hnd := S.nodup
    rw [hfd, List.map_append, List.map_cons] at hnd
    have hne : ∀ q ∈ (a.st, ost') :: (a.dw, dictOf wes wn) :: (a.sa, listOf sas.toArray n4) :: (a.sv, listOf sas.toArray nsv) :: (a.fl, listOf (refsOf fds).toArray nfl) :: (L + 1 + 1 + 1, oN) :: (pre ++ (post ++ (O ++ R))), q.1 ≠ a9 := by
      intro q hq
      obtain ⟨f1, f2, f3, f4, f5, f6⟩ := hF9
      simp only [List.mem_cons, List.mem_append] at hq
      rcases hq with rfl | rfl | rfl | rfl | rfl | rfl | hq | hq | hq
      · exact f2.symm
      · exact f1.symm
      · exact f3.symm
      · exact f4.symm
      · exact f5.symm
      · exact f6.symm
      · intro e
        exact (List.nodup_append.mp hnd).2.2 q.1 (List.mem_map_of_mem hq) a9 List.mem_cons_self e
      · intro e
        have h2 := (List.nodup_cons.mp (List.nodup_append.mp hnd).2.1).1
        have h3 : q.1 ∈ post.map (·.1) := List.mem_map_of_mem hq
        rw [e] at h3
        exact h2 h3
      · exact S.apart q (List.mem_append.mpr hq) (a9, o9) (List.mem_of_getElem? hp9)
    have hoF9 : (L + 1 + 1, oF) ∈ pre ++ (post ++ (O ++ R)) := by
      simp only [List.mem_append]
      exact .inr (.inr (.inr hoF'))
    generalize hr9 : pre ++ (post ++ (O ++ R)) = rest9 at N11 hne hoF9
    clear N9 N10 l9 F9
    dsimp only at hd9 hs9
    have hvo := VOk.int v tv
    k_steps
    with_reducible rename DR w _ (upd gs[lvl x gs] _ _) _ => hd12
    with_reducible rename Fr _ _ _ _ => F12
    with_reducible rename News _ _ _ _ => N12
    refine ⟨rfl, _, _, _, ledger L a wes wn ost' sas n4 nsv (fds.set (lvl x gs) (a9, _)) nfl oN O R, rfl, F12, newsSub N12 ?_, MapOk.store (MapOk.store (MapOk.of a m1) (by decide +kernel)) (by decide +kernel), wes, wn, ost', sas, n4, nsv, _, nfl, oN, R, _, tls, _, rfl, S.set hp9 rfl hg9 hx5 hdr' hd12 ⟨_, dN⟩⟩
    unfold ledger
    rw [refs_set hp9, hset, ← hr9]
    intro p hp
    simp only [List.mem_cons, List.mem_append] at hp ⊢
    grind
end
theorem rg_20 : True := by
  k_with_none
  (k_with "own lt" => (first | (with_reducible assumption) | ((with_reducible refine Nat.lt_trans ?_ (by assumption)); k_extra "own lt") | exact And.left (by with_reducible assumption) | exact And.left (And.right (by with_reducible assumption)) | exact And.left (And.right (And.right (by with_reducible assumption))) | exact And.left (And.right (And.right (And.right (by with_reducible assumption)))) | exact And.left (And.right (And.right (And.right (And.right (by with_reducible assumption))))) | exact And.left (And.right (And.right (And.right (And.right (And.right (by with_reducible assumption)))))) | exact And.left (And.right (And.right (And.right (And.right (And.right (And.right (by with_reducible assumption))))))) | exact And.left (And.right (And.right (And.right (And.right (And.right (And.right (And.right (by with_reducible assumption)))))))) | exact And.left (And.right (And.right (And.right (And.right (And.right (And.right (And.right (And.right (by with_reducible assumption))))))))) | exact And.left (And.right (And.right (And.right (And.right (And.right (And.right (And.right (And.right (And.right (by with_reducible assumption)))))))))) | exact And.left (And.right (And.right (And.right (And.right (And.right (And.right (And.right (And.right (And.right (And.right (by with_reducible assumption))))))))))) | exact And.left (And.right (And.right (And.right (And.right (And.right (And.right (And.right (And.right (And.right (And.right (And.right (by with_reducible assumption)))))))))))) | exact And.left (And.right (And.right (And.right (And.right (And.right (And.right (And.right (And.right (And.right (And.right (And.right (And.right (by with_reducible assumption))))))))))))) | fail "own lt"))
  (k_with "own ne" => ((refine neN ?_); (try dsimp only); (first | exact Nat.ne_of_gt (by k_extra "own lt") | exact Nat.ne_of_lt (by k_extra "own lt") | fail "own ne")))
  (k_with "getAttr ref" => (k_here; k_dflt (refine' get_own ?u9k1 ?u9k2 ?u9k3 ?u9k4 ?u9k5 ?u9k6 ?u9k7 ?u9k8 ?u9k9 ?_; (case u9k1 => k_asm); (case u9k2 => k_asm); (case u9k3 => k_inst); (case u9k4 => k_is); (case u9k5 => k_is); (case u9k6 => k_is); (case u9k7 => k_is); (case u9k8 => with_reducible assumption); (case u9k9 => k_handed); k_whole)))
  (k_with "getMethod ref" => (k_here; (with_reducible show wpAny _ _ (getMethod (Value.ref _) (Str.ofString "get") _) _ _ _); k_dflt (refine' DR.method ?u9N ?u9m ?u9d ?_; (case u9N => k_asm); (case u9m => k_mem); (case u9d => with_reducible assumption))))
  (k_with "call builtin:dict.get" => ((k_here; k_dflt (refine' DR.get2 ?u9N ?u9m ?u9d ?u9l ?u9v ?_; (case u9N => k_asm); (case u9m => k_mem); (case u9d => with_reducible assumption); (case u9l => with_reducible assumption); (case u9v => first | exact VOk.str _ | with_reducible assumption)); intro r' hv' hd'); (revert r' hv' hd'; intros)))
  (k_with "compareOp In str ref" => (k_here; k_dflt (refine' DR.has ?u9N ?u9m ?u9d ?u9l ?_; (case u9N => k_asm); (case u9m => k_mem); (case u9d => with_reducible assumption); (case u9l => with_reducible assumption))))
  (k_with "setItem ref str" => ((k_here; k_dflt (refine' DR.set ?u9F ?u9N ?u9U ?u9d ?u9v ?u9z ?_; (case u9F => k_asm); (case u9N => k_asm); (case u9U => k_updF); (case u9d => with_reducible assumption); (case u9v => first | exact VOk.str _ | with_reducible assumption); (case u9z => omega)); intro h' o' F' N' hd'; (try dsimp only at N')); (revert h' o' F' N' hd'; intros)))
  (k_with "binaryOp Add ref ref" => ((k_here; k_dflt (refine' addL ?u9k1 ?u9k2 ?u9k3 ?u9k4 ?u9k5 ?_; (case u9k1 => k_asm); (case u9k2 => k_asm); (case u9k3 => k_mem); (case u9k4 => k_mem); (case u9k5 => ktr_rel); k_whole); intro c' h' F' N' l1; (have l2 := l1); (try k_lt l2)); (revert c' h' F' N' l1; intros)))
  (k_with "binaryOp Mult ref int" => ((k_here; k_dflt (refine' mul1 ?u9k1 ?u9k2 ?u9k3 ?u9k4 ?u9k5 ?_; (case u9k1 => k_asm); (case u9k2 => k_asm); (case u9k3 => k_mem); (case u9k4 => omega); (case u9k5 => omega); k_whole); intro c' h' F' N' l1; (have l2 := l1); (try k_lt l2)); (revert c' h' F' N' l1; intros)))
  (k_with "subscriptTail" => ((k_here; k_dflt (refine' sliceTo ?u9k1 ?u9k2 ?u9k3 ?u9k4 ?u9k5 ?_ ?u9k6; (case u9k1 => k_asm); (case u9k2 => k_asm); (case u9k3 => k_mem); (case u9k4 => omega); (case u9k5 => ktr_rel); (case u9k6 => with_unfolding_all rfl); k_whole); intro c' h' F' N' l1; (have l2 := l1); (try k_lt l2)); (revert c' h' F' N' l1; intros)))
  (k_with "subscriptTail" => ((k_here; k_dflt (refine' sliceFrom ?u9k1 ?u9k2 ?u9k3 ?u9k4 ?u9k5 ?_ ?u9k6; (case u9k1 => k_asm); (case u9k2 => k_asm); (case u9k3 => k_mem); (case u9k4 => omega); (case u9k5 => ktr_rel); (case u9k6 => with_unfolding_all rfl); k_whole); intro c' h' F' N' l1; (have l2 := l1); (try k_lt l2)); (revert c' h' F' N' l1; intros)))
  (k_with "subscriptTail" => ((k_here; k_dflt (refine' sliceRev ?u9k1 ?u9k2 ?u9k3 ?u9k5 ?_ ?u9k6; (case u9k1 => k_asm); (case u9k2 => k_asm); (case u9k3 => k_mem); (case u9k5 => ktr_rel); (case u9k6 => with_unfolding_all rfl); k_whole); intro c' h' F' N' l1; (have l2 := l1); (try k_lt l2)); (revert c' h' F' N' l1; intros)))
  (k_with "exec Assign cons ListComp" => (k_here; k_dflt (refine LCg.Assign_ListComp_U (F₀ := by k_asm) (by rfl) (by with_unfolding_all rfl) (by with_unfolding_all rfl) (by decide) (by rfl) (by decide) (by rfl) (by rfl) (by rfl) ?_)))
  (k_with "call builtin:list.append" => ((k_here; k_dflt (refine' appendL ?u9k1 ?u9k2 ?u9k3 ?u9k4 ?_; (case u9k1 => k_asm); (case u9k2 => k_asm); (case u9k3 => k_updF); (case u9k4 => ktr_rel)); intro h' F' N'; (try dsimp only at N')); (revert h' F' N'; intros)))
  (k_with "setAttr ref" => ((k_here; k_dflt (refine' setF ?u9k1 ?u9k2 ?u9k3 ?u9k4 ?u9k5 ?u9k6 ?u9k7 ?u9k8 ?u9k9 ?u9k10 ?u9k11 ?u9k12 ?_; (case u9k1 => k_asm); (case u9k2 => k_asm); (case u9k3 => k_asm); (case u9k4 => k_inst); (case u9k5 => exact rfl); (case u9k6 => k_is); (case u9k7 => k_is); (case u9k8 => k_is); (case u9k9 => k_is); (case u9k10 => with_reducible assumption); (case u9k11 => k_updF); (case u9k12 => with_reducible assumption)); intro es' n' h' hz' ho' hs' F' N'; (try dsimp only at N'); (try (have q' := (ho' (Str.ofString "store") (by decide)).trans (by with_reducible assumption))); (try (have q' := (ho' (Str.ofString "aside") (by decide)).trans (by with_reducible assumption)))); (revert es' n' h' hz' ho' hs' F' N'; intros)))
  (k_with "call builtin:len" => (k_here; (with_reducible show wpAny _ _ (call (Value.builtin "len") [Value.ref _]) _ _ _); k_dflt (refine' lenL ?u9N ?u9m ?u9z ?_; (case u9N => k_asm); (case u9m => k_mem); (case u9z => ktr_rel)); (try dsimp only)))
  (k_with "call builtin:list.pop" => ((k_here; (try dsimp only); k_dflt (refine' popL ?u9k1 ?u9k2 ?u9k3 ?u9k4 ?_; (case u9k1 => k_asm); (case u9k2 => k_asm); (case u9k3 => k_updF); (case u9k4 => ktr_rel)); intro h' F' N'; (try dsimp only at N')); (revert h' F' N'; intros)))
  (k_with "call ref" => ((k_here; (with_reducible show wpAny _ _ (call (Value.ref 87) _) _ _ _); k_dflt (refine' Calls.use (plain_var_calls _ ?u9a1 ?u9a2 ?u9a3 ?u9a4 ?u9a5 ?u9a6) ?u9B ?u9F ?u9X ?u9N ?u9T ?u9hk ?u9hd ?u9hu ?_; (case u9B => k_asm); (case u9F => k_asm); (case u9X => k_asm); (case u9N => k_asm); (case u9T => k_asm); (case u9hk => first | exact rfl | assumption); (case u9hd => ktr_room); (case u9hu => ktr_units); (case u9a1 => k_mem); (case u9a2 => k_mem); (case u9a4 => with_reducible assumption); (case u9a3 => k_mem); (case u9a5 => with_reducible assumption); (case u9a6 => with_reducible assumption)); (intro r' news' h' tk' F' N' hp'; obtain ⟨hn', hv', hd'⟩ := hp'; subst hn'; (try dsimp only))); (revert r' h' tk' F' N' hv' hd'; intros)))
  (k_with "call ref" => ((k_here; (with_reducible show wpAny _ _ (call (Value.ref 122) _) _ _ _); k_dflt (refine' Calls.use (own_names_calls _ ?u9a1 ?u9a2 ?u9a3 ?u9a4 ?u9a5 ?u9a6 ?u9a7 ?u9a8 ?u9a9) ?u9B ?u9F ?u9X ?u9N ?u9T ?u9hk ?u9hd ?u9hu ?_; (case u9B => k_asm); (case u9F => k_asm); (case u9X => k_asm); (case u9N => k_asm); (case u9T => k_asm); (case u9hk => first | exact rfl | assumption); (case u9hd => ktr_room); (case u9hu => ktr_units); (case u9a1 => k_mem); (case u9a2 => k_mem); (case u9a5 => with_reducible assumption); (case u9a6 => with_reducible assumption); (case u9a7 => with_reducible assumption); (case u9a3 => k_mem); (case u9a4 => k_mem); (case u9a8 => with_reducible assumption); (case u9a9 => with_reducible assumption)); (intro r' news' h' tk' F' N' hp'; obtain ⟨l', hr', hn', l1⟩ := hp'; subst hr' hn'; (have l2 := l1); (try k_lt l2); (try dsimp only))); (revert h' tk' F' N' l' l1; intros)))
  (k_with "call ref" => ((k_here; (with_reducible show wpAny _ _ (call (Value.ref 129) _) _ _ _); k_dflt (refine' Calls.use (filled_args_calls _ ?u9a1 ?u9a2 ?u9a3) ?u9B ?u9F ?u9X ?u9N ?u9T ?u9hk ?u9hd ?u9hu ?_; (case u9B => k_asm); (case u9F => k_asm); (case u9X => k_asm); (case u9N => k_asm); (case u9T => k_asm); (case u9hk => first | exact rfl | assumption); (case u9hd => ktr_room); (case u9hu => ktr_units); (case u9a1 => k_mem); (case u9a2 => ktr_rel); (case u9a3 => ktr_rel)); (intro r' news' h' tk' F' N' hp'; obtain ⟨l', u', hr', hn', l1⟩ := hp'; subst hr' hn'; (have l2 := l1); (try k_lt l2); (try dsimp only))); (revert h' tk' F' N' l' u' l1; intros)))
  (k_with "compareOp In str ref" => (k_here; k_dflt (refine' HasD.not ?u9N ?u9m ?u9d ?u9l ?u9p ?_; (case u9N => k_asm); (case u9m => k_mem); (case u9d => with_reducible assumption); (case u9l => with_reducible assumption); (case u9p => with_reducible assumption))))
  (k_with "subscriptTail" => ((k_here; (with_reducible refine' itemStr (ss := words5) ?u9k1 ?u9k3 ?u9k4 ?u9k5 ?u9k6 ?u9k7 ?_ ?u9k8); k_dflt ((case u9k1 => k_asm); (case u9k3 => k_mem); (case u9k4 => exact StrsAre.cons _ _ (StrsAre.cons _ _ (StrsAre.cons _ _ (StrsAre.cons _ _ (StrsAre.cons _ _ StrsAre.nil))))); (case u9k5 => with_reducible assumption); (case u9k6 => with_reducible assumption); (case u9k7 => decide); (case u9k8 => with_unfolding_all rfl); k_whole); intro x' t' e'); (revert x' t' e'; intros)))
  (k_with "subscriptTail" => (k_here; (with_reducible refine' itemRef ?u9k1 ?u9k3 ?u9k5 ?u9k7 ?u9k4 ?_ ?u9k8); k_dflt ((case u9k1 => k_asm); (case u9k3 => k_mem); (case u9k4 => with_reducible assumption); (case u9k5 => first | with_reducible assumption | omega); (case u9k7 => ktr_rel); (case u9k8 => with_unfolding_all rfl))))
  (k_with "eval Dict" => ((k_here; k_dflt (refine' kdn_eval (knd := PySem.strKind _ _) ?u9F ?u9N ?u9b ?u9a ?u9l ?u9e ?u9n ?_; (case u9F => k_asm); (case u9N => k_asm); (case u9b => exact Top.nolimit (by k_asm)); (case u9a => rfl); (case u9l => rfl); (case u9e => exact List.cons_ne_nil _ _); (case u9n => exact Nat.le_of_ble_eq_true rfl)); intro d' h' o' F' N' l1 lo' hd'; (have l2 := l1); (try k_lt l2)); (revert d' h' o' F' N' l1 lo' hd'; intros)))
  (k_with "KdnMade" => ((k_here; k_dflt (refine' made1 ?u9F ?u9N ?u9U ?u9d ?u9v ?_; (case u9F => k_asm); (case u9N => k_asm); (case u9U => k_updF); (case u9d => k_asm); (case u9v => first | exact VOk.str _ | with_reducible assumption)); intro h' o' F' N' hd'; (try dsimp only at N')); (revert h' o' F' N' hd'; intros)))
  (k_with "subscriptTail" => ((k_here; (with_reducible refine' itemPad ?u9k1 ?u9k3 ?u9k4 ?u9k5 ?u9k7 ?_ ?u9k8); k_dflt ((case u9k1 => k_asm); (case u9k3 => k_mem); (case u9k4 => with_reducible assumption); (case u9k5 => omega); (case u9k7 => omega); (case u9k8 => with_unfolding_all rfl)); intro r' hv' hd'); (revert r' hv' hd'; intros)))
  (k_with "call ref" => ((k_here; (with_reducible show wpAny _ _ (call (Value.ref 148) _) _ _ _); k_dflt (refine' Calls.use (law_names_calls _ ?u9a1) ?u9B ?u9F ?u9X ?u9N ?u9T ?u9hk ?u9hd ?u9hu ?_; (case u9B => k_asm); (case u9F => k_asm); (case u9X => k_asm); (case u9N => k_asm); (case u9T => k_asm); (case u9hk => first | exact rfl | assumption); (case u9hd => ktr_room); (case u9hu => ktr_units); (case u9a1 => with_reducible assumption)); (intro r' news' h' tk' F' N' hp'; obtain ⟨l', vs', hr', hn', l1, hS'⟩ := hp'; subst hr' hn'; (have l2 := l1); (try k_lt l2); (try dsimp only))); (revert h' tk' F' N' l' vs' l1 hS'; intros)))
  (k_with "compareOp In str ref" => (k_here; k_dflt (refine' DR.hasT ?u9N ?u9m ?u9d ?u9l ?u9p ?_; (case u9N => k_asm); (case u9m => k_mem); (case u9d => with_reducible assumption); (case u9l => with_reducible assumption); (case u9p => with_reducible assumption))))
  (k_with "compareOp In str ref" => (k_here; k_dflt (refine' DR.hasF ?u9N ?u9m ?u9d ?u9l ?u9p ?_; (case u9N => k_asm); (case u9m => k_mem); (case u9d => with_reducible assumption); (case u9l => with_reducible assumption); (case u9p => with_reducible assumption))))
  (k_with "subscriptTail" => ((k_here; (with_reducible refine' DR.item ?u9N ?u9m ?u9d ?u9p ?_ ?u9e); k_dflt ((case u9N => k_asm); (case u9m => k_mem); (case u9d => with_reducible assumption); (case u9p => with_reducible assumption); (case u9e => with_unfolding_all rfl)); intro r' hv' hd'); (revert r' hv' hd'; intros)))
  (k_with "call ref" => ((k_here; (with_reducible show wpAny _ _ (call (Value.ref 162) _) _ _ _); k_dflt (refine' Calls.use (law_found_calls _ ?u9a1 (FrAt.mono ?u9a0 (Nat.le_refl _) ?u9a2) ?u9a3) ?u9B ?u9F ?u9X ?u9N ?u9T ?u9hk ?u9hd ?u9hu ?_; (case u9B => k_asm); (case u9F => k_asm); (case u9X => k_asm); (case u9N => k_asm); (case u9T => k_asm); (case u9hk => first | exact rfl | assumption); (case u9hd => ktr_room); (case u9hu => ktr_units); (case u9a1 => k_mem); (case u9a2 => with_reducible assumption); (case u9a0 => tb_start); (case u9a3 => ktr_rel)); (intro r' news' h' tk' F' N' hp'; obtain ⟨hn', hv', hd'⟩ := hp'; subst hn'; (try dsimp only))); (revert r' h' tk' F' N' hv' hd'; intros)))
  (k_with "subscriptTail" => ((k_here; (with_reducible refine' cellItem ?u9k1 ?u9k3 ?u9k4 ?u9k5 ?u9k7 ?_ ?u9k8); k_dflt ((case u9k1 => k_asm); (case u9k3 => k_mem); (case u9k4 => with_reducible assumption); (case u9k5 => omega); (case u9k7 => omega); (case u9k8 => with_unfolding_all rfl)); intro c' t' hc'); (revert c' t' hc'; intros)))
  (k_with "subscriptTail" => ((k_here; (with_reducible refine' fghItem ?u9k1 ?u9k2 ?_ ?u9k3 ?u9k4); k_dflt ((case u9k1 => omega); (case u9k2 => omega); (case u9k3 => with_unfolding_all rfl); (case u9k4 => (intro _; with_unfolding_all rfl))); intro x' t' tk' hx'); (revert x' t' tk' hx'; intros)))
  (k_with "call ref" => ((k_here; (with_reducible show wpAny _ _ (call (Value.ref 76) _) _ _ _); k_dflt (refine' Calls.use (world_calls _) ?u9B ?u9F ?u9X ?u9N ?u9T ?u9hk ?u9hd ?u9hu ?_; (case u9B => k_asm); (case u9F => k_asm); (case u9X => k_asm); (case u9N => k_asm); (case u9T => k_asm); (case u9hk => first | exact rfl | assumption); (case u9hd => ktr_room); (case u9hu => ktr_units)); (intro r' news' h' tk' F' N' hp'; obtain ⟨aw', dw', st', sa', wr', tr', wes', wn', n4', ost', owr', otr', hr', hn', hw'⟩ := hp'; subst hr' hn'; (try dsimp only))); (revert h' tk' F' N' aw' dw' st' sa' wr' tr' wes' wn' n4' ost' owr' otr' hw'; intros)))
  trivial


theorem wt_deedres : True := by
  w_top off
  trivial

theorem FD.last {w : World} {k : Nat} {fds : List (Addr × Obj)} {gs : List PM} {g : PM} (h : FD w k fds (gs ++ [g])) : ∃ fds' p, fds = fds' ++ [p] ∧ FD w k fds' gs ∧ DR w p.2 g k := by
  have hl := h.length
  have hne : fds ≠ [] := fun e => by rw [e] at hl; simp at hl
  have e : fds = fds.dropLast ++ [fds.getLast hne] := (List.dropLast_concat_getLast hne).symm
  rw [e] at h
  refine ⟨fds.dropLast, fds.getLast hne, e, h.init, ?_⟩
  have hl2 := h.length
  simp at hl2
  obtain ⟨p, h1, h2, _⟩ := h.get (i := gs.length) (g := g) (by simp)
  have h3 : (fds.dropLast ++ [fds.getLast hne])[gs.length]? = some (fds.getLast hne) := by
    rw [List.getElem?_append_right (by simp; omega)]
    have : gs.length - fds.dropLast.length = 0 := by simp; omega
    rw [this]; rfl
  rw [h3] at h1
  cases h1
  exact h2
theorem LS.restore {w : World} {L : Addr} {a : Adr} {cvs ys : List Value} {md : Int} {b : Nat} {O : List (Addr × Obj)} {wes es' : List DictEntry} {ost ost' o3 : Obj} {sas sas' : List Value} {fds' : List (Addr × Obj)} {p : Addr × Obj} {R : List (Addr × Obj)} {f : PM} {tls : List (List (Str × Value))} {tl : List (Str × Value)} {gs : List PM} {g : PM} {t : Tok} {k : Nat}
    (S : LS w L a cvs ys md b O wes ost sas (fds' ++ [p]) o3 R f (tls ++ [tl]) (gs ++ [g])) (hA : AsAt R sas' tls) (hf : FD w (b + 10) fds' gs) (hz : es'.length ≤ 900) (ho : ∀ y, y ≠ Str.ofString "depth" → getL y es' = getL y wes)
    (hd : getL (Str.ofString "depth") es' = some (some (.int (((tls ++ [tl]).length : Int) - 1) t))) (dr' : DR w ost' (setAll f (undoL tl)) k) (hk : k ≤ b + 5) :
    LS w L a cvs ys md (b + 5) O es' ost' sas' fds' o3 R (setAll f (undoL tl)) tls gs where
  len := hz
  g1 := (ho _ (by decide +kernel)).trans S.g1
  g2 := ⟨t, by rw [hd]; simp⟩
  g3 := by rw [ho _ (by decide +kernel)]; exact S.g3
  g4 := by rw [ho _ (by decide +kernel)]; exact S.g4
  g5 := (ho _ (by decide +kernel)).trans S.g5
  g6 := (ho _ (by decide +kernel)).trans S.g6
  g7 := (ho _ (by decide +kernel)).trans S.g7
  c3 := S.c3
  dr := dr'.le hk
  fd := hf.mono (by omega)
  as := hA
  ok := S.ok.restore
  le := by have := S.le; simp at this; omega
  five := fun q hq => S.five q (List.mem_append_left _ hq)
  stat := S.stat
  offF := fun q hq => S.offF q (List.mem_append_left _ hq)
  offO := S.offO
  offR := S.offR
  nodup := by
    have := S.nodup
    rw [List.map_append] at this
    exact (List.nodup_append.mp this).1
  apart := fun q hq r hr => S.apart q hq r (List.mem_append_left _ hr)
  apartO := S.apartO
section
theorem rg_21 : True := by
  (k_with "call ref" => (k_here; (with_reducible rename HoldAt 5 => hz9); clear hz9; refine Held.out ?_))
  trivial
theorem deed_restore (w : World) {mean : ExcName → Option Value} {mg mb : Str → Option Value} {fa : Addr} {ccd : Value} {h₀ : Heap} {L : Addr} {m : Str → Option Value} {s : Shared} {a : Adr} {cvs ys : List Value} {md : Int} {b : Nat} {O : List (Addr × Obj)} {E : Value → Shared → Prop}
    (sc : Scope) (hsc : sc = lawScope) (body : List Stmt) (hb : body = restoreBody) (o : Ord L a)
    (F : Fr h₀ L s.heap m) (X : (hd.heap_39 w.params).In h₀) (T : Top hd.view_39 (looseW hd.view_39 [Str.ofString "SnobolError"]) mean mg mb h₀) (hM : MapOk a m)
    {wes : List DictEntry} {wn n4 nsv nfl : Nat} {ost o3 : Obj} {sas : List Value} {fds R : List (Addr × Obj)} {f : PM} {tls : List (List (Str × Value))} {gs : List PM} (N : News h₀ L s.heap (ledger L a wes wn ost sas n4 nsv fds nfl o3 O R)) (S : LS w L a cvs ys md b O wes ost sas fds o3 R f tls gs) (hpos : 0 < tls.length) (hb9 : b ≤ 70) (hmd : md ≤ 4) :
    wpAny (model PySem.Challenge.rw_sj0188_01.row.prog w) (callerA.deeper (envX (Str.ofString "law") sc L fa ccd (lawCells L))) (execs body (envX (Str.ofString "law") sc L fa ccd (lawCells L))) (DeedEnd w h₀ L a cvs ys md (b + 5) O s) E s := by
  revert X
  k_fill
  intro X
  delta restoreBody forBody lawBody lawDef PySem.Challenge.pw_sj0188_01 at hb; dsimp only [List.getLast?, List.getLast, Option.map, Option.getD, List.getElem?_cons_succ, List.getElem?_cons_zero] at hb
  subst hb
  delta lawScope lawDef PySem.Challenge.pw_sj0188_01 at hsc; dsimp only [List.getLast?, List.getLast, Option.map, Option.getD] at hsc
  subst hsc
  have K0 := below_caller h₀
  obtain ⟨m1, hm1⟩ : ∃ m1, m = mapOf a m1 := ⟨m, hM.form⟩
  subst hm1
  clear hM
  have hM := MapOk.of a m1
  unfold mapOf at F
  unfold ledger at N
  obtain ⟨tls, tl, gs, g, rfl, rfl, hl1⟩ := S.ok.last (k := tls.length - 1) (by omega)
  obtain ⟨sas, D, ys9, n9, rfl, hD, hT, hvo, hy9, hA⟩ := S.as.last
  obtain ⟨fds, p9, rfl, hfd, hd9⟩ := S.fd.last
  have h5 := S.five tl (by simp)
  have hle := S.le
  have hal := hA.length
  obtain ⟨o1, o2, o3', o4, o5, s1, s2, s3⟩ := o
  obtain ⟨oF, hoF', hdF⟩ := S.stat.hc2
  have hfl : fds.length ≤ 5 := by
    have h1 := hfd.length
    have h2 := S.ok.len
    simp at h2 hle
    omega
  have hsl : sas.length ≤ 5 := by
    simp at hle
    omega
  have er : refsOf (fds ++ [p9]) = refsOf fds ++ [.ref p9.1] := by simp [refsOf]
  rw [er] at N
  have hrl : (refsOf fds).length ≤ 5 := by simp [refsOf]; exact hfl
  have mR : ∀ p ∈ R, p ∈ fds ++ [p9] ++ (O ++ R) := fun p hp => List.mem_append_right _ (List.mem_append_right _ hp)
  have offA : ∀ p ∈ fds ++ [p9] ++ (O ++ R), OffP L a p.1 := fun p hp => (List.mem_append.mp hp).elim (S.offF p) fun hp => (List.mem_append.mp hp).elim (S.offO p) (S.offR p)
  have hoF := mR _ hoF'
  generalize hr : fds ++ [p9] ++ (O ++ R) = rest at N mR offA hoF
  have zv : ∀ p ∈ (a.fl, listOf (refsOf fds ++ [Value.ref p9.1]).toArray nfl) :: (L + 1 + 1 + 1, o3) :: rest, p.1 ≠ a.sv := by
    intro p hp
    simp only [List.mem_cons] at hp
    rcases hp with rfl | rfl | hp
    · k_ne
    · k_ne
    · exact (offA p hp).2.2.2.1
  have zf : ∀ p ∈ (L + 1 + 1 + 1, o3) :: rest, p.1 ≠ a.fl := by
    intro p hp
    simp only [List.mem_cons] at hp
    rcases hp with rfl | hp
    · k_ne
    · exact (offA p hp).2.2.2.2.1
  have hold5 := HoldAt.mk 5
  k_steps
  refine Held.mk ?_
  with_reducible rename Fr _ _ _ _ => F1
  with_reducible rename News _ _ _ _ => N1
  obtain ⟨td, g2⟩ := S.g2
  have up : ∀ p ∈ R, p ∈ (a.sv, listOf sas.toArray (nsv + 1)) :: (a.fl, listOf (refsOf fds ++ [Value.ref p9.1]).toArray nfl) :: (L + 1 + 1 + 1, o3) :: rest := fun p hp => by
    simp only [List.mem_cons]
    exact .inr (.inr (.inr (mR p hp)))
  have rA : ∀ p ∈ (a.sv, listOf sas.toArray (nsv + 1)) :: (a.fl, listOf (refsOf fds ++ [Value.ref p9.1]).toArray nfl) :: (L + 1 + 1 + 1, o3) :: rest, @Ne Nat p.1 a.dw ∧ @Ne Nat p.1 a.st ∧ @Ne Nat p.1 a.sa := by
    intro p hp
    simp only [List.mem_cons] at hp
    rcases hp with rfl | rfl | rfl | hp
    · exact ⟨by k_ne, by k_ne, by k_ne⟩
    · exact ⟨by k_ne, by k_ne, by k_ne⟩
    · exact ⟨by k_ne, by k_ne, by k_ne⟩
    · exact ⟨(offA p hp).1, (offA p hp).2.1, (offA p hp).2.2.1⟩
  refine Calls.use (restore_calls w (up _ S.stat.haw) (up _ hD) (hT.mono up) hvo S.g1 g2 S.g5 S.dr (by omega) s1 (by omega) (by omega) (by simp; omega) (by omega) S.len (fun p hp => (rA p hp).1) (fun p hp => (rA p hp).2.1) (fun p hp => (rA p hp).2.2) (by k_ne) (by k_ne) (by k_ne)) K0 F1 X N1 T rfl (by ktr_room) (by ktr_units) ?_
  rintro r news' h2 tk2 F2 N3 ⟨es', n', o', n4', rfl, rfl, hz', ho', ⟨t', hd'⟩, hdr'⟩
  clear N1 F1 N
  dsimp only
  k_steps
  with_reducible rename Fr _ _ _ _ => F12
  with_reducible rename News _ _ _ _ => N12
  have hyt := hT.length
  refine ⟨rfl, _, _, _, ledger L a es' n' o' sas n4' (nsv + 1) fds (nfl + 1) o3 O R, rfl, F12, newsSub N12 ?_, hM, es', n', o', sas, n4', _, fds, _, o3, R, _, tls, gs, rfl, S.restore hA hfd hz' ho' hd' hdr' (by omega)⟩
  unfold ledger
  rw [← hr]
  intro p hp
  simp only [List.mem_cons, List.mem_append] at hp ⊢
  grind
end
theorem rg_22 : True := by
  k_with_none
  (k_with "own lt" => (first | (with_reducible assumption) | ((with_reducible refine Nat.lt_trans ?_ (by assumption)); k_extra "own lt") | exact And.left (by with_reducible assumption) | exact And.left (And.right (by with_reducible assumption)) | exact And.left (And.right (And.right (by with_reducible assumption))) | exact And.left (And.right (And.right (And.right (by with_reducible assumption)))) | exact And.left (And.right (And.right (And.right (And.right (by with_reducible assumption))))) | exact And.left (And.right (And.right (And.right (And.right (And.right (by with_reducible assumption)))))) | exact And.left (And.right (And.right (And.right (And.right (And.right (And.right (by with_reducible assumption))))))) | exact And.left (And.right (And.right (And.right (And.right (And.right (And.right (And.right (by with_reducible assumption)))))))) | exact And.left (And.right (And.right (And.right (And.right (And.right (And.right (And.right (And.right (by with_reducible assumption))))))))) | exact And.left (And.right (And.right (And.right (And.right (And.right (And.right (And.right (And.right (And.right (by with_reducible assumption)))))))))) | exact And.left (And.right (And.right (And.right (And.right (And.right (And.right (And.right (And.right (And.right (And.right (by with_reducible assumption))))))))))) | exact And.left (And.right (And.right (And.right (And.right (And.right (And.right (And.right (And.right (And.right (And.right (And.right (by with_reducible assumption)))))))))))) | exact And.left (And.right (And.right (And.right (And.right (And.right (And.right (And.right (And.right (And.right (And.right (And.right (And.right (by with_reducible assumption))))))))))))) | fail "own lt"))
  (k_with "own ne" => ((refine neN ?_); (try dsimp only); (first | exact Nat.ne_of_gt (by k_extra "own lt") | exact Nat.ne_of_lt (by k_extra "own lt") | fail "own ne")))
  (k_with "getAttr ref" => (k_here; k_dflt (refine' get_own ?u9k1 ?u9k2 ?u9k3 ?u9k4 ?u9k5 ?u9k6 ?u9k7 ?u9k8 ?u9k9 ?_; (case u9k1 => k_asm); (case u9k2 => k_asm); (case u9k3 => k_inst); (case u9k4 => k_is); (case u9k5 => k_is); (case u9k6 => k_is); (case u9k7 => k_is); (case u9k8 => with_reducible assumption); (case u9k9 => k_handed); k_whole)))
  (k_with "getMethod ref" => (k_here; (with_reducible show wpAny _ _ (getMethod (Value.ref _) (Str.ofString "get") _) _ _ _); k_dflt (refine' DR.method ?u9N ?u9m ?u9d ?_; (case u9N => k_asm); (case u9m => k_mem); (case u9d => with_reducible assumption))))
  (k_with "call builtin:dict.get" => ((k_here; k_dflt (refine' DR.get2 ?u9N ?u9m ?u9d ?u9l ?u9v ?_; (case u9N => k_asm); (case u9m => k_mem); (case u9d => with_reducible assumption); (case u9l => with_reducible assumption); (case u9v => first | exact VOk.str _ | with_reducible assumption)); intro r' hv' hd'); (revert r' hv' hd'; intros)))
  (k_with "compareOp In str ref" => (k_here; k_dflt (refine' DR.has ?u9N ?u9m ?u9d ?u9l ?_; (case u9N => k_asm); (case u9m => k_mem); (case u9d => with_reducible assumption); (case u9l => with_reducible assumption))))
  (k_with "setItem ref str" => ((k_here; k_dflt (refine' DR.set ?u9F ?u9N ?u9U ?u9d ?u9v ?u9z ?_; (case u9F => k_asm); (case u9N => k_asm); (case u9U => k_updF); (case u9d => with_reducible assumption); (case u9v => first | exact VOk.str _ | with_reducible assumption); (case u9z => omega)); intro h' o' F' N' hd'; (try dsimp only at N')); (revert h' o' F' N' hd'; intros)))
  (k_with "binaryOp Add ref ref" => ((k_here; k_dflt (refine' addL ?u9k1 ?u9k2 ?u9k3 ?u9k4 ?u9k5 ?_; (case u9k1 => k_asm); (case u9k2 => k_asm); (case u9k3 => k_mem); (case u9k4 => k_mem); (case u9k5 => ktr_rel); k_whole); intro c' h' F' N' l1; (have l2 := l1); (try k_lt l2)); (revert c' h' F' N' l1; intros)))
  (k_with "binaryOp Mult ref int" => ((k_here; k_dflt (refine' mul1 ?u9k1 ?u9k2 ?u9k3 ?u9k4 ?u9k5 ?_; (case u9k1 => k_asm); (case u9k2 => k_asm); (case u9k3 => k_mem); (case u9k4 => omega); (case u9k5 => omega); k_whole); intro c' h' F' N' l1; (have l2 := l1); (try k_lt l2)); (revert c' h' F' N' l1; intros)))
  (k_with "subscriptTail" => ((k_here; k_dflt (refine' sliceTo ?u9k1 ?u9k2 ?u9k3 ?u9k4 ?u9k5 ?_ ?u9k6; (case u9k1 => k_asm); (case u9k2 => k_asm); (case u9k3 => k_mem); (case u9k4 => omega); (case u9k5 => ktr_rel); (case u9k6 => with_unfolding_all rfl); k_whole); intro c' h' F' N' l1; (have l2 := l1); (try k_lt l2)); (revert c' h' F' N' l1; intros)))
  (k_with "subscriptTail" => ((k_here; k_dflt (refine' sliceFrom ?u9k1 ?u9k2 ?u9k3 ?u9k4 ?u9k5 ?_ ?u9k6; (case u9k1 => k_asm); (case u9k2 => k_asm); (case u9k3 => k_mem); (case u9k4 => omega); (case u9k5 => ktr_rel); (case u9k6 => with_unfolding_all rfl); k_whole); intro c' h' F' N' l1; (have l2 := l1); (try k_lt l2)); (revert c' h' F' N' l1; intros)))
  (k_with "subscriptTail" => ((k_here; k_dflt (refine' sliceRev ?u9k1 ?u9k2 ?u9k3 ?u9k5 ?_ ?u9k6; (case u9k1 => k_asm); (case u9k2 => k_asm); (case u9k3 => k_mem); (case u9k5 => ktr_rel); (case u9k6 => with_unfolding_all rfl); k_whole); intro c' h' F' N' l1; (have l2 := l1); (try k_lt l2)); (revert c' h' F' N' l1; intros)))
  (k_with "exec Assign cons ListComp" => (k_here; k_dflt (refine LCg.Assign_ListComp_U (F₀ := by k_asm) (by rfl) (by with_unfolding_all rfl) (by with_unfolding_all rfl) (by decide) (by rfl) (by decide) (by rfl) (by rfl) (by rfl) ?_)))
  (k_with "call builtin:list.append" => ((k_here; k_dflt (refine' appendL ?u9k1 ?u9k2 ?u9k3 ?u9k4 ?_; (case u9k1 => k_asm); (case u9k2 => k_asm); (case u9k3 => k_updF); (case u9k4 => ktr_rel)); intro h' F' N'; (try dsimp only at N')); (revert h' F' N'; intros)))
  (k_with "setAttr ref" => ((k_here; k_dflt (refine' setF ?u9k1 ?u9k2 ?u9k3 ?u9k4 ?u9k5 ?u9k6 ?u9k7 ?u9k8 ?u9k9 ?u9k10 ?u9k11 ?u9k12 ?_; (case u9k1 => k_asm); (case u9k2 => k_asm); (case u9k3 => k_asm); (case u9k4 => k_inst); (case u9k5 => exact rfl); (case u9k6 => k_is); (case u9k7 => k_is); (case u9k8 => k_is); (case u9k9 => k_is); (case u9k10 => with_reducible assumption); (case u9k11 => k_updF); (case u9k12 => with_reducible assumption)); intro es' n' h' hz' ho' hs' F' N'; (try dsimp only at N'); (try (have q' := (ho' (Str.ofString "store") (by decide)).trans (by with_reducible assumption))); (try (have q' := (ho' (Str.ofString "aside") (by decide)).trans (by with_reducible assumption)))); (revert es' n' h' hz' ho' hs' F' N'; intros)))
  (k_with "call builtin:len" => (k_here; (with_reducible show wpAny _ _ (call (Value.builtin "len") [Value.ref _]) _ _ _); k_dflt (refine' lenL ?u9N ?u9m ?u9z ?_; (case u9N => k_asm); (case u9m => k_mem); (case u9z => ktr_rel)); (try dsimp only)))
  (k_with "call builtin:list.pop" => ((k_here; (try dsimp only); k_dflt (refine' popL ?u9k1 ?u9k2 ?u9k3 ?u9k4 ?_; (case u9k1 => k_asm); (case u9k2 => k_asm); (case u9k3 => k_updF); (case u9k4 => ktr_rel)); intro h' F' N'; (try dsimp only at N')); (revert h' F' N'; intros)))
  (k_with "call ref" => ((k_here; (with_reducible show wpAny _ _ (call (Value.ref 87) _) _ _ _); k_dflt (refine' Calls.use (plain_var_calls _ ?u9a1 ?u9a2 ?u9a3 ?u9a4 ?u9a5 ?u9a6) ?u9B ?u9F ?u9X ?u9N ?u9T ?u9hk ?u9hd ?u9hu ?_; (case u9B => k_asm); (case u9F => k_asm); (case u9X => k_asm); (case u9N => k_asm); (case u9T => k_asm); (case u9hk => first | exact rfl | assumption); (case u9hd => ktr_room); (case u9hu => ktr_units); (case u9a1 => k_mem); (case u9a2 => k_mem); (case u9a4 => with_reducible assumption); (case u9a3 => k_mem); (case u9a5 => with_reducible assumption); (case u9a6 => with_reducible assumption)); (intro r' news' h' tk' F' N' hp'; obtain ⟨hn', hv', hd'⟩ := hp'; subst hn'; (try dsimp only))); (revert r' h' tk' F' N' hv' hd'; intros)))
  (k_with "call ref" => ((k_here; (with_reducible show wpAny _ _ (call (Value.ref 122) _) _ _ _); k_dflt (refine' Calls.use (own_names_calls _ ?u9a1 ?u9a2 ?u9a3 ?u9a4 ?u9a5 ?u9a6 ?u9a7 ?u9a8 ?u9a9) ?u9B ?u9F ?u9X ?u9N ?u9T ?u9hk ?u9hd ?u9hu ?_; (case u9B => k_asm); (case u9F => k_asm); (case u9X => k_asm); (case u9N => k_asm); (case u9T => k_asm); (case u9hk => first | exact rfl | assumption); (case u9hd => ktr_room); (case u9hu => ktr_units); (case u9a1 => k_mem); (case u9a2 => k_mem); (case u9a5 => with_reducible assumption); (case u9a6 => with_reducible assumption); (case u9a7 => with_reducible assumption); (case u9a3 => k_mem); (case u9a4 => k_mem); (case u9a8 => with_reducible assumption); (case u9a9 => with_reducible assumption)); (intro r' news' h' tk' F' N' hp'; obtain ⟨l', hr', hn', l1⟩ := hp'; subst hr' hn'; (have l2 := l1); (try k_lt l2); (try dsimp only))); (revert h' tk' F' N' l' l1; intros)))
  (k_with "call ref" => ((k_here; (with_reducible show wpAny _ _ (call (Value.ref 129) _) _ _ _); k_dflt (refine' Calls.use (filled_args_calls _ ?u9a1 ?u9a2 ?u9a3) ?u9B ?u9F ?u9X ?u9N ?u9T ?u9hk ?u9hd ?u9hu ?_; (case u9B => k_asm); (case u9F => k_asm); (case u9X => k_asm); (case u9N => k_asm); (case u9T => k_asm); (case u9hk => first | exact rfl | assumption); (case u9hd => ktr_room); (case u9hu => ktr_units); (case u9a1 => k_mem); (case u9a2 => ktr_rel); (case u9a3 => ktr_rel)); (intro r' news' h' tk' F' N' hp'; obtain ⟨l', u', hr', hn', l1⟩ := hp'; subst hr' hn'; (have l2 := l1); (try k_lt l2); (try dsimp only))); (revert h' tk' F' N' l' u' l1; intros)))
  (k_with "compareOp In str ref" => (k_here; k_dflt (refine' HasD.not ?u9N ?u9m ?u9d ?u9l ?u9p ?_; (case u9N => k_asm); (case u9m => k_mem); (case u9d => with_reducible assumption); (case u9l => with_reducible assumption); (case u9p => with_reducible assumption))))
  (k_with "subscriptTail" => ((k_here; (with_reducible refine' itemStr (ss := words5) ?u9k1 ?u9k3 ?u9k4 ?u9k5 ?u9k6 ?u9k7 ?_ ?u9k8); k_dflt ((case u9k1 => k_asm); (case u9k3 => k_mem); (case u9k4 => exact StrsAre.cons _ _ (StrsAre.cons _ _ (StrsAre.cons _ _ (StrsAre.cons _ _ (StrsAre.cons _ _ StrsAre.nil))))); (case u9k5 => with_reducible assumption); (case u9k6 => with_reducible assumption); (case u9k7 => decide); (case u9k8 => with_unfolding_all rfl); k_whole); intro x' t' e'); (revert x' t' e'; intros)))
  (k_with "subscriptTail" => (k_here; (with_reducible refine' itemRef ?u9k1 ?u9k3 ?u9k5 ?u9k7 ?u9k4 ?_ ?u9k8); k_dflt ((case u9k1 => k_asm); (case u9k3 => k_mem); (case u9k4 => with_reducible assumption); (case u9k5 => first | with_reducible assumption | omega); (case u9k7 => ktr_rel); (case u9k8 => with_unfolding_all rfl))))
  (k_with "eval Dict" => ((k_here; k_dflt (refine' kdn_eval (knd := PySem.strKind _ _) ?u9F ?u9N ?u9b ?u9a ?u9l ?u9e ?u9n ?_; (case u9F => k_asm); (case u9N => k_asm); (case u9b => exact Top.nolimit (by k_asm)); (case u9a => rfl); (case u9l => rfl); (case u9e => exact List.cons_ne_nil _ _); (case u9n => exact Nat.le_of_ble_eq_true rfl)); intro d' h' o' F' N' l1 lo' hd'; (have l2 := l1); (try k_lt l2)); (revert d' h' o' F' N' l1 lo' hd'; intros)))
  (k_with "KdnMade" => ((k_here; k_dflt (refine' made1 ?u9F ?u9N ?u9U ?u9d ?u9v ?_; (case u9F => k_asm); (case u9N => k_asm); (case u9U => k_updF); (case u9d => k_asm); (case u9v => first | exact VOk.str _ | with_reducible assumption)); intro h' o' F' N' hd'; (try dsimp only at N')); (revert h' o' F' N' hd'; intros)))
  (k_with "subscriptTail" => ((k_here; (with_reducible refine' itemPad ?u9k1 ?u9k3 ?u9k4 ?u9k5 ?u9k7 ?_ ?u9k8); k_dflt ((case u9k1 => k_asm); (case u9k3 => k_mem); (case u9k4 => with_reducible assumption); (case u9k5 => omega); (case u9k7 => omega); (case u9k8 => with_unfolding_all rfl)); intro r' hv' hd'); (revert r' hv' hd'; intros)))
  (k_with "call ref" => ((k_here; (with_reducible show wpAny _ _ (call (Value.ref 148) _) _ _ _); k_dflt (refine' Calls.use (law_names_calls _ ?u9a1) ?u9B ?u9F ?u9X ?u9N ?u9T ?u9hk ?u9hd ?u9hu ?_; (case u9B => k_asm); (case u9F => k_asm); (case u9X => k_asm); (case u9N => k_asm); (case u9T => k_asm); (case u9hk => first | exact rfl | assumption); (case u9hd => ktr_room); (case u9hu => ktr_units); (case u9a1 => with_reducible assumption)); (intro r' news' h' tk' F' N' hp'; obtain ⟨l', vs', hr', hn', l1, hS'⟩ := hp'; subst hr' hn'; (have l2 := l1); (try k_lt l2); (try dsimp only))); (revert h' tk' F' N' l' vs' l1 hS'; intros)))
  (k_with "compareOp In str ref" => (k_here; k_dflt (refine' DR.hasT ?u9N ?u9m ?u9d ?u9l ?u9p ?_; (case u9N => k_asm); (case u9m => k_mem); (case u9d => with_reducible assumption); (case u9l => with_reducible assumption); (case u9p => with_reducible assumption))))
  (k_with "compareOp In str ref" => (k_here; k_dflt (refine' DR.hasF ?u9N ?u9m ?u9d ?u9l ?u9p ?_; (case u9N => k_asm); (case u9m => k_mem); (case u9d => with_reducible assumption); (case u9l => with_reducible assumption); (case u9p => with_reducible assumption))))
  (k_with "subscriptTail" => ((k_here; (with_reducible refine' DR.item ?u9N ?u9m ?u9d ?u9p ?_ ?u9e); k_dflt ((case u9N => k_asm); (case u9m => k_mem); (case u9d => with_reducible assumption); (case u9p => with_reducible assumption); (case u9e => with_unfolding_all rfl)); intro r' hv' hd'); (revert r' hv' hd'; intros)))
  (k_with "call ref" => ((k_here; (with_reducible show wpAny _ _ (call (Value.ref 162) _) _ _ _); k_dflt (refine' Calls.use (law_found_calls _ ?u9a1 (FrAt.mono ?u9a0 (Nat.le_refl _) ?u9a2) ?u9a3) ?u9B ?u9F ?u9X ?u9N ?u9T ?u9hk ?u9hd ?u9hu ?_; (case u9B => k_asm); (case u9F => k_asm); (case u9X => k_asm); (case u9N => k_asm); (case u9T => k_asm); (case u9hk => first | exact rfl | assumption); (case u9hd => ktr_room); (case u9hu => ktr_units); (case u9a1 => k_mem); (case u9a2 => with_reducible assumption); (case u9a0 => tb_start); (case u9a3 => ktr_rel)); (intro r' news' h' tk' F' N' hp'; obtain ⟨hn', hv', hd'⟩ := hp'; subst hn'; (try dsimp only))); (revert r' h' tk' F' N' hv' hd'; intros)))
  (k_with "subscriptTail" => ((k_here; (with_reducible refine' cellItem ?u9k1 ?u9k3 ?u9k4 ?u9k5 ?u9k7 ?_ ?u9k8); k_dflt ((case u9k1 => k_asm); (case u9k3 => k_mem); (case u9k4 => with_reducible assumption); (case u9k5 => omega); (case u9k7 => omega); (case u9k8 => with_unfolding_all rfl)); intro c' t' hc'); (revert c' t' hc'; intros)))
  (k_with "subscriptTail" => ((k_here; (with_reducible refine' fghItem ?u9k1 ?u9k2 ?_ ?u9k3 ?u9k4); k_dflt ((case u9k1 => omega); (case u9k2 => omega); (case u9k3 => with_unfolding_all rfl); (case u9k4 => (intro _; with_unfolding_all rfl))); intro x' t' tk' hx'); (revert x' t' tk' hx'; intros)))
  (k_with "call ref" => ((k_here; (with_reducible show wpAny _ _ (call (Value.ref 76) _) _ _ _); k_dflt (refine' Calls.use (world_calls _) ?u9B ?u9F ?u9X ?u9N ?u9T ?u9hk ?u9hd ?u9hu ?_; (case u9B => k_asm); (case u9F => k_asm); (case u9X => k_asm); (case u9N => k_asm); (case u9T => k_asm); (case u9hk => first | exact rfl | assumption); (case u9hd => ktr_room); (case u9hu => ktr_units)); (intro r' news' h' tk' F' N' hp'; obtain ⟨aw', dw', st', sa', wr', tr', wes', wn', n4', ost', owr', otr', hr', hn', hw'⟩ := hp'; subst hr' hn'; (try dsimp only))); (revert h' tk' F' N' aw' dw' st' sa' wr' tr' wes' wn' n4' ost' owr' otr' hw'; intros)))
  trivial


theorem wt_excget : True := by
  w_top off
  trivial

section
theorem ga_34 (P : Params) : findIn (hd.heap_39 P) (.ref 34) "__getattribute__" = some (some (.builtin "BaseException.__getattribute__")) := by kernel_rfl
theorem g2_34 (P : Params) : findIn (hd.heap_39 P) (.ref 34) "__getattr__" = some none := by kernel_rfl
theorem hd_34 (P : Params) : hasDictIn (hd.heap_39 P) 34 = true := by kernel_rfl
theorem nn_34 (P : Params) : findIn (hd.heap_39 P) (.ref 34) "number" = some none := by kernel_rfl
theorem ng_34 (P : Params) : noGet (hd.heap_39 P) none = true := by kernel_rfl
variable {w : World} {A : Around} {E : Value → Shared → Prop} {h : Heap} {g : Array GenState} {d : Drawn} {t : Nat} {os : OsState} {e : Addr} {oe : Obj} {es : List DictEntry} {n : Nat} {v : Value}
theorem exc_ga {tk : Tok} {Q : PySem.Fin → Shared → Prop} (X : (hd.heap_39 w.params).In h) (I : InstAt h e oe 34 (some (dictOf es n))) (hl : getL (Str.ofString "number") es = some (some v)) (hq : Q (.done (.ret v)) ⟨h, g, d, t, os⟩) :
    wpAny (model PySem.Challenge.rw_sj0188_01.row.prog w) A (Builtin.«object.__getattribute__» ⟨[.ref e, .str "number" tk], []⟩) Q E ⟨h, g, d, t, os⟩ := by
  have L0 := I.type (M := model PySem.Challenge.rw_sj0188_01.row.prog w)
  have L1 := looks_find (M := model PySem.Challenge.rw_sj0188_01.row.prog w) X I (findObj_own (hd_34 _) (nn_34 _) (ng_34 _) hl)
  unfold Builtin.«object.__getattribute__»
  repeat (first | (with_reducible refine L0.at ?_) | (with_reducible refine L1.at ?_) | wp_step)
  exact hq
theorem exc_check {M : Model} {nameV : Value} {Q : Unit → Shared → Prop} (X : (hd.heap_39 w.params).In h) (I : InstAt h e oe 34 (some (dictOf es n))) (hq : Q () ⟨h, g, d, t, os⟩) : wpAny M A (checkBuiltinCall "BaseException.__getattribute__" ⟨[.ref e, nameV], []⟩) Q E ⟨h, g, d, t, os⟩ := by
  obtain ⟨_, _, _, _, _, _, _, _, _, _, _, _, _, _, _, hC⟩ := cls_34 X (c34_ok _)
  have hx := I.at_
  have hc := I.cls
  have hk : builtinKind "BaseException.__getattribute__" = some .slot := by decide +kernel
  have hsplit : splitId "BaseException.__getattribute__" = some ("BaseException", "__getattribute__") := by decide +kernel
  have hcB : (Value.ref 34 :: [.type "Exception", .type "BaseException", .type "object"]).contains (.type "BaseException") = true := by decide +kernel
  have ha := PySem.F.args_bexc_ga (.ref e) nameV
  simp only [checkBuiltinCall, hk, hsplit]
  refine wpAny_bind ?_
  unfold isInstance
  repeat (first | (with_reducible refine wpAny_loadPart_at hx ?_; rw [hc]) | (with_reducible refine wpAny_isSubtype_exc hC ?_; rw [hcB]) | wp_step)
  exact hq
theorem exc_get {expr : Bool} {Q : Value → Shared → Prop} (X : (hd.heap_39 w.params).In h) (I : InstAt h e oe 34 (some (dictOf es n))) (hl : getL (Str.ofString "number") es = some (some v)) (hv : handedIn v = true) (hq : Q v ⟨h, g, d, t + 1, os⟩) :
    wpAny (model PySem.Challenge.rw_sj0188_01.row.prog w) A (getAttr (.ref e) "number" expr) Q E ⟨h, g, d, t, os⟩ := by
  have L0 := I.type (M := model PySem.Challenge.rw_sj0188_01.row.prog w)
  have L1 := looks_findIn (M := model PySem.Challenge.rw_sj0188_01.row.prog w) X (ga_34 _)
  have L2 := looks_findIn (M := model PySem.Challenge.rw_sj0188_01.row.prog w) X (g2_34 _)
  have FB := PySem.F.attrBase_Exception
  have f3 := FB.ga.bind (.ref e)
  have hx0 : (expr && onTheHeap (Value.builtin "BaseException.__getattribute__")) = false := by cases expr <;> rfl
  have hx2 : (Value.builtin "BaseException.__getattribute__" == Value.builtin "object.__getattribute__") = false := by decide +kernel
  have hx1 : (onTheHeap (Value.ref 34) && Value.builtin "BaseException.__getattribute__" == Value.builtin "object.__getattribute__") = false := by rw [hx2]; rfl
  unfold getAttr getAttrBy
  repeat (any_goals (first | assumption | (with_reducible refine L0.at ?_) | (with_reducible refine L1.at ?_) | (with_reducible refine L2.at ?_) | wp_step))
  refine codeAny_call_builtin FB.ga.plain PySem.F.entry_bexc_ga (exc_check X I (exc_ga X I hl ?_))
  show wpAny _ _ (handedOut v) _ _ _
  rw [handedOut_of hv]
  exact wpAny_pure hq
end
theorem exc_getK {w : World} {A : Around} {E : Value → Shared → Prop} {s : Shared} {h₀ : Heap} {L : Addr} {m : Str → Option Value} {e : Addr} {oe : Obj} {es : List DictEntry} {n : Nat} {v : Value} {expr : Bool} {Q : Value → Shared → Prop} (F : Fr h₀ L s.heap m) (X₀ : (hd.heap_39 w.params).In h₀) (I : InstAt s.heap e oe 34 (some (dictOf es n))) (hl : getL (Str.ofString "number") es = some (some v)) (hv : handedIn v = true)
    (h : Q v { s with toks := s.toks + 1 }) : wpAny (model PySem.Challenge.rw_sj0188_01.row.prog w) A (getAttr (.ref e) "number" expr) Q E s := by
  obtain ⟨hh, g, d, t, os⟩ := s
  exact exc_get (X₀.keeps F.keep) I hl hv h


theorem wt_deedent : True := by
  w_top off
  trivial

theorem LS.enter {w : World} {L : Addr} {a : Adr} {cvs ys : List Value} {md : Int} {b : Nat} {O : List (Addr × Obj)} {wes es' : List DictEntry} {ost ost' o3 ofr : Obj} {sas ys' : List Value} {fds newp : List (Addr × Obj)} {R : List (Addr × Obj)} {f : PM} {tls : List (List (Str × Value))} {tl : List (Str × Value)} {gs : List PM} {t : Tok} {k1 k2 : Nat} {D af : Addr} {nm : Str} {ps ls : List Str} {as : List (Option Int)}
    (S : LS w L a cvs ys md b O wes ost sas fds o3 R f tls gs) (hz : es'.length ≤ 900) (ho : ∀ y, y ≠ Str.ofString "depth" → getL y es' = getL y wes)
    (hd : getL (Str.ofString "depth") es' = some (some (.int ((tls.length : Int) + 1) t))) (hw : ∀ x ∈ nm :: ps ++ ls, x ∈ words5) (hps : ps.length ≤ 2) (hls : ls.length ≤ 2) (hT : TupsAt newp ys' tl) (hS : SavedOf f (nm :: ps ++ ls) tl)
    (dr' : DR w ost' (setAll f (frameL nm ps as ls)) k1) (hk1 : k1 ≤ b + 5) (dF : DR w ofr (setAll (fun _ => none) (frameL nm ps as ls)) k2) (hk2 : k2 ≤ b + 15) (hsm : (af == sysModules) = false) (hlt : (tls.length : Int) < md)
    (hN : ∀ p ∈ (D, LCg.lst ys') :: newp, OffP L a p.1 ∧ ∀ q ∈ O ++ fds, @Ne Nat p.1 q.1) (hF : OffP L a af ∧ ∀ q ∈ fds ++ (O ++ ((D, LCg.lst ys') :: (newp ++ R))), @Ne Nat q.1 af) :
    LS w L a cvs ys md (b + 5) O es' ost' (sas ++ [.ref D]) (fds ++ [(af, ofr)]) o3 ((D, LCg.lst ys') :: (newp ++ R)) (setAll f (frameL nm ps as ls)) (tls ++ [tl]) (gs ++ [setAll (fun _ => none) (frameL nm ps as ls)]) where
  len := hz
  g1 := (ho _ (by decide +kernel)).trans S.g1
  g2 := ⟨t, by rw [hd]; simp⟩
  g3 := by rw [ho _ (by decide +kernel)]; exact S.g3
  g4 := by rw [ho _ (by decide +kernel)]; exact S.g4
  g5 := (ho _ (by decide +kernel)).trans S.g5
  g6 := (ho _ (by decide +kernel)).trans S.g6
  g7 := (ho _ (by decide +kernel)).trans S.g7
  c3 := S.c3
  dr := dr'.le hk1
  fd := (S.fd.mono (k' := b + 5 + 10) (by omega)).snoc (dF.le (by omega)) hsm
  as := by
    have hR : ∀ p ∈ R, p ∈ (D, LCg.lst ys') :: (newp ++ R) := fun p hp => List.mem_cons_of_mem _ (List.mem_append_right _ hp)
    refine (S.as.mono hR).snoc (n := ys'.length) List.mem_cons_self (hT.mono fun p hp => List.mem_cons_of_mem _ (List.mem_append_left _ hp)) (fun e he => (saved_vals hS e he).1) ?_
    rw [hT.length, hS.length]
    simp
    omega
  ok := S.ok.enter (frame_keys nm ps as ls) hS hw
  le := by simp; omega
  five := fun q hq => by
    rcases List.mem_append.mp hq with hq | hq
    · exact S.five q hq
    · rw [List.mem_singleton.mp hq, hS.length]
      simp
      omega
  stat := S.stat.mono fun p hp => List.mem_cons_of_mem _ (List.mem_append_right _ hp)
  offF := fun q hq => by
    rcases List.mem_append.mp hq with hq | hq
    · exact S.offF q hq
    · rw [List.mem_singleton.mp hq]; exact hF.1
  offO := S.offO
  offR := fun q hq => by
    rcases List.mem_cons.mp hq with rfl | hq
    · exact (hN _ List.mem_cons_self).1
    · rcases List.mem_append.mp hq with hq | hq
      · exact (hN q (List.mem_cons_of_mem _ hq)).1
      · exact S.offR q hq
  nodup := by
    rw [List.map_append]
    refine List.nodup_append.mpr ⟨S.nodup, by simp, fun x hx y hy => ?_⟩
    obtain ⟨q, hq, rfl⟩ := List.mem_map.mp hx
    have hy : y = af := by simpa using hy
    subst hy
    exact hF.2 q (List.mem_append_left _ hq)
  apart := fun q hq r hr => by
    rcases List.mem_append.mp hr with hr | hr
    · rcases List.mem_append.mp hq with hq | hq
      · exact S.apart q (List.mem_append_left _ hq) r hr
      · rcases List.mem_cons.mp hq with rfl | hq
        · exact (hN _ List.mem_cons_self).2 r (List.mem_append_right _ hr)
        · rcases List.mem_append.mp hq with hq | hq
          · exact (hN q (List.mem_cons_of_mem _ hq)).2 r (List.mem_append_right _ hr)
          · exact S.apart q (List.mem_append_right _ hq) r hr
    · rw [List.mem_singleton.mp hr]
      exact hF.2 q (List.mem_append_right _ hq)
  apartO := fun q hq r hr => by
    rcases List.mem_cons.mp hr with rfl | hr
    · exact ((hN _ List.mem_cons_self).2 q (List.mem_append_left _ hq)).symm
    · rcases List.mem_append.mp hr with hr | hr
      · exact ((hN r (List.mem_cons_of_mem _ hr)).2 q (List.mem_append_left _ hq)).symm
      · exact S.apartO q hq r hr
theorem LS.bump {w : World} {L : Addr} {a : Adr} {cvs ys : List Value} {md : Int} {b k : Nat} {O : List (Addr × Obj)} {wes : List DictEntry} {ost o3 : Obj} {sas : List Value} {fds R : List (Addr × Obj)} {f : PM} {tls : List (List (Str × Value))} {gs : List PM}
    (S : LS w L a cvs ys md b O wes ost sas fds o3 R f tls gs) (hk : b ≤ k) : LS w L a cvs ys md k O wes ost sas fds o3 R f tls gs :=
  { S with dr := S.dr.le hk, fd := S.fd.mono (by omega) }
theorem name_goesX {M : Model} {A : Around} {E : Value → Shared → Prop} {s : Shared} {h₀ : Heap} {L fa : Addr} {m : Str → Option Value} {news : List (Addr × Obj)} {cn : Str} {cs : Scope} {ccd : Value} {cl : List (Str × Addr)} {n : Str} {pos : Pos} {Q : Unit → Shared → Prop} (F : Fr h₀ L s.heap m) (N : News h₀ L s.heap news)
    (h : ∀ h' v, Fr h₀ L h' (fun x => if x = n then v else m x) → News h₀ L h' news → Q () { s with heap := h', toks := s.toks + 1 })
    (hk : cs.kind = .function) (hl : (envX cn cs L fa ccd cl).kindOf n = some .local) :
    wpAny M A (do bindName (envX cn cs L fa ccd cl) n .none; unbindBehindTheSuite (envX cn cs L fa ccd cl) n pos) Q E s :=
  wpAny_nameGoes_keeps hl F.ns (by show (cs.kind == .class || (cs.kind == .module && L != mainGlobals)) = false; rw [hk]; rfl) fun h' v hn hs => h h' v (F.set hn hs) (N.set hs)
theorem takeStep {h₀ h : Heap} {L av : Addr} {k : Nat} {x y z : Int} {t1 t2 t3 : Tok} {p d : Addr × Obj} {rest : List (Addr × Obj)} (N : News h₀ L h (d :: (av, listOf (List.take k [Value.int x t1, Value.int y t2, Value.int z t3]).toArray 0) :: p :: rest)) :
    ∃ avs : List Value, (∀ v ∈ avs, VOk v) ∧ avs.length ≤ 3 ∧ News h₀ L h ((av, listOf avs.toArray 0) :: rest) := by
  refine ⟨List.take k [Value.int x t1, Value.int y t2, Value.int z t3], fun v hv => ?_, ?_, newsSub N ?_⟩
  · have := List.mem_of_mem_take hv
    simp only [List.mem_cons, List.not_mem_nil, or_false] at this
    rcases this with rfl | rfl | rfl <;> exact VOk.int _ _
  · rw [List.length_take]; exact Nat.min_le_right _ _
  · intro q hq
    simp only [List.mem_cons] at hq ⊢
    rcases hq with rfl | hq
    · exact .inr (.inl rfl)
    · exact .inr (.inr (.inr hq))
theorem instD {h₀ h : Heap} {L e dd : Addr} {oe : Obj} {es : List DictEntry} {n : Nat} {news : List (Addr × Obj)} (N : News h₀ L h news) (he : (e, oe) ∈ news) (hdd : (dd, dictOf es n) ∈ news) (hcls : oe.cls = .ref 34) (hdict : oe.dict = some dd) (hno : notCls oe = true) : InstAt h e oe 34 (some (dictOf es n)) :=
  ⟨(N _ he).1, hcls, hno, by rw [hdict]; exact (N _ hdd).1⟩
theorem notMod {h₀ : Heap} {L af : Addr} (hbig : h₀.NoLimit) (ha : h₀.objs.size ≤ L) (hl : @LT.lt Nat _ L af) : (af == sysModules) = false :=
  beq_eq_false_iff_ne.mpr (Nat.ne_of_gt (Nat.lt_trans (Nat.lt_of_lt_of_le (modules_low hbig) ha) hl))
section
theorem rg_23 : True := by
  (k_with "getAttr ref" => (k_here; (with_reducible show wpAny _ _ (getAttr _ (Str.ofString "number") _) _ _ _); k_dflt (refine' exc_getK ?u9F ?u9X ?u9I ?u9l ?u9v ?_; (case u9F => k_asm); (case u9X => k_asm); (case u9I => with_reducible assumption); (case u9l => with_reducible assumption); (case u9v => exact rfl))))
  (k_with "DeedEnd" => (k_here; refine Held.out ?_))
  (k_with "call ref" => (k_here; (with_reducible rename HoldAt 5 => hz9); clear hz9; refine Held.out ?_))
  (k_with "exec Try" => (k_here; refine Held.out ?_))
  (k_with "exec Try cons cons" => (k_here; refine Held.out ?_))
  (k_with "exec Try cons cons nil nil" => (k_here; refine Held.out ?_))
  (k_with "subscriptTail" => (k_here; (with_reducible refine' itemRef ?u9k1 ?u9k3 ?u9k5 ?u9k7 ?u9k4 ?_ ?u9k8); k_dflt ((case u9k1 => k_asm); (case u9k3 => k_mem); (case u9k4 => with_reducible assumption); (case u9k5 => first | with_reducible assumption | omega); (case u9k7 => ktr_rel); (case u9k8 => with_unfolding_all rfl))))
  trivial
theorem deed_enter (w : World) {mean : ExcName → Option Value} {mg mb : Str → Option Value} {fa : Addr} {ccd : Value} {h₀ : Heap} {L : Addr} {m : Str → Option Value} {s : Shared} {a : Adr} {cvs ys : List Value} {md t v : Int} {tt tv : Tok} {b : Nat} {O news : List (Addr × Obj)} {E : Value → Shared → Prop}
    (sc : Scope) (hsc : sc = lawScope) (body : List Stmt) (hb : body = enterBody) (o : Ord L a)
    (F : Fr h₀ L s.heap m) (X : (hd.heap_39 w.params).In h₀) (T : Top hd.view_39 (looseW hd.view_39 [Str.ofString "SnobolError"]) mean mg mb h₀) (N : News h₀ L s.heap news) (hM : MapOk a m)
    (ht : m (Str.ofString "told") = some (.int t tt)) (hv : m (Str.ofString "value") = some (.int v tv)) (ht0 : 0 ≤ t) (hS : LSt w L a cvs ys md b O news) (hb9 : b ≤ 70) (hmd : md ≤ 4) :
    wpAny (model PySem.Challenge.rw_sj0188_01.row.prog w) (callerA.deeper (envX (Str.ofString "law") sc L fa ccd (lawCells L))) (execs body (envX (Str.ofString "law") sc L fa ccd (lawCells L))) (DeedEnd w h₀ L a cvs ys md (b + 5) O s) E s := by
  revert X
  k_fill
  intro X
  delta enterBody forBody lawBody lawDef PySem.Challenge.pw_sj0188_01 at hb; dsimp only [List.getLast?, List.getLast, Option.map, Option.getD, List.getElem?_cons_succ, List.getElem?_cons_zero] at hb
  subst hb
  delta lawScope lawDef PySem.Challenge.pw_sj0188_01 at hsc; dsimp only [List.getLast?, List.getLast, Option.map, Option.getD] at hsc
  subst hsc
  have K0 := below_caller h₀
  obtain ⟨wes, wn, ost, sas, n4, nsv, fds, nfl, o3, R, f, tls, gs, rfl, S⟩ := hS
  obtain ⟨m1, hm1⟩ : ∃ m1, m = fun z => if z = Str.ofString "told" then some (.int t tt) else if z = Str.ofString "value" then some (.int v tv) else mapOf a m1 z := ⟨m, by
    funext z
    split
    · next e => rw [e, ht]
    · split
      · next e => rw [e, hv]
      · exact congrFun hM.form z⟩
  subst hm1
  clear ht hv hM
  unfold mapOf at F
  unfold ledger at N
  obtain ⟨o1, o2, o3', o4, o5, s1, s2, s3⟩ := o
  have mR : ∀ p ∈ R, p ∈ fds ++ (O ++ R) := fun p hp => List.mem_append_right _ (List.mem_append_right _ hp)
  have offA : ∀ p ∈ fds ++ (O ++ R), OffP L a p.1 := fun p hp => (List.mem_append.mp hp).elim (S.offF p) fun hp => (List.mem_append.mp hp).elim (S.offO p) (S.offR p)
  have b0 := fdm ht0 3 3
  have b1 : 0 ≤ (t.fdiv 3).fmod 3 := by rw [show (t.fdiv 3).fmod 3 = _ from b0]; exact Int.natCast_nonneg _
  have b2 : (t.fdiv 3).fmod 3 < 3 := by
    rw [show (t.fdiv 3).fmod 3 = _ from b0]
    exact Int.ofNat_lt.mpr (Nat.mod_lt _ (by decide))
  have b3 : 0 ≤ (t.fdiv 9).fmod 4 := by rw [show (t.fdiv 9).fmod 4 = _ from fdm ht0 9 4]; exact Int.natCast_nonneg _
  have h3 := S.stat.three
  have hyl : ys.length ≤ 5 := by omega
  have hi3 : ((t.fdiv 3).fmod 3).toNat < ys.length := by omega
  obtain ⟨fA, fd, pa, la, fes, fn, n1, n2, nm, tn, pvs, lvs, ps, ls, hyv, f1, f2, f3, f4, f5, f6, f7, hps, hls, hpz, hlz, hwz⟩ := S.stat.fns ys[((t.fdiv 3).fmod 3).toNat] (List.getElem_mem hi3)
  have hx9 : ys[((t.fdiv 3).fmod 3).toNat]? = some (.ref fA) := by rw [List.getElem?_eq_getElem hi3, hyv]
  have hfD := mR _ S.stat.hfD
  obtain ⟨oF, hoF', hdF⟩ := S.stat.hc2
  have hoF := mR _ hoF'
  have f1 := mR _ f1
  have f2 := mR _ f2
  have f3 := mR _ f3
  have f4 := mR _ f4
  generalize hr : fds ++ (O ++ R) = rest at N mR offA hfD hoF f1 f2 f3 f4
  have hlen : (refsOf fds).length ≤ 5 := by
    have h1 := S.fd.length
    have h2 := S.ok.len
    have h3 := S.le
    have h4 : (refsOf fds).length = fds.length := by simp [refsOf]
    omega
  k_steps
  refine Held.mk ?_
  rename_i av hA1 lA1 lA2 dA hA2 lA3 hA3 hA4 hA5 F1 N1
  obtain ⟨avs, hav, hav3, N2⟩ := takeStep N1
  have N3 := newsSub (news := (a.dw, dictOf wes wn) :: (a.st, ost) :: (a.sa, listOf sas.toArray n4) :: (av, listOf avs.toArray 0) :: (a.sv, listOf sas.toArray nsv) :: (a.fl, listOf (refsOf fds).toArray nfl) :: (L + 1 + 1 + 1, o3) :: rest) N2 (by
    intro p hp; simp only [List.mem_cons] at hp ⊢; grind)
  clear N1 N2 lA1 lA3
  obtain ⟨td, g2⟩ := S.g2
  obtain ⟨tn9, g3⟩ := S.g3
  obtain ⟨tm9, g4⟩ := S.g4
  have hle := S.le
  have hsl := S.as.length
  have rA : ∀ p ∈ (av, listOf avs.toArray 0) :: (a.sv, listOf sas.toArray nsv) :: (a.fl, listOf (refsOf fds).toArray nfl) :: (L + 1 + 1 + 1, o3) :: rest, @Ne Nat p.1 a.dw ∧ @Ne Nat p.1 a.st ∧ @Ne Nat p.1 a.sa := by
    intro p hp
    simp only [List.mem_cons] at hp
    rcases hp with rfl | rfl | rfl | rfl | hp
    · exact ⟨by k_ne, by k_ne, by k_ne⟩
    · exact ⟨by k_ne, by k_ne, by k_ne⟩
    · exact ⟨by k_ne, by k_ne, by k_ne⟩
    · exact ⟨by k_ne, by k_ne, by k_ne⟩
    · exact ⟨(offA p hp).1, (offA p hp).2.1, (offA p hp).2.2.1⟩
  have up : ∀ p ∈ rest, p ∈ (av, listOf avs.toArray 0) :: (a.sv, listOf sas.toArray nsv) :: (a.fl, listOf (refsOf fds).toArray nfl) :: (L + 1 + 1 + 1, o3) :: rest := fun p hp => by
    simp only [List.mem_cons]
    exact .inr (.inr (.inr (.inr hp)))
  refine wpAny_Try_except ?_
  have hold5 := HoldAt.mk 5
  k_steps
  refine Held.mk ?_
  by_cases hlt : (tls.length : Int) < md
  · refine Calls.use (enter_ok_calls w (up _ (mR _ S.stat.haw)) (up _ f1) (up _ f2) (up _ f3) (up _ f4) List.mem_cons_self f5 f6 f7 S.g1 g2 g3 g4 S.g5 S.dr (by omega) s1 hps hav hls (by omega) (by omega) (by omega) (by omega) (by omega) hlt (by omega) S.len (fun p hp => (rA p hp).1) (fun p hp => (rA p hp).2.1) (fun p hp => (rA p hp).2.2) (by k_ne) (by k_ne) (by k_ne)) K0 F1 X N3 T rfl (by ktr_room) (by ktr_units) ?_
    rintro r news' h2 tk2 F2 N4 ⟨D, ys', newp, tl, es', n', o', rfl, rfl, hz', ho', ⟨t', hd'⟩, hdr', hT, hS', hbase, hDb, hDn⟩
    clear N3 F1
    have hps2 := strsLen hps
    have hls2 := strsLen hls
    have N5 := newsSub (news := (a.dw, dictOf es' n') :: (a.st, o') :: (a.sa, listOf (sas ++ [Value.ref D]).toArray (n4 + 1)) :: (a.sv, listOf sas.toArray nsv) :: (a.fl, listOf (refsOf fds).toArray nfl) :: (L + 1 + 1 + 1, o3) :: (av, listOf avs.toArray 0) :: (D, LCg.lst ys') :: (newp ++ rest)) N4 (by
      intro p hp; simp only [List.mem_cons, List.mem_append] at hp ⊢; grind)
    have offN : ∀ p ∈ (D, LCg.lst ys') :: newp, OffP L a p.1 ∧ ∀ q ∈ rest, @Ne Nat p.1 q.1 := by
      have key : ∀ z : Addr, (∀ q ∈ (a.dw, dictOf wes wn) :: (a.st, ost) :: (a.sa, listOf sas.toArray n4) :: (av, listOf avs.toArray 0) :: (a.sv, listOf sas.toArray nsv) :: (a.fl, listOf (refsOf fds).toArray nfl) :: (L + 1 + 1 + 1, o3) :: rest, @Ne Nat q.1 z) → OffP L a z ∧ ∀ q ∈ rest, @Ne Nat z q.1 := fun z hz => by
        simp only [List.forall_mem_cons] at hz
        obtain ⟨e1, e2, e3, e4, e5, e6, e7, e8⟩ := hz
        exact ⟨⟨e1.symm, e2.symm, e3.symm, e5.symm, e6.symm, e7.symm⟩, fun q hq => (e8 q hq).symm⟩
      intro p hp
      rcases List.mem_cons.mp hp with rfl | hp
      · exact key _ hDb
      · exact key _ fun q hq => Nat.ne_of_lt (hbase p hp q hq)
    have off5 : ∀ p ∈ (av, listOf avs.toArray 0) :: (D, LCg.lst ys') :: (newp ++ rest), OffP L a p.1 := by
      intro p hp
      rcases List.mem_cons.mp hp with rfl | hp
      · exact ⟨by k_ne, by k_ne, by k_ne, by k_ne, by k_ne, by k_ne⟩
      · rcases List.mem_cons.mp hp with rfl | hp
        · exact (offN _ List.mem_cons_self).1
        · rcases List.mem_append.mp hp with hp | hp
          · exact (offN p (List.mem_cons_of_mem _ hp)).1
          · exact offA p hp
    have up5 : ∀ p ∈ rest, p ∈ (av, listOf avs.toArray 0) :: (D, LCg.lst ys') :: (newp ++ rest) := fun p hp => List.mem_cons_of_mem _ (List.mem_cons_of_mem _ (List.mem_append_right _ hp))
    have hav5 : (av, listOf avs.toArray 0) ∈ (av, listOf avs.toArray 0) :: (D, LCg.lst ys') :: (newp ++ rest) := List.mem_cons_self
    generalize hr5 : (av, listOf avs.toArray 0) :: (D, LCg.lst ys') :: (newp ++ rest) = rest5 at N5 off5 up5 hav5
    have zv : ∀ p ∈ (a.fl, listOf (refsOf fds).toArray nfl) :: (L + 1 + 1 + 1, o3) :: rest5, p.1 ≠ a.sv := by
      intro p hp
      simp only [List.mem_cons] at hp
      rcases hp with rfl | rfl | hp
      · k_ne
      · k_ne
      · exact (off5 p hp).2.2.2.1
    have zf : ∀ p ∈ (L + 1 + 1 + 1, o3) :: rest5, p.1 ≠ a.fl := by
      intro p hp
      simp only [List.mem_cons] at hp
      rcases hp with rfl | hp
      · k_ne
      · exact (off5 p hp).2.2.2.2.1
    have hoF5 := up5 _ hoF
    clear N4
    dsimp only
    have hold5 := HoldAt.mk 5
    k_steps
    refine Held.mk ?_
    with_reducible rename Fr _ _ _ _ => F6
    with_reducible rename News _ _ _ _ => N6
    have upW : ∀ p ∈ rest5, p ∈ (a.dw, dictOf es' n') :: (a.st, o') :: (a.sa, listOf (sas ++ [Value.ref D]).toArray (n4 + 1)) :: (a.sv, listOf (sas ++ [Value.ref D]).toArray (nsv + 1)) :: (a.fl, listOf (refsOf fds).toArray nfl) :: (L + 1 + 1 + 1, o3) :: rest5 := fun p hp =>
      List.mem_cons_of_mem _ (List.mem_cons_of_mem _ (List.mem_cons_of_mem _ (List.mem_cons_of_mem _ (List.mem_cons_of_mem _ (List.mem_cons_of_mem _ hp)))))
    refine Calls.use (law_frame_calls w (upW _ (up5 _ f1)) (upW _ (up5 _ f2)) (upW _ (up5 _ f3)) (upW _ (up5 _ f4)) (upW _ hav5) f5 f6 f7 hps hav hls hpz (by omega) (by omega)) K0 F6 X N6 T rfl (by ktr_room) (by ktr_units) ?_
    rintro r news' h3 tk3 F7 N7 ⟨af, ofr, rfl, rfl, laf, dF⟩
    have laf2 := laf
    k_lt laf2
    have hsm : (af == sysModules) = false := notMod (Top.nolimit T) F7.above (by omega)
    clear N6 F6
    dsimp only
    k_steps
    with_reducible rename Fr _ _ _ _ => F12
    with_reducible rename News _ _ _ _ => N12
    have eRf : refsOf (fds ++ [(af, ofr)]) = refsOf fds ++ [Value.ref af] := by simp [refsOf]
    refine ⟨rfl, _, _, _, ledger L a es' n' o' (sas ++ [Value.ref D]) (n4 + 1) (nsv + 1) (fds ++ [(af, ofr)]) (nfl + 1) o3 O ((D, LCg.lst ys') :: (newp ++ R)), rfl, F12, newsSub N12 ?_, MapOk.store (MapOk.store (MapOk.store (MapOk.store (MapOk.of a m1) (by decide +kernel)) (by decide +kernel)) (by decide +kernel)) (by decide +kernel),
      es', n', o', _, n4 + 1, nsv + 1, _, nfl + 1, o3, _, _, _, _, rfl, S.enter hz' ho' hd' hwz (by omega) (by omega) hT hS' hdr' (by omega) dF (by omega) hsm hlt (fun p hp => ?_) ⟨?_, fun q hq => ?_⟩⟩
    · unfold ledger
      rw [eRf, ← hr5, ← hr]
      intro p hp
      simp only [List.mem_cons, List.mem_append, List.not_mem_nil, or_false] at hp ⊢
      grind
    · refine ⟨(offN p hp).1, fun q hq => (offN p hp).2 q ?_⟩
      rw [← hr]
      simp only [List.mem_append] at hq ⊢
      grind
    · exact ⟨by k_ne, by k_ne, by k_ne, by k_ne, by k_ne, by k_ne⟩
    · refine Nat.ne_of_lt (laf q (upW q ?_))
      rw [← hr5, ← hr]
      simp only [List.mem_cons, List.mem_append] at hq ⊢
      grind
  · have upD : ∀ p ∈ rest, p ∈ (a.dw, dictOf wes wn) :: (a.st, ost) :: (a.sa, listOf sas.toArray n4) :: (av, listOf avs.toArray 0) :: (a.sv, listOf sas.toArray nsv) :: (a.fl, listOf (refsOf fds).toArray nfl) :: (L + 1 + 1 + 1, o3) :: rest := fun p hp => List.mem_cons_of_mem _ (List.mem_cons_of_mem _ (List.mem_cons_of_mem _ (up p hp)))
    refine Throws.use (enter_deep w (upD _ (mR _ S.stat.haw)) List.mem_cons_self (upD _ f1) (upD _ f2) f5 g2 g3 g4 (by omega)) K0 F1 X N3 T rfl (by ktr_room) (by ktr_units) ?_
    intro e dd es n t9 G h6 tk6 FG up6 R6 hnum
    clear N3 F1
    dsimp only
    refine caught_D K0 FG up6 R6 X (topRead_of T) (by k_is) ?_
    intro h7 oe tk7 F7 N7 hcls hdict hno
    have hI := instD N7 List.mem_cons_self (List.mem_cons_of_mem _ List.mem_cons_self) hcls hdict hno
    have haw7 := upD _ (mR _ S.stat.haw)
    have hoF7 := upD _ hoF
    have el : (refsOf fds).length = tls.length + 1 := by
      have h1 := S.fd.length
      have h2 := S.ok.len
      have h4 : (refsOf fds).length = fds.length := by simp [refsOf]
      omega
    k_steps
    refine name_goesX F7 N7 ?_ rfl rfl
    intro h8 v8 F8 N8
    k_steps
    refine ⟨rfl, _, _, _, ledger L a wes wn ost sas n4 nsv fds nfl o3 O R, rfl, F8, newsSub N8 ?_, MapOk.store (MapOk.store (MapOk.store (MapOk.store (MapOk.store (MapOk.store (MapOk.of a m1) (by decide +kernel)) (by decide +kernel)) (by decide +kernel)) (by decide +kernel)) (by decide +kernel)) (by decide +kernel),
      wes, wn, ost, sas, n4, nsv, fds, nfl, o3, R, f, tls, gs, rfl, S.bump (by omega)⟩
    unfold ledger
    rw [← hr]
    intro p hp
    simp only [List.mem_cons, List.mem_append] at hp ⊢
    grind
end
theorem rg_24 : True := by
  k_with_none
  (k_with "own lt" => (first | (with_reducible assumption) | ((with_reducible refine Nat.lt_trans ?_ (by assumption)); k_extra "own lt") | exact And.left (by with_reducible assumption) | exact And.left (And.right (by with_reducible assumption)) | exact And.left (And.right (And.right (by with_reducible assumption))) | exact And.left (And.right (And.right (And.right (by with_reducible assumption)))) | exact And.left (And.right (And.right (And.right (And.right (by with_reducible assumption))))) | exact And.left (And.right (And.right (And.right (And.right (And.right (by with_reducible assumption)))))) | exact And.left (And.right (And.right (And.right (And.right (And.right (And.right (by with_reducible assumption))))))) | exact And.left (And.right (And.right (And.right (And.right (And.right (And.right (And.right (by with_reducible assumption)))))))) | exact And.left (And.right (And.right (And.right (And.right (And.right (And.right (And.right (And.right (by with_reducible assumption))))))))) | exact And.left (And.right (And.right (And.right (And.right (And.right (And.right (And.right (And.right (And.right (by with_reducible assumption)))))))))) | exact And.left (And.right (And.right (And.right (And.right (And.right (And.right (And.right (And.right (And.right (And.right (by with_reducible assumption))))))))))) | exact And.left (And.right (And.right (And.right (And.right (And.right (And.right (And.right (And.right (And.right (And.right (And.right (by with_reducible assumption)))))))))))) | exact And.left (And.right (And.right (And.right (And.right (And.right (And.right (And.right (And.right (And.right (And.right (And.right (And.right (by with_reducible assumption))))))))))))) | fail "own lt"))
  (k_with "own ne" => ((refine neN ?_); (try dsimp only); (first | exact Nat.ne_of_gt (by k_extra "own lt") | exact Nat.ne_of_lt (by k_extra "own lt") | fail "own ne")))
  (k_with "getAttr ref" => (k_here; k_dflt (refine' get_own ?u9k1 ?u9k2 ?u9k3 ?u9k4 ?u9k5 ?u9k6 ?u9k7 ?u9k8 ?u9k9 ?_; (case u9k1 => k_asm); (case u9k2 => k_asm); (case u9k3 => k_inst); (case u9k4 => k_is); (case u9k5 => k_is); (case u9k6 => k_is); (case u9k7 => k_is); (case u9k8 => with_reducible assumption); (case u9k9 => k_handed); k_whole)))
  (k_with "getMethod ref" => (k_here; (with_reducible show wpAny _ _ (getMethod (Value.ref _) (Str.ofString "get") _) _ _ _); k_dflt (refine' DR.method ?u9N ?u9m ?u9d ?_; (case u9N => k_asm); (case u9m => k_mem); (case u9d => with_reducible assumption))))
  (k_with "call builtin:dict.get" => ((k_here; k_dflt (refine' DR.get2 ?u9N ?u9m ?u9d ?u9l ?u9v ?_; (case u9N => k_asm); (case u9m => k_mem); (case u9d => with_reducible assumption); (case u9l => with_reducible assumption); (case u9v => first | exact VOk.str _ | with_reducible assumption)); intro r' hv' hd'); (revert r' hv' hd'; intros)))
  (k_with "compareOp In str ref" => (k_here; k_dflt (refine' DR.has ?u9N ?u9m ?u9d ?u9l ?_; (case u9N => k_asm); (case u9m => k_mem); (case u9d => with_reducible assumption); (case u9l => with_reducible assumption))))
  (k_with "setItem ref str" => ((k_here; k_dflt (refine' DR.set ?u9F ?u9N ?u9U ?u9d ?u9v ?u9z ?_; (case u9F => k_asm); (case u9N => k_asm); (case u9U => k_updF); (case u9d => with_reducible assumption); (case u9v => first | exact VOk.str _ | with_reducible assumption); (case u9z => omega)); intro h' o' F' N' hd'; (try dsimp only at N')); (revert h' o' F' N' hd'; intros)))
  (k_with "binaryOp Add ref ref" => ((k_here; k_dflt (refine' addL ?u9k1 ?u9k2 ?u9k3 ?u9k4 ?u9k5 ?_; (case u9k1 => k_asm); (case u9k2 => k_asm); (case u9k3 => k_mem); (case u9k4 => k_mem); (case u9k5 => ktr_rel); k_whole); intro c' h' F' N' l1; (have l2 := l1); (try k_lt l2)); (revert c' h' F' N' l1; intros)))
  (k_with "binaryOp Mult ref int" => ((k_here; k_dflt (refine' mul1 ?u9k1 ?u9k2 ?u9k3 ?u9k4 ?u9k5 ?_; (case u9k1 => k_asm); (case u9k2 => k_asm); (case u9k3 => k_mem); (case u9k4 => omega); (case u9k5 => omega); k_whole); intro c' h' F' N' l1; (have l2 := l1); (try k_lt l2)); (revert c' h' F' N' l1; intros)))
  (k_with "subscriptTail" => ((k_here; k_dflt (refine' sliceTo ?u9k1 ?u9k2 ?u9k3 ?u9k4 ?u9k5 ?_ ?u9k6; (case u9k1 => k_asm); (case u9k2 => k_asm); (case u9k3 => k_mem); (case u9k4 => omega); (case u9k5 => ktr_rel); (case u9k6 => with_unfolding_all rfl); k_whole); intro c' h' F' N' l1; (have l2 := l1); (try k_lt l2)); (revert c' h' F' N' l1; intros)))
  (k_with "subscriptTail" => ((k_here; k_dflt (refine' sliceFrom ?u9k1 ?u9k2 ?u9k3 ?u9k4 ?u9k5 ?_ ?u9k6; (case u9k1 => k_asm); (case u9k2 => k_asm); (case u9k3 => k_mem); (case u9k4 => omega); (case u9k5 => ktr_rel); (case u9k6 => with_unfolding_all rfl); k_whole); intro c' h' F' N' l1; (have l2 := l1); (try k_lt l2)); (revert c' h' F' N' l1; intros)))
  (k_with "subscriptTail" => ((k_here; k_dflt (refine' sliceRev ?u9k1 ?u9k2 ?u9k3 ?u9k5 ?_ ?u9k6; (case u9k1 => k_asm); (case u9k2 => k_asm); (case u9k3 => k_mem); (case u9k5 => ktr_rel); (case u9k6 => with_unfolding_all rfl); k_whole); intro c' h' F' N' l1; (have l2 := l1); (try k_lt l2)); (revert c' h' F' N' l1; intros)))
  (k_with "exec Assign cons ListComp" => (k_here; k_dflt (refine LCg.Assign_ListComp_U (F₀ := by k_asm) (by rfl) (by with_unfolding_all rfl) (by with_unfolding_all rfl) (by decide) (by rfl) (by decide) (by rfl) (by rfl) (by rfl) ?_)))
  (k_with "call builtin:list.append" => ((k_here; k_dflt (refine' appendL ?u9k1 ?u9k2 ?u9k3 ?u9k4 ?_; (case u9k1 => k_asm); (case u9k2 => k_asm); (case u9k3 => k_updF); (case u9k4 => ktr_rel)); intro h' F' N'; (try dsimp only at N')); (revert h' F' N'; intros)))
  (k_with "setAttr ref" => ((k_here; k_dflt (refine' setF ?u9k1 ?u9k2 ?u9k3 ?u9k4 ?u9k5 ?u9k6 ?u9k7 ?u9k8 ?u9k9 ?u9k10 ?u9k11 ?u9k12 ?_; (case u9k1 => k_asm); (case u9k2 => k_asm); (case u9k3 => k_asm); (case u9k4 => k_inst); (case u9k5 => exact rfl); (case u9k6 => k_is); (case u9k7 => k_is); (case u9k8 => k_is); (case u9k9 => k_is); (case u9k10 => with_reducible assumption); (case u9k11 => k_updF); (case u9k12 => with_reducible assumption)); intro es' n' h' hz' ho' hs' F' N'; (try dsimp only at N'); (try (have q' := (ho' (Str.ofString "store") (by decide)).trans (by with_reducible assumption))); (try (have q' := (ho' (Str.ofString "aside") (by decide)).trans (by with_reducible assumption)))); (revert es' n' h' hz' ho' hs' F' N'; intros)))
  (k_with "call builtin:len" => (k_here; (with_reducible show wpAny _ _ (call (Value.builtin "len") [Value.ref _]) _ _ _); k_dflt (refine' lenL ?u9N ?u9m ?u9z ?_; (case u9N => k_asm); (case u9m => k_mem); (case u9z => ktr_rel)); (try dsimp only)))
  (k_with "call builtin:list.pop" => ((k_here; (try dsimp only); k_dflt (refine' popL ?u9k1 ?u9k2 ?u9k3 ?u9k4 ?_; (case u9k1 => k_asm); (case u9k2 => k_asm); (case u9k3 => k_updF); (case u9k4 => ktr_rel)); intro h' F' N'; (try dsimp only at N')); (revert h' F' N'; intros)))
  (k_with "call ref" => ((k_here; (with_reducible show wpAny _ _ (call (Value.ref 87) _) _ _ _); k_dflt (refine' Calls.use (plain_var_calls _ ?u9a1 ?u9a2 ?u9a3 ?u9a4 ?u9a5 ?u9a6) ?u9B ?u9F ?u9X ?u9N ?u9T ?u9hk ?u9hd ?u9hu ?_; (case u9B => k_asm); (case u9F => k_asm); (case u9X => k_asm); (case u9N => k_asm); (case u9T => k_asm); (case u9hk => first | exact rfl | assumption); (case u9hd => ktr_room); (case u9hu => ktr_units); (case u9a1 => k_mem); (case u9a2 => k_mem); (case u9a4 => with_reducible assumption); (case u9a3 => k_mem); (case u9a5 => with_reducible assumption); (case u9a6 => with_reducible assumption)); (intro r' news' h' tk' F' N' hp'; obtain ⟨hn', hv', hd'⟩ := hp'; subst hn'; (try dsimp only))); (revert r' h' tk' F' N' hv' hd'; intros)))
  (k_with "call ref" => ((k_here; (with_reducible show wpAny _ _ (call (Value.ref 122) _) _ _ _); k_dflt (refine' Calls.use (own_names_calls _ ?u9a1 ?u9a2 ?u9a3 ?u9a4 ?u9a5 ?u9a6 ?u9a7 ?u9a8 ?u9a9) ?u9B ?u9F ?u9X ?u9N ?u9T ?u9hk ?u9hd ?u9hu ?_; (case u9B => k_asm); (case u9F => k_asm); (case u9X => k_asm); (case u9N => k_asm); (case u9T => k_asm); (case u9hk => first | exact rfl | assumption); (case u9hd => ktr_room); (case u9hu => ktr_units); (case u9a1 => k_mem); (case u9a2 => k_mem); (case u9a5 => with_reducible assumption); (case u9a6 => with_reducible assumption); (case u9a7 => with_reducible assumption); (case u9a3 => k_mem); (case u9a4 => k_mem); (case u9a8 => with_reducible assumption); (case u9a9 => with_reducible assumption)); (intro r' news' h' tk' F' N' hp'; obtain ⟨l', hr', hn', l1⟩ := hp'; subst hr' hn'; (have l2 := l1); (try k_lt l2); (try dsimp only))); (revert h' tk' F' N' l' l1; intros)))
  (k_with "call ref" => ((k_here; (with_reducible show wpAny _ _ (call (Value.ref 129) _) _ _ _); k_dflt (refine' Calls.use (filled_args_calls _ ?u9a1 ?u9a2 ?u9a3) ?u9B ?u9F ?u9X ?u9N ?u9T ?u9hk ?u9hd ?u9hu ?_; (case u9B => k_asm); (case u9F => k_asm); (case u9X => k_asm); (case u9N => k_asm); (case u9T => k_asm); (case u9hk => first | exact rfl | assumption); (case u9hd => ktr_room); (case u9hu => ktr_units); (case u9a1 => k_mem); (case u9a2 => ktr_rel); (case u9a3 => ktr_rel)); (intro r' news' h' tk' F' N' hp'; obtain ⟨l', u', hr', hn', l1⟩ := hp'; subst hr' hn'; (have l2 := l1); (try k_lt l2); (try dsimp only))); (revert h' tk' F' N' l' u' l1; intros)))
  (k_with "compareOp In str ref" => (k_here; k_dflt (refine' HasD.not ?u9N ?u9m ?u9d ?u9l ?u9p ?_; (case u9N => k_asm); (case u9m => k_mem); (case u9d => with_reducible assumption); (case u9l => with_reducible assumption); (case u9p => with_reducible assumption))))
  (k_with "subscriptTail" => ((k_here; (with_reducible refine' itemStr (ss := words5) ?u9k1 ?u9k3 ?u9k4 ?u9k5 ?u9k6 ?u9k7 ?_ ?u9k8); k_dflt ((case u9k1 => k_asm); (case u9k3 => k_mem); (case u9k4 => exact StrsAre.cons _ _ (StrsAre.cons _ _ (StrsAre.cons _ _ (StrsAre.cons _ _ (StrsAre.cons _ _ StrsAre.nil))))); (case u9k5 => with_reducible assumption); (case u9k6 => with_reducible assumption); (case u9k7 => decide); (case u9k8 => with_unfolding_all rfl); k_whole); intro x' t' e'); (revert x' t' e'; intros)))
  (k_with "subscriptTail" => (k_here; (with_reducible refine' itemRef ?u9k1 ?u9k3 ?u9k5 ?u9k7 ?u9k4 ?_ ?u9k8); k_dflt ((case u9k1 => k_asm); (case u9k3 => k_mem); (case u9k4 => with_reducible assumption); (case u9k5 => first | with_reducible assumption | omega); (case u9k7 => ktr_rel); (case u9k8 => with_unfolding_all rfl))))
  (k_with "eval Dict" => ((k_here; k_dflt (refine' kdn_eval (knd := PySem.strKind _ _) ?u9F ?u9N ?u9b ?u9a ?u9l ?u9e ?u9n ?_; (case u9F => k_asm); (case u9N => k_asm); (case u9b => exact Top.nolimit (by k_asm)); (case u9a => rfl); (case u9l => rfl); (case u9e => exact List.cons_ne_nil _ _); (case u9n => exact Nat.le_of_ble_eq_true rfl)); intro d' h' o' F' N' l1 lo' hd'; (have l2 := l1); (try k_lt l2)); (revert d' h' o' F' N' l1 lo' hd'; intros)))
  (k_with "KdnMade" => ((k_here; k_dflt (refine' made1 ?u9F ?u9N ?u9U ?u9d ?u9v ?_; (case u9F => k_asm); (case u9N => k_asm); (case u9U => k_updF); (case u9d => k_asm); (case u9v => first | exact VOk.str _ | with_reducible assumption)); intro h' o' F' N' hd'; (try dsimp only at N')); (revert h' o' F' N' hd'; intros)))
  (k_with "subscriptTail" => ((k_here; (with_reducible refine' itemPad ?u9k1 ?u9k3 ?u9k4 ?u9k5 ?u9k7 ?_ ?u9k8); k_dflt ((case u9k1 => k_asm); (case u9k3 => k_mem); (case u9k4 => with_reducible assumption); (case u9k5 => omega); (case u9k7 => omega); (case u9k8 => with_unfolding_all rfl)); intro r' hv' hd'); (revert r' hv' hd'; intros)))
  (k_with "call ref" => ((k_here; (with_reducible show wpAny _ _ (call (Value.ref 148) _) _ _ _); k_dflt (refine' Calls.use (law_names_calls _ ?u9a1) ?u9B ?u9F ?u9X ?u9N ?u9T ?u9hk ?u9hd ?u9hu ?_; (case u9B => k_asm); (case u9F => k_asm); (case u9X => k_asm); (case u9N => k_asm); (case u9T => k_asm); (case u9hk => first | exact rfl | assumption); (case u9hd => ktr_room); (case u9hu => ktr_units); (case u9a1 => with_reducible assumption)); (intro r' news' h' tk' F' N' hp'; obtain ⟨l', vs', hr', hn', l1, hS'⟩ := hp'; subst hr' hn'; (have l2 := l1); (try k_lt l2); (try dsimp only))); (revert h' tk' F' N' l' vs' l1 hS'; intros)))
  (k_with "compareOp In str ref" => (k_here; k_dflt (refine' DR.hasT ?u9N ?u9m ?u9d ?u9l ?u9p ?_; (case u9N => k_asm); (case u9m => k_mem); (case u9d => with_reducible assumption); (case u9l => with_reducible assumption); (case u9p => with_reducible assumption))))
  (k_with "compareOp In str ref" => (k_here; k_dflt (refine' DR.hasF ?u9N ?u9m ?u9d ?u9l ?u9p ?_; (case u9N => k_asm); (case u9m => k_mem); (case u9d => with_reducible assumption); (case u9l => with_reducible assumption); (case u9p => with_reducible assumption))))
  (k_with "subscriptTail" => ((k_here; (with_reducible refine' DR.item ?u9N ?u9m ?u9d ?u9p ?_ ?u9e); k_dflt ((case u9N => k_asm); (case u9m => k_mem); (case u9d => with_reducible assumption); (case u9p => with_reducible assumption); (case u9e => with_unfolding_all rfl)); intro r' hv' hd'); (revert r' hv' hd'; intros)))
  (k_with "call ref" => ((k_here; (with_reducible show wpAny _ _ (call (Value.ref 162) _) _ _ _); k_dflt (refine' Calls.use (law_found_calls _ ?u9a1 (FrAt.mono ?u9a0 (Nat.le_refl _) ?u9a2) ?u9a3) ?u9B ?u9F ?u9X ?u9N ?u9T ?u9hk ?u9hd ?u9hu ?_; (case u9B => k_asm); (case u9F => k_asm); (case u9X => k_asm); (case u9N => k_asm); (case u9T => k_asm); (case u9hk => first | exact rfl | assumption); (case u9hd => ktr_room); (case u9hu => ktr_units); (case u9a1 => k_mem); (case u9a2 => with_reducible assumption); (case u9a0 => tb_start); (case u9a3 => ktr_rel)); (intro r' news' h' tk' F' N' hp'; obtain ⟨hn', hv', hd'⟩ := hp'; subst hn'; (try dsimp only))); (revert r' h' tk' F' N' hv' hd'; intros)))
  (k_with "subscriptTail" => ((k_here; (with_reducible refine' cellItem ?u9k1 ?u9k3 ?u9k4 ?u9k5 ?u9k7 ?_ ?u9k8); k_dflt ((case u9k1 => k_asm); (case u9k3 => k_mem); (case u9k4 => with_reducible assumption); (case u9k5 => omega); (case u9k7 => omega); (case u9k8 => with_unfolding_all rfl)); intro c' t' hc'); (revert c' t' hc'; intros)))
  (k_with "subscriptTail" => ((k_here; (with_reducible refine' fghItem ?u9k1 ?u9k2 ?_ ?u9k3 ?u9k4); k_dflt ((case u9k1 => omega); (case u9k2 => omega); (case u9k3 => with_unfolding_all rfl); (case u9k4 => (intro _; with_unfolding_all rfl))); intro x' t' tk' hx'); (revert x' t' tk' hx'; intros)))
  (k_with "call ref" => ((k_here; (with_reducible show wpAny _ _ (call (Value.ref 76) _) _ _ _); k_dflt (refine' Calls.use (world_calls _) ?u9B ?u9F ?u9X ?u9N ?u9T ?u9hk ?u9hd ?u9hu ?_; (case u9B => k_asm); (case u9F => k_asm); (case u9X => k_asm); (case u9N => k_asm); (case u9T => k_asm); (case u9hk => first | exact rfl | assumption); (case u9hd => ktr_room); (case u9hu => ktr_units)); (intro r' news' h' tk' F' N' hp'; obtain ⟨aw', dw', st', sa', wr', tr', wes', wn', n4', ost', owr', otr', hr', hn', hw'⟩ := hp'; subst hr' hn'; (try dsimp only))); (revert h' tk' F' N' aw' dw' st' sa' wr' tr' wes' wn' n4' ost' owr' otr' hw'; intros)))
  trivial


theorem wt_turn : True := by
  w_top off
  trivial

theorem LS.chain {w : World} {L : Addr} {a : Adr} {cvs ys : List Value} {md : Int} {b : Nat} {O : List (Addr × Obj)} {wes : List DictEntry} {ost o3 : Obj} {sas : List Value} {fds R : List (Addr × Obj)} {f : PM} {tls : List (List (Str × Value))} {gs : List PM} {wn n4 nsv nfl : Nat}
    (S : LS w L a cvs ys md b O wes ost sas fds o3 R f tls gs) (hmd : md ≤ 4) (o : Ord L a) : Calls w 167 5 [.ref a.aw, .ref a.fl] (ledger L a wes wn ost sas n4 nsv fds nfl o3 O R) (fun r news' => r = .bool true ∧ news' = ledger L a wes wn ost sas n4 nsv fds nfl o3 O R) := by
  obtain ⟨td, g2⟩ := S.g2
  have mF : ∀ p ∈ fds, p ∈ ledger L a wes wn ost sas n4 nsv fds nfl o3 O R := fun p hp => by
    unfold ledger
    simp only [List.mem_cons, List.mem_append]
    grind
  have mR : ∀ p ∈ R, p ∈ ledger L a wes wn ost sas n4 nsv fds nfl o3 O R := fun p hp => by
    unfold ledger
    simp only [List.mem_cons, List.mem_append]
    grind
  have hl := S.ok.len
  have hf := S.fd.length
  have hle := S.le
  refine law_chain_calls w (mR _ S.stat.haw) (wn := wn) (by unfold ledger; simp) (st := a.st) (sa := a.sa) (ost := ost) (n4 := n4) (sas := sas) (vs := refsOf fds) (n := nfl) (k := b + 10) (by unfold ledger; simp) (by unfold ledger; simp) (by unfold ledger; simp) S.g1 g2 S.g5 S.dr o.s1 (S.fd.frAt mF) (S.as.mono mR) hl ?_ S.ok.hc
  simp [refsOf]
  omega
theorem deedKey {M : Model} {A : Around} {env : Env} {bd : List Stmt} {w : World} {h₀ : Heap} {L : Addr} {a : Adr} {cvs ys : List Value} {md : Int} {b : Nat} {O : List (Addr × Obj)} {s s1 : Shared} {E : Value → Shared → Prop} (e : ∃ h' tk', s1 = { s with heap := h', toks := tk' })
    (hq : wpAny M A (execs bd env) (DeedEnd w h₀ L a cvs ys md b O s1) E s1) : wpAny M A (execs bd env) (DeedEnd w h₀ L a cvs ys md b O s) E s1 := by
  obtain ⟨h', tk', rfl⟩ := e
  exact wpAny_mono hq (fun f' s' ⟨e1, h2, tk2, m2, news2, e2, r⟩ => ⟨e1, h2, tk2, m2, news2, e2, r⟩) fun _ _ x => x
theorem deedKey2 {prog : Program} {A : Around} {env : Env} {bd : List Stmt} {w : World} {h₀ : Heap} {L : Addr} {a : Adr} {cvs ys : List Value} {md : Int} {b : Nat} {O : List (Addr × Obj)} {s s1 : Shared} {E : Value → Shared → Prop} (e : ∃ h' tk', s1 = { s with heap := h', toks := tk' })
    (hq : wpAny (model prog w) A (execs bd env) (DeedEnd w h₀ L a cvs ys md b O s1) E s1) : wpAny (model prog w) A (execs bd env) (fun f s' => match f with | .next => wpAny (model prog w) A (execs [] env) (DeedEnd w h₀ L a cvs ys md b O s) E s' | f => DeedEnd w h₀ L a cvs ys md b O s f s') E s1 := by
  obtain ⟨h', tk', rfl⟩ := e
  refine wpAny_mono hq (fun f' s' hd => ?_) fun _ _ x => x
  obtain ⟨rfl, h2, tk2, m2, news2, e2, r⟩ := hd
  exact wpAny_execs_nil ⟨rfl, h2, tk2, m2, news2, e2, r⟩
section
theorem rg_25 : True := by
  (k_with "call ref" => (k_here; (with_reducible rename HoldAt 5 => hz9); clear hz9; refine Held.out ?_))
  (k_with "exec If" => (k_here; (with_reducible rename HoldAt 6 => hz9); clear hz9; refine Held.out ?_))
  (k_with "execs cons" => (k_here; (with_reducible rename HoldAt 7 => hz9); clear hz9; refine Held.out ?_))
  trivial
theorem turn (w : World) {mean : ExcName → Option Value} {mg mb : Str → Option Value} {fa : Addr} {ccd : Value} {h₀ : Heap} {L : Addr} {m : Str → Option Value} {s : Shared} {a : Adr} {cvs ys : List Value} {md : Int} {j : Nat} {u : Tok} {b : Nat} {O news : List (Addr × Obj)} {E : Value → Shared → Prop}
    (sc : Scope) (hsc : sc = lawScope) (body : List Stmt) (hb : body = forBody) (o : Ord L a)
    (F : Fr h₀ L s.heap m) (X : (hd.heap_39 w.params).In h₀) (T : Top hd.view_39 (looseW hd.view_39 [Str.ofString "SnobolError"]) mean mg mb h₀) (N : News h₀ L s.heap news) (hM : MapOk a m)
    (ht : m (Str.ofString "turn") = some (.int (j : Int) u)) (hj : j < 9) (hS : LSt w L a cvs ys md b O news) (hb9 : b ≤ 70) (hmd : md ≤ 4) :
    wpAny (model PySem.Challenge.rw_sj0188_01.row.prog w) (callerA.deeper (envX (Str.ofString "law") sc L fa ccd (lawCells L))) (execs body (envX (Str.ofString "law") sc L fa ccd (lawCells L))) (DeedEnd w h₀ L a cvs ys md (b + 5) O s) E s := by
  revert X
  k_fill
  intro X
  have hb0 := hb
  have hsc0 := hsc
  delta forBody lawBody lawDef PySem.Challenge.pw_sj0188_01 at hb; dsimp only [List.getLast?, List.getLast, Option.map, Option.getD, List.getElem?_cons_succ, List.getElem?_cons_zero] at hb
  subst hb
  delta lawScope lawDef PySem.Challenge.pw_sj0188_01 at hsc; dsimp only [List.getLast?, List.getLast, Option.map, Option.getD] at hsc
  subst hsc
  have K0 := below_caller h₀
  obtain ⟨wes, wn, ost, sas, n4, nsv, fds, nfl, o3, R, f, tls, gs, rfl, S⟩ := hS
  obtain ⟨m1, hm1⟩ : ∃ m1, m = fun z => if z = Str.ofString "turn" then some (.int (j : Int) u) else mapOf a m1 z := ⟨m, by
    funext z
    split
    · next e => rw [e, ht]
    · exact congrFun hM.form z⟩
  subst hm1
  clear ht hM
  unfold mapOf at F
  unfold ledger at N
  have mR : ∀ p ∈ R, p ∈ fds ++ (O ++ R) := fun p hp => List.mem_append_right _ (List.mem_append_right _ hp)
  obtain ⟨oF, hoF', hdF⟩ := S.stat.hc2
  obtain ⟨oC, hoC', hdC⟩ := S.stat.hc1
  have hoF := mR _ hoF'
  have hoC := mR _ hoC'
  have hc9 := mR _ S.stat.hc9
  have hcc := S.stat.cells
  generalize hr : fds ++ (O ++ R) = rest at N mR hoF hoC hc9
  have hold6 := HoldAt.mk 6
  k_steps
  refine Held.mk ?_
  rename_i c tc hc0 dT hA lA hB hC hD F1 N1
  have N2 := newsSub (news := ledger L a wes wn ost sas n4 nsv fds nfl o3 O R) N1 (by
    unfold ledger
    rw [hr]
    exact fun p hp => List.mem_cons_of_mem _ hp)
  clear N1
  have hM : MapOk a (fun y => if y = Str.ofString "told" then some (.int c tc) else if y = Str.ofString "value" then some (.int (10 + (j : Int)) (s.toks + 1 + 1 + 1)) else if y = Str.ofString "turn" then some (.int (j : Int) u) else mapOf a m1 y) :=
    MapOk.store (MapOk.store (MapOk.store (MapOk.of a m1) (by decide +kernel)) (by decide +kernel)) (by decide +kernel)
  have hLS : LSt w L a cvs ys md b O _ := ⟨wes, wn, ost, sas, n4, nsv, fds, nfl, o3, R, f, tls, gs, rfl, S⟩
  have hal := S.as.length
  have hle := S.le
  have hsl : sas.length ≤ 5 := by omega
  refine wpAny_mono (Q := DeedEnd w h₀ L a cvs ys md (b + 5) O s) (E := E) ?deed ?tail (fun _ _ x => x)
  case tail =>
    rintro f' s' ⟨rfl, h2, tk2, m2, news2, rfl, F2, N3, hM2, hS2⟩
    clear S hal hle hsl hLS N2 hoF hoF' hdF hoC hoC' hdC hc9 hcc mR hr F1 hM
    obtain ⟨wes, wn, ost, sas, n4, nsv, fds, nfl, o3, R, f, tls, gs, rfl, S⟩ := hS2
    obtain ⟨m3, rfl⟩ : ∃ m3, m2 = mapOf a m3 := ⟨m2, hM2.form⟩
    have C9 := S.chain (wn := wn) (n4 := n4) (nsv := nsv) (nfl := nfl) hmd o
    have mR : ∀ p ∈ R, p ∈ ledger L a wes wn ost sas n4 nsv fds nfl o3 O R := fun p hp => by
      unfold ledger
      simp only [List.mem_cons, List.mem_append]
      grind
    obtain ⟨oF, hoF', hdF⟩ := S.stat.hc2
    have hoF := mR _ hoF'
    have haw := mR _ S.stat.haw
    have hdw : (a.dw, dictOf wes wn) ∈ ledger L a wes wn ost sas n4 nsv fds nfl o3 O R := by unfold ledger; simp
    have hfl : (a.fl, listOf (refsOf fds).toArray nfl) ∈ ledger L a wes wn ost sas n4 nsv fds nfl o3 O R := by unfold ledger; simp
    obtain ⟨tm, g4⟩ := S.g4
    have hle := S.le
    have el : (refsOf fds).length = tls.length + 1 := by
      have h1 := S.fd.length
      have h2 := S.ok.len
      have h4 : (refsOf fds).length = fds.length := by simp [refsOf]
      omega
    have hLS : LSt w L a cvs ys md (b + 5) O _ := ⟨wes, wn, ost, sas, n4, nsv, fds, nfl, o3, R, f, tls, gs, rfl, S⟩
    generalize hlg : ledger L a wes wn ost sas n4 nsv fds nfl o3 O R = lg at *
    unfold mapOf at F2
    have hold5 := HoldAt.mk 5
    dsimp only
    k_steps
    refine Held.mk ?_
    refine Calls.use C9 K0 F2 X N3 T rfl (by ktr_room) (by ktr_units) ?_
    rintro r news' h3 tk3 F3 N4 ⟨rfl, rfl⟩
    dsimp only
    k_steps
    exact ⟨rfl, _, _, _, _, rfl, F3, N4, MapOk.of a m3, hLS⟩
  case deed =>
    have N3 := N2
    unfold ledger at N2
    have hold7 := HoldAt.mk 7
    k_steps
    · refine Held.mk ?_
      exact deedKey ⟨_, _, rfl⟩ (deed_enter w _ hsc0 _ (by delta enterBody forBody lawBody lawDef PySem.Challenge.pw_sj0188_01; dsimp only [List.getLast?, List.getLast, Option.map, Option.getD, List.getElem?_cons_succ, List.getElem?_cons_zero]) o F1 X T N3 hM (if_pos rfl) ((if_neg (by decide +kernel)).trans (if_pos rfl)) hc0 hLS hb9 hmd)
    · refine Held.mk ?_
      exact deedKey ⟨_, _, rfl⟩ (deed_enter w _ hsc0 _ (by delta enterBody forBody lawBody lawDef PySem.Challenge.pw_sj0188_01; dsimp only [List.getLast?, List.getLast, Option.map, Option.getD, List.getElem?_cons_succ, List.getElem?_cons_zero]) o F1 X T N3 hM (if_pos rfl) ((if_neg (by decide +kernel)).trans (if_pos rfl)) hc0 hLS hb9 hmd)
    · refine Held.mk ?_
      have hold6 := HoldAt.mk 6
      k_steps
      refine Held.mk ?_
      have hold7 := HoldAt.mk 7
      k_steps
      · refine Held.mk ?_
        exact deedKey2 ⟨_, _, rfl⟩ (deed_set w _ hsc0 _ (by delta setBody forBody lawBody lawDef PySem.Challenge.pw_sj0188_01; dsimp only [List.getLast?, List.getLast, Option.map, Option.getD, List.getElem?_cons_succ, List.getElem?_cons_zero]) o F1 X T N3 hM (if_pos rfl) ((if_neg (by decide +kernel)).trans (if_pos rfl)) hc0 hLS hb9 hmd)
      · refine Held.mk ?_
        exact deedKey2 ⟨_, _, rfl⟩ (deed_set w _ hsc0 _ (by delta setBody forBody lawBody lawDef PySem.Challenge.pw_sj0188_01; dsimp only [List.getLast?, List.getLast, Option.map, Option.getD, List.getElem?_cons_succ, List.getElem?_cons_zero]) o F1 X T N3 hM (if_pos rfl) ((if_neg (by decide +kernel)).trans (if_pos rfl)) hc0 hLS hb9 hmd)
      · refine Held.mk ?_
        exact deedKey2 ⟨_, _, rfl⟩ (deed_restore w _ hsc0 _ (by delta restoreBody forBody lawBody lawDef PySem.Challenge.pw_sj0188_01; dsimp only [List.getLast?, List.getLast, Option.map, Option.getD, List.getElem?_cons_succ, List.getElem?_cons_zero]) o F1 X T hM N3 S (by omega) hb9 hmd)
end
theorem rg_26 : True := by
  k_with_none
  (k_with "own lt" => (first | (with_reducible assumption) | ((with_reducible refine Nat.lt_trans ?_ (by assumption)); k_extra "own lt") | exact And.left (by with_reducible assumption) | exact And.left (And.right (by with_reducible assumption)) | exact And.left (And.right (And.right (by with_reducible assumption))) | exact And.left (And.right (And.right (And.right (by with_reducible assumption)))) | exact And.left (And.right (And.right (And.right (And.right (by with_reducible assumption))))) | exact And.left (And.right (And.right (And.right (And.right (And.right (by with_reducible assumption)))))) | exact And.left (And.right (And.right (And.right (And.right (And.right (And.right (by with_reducible assumption))))))) | exact And.left (And.right (And.right (And.right (And.right (And.right (And.right (And.right (by with_reducible assumption)))))))) | exact And.left (And.right (And.right (And.right (And.right (And.right (And.right (And.right (And.right (by with_reducible assumption))))))))) | exact And.left (And.right (And.right (And.right (And.right (And.right (And.right (And.right (And.right (And.right (by with_reducible assumption)))))))))) | exact And.left (And.right (And.right (And.right (And.right (And.right (And.right (And.right (And.right (And.right (And.right (by with_reducible assumption))))))))))) | exact And.left (And.right (And.right (And.right (And.right (And.right (And.right (And.right (And.right (And.right (And.right (And.right (by with_reducible assumption)))))))))))) | exact And.left (And.right (And.right (And.right (And.right (And.right (And.right (And.right (And.right (And.right (And.right (And.right (And.right (by with_reducible assumption))))))))))))) | fail "own lt"))
  (k_with "own ne" => ((refine neN ?_); (try dsimp only); (first | exact Nat.ne_of_gt (by k_extra "own lt") | exact Nat.ne_of_lt (by k_extra "own lt") | fail "own ne")))
  (k_with "getAttr ref" => (k_here; k_dflt (refine' get_own ?u9k1 ?u9k2 ?u9k3 ?u9k4 ?u9k5 ?u9k6 ?u9k7 ?u9k8 ?u9k9 ?_; (case u9k1 => k_asm); (case u9k2 => k_asm); (case u9k3 => k_inst); (case u9k4 => k_is); (case u9k5 => k_is); (case u9k6 => k_is); (case u9k7 => k_is); (case u9k8 => with_reducible assumption); (case u9k9 => k_handed); k_whole)))
  (k_with "getMethod ref" => (k_here; (with_reducible show wpAny _ _ (getMethod (Value.ref _) (Str.ofString "get") _) _ _ _); k_dflt (refine' DR.method ?u9N ?u9m ?u9d ?_; (case u9N => k_asm); (case u9m => k_mem); (case u9d => with_reducible assumption))))
  (k_with "call builtin:dict.get" => ((k_here; k_dflt (refine' DR.get2 ?u9N ?u9m ?u9d ?u9l ?u9v ?_; (case u9N => k_asm); (case u9m => k_mem); (case u9d => with_reducible assumption); (case u9l => with_reducible assumption); (case u9v => first | exact VOk.str _ | with_reducible assumption)); intro r' hv' hd'); (revert r' hv' hd'; intros)))
  (k_with "compareOp In str ref" => (k_here; k_dflt (refine' DR.has ?u9N ?u9m ?u9d ?u9l ?_; (case u9N => k_asm); (case u9m => k_mem); (case u9d => with_reducible assumption); (case u9l => with_reducible assumption))))
  (k_with "setItem ref str" => ((k_here; k_dflt (refine' DR.set ?u9F ?u9N ?u9U ?u9d ?u9v ?u9z ?_; (case u9F => k_asm); (case u9N => k_asm); (case u9U => k_updF); (case u9d => with_reducible assumption); (case u9v => first | exact VOk.str _ | with_reducible assumption); (case u9z => omega)); intro h' o' F' N' hd'; (try dsimp only at N')); (revert h' o' F' N' hd'; intros)))
  (k_with "binaryOp Add ref ref" => ((k_here; k_dflt (refine' addL ?u9k1 ?u9k2 ?u9k3 ?u9k4 ?u9k5 ?_; (case u9k1 => k_asm); (case u9k2 => k_asm); (case u9k3 => k_mem); (case u9k4 => k_mem); (case u9k5 => ktr_rel); k_whole); intro c' h' F' N' l1; (have l2 := l1); (try k_lt l2)); (revert c' h' F' N' l1; intros)))
  (k_with "binaryOp Mult ref int" => ((k_here; k_dflt (refine' mul1 ?u9k1 ?u9k2 ?u9k3 ?u9k4 ?u9k5 ?_; (case u9k1 => k_asm); (case u9k2 => k_asm); (case u9k3 => k_mem); (case u9k4 => omega); (case u9k5 => omega); k_whole); intro c' h' F' N' l1; (have l2 := l1); (try k_lt l2)); (revert c' h' F' N' l1; intros)))
  (k_with "subscriptTail" => ((k_here; k_dflt (refine' sliceTo ?u9k1 ?u9k2 ?u9k3 ?u9k4 ?u9k5 ?_ ?u9k6; (case u9k1 => k_asm); (case u9k2 => k_asm); (case u9k3 => k_mem); (case u9k4 => omega); (case u9k5 => ktr_rel); (case u9k6 => with_unfolding_all rfl); k_whole); intro c' h' F' N' l1; (have l2 := l1); (try k_lt l2)); (revert c' h' F' N' l1; intros)))
  (k_with "subscriptTail" => ((k_here; k_dflt (refine' sliceFrom ?u9k1 ?u9k2 ?u9k3 ?u9k4 ?u9k5 ?_ ?u9k6; (case u9k1 => k_asm); (case u9k2 => k_asm); (case u9k3 => k_mem); (case u9k4 => omega); (case u9k5 => ktr_rel); (case u9k6 => with_unfolding_all rfl); k_whole); intro c' h' F' N' l1; (have l2 := l1); (try k_lt l2)); (revert c' h' F' N' l1; intros)))
  (k_with "subscriptTail" => ((k_here; k_dflt (refine' sliceRev ?u9k1 ?u9k2 ?u9k3 ?u9k5 ?_ ?u9k6; (case u9k1 => k_asm); (case u9k2 => k_asm); (case u9k3 => k_mem); (case u9k5 => ktr_rel); (case u9k6 => with_unfolding_all rfl); k_whole); intro c' h' F' N' l1; (have l2 := l1); (try k_lt l2)); (revert c' h' F' N' l1; intros)))
  (k_with "exec Assign cons ListComp" => (k_here; k_dflt (refine LCg.Assign_ListComp_U (F₀ := by k_asm) (by rfl) (by with_unfolding_all rfl) (by with_unfolding_all rfl) (by decide) (by rfl) (by decide) (by rfl) (by rfl) (by rfl) ?_)))
  (k_with "call builtin:list.append" => ((k_here; k_dflt (refine' appendL ?u9k1 ?u9k2 ?u9k3 ?u9k4 ?_; (case u9k1 => k_asm); (case u9k2 => k_asm); (case u9k3 => k_updF); (case u9k4 => ktr_rel)); intro h' F' N'; (try dsimp only at N')); (revert h' F' N'; intros)))
  (k_with "setAttr ref" => ((k_here; k_dflt (refine' setF ?u9k1 ?u9k2 ?u9k3 ?u9k4 ?u9k5 ?u9k6 ?u9k7 ?u9k8 ?u9k9 ?u9k10 ?u9k11 ?u9k12 ?_; (case u9k1 => k_asm); (case u9k2 => k_asm); (case u9k3 => k_asm); (case u9k4 => k_inst); (case u9k5 => exact rfl); (case u9k6 => k_is); (case u9k7 => k_is); (case u9k8 => k_is); (case u9k9 => k_is); (case u9k10 => with_reducible assumption); (case u9k11 => k_updF); (case u9k12 => with_reducible assumption)); intro es' n' h' hz' ho' hs' F' N'; (try dsimp only at N'); (try (have q' := (ho' (Str.ofString "store") (by decide)).trans (by with_reducible assumption))); (try (have q' := (ho' (Str.ofString "aside") (by decide)).trans (by with_reducible assumption)))); (revert es' n' h' hz' ho' hs' F' N'; intros)))
  (k_with "call builtin:len" => (k_here; (with_reducible show wpAny _ _ (call (Value.builtin "len") [Value.ref _]) _ _ _); k_dflt (refine' lenL ?u9N ?u9m ?u9z ?_; (case u9N => k_asm); (case u9m => k_mem); (case u9z => ktr_rel)); (try dsimp only)))
  (k_with "call builtin:list.pop" => ((k_here; (try dsimp only); k_dflt (refine' popL ?u9k1 ?u9k2 ?u9k3 ?u9k4 ?_; (case u9k1 => k_asm); (case u9k2 => k_asm); (case u9k3 => k_updF); (case u9k4 => ktr_rel)); intro h' F' N'; (try dsimp only at N')); (revert h' F' N'; intros)))
  (k_with "call ref" => ((k_here; (with_reducible show wpAny _ _ (call (Value.ref 87) _) _ _ _); k_dflt (refine' Calls.use (plain_var_calls _ ?u9a1 ?u9a2 ?u9a3 ?u9a4 ?u9a5 ?u9a6) ?u9B ?u9F ?u9X ?u9N ?u9T ?u9hk ?u9hd ?u9hu ?_; (case u9B => k_asm); (case u9F => k_asm); (case u9X => k_asm); (case u9N => k_asm); (case u9T => k_asm); (case u9hk => first | exact rfl | assumption); (case u9hd => ktr_room); (case u9hu => ktr_units); (case u9a1 => k_mem); (case u9a2 => k_mem); (case u9a4 => with_reducible assumption); (case u9a3 => k_mem); (case u9a5 => with_reducible assumption); (case u9a6 => with_reducible assumption)); (intro r' news' h' tk' F' N' hp'; obtain ⟨hn', hv', hd'⟩ := hp'; subst hn'; (try dsimp only))); (revert r' h' tk' F' N' hv' hd'; intros)))
  (k_with "call ref" => ((k_here; (with_reducible show wpAny _ _ (call (Value.ref 122) _) _ _ _); k_dflt (refine' Calls.use (own_names_calls _ ?u9a1 ?u9a2 ?u9a3 ?u9a4 ?u9a5 ?u9a6 ?u9a7 ?u9a8 ?u9a9) ?u9B ?u9F ?u9X ?u9N ?u9T ?u9hk ?u9hd ?u9hu ?_; (case u9B => k_asm); (case u9F => k_asm); (case u9X => k_asm); (case u9N => k_asm); (case u9T => k_asm); (case u9hk => first | exact rfl | assumption); (case u9hd => ktr_room); (case u9hu => ktr_units); (case u9a1 => k_mem); (case u9a2 => k_mem); (case u9a5 => with_reducible assumption); (case u9a6 => with_reducible assumption); (case u9a7 => with_reducible assumption); (case u9a3 => k_mem); (case u9a4 => k_mem); (case u9a8 => with_reducible assumption); (case u9a9 => with_reducible assumption)); (intro r' news' h' tk' F' N' hp'; obtain ⟨l', hr', hn', l1⟩ := hp'; subst hr' hn'; (have l2 := l1); (try k_lt l2); (try dsimp only))); (revert h' tk' F' N' l' l1; intros)))
  (k_with "call ref" => ((k_here; (with_reducible show wpAny _ _ (call (Value.ref 129) _) _ _ _); k_dflt (refine' Calls.use (filled_args_calls _ ?u9a1 ?u9a2 ?u9a3) ?u9B ?u9F ?u9X ?u9N ?u9T ?u9hk ?u9hd ?u9hu ?_; (case u9B => k_asm); (case u9F => k_asm); (case u9X => k_asm); (case u9N => k_asm); (case u9T => k_asm); (case u9hk => first | exact rfl | assumption); (case u9hd => ktr_room); (case u9hu => ktr_units); (case u9a1 => k_mem); (case u9a2 => ktr_rel); (case u9a3 => ktr_rel)); (intro r' news' h' tk' F' N' hp'; obtain ⟨l', u', hr', hn', l1⟩ := hp'; subst hr' hn'; (have l2 := l1); (try k_lt l2); (try dsimp only))); (revert h' tk' F' N' l' u' l1; intros)))
  (k_with "compareOp In str ref" => (k_here; k_dflt (refine' HasD.not ?u9N ?u9m ?u9d ?u9l ?u9p ?_; (case u9N => k_asm); (case u9m => k_mem); (case u9d => with_reducible assumption); (case u9l => with_reducible assumption); (case u9p => with_reducible assumption))))
  (k_with "subscriptTail" => ((k_here; (with_reducible refine' itemStr (ss := words5) ?u9k1 ?u9k3 ?u9k4 ?u9k5 ?u9k6 ?u9k7 ?_ ?u9k8); k_dflt ((case u9k1 => k_asm); (case u9k3 => k_mem); (case u9k4 => exact StrsAre.cons _ _ (StrsAre.cons _ _ (StrsAre.cons _ _ (StrsAre.cons _ _ (StrsAre.cons _ _ StrsAre.nil))))); (case u9k5 => with_reducible assumption); (case u9k6 => with_reducible assumption); (case u9k7 => decide); (case u9k8 => with_unfolding_all rfl); k_whole); intro x' t' e'); (revert x' t' e'; intros)))
  (k_with "subscriptTail" => (k_here; (with_reducible refine' itemRef ?u9k1 ?u9k3 ?u9k5 ?u9k7 ?u9k4 ?_ ?u9k8); k_dflt ((case u9k1 => k_asm); (case u9k3 => k_mem); (case u9k4 => with_reducible assumption); (case u9k5 => first | with_reducible assumption | omega); (case u9k7 => ktr_rel); (case u9k8 => with_unfolding_all rfl))))
  (k_with "eval Dict" => ((k_here; k_dflt (refine' kdn_eval (knd := PySem.strKind _ _) ?u9F ?u9N ?u9b ?u9a ?u9l ?u9e ?u9n ?_; (case u9F => k_asm); (case u9N => k_asm); (case u9b => exact Top.nolimit (by k_asm)); (case u9a => rfl); (case u9l => rfl); (case u9e => exact List.cons_ne_nil _ _); (case u9n => exact Nat.le_of_ble_eq_true rfl)); intro d' h' o' F' N' l1 lo' hd'; (have l2 := l1); (try k_lt l2)); (revert d' h' o' F' N' l1 lo' hd'; intros)))
  (k_with "KdnMade" => ((k_here; k_dflt (refine' made1 ?u9F ?u9N ?u9U ?u9d ?u9v ?_; (case u9F => k_asm); (case u9N => k_asm); (case u9U => k_updF); (case u9d => k_asm); (case u9v => first | exact VOk.str _ | with_reducible assumption)); intro h' o' F' N' hd'; (try dsimp only at N')); (revert h' o' F' N' hd'; intros)))
  (k_with "subscriptTail" => ((k_here; (with_reducible refine' itemPad ?u9k1 ?u9k3 ?u9k4 ?u9k5 ?u9k7 ?_ ?u9k8); k_dflt ((case u9k1 => k_asm); (case u9k3 => k_mem); (case u9k4 => with_reducible assumption); (case u9k5 => omega); (case u9k7 => omega); (case u9k8 => with_unfolding_all rfl)); intro r' hv' hd'); (revert r' hv' hd'; intros)))
  (k_with "call ref" => ((k_here; (with_reducible show wpAny _ _ (call (Value.ref 148) _) _ _ _); k_dflt (refine' Calls.use (law_names_calls _ ?u9a1) ?u9B ?u9F ?u9X ?u9N ?u9T ?u9hk ?u9hd ?u9hu ?_; (case u9B => k_asm); (case u9F => k_asm); (case u9X => k_asm); (case u9N => k_asm); (case u9T => k_asm); (case u9hk => first | exact rfl | assumption); (case u9hd => ktr_room); (case u9hu => ktr_units); (case u9a1 => with_reducible assumption)); (intro r' news' h' tk' F' N' hp'; obtain ⟨l', vs', hr', hn', l1, hS'⟩ := hp'; subst hr' hn'; (have l2 := l1); (try k_lt l2); (try dsimp only))); (revert h' tk' F' N' l' vs' l1 hS'; intros)))
  (k_with "compareOp In str ref" => (k_here; k_dflt (refine' DR.hasT ?u9N ?u9m ?u9d ?u9l ?u9p ?_; (case u9N => k_asm); (case u9m => k_mem); (case u9d => with_reducible assumption); (case u9l => with_reducible assumption); (case u9p => with_reducible assumption))))
  (k_with "compareOp In str ref" => (k_here; k_dflt (refine' DR.hasF ?u9N ?u9m ?u9d ?u9l ?u9p ?_; (case u9N => k_asm); (case u9m => k_mem); (case u9d => with_reducible assumption); (case u9l => with_reducible assumption); (case u9p => with_reducible assumption))))
  (k_with "subscriptTail" => ((k_here; (with_reducible refine' DR.item ?u9N ?u9m ?u9d ?u9p ?_ ?u9e); k_dflt ((case u9N => k_asm); (case u9m => k_mem); (case u9d => with_reducible assumption); (case u9p => with_reducible assumption); (case u9e => with_unfolding_all rfl)); intro r' hv' hd'); (revert r' hv' hd'; intros)))
  (k_with "call ref" => ((k_here; (with_reducible show wpAny _ _ (call (Value.ref 162) _) _ _ _); k_dflt (refine' Calls.use (law_found_calls _ ?u9a1 (FrAt.mono ?u9a0 (Nat.le_refl _) ?u9a2) ?u9a3) ?u9B ?u9F ?u9X ?u9N ?u9T ?u9hk ?u9hd ?u9hu ?_; (case u9B => k_asm); (case u9F => k_asm); (case u9X => k_asm); (case u9N => k_asm); (case u9T => k_asm); (case u9hk => first | exact rfl | assumption); (case u9hd => ktr_room); (case u9hu => ktr_units); (case u9a1 => k_mem); (case u9a2 => with_reducible assumption); (case u9a0 => tb_start); (case u9a3 => ktr_rel)); (intro r' news' h' tk' F' N' hp'; obtain ⟨hn', hv', hd'⟩ := hp'; subst hn'; (try dsimp only))); (revert r' h' tk' F' N' hv' hd'; intros)))
  (k_with "subscriptTail" => ((k_here; (with_reducible refine' cellItem ?u9k1 ?u9k3 ?u9k4 ?u9k5 ?u9k7 ?_ ?u9k8); k_dflt ((case u9k1 => k_asm); (case u9k3 => k_mem); (case u9k4 => with_reducible assumption); (case u9k5 => omega); (case u9k7 => omega); (case u9k8 => with_unfolding_all rfl)); intro c' t' hc'); (revert c' t' hc'; intros)))
  (k_with "subscriptTail" => ((k_here; (with_reducible refine' fghItem ?u9k1 ?u9k2 ?_ ?u9k3 ?u9k4); k_dflt ((case u9k1 => omega); (case u9k2 => omega); (case u9k3 => with_unfolding_all rfl); (case u9k4 => (intro _; with_unfolding_all rfl))); intro x' t' tk' hx'); (revert x' t' tk' hx'; intros)))
  (k_with "call ref" => ((k_here; (with_reducible show wpAny _ _ (call (Value.ref 76) _) _ _ _); k_dflt (refine' Calls.use (world_calls _) ?u9B ?u9F ?u9X ?u9N ?u9T ?u9hk ?u9hd ?u9hu ?_; (case u9B => k_asm); (case u9F => k_asm); (case u9X => k_asm); (case u9N => k_asm); (case u9T => k_asm); (case u9hk => first | exact rfl | assumption); (case u9hd => ktr_room); (case u9hu => ktr_units)); (intro r' news' h' tk' F' N' hp'; obtain ⟨aw', dw', st', sa', wr', tr', wes', wn', n4', ost', owr', otr', hr', hn', hw'⟩ := hp'; subst hr' hn'; (try dsimp only))); (revert h' tk' F' N' aw' dw' st' sa' wr' tr' wes' wn' n4' ost' owr' otr' hw'; intros)))
  trivial


theorem wt_deedres2 : True := by
  w_top off
  trivial

def whileBody : List Stmt := match lawBody[7]? with
  | some (Stmt.While _ b _ _) => b
  | _ => []
def LStN (w : World) (L : Addr) (a : Adr) (cvs ys : List Value) (md : Int) (b : Nat) (O : List (Addr × Obj)) (n : Nat) (news : List (Addr × Obj)) : Prop :=
  ∃ wes wn ost sas n4 nsv fds nfl o3 R f tls gs, news = ledger L a wes wn ost sas n4 nsv fds nfl o3 O R ∧ LS w L a cvs ys md b O wes ost sas fds o3 R f tls gs ∧ tls.length = n
def RestEnd (w : World) (h₀ : Heap) (L : Addr) (a : Adr) (cvs ys : List Value) (md : Int) (b : Nat) (O : List (Addr × Obj)) (n : Nat) (s : Shared) (f : Flow) (s' : Shared) : Prop :=
  f = .next ∧ ∃ h' tk m' news', s' = { s with heap := h', toks := tk } ∧ Fr h₀ L h' m' ∧ News h₀ L h' news' ∧ MapOk a m' ∧ LStN w L a cvs ys md b O (n - 1) news'
section
theorem rg_27 : True := by
  (k_with "call ref" => (k_here; (with_reducible rename HoldAt 5 => hz9); clear hz9; refine Held.out ?_))
  trivial
theorem deed_restore2 (w : World) {mean : ExcName → Option Value} {mg mb : Str → Option Value} {fa : Addr} {ccd : Value} {h₀ : Heap} {L : Addr} {m : Str → Option Value} {s : Shared} {a : Adr} {cvs ys : List Value} {md : Int} {b : Nat} {O : List (Addr × Obj)} {E : Value → Shared → Prop}
    (sc : Scope) (hsc : sc = lawScope) (body : List Stmt) (hb : body = whileBody) (o : Ord L a)
    (F : Fr h₀ L s.heap m) (X : (hd.heap_39 w.params).In h₀) (T : Top hd.view_39 (looseW hd.view_39 [Str.ofString "SnobolError"]) mean mg mb h₀) (hM : MapOk a m)
    {wes : List DictEntry} {wn n4 nsv nfl : Nat} {ost o3 : Obj} {sas : List Value} {fds R : List (Addr × Obj)} {f : PM} {tls : List (List (Str × Value))} {gs : List PM} (N : News h₀ L s.heap (ledger L a wes wn ost sas n4 nsv fds nfl o3 O R)) (S : LS w L a cvs ys md b O wes ost sas fds o3 R f tls gs) (hpos : 0 < tls.length) (hb9 : b ≤ 70) (hmd : md ≤ 4) :
    wpAny (model PySem.Challenge.rw_sj0188_01.row.prog w) (callerA.deeper (envX (Str.ofString "law") sc L fa ccd (lawCells L))) (execs body (envX (Str.ofString "law") sc L fa ccd (lawCells L))) (RestEnd w h₀ L a cvs ys md (b + 5) O tls.length s) E s := by
  revert X
  k_fill
  intro X
  delta whileBody lawBody lawDef PySem.Challenge.pw_sj0188_01 at hb; dsimp only [List.getLast?, List.getLast, Option.map, Option.getD, List.getElem?_cons_succ, List.getElem?_cons_zero] at hb
  subst hb
  delta lawScope lawDef PySem.Challenge.pw_sj0188_01 at hsc; dsimp only [List.getLast?, List.getLast, Option.map, Option.getD] at hsc
  subst hsc
  have K0 := below_caller h₀
  obtain ⟨m1, hm1⟩ : ∃ m1, m = mapOf a m1 := ⟨m, hM.form⟩
  subst hm1
  clear hM
  have hM := MapOk.of a m1
  unfold mapOf at F
  unfold ledger at N
  obtain ⟨tls, tl, gs, g, rfl, rfl, hl1⟩ := S.ok.last (k := tls.length - 1) (by omega)
  obtain ⟨sas, D, ys9, n9, rfl, hD, hT, hvo, hy9, hA⟩ := S.as.last
  obtain ⟨fds, p9, rfl, hfd, hd9⟩ := S.fd.last
  have h5 := S.five tl (by simp)
  have hle := S.le
  have hal := hA.length
  obtain ⟨o1, o2, o3', o4, o5, s1, s2, s3⟩ := o
  obtain ⟨oF, hoF', hdF⟩ := S.stat.hc2
  have hfl : fds.length ≤ 5 := by
    have h1 := hfd.length
    have h2 := S.ok.len
    simp at h2 hle
    omega
  have hsl : sas.length ≤ 5 := by
    simp at hle
    omega
  have er : refsOf (fds ++ [p9]) = refsOf fds ++ [.ref p9.1] := by simp [refsOf]
  rw [er] at N
  have hrl : (refsOf fds).length ≤ 5 := by simp [refsOf]; exact hfl
  have mR : ∀ p ∈ R, p ∈ fds ++ [p9] ++ (O ++ R) := fun p hp => List.mem_append_right _ (List.mem_append_right _ hp)
  have offA : ∀ p ∈ fds ++ [p9] ++ (O ++ R), OffP L a p.1 := fun p hp => (List.mem_append.mp hp).elim (S.offF p) fun hp => (List.mem_append.mp hp).elim (S.offO p) (S.offR p)
  have hoF := mR _ hoF'
  generalize hr : fds ++ [p9] ++ (O ++ R) = rest at N mR offA hoF
  have zv : ∀ p ∈ (a.fl, listOf (refsOf fds ++ [Value.ref p9.1]).toArray nfl) :: (L + 1 + 1 + 1, o3) :: rest, p.1 ≠ a.sv := by
    intro p hp
    simp only [List.mem_cons] at hp
    rcases hp with rfl | rfl | hp
    · k_ne
    · k_ne
    · exact (offA p hp).2.2.2.1
  have zf : ∀ p ∈ (L + 1 + 1 + 1, o3) :: rest, p.1 ≠ a.fl := by
    intro p hp
    simp only [List.mem_cons] at hp
    rcases hp with rfl | hp
    · k_ne
    · exact (offA p hp).2.2.2.2.1
  have hold5 := HoldAt.mk 5
  k_steps
  refine Held.mk ?_
  with_reducible rename Fr _ _ _ _ => F1
  with_reducible rename News _ _ _ _ => N1
  obtain ⟨td, g2⟩ := S.g2
  have up : ∀ p ∈ R, p ∈ (a.sv, listOf sas.toArray (nsv + 1)) :: (a.fl, listOf (refsOf fds ++ [Value.ref p9.1]).toArray nfl) :: (L + 1 + 1 + 1, o3) :: rest := fun p hp => by
    simp only [List.mem_cons]
    exact .inr (.inr (.inr (mR p hp)))
  have rA : ∀ p ∈ (a.sv, listOf sas.toArray (nsv + 1)) :: (a.fl, listOf (refsOf fds ++ [Value.ref p9.1]).toArray nfl) :: (L + 1 + 1 + 1, o3) :: rest, @Ne Nat p.1 a.dw ∧ @Ne Nat p.1 a.st ∧ @Ne Nat p.1 a.sa := by
    intro p hp
    simp only [List.mem_cons] at hp
    rcases hp with rfl | rfl | rfl | hp
    · exact ⟨by k_ne, by k_ne, by k_ne⟩
    · exact ⟨by k_ne, by k_ne, by k_ne⟩
    · exact ⟨by k_ne, by k_ne, by k_ne⟩
    · exact ⟨(offA p hp).1, (offA p hp).2.1, (offA p hp).2.2.1⟩
  refine Calls.use (restore_calls w (up _ S.stat.haw) (up _ hD) (hT.mono up) hvo S.g1 g2 S.g5 S.dr (by omega) s1 (by omega) (by omega) (by simp; omega) (by omega) S.len (fun p hp => (rA p hp).1) (fun p hp => (rA p hp).2.1) (fun p hp => (rA p hp).2.2) (by k_ne) (by k_ne) (by k_ne)) K0 F1 X N1 T rfl (by ktr_room) (by ktr_units) ?_
  rintro r news' h2 tk2 F2 N3 ⟨es', n', o', n4', rfl, rfl, hz', ho', ⟨t', hd'⟩, hdr'⟩
  clear N1 F1 N
  dsimp only
  have hold5 := HoldAt.mk 5
  k_steps
  refine Held.mk ?_
  with_reducible rename Fr _ _ _ _ => F12
  with_reducible rename News _ _ _ _ => N12
  have hyt := hT.length
  have S2 := S.restore hA hfd hz' ho' hd' hdr' (by omega)
  have N13 := newsSub (news := ledger L a es' n' o' sas n4' (nsv + 1) fds (nfl + 1) o3 O R) N12 (by
    unfold ledger
    rw [← hr]
    intro p hp
    simp only [List.mem_cons, List.mem_append] at hp ⊢
    grind)
  clear N12
  refine Calls.use (S2.chain hmd ⟨o1, o2, o3', o4, o5, s1, s2, s3⟩) K0 F12 X N13 T rfl (by ktr_room) (by ktr_units) ?_
  rintro r news' h3 tk3 F14 N14 ⟨rfl, rfl⟩
  dsimp only
  k_steps
  exact ⟨rfl, _, _, _, _, rfl, F14, N14, hM, es', n', o', sas, n4', _, fds, _, o3, R, _, tls, gs, rfl, S2, by simp⟩
end
theorem rg_28 : True := by
  k_with_none
  (k_with "own lt" => (first | (with_reducible assumption) | ((with_reducible refine Nat.lt_trans ?_ (by assumption)); k_extra "own lt") | exact And.left (by with_reducible assumption) | exact And.left (And.right (by with_reducible assumption)) | exact And.left (And.right (And.right (by with_reducible assumption))) | exact And.left (And.right (And.right (And.right (by with_reducible assumption)))) | exact And.left (And.right (And.right (And.right (And.right (by with_reducible assumption))))) | exact And.left (And.right (And.right (And.right (And.right (And.right (by with_reducible assumption)))))) | exact And.left (And.right (And.right (And.right (And.right (And.right (And.right (by with_reducible assumption))))))) | exact And.left (And.right (And.right (And.right (And.right (And.right (And.right (And.right (by with_reducible assumption)))))))) | exact And.left (And.right (And.right (And.right (And.right (And.right (And.right (And.right (And.right (by with_reducible assumption))))))))) | exact And.left (And.right (And.right (And.right (And.right (And.right (And.right (And.right (And.right (And.right (by with_reducible assumption)))))))))) | exact And.left (And.right (And.right (And.right (And.right (And.right (And.right (And.right (And.right (And.right (And.right (by with_reducible assumption))))))))))) | exact And.left (And.right (And.right (And.right (And.right (And.right (And.right (And.right (And.right (And.right (And.right (And.right (by with_reducible assumption)))))))))))) | exact And.left (And.right (And.right (And.right (And.right (And.right (And.right (And.right (And.right (And.right (And.right (And.right (And.right (by with_reducible assumption))))))))))))) | fail "own lt"))
  (k_with "own ne" => ((refine neN ?_); (try dsimp only); (first | exact Nat.ne_of_gt (by k_extra "own lt") | exact Nat.ne_of_lt (by k_extra "own lt") | fail "own ne")))
  (k_with "getAttr ref" => (k_here; k_dflt (refine' get_own ?u9k1 ?u9k2 ?u9k3 ?u9k4 ?u9k5 ?u9k6 ?u9k7 ?u9k8 ?u9k9 ?_; (case u9k1 => k_asm); (case u9k2 => k_asm); (case u9k3 => k_inst); (case u9k4 => k_is); (case u9k5 => k_is); (case u9k6 => k_is); (case u9k7 => k_is); (case u9k8 => with_reducible assumption); (case u9k9 => k_handed); k_whole)))
  (k_with "getMethod ref" => (k_here; (with_reducible show wpAny _ _ (getMethod (Value.ref _) (Str.ofString "get") _) _ _ _); k_dflt (refine' DR.method ?u9N ?u9m ?u9d ?_; (case u9N => k_asm); (case u9m => k_mem); (case u9d => with_reducible assumption))))
  (k_with "call builtin:dict.get" => ((k_here; k_dflt (refine' DR.get2 ?u9N ?u9m ?u9d ?u9l ?u9v ?_; (case u9N => k_asm); (case u9m => k_mem); (case u9d => with_reducible assumption); (case u9l => with_reducible assumption); (case u9v => first | exact VOk.str _ | with_reducible assumption)); intro r' hv' hd'); (revert r' hv' hd'; intros)))
  (k_with "compareOp In str ref" => (k_here; k_dflt (refine' DR.has ?u9N ?u9m ?u9d ?u9l ?_; (case u9N => k_asm); (case u9m => k_mem); (case u9d => with_reducible assumption); (case u9l => with_reducible assumption))))
  (k_with "setItem ref str" => ((k_here; k_dflt (refine' DR.set ?u9F ?u9N ?u9U ?u9d ?u9v ?u9z ?_; (case u9F => k_asm); (case u9N => k_asm); (case u9U => k_updF); (case u9d => with_reducible assumption); (case u9v => first | exact VOk.str _ | with_reducible assumption); (case u9z => omega)); intro h' o' F' N' hd'; (try dsimp only at N')); (revert h' o' F' N' hd'; intros)))
  (k_with "binaryOp Add ref ref" => ((k_here; k_dflt (refine' addL ?u9k1 ?u9k2 ?u9k3 ?u9k4 ?u9k5 ?_; (case u9k1 => k_asm); (case u9k2 => k_asm); (case u9k3 => k_mem); (case u9k4 => k_mem); (case u9k5 => ktr_rel); k_whole); intro c' h' F' N' l1; (have l2 := l1); (try k_lt l2)); (revert c' h' F' N' l1; intros)))
  (k_with "binaryOp Mult ref int" => ((k_here; k_dflt (refine' mul1 ?u9k1 ?u9k2 ?u9k3 ?u9k4 ?u9k5 ?_; (case u9k1 => k_asm); (case u9k2 => k_asm); (case u9k3 => k_mem); (case u9k4 => omega); (case u9k5 => omega); k_whole); intro c' h' F' N' l1; (have l2 := l1); (try k_lt l2)); (revert c' h' F' N' l1; intros)))
  (k_with "subscriptTail" => ((k_here; k_dflt (refine' sliceTo ?u9k1 ?u9k2 ?u9k3 ?u9k4 ?u9k5 ?_ ?u9k6; (case u9k1 => k_asm); (case u9k2 => k_asm); (case u9k3 => k_mem); (case u9k4 => omega); (case u9k5 => ktr_rel); (case u9k6 => with_unfolding_all rfl); k_whole); intro c' h' F' N' l1; (have l2 := l1); (try k_lt l2)); (revert c' h' F' N' l1; intros)))
  (k_with "subscriptTail" => ((k_here; k_dflt (refine' sliceFrom ?u9k1 ?u9k2 ?u9k3 ?u9k4 ?u9k5 ?_ ?u9k6; (case u9k1 => k_asm); (case u9k2 => k_asm); (case u9k3 => k_mem); (case u9k4 => omega); (case u9k5 => ktr_rel); (case u9k6 => with_unfolding_all rfl); k_whole); intro c' h' F' N' l1; (have l2 := l1); (try k_lt l2)); (revert c' h' F' N' l1; intros)))
  (k_with "subscriptTail" => ((k_here; k_dflt (refine' sliceRev ?u9k1 ?u9k2 ?u9k3 ?u9k5 ?_ ?u9k6; (case u9k1 => k_asm); (case u9k2 => k_asm); (case u9k3 => k_mem); (case u9k5 => ktr_rel); (case u9k6 => with_unfolding_all rfl); k_whole); intro c' h' F' N' l1; (have l2 := l1); (try k_lt l2)); (revert c' h' F' N' l1; intros)))
  (k_with "exec Assign cons ListComp" => (k_here; k_dflt (refine LCg.Assign_ListComp_U (F₀ := by k_asm) (by rfl) (by with_unfolding_all rfl) (by with_unfolding_all rfl) (by decide) (by rfl) (by decide) (by rfl) (by rfl) (by rfl) ?_)))
  (k_with "call builtin:list.append" => ((k_here; k_dflt (refine' appendL ?u9k1 ?u9k2 ?u9k3 ?u9k4 ?_; (case u9k1 => k_asm); (case u9k2 => k_asm); (case u9k3 => k_updF); (case u9k4 => ktr_rel)); intro h' F' N'; (try dsimp only at N')); (revert h' F' N'; intros)))
  (k_with "setAttr ref" => ((k_here; k_dflt (refine' setF ?u9k1 ?u9k2 ?u9k3 ?u9k4 ?u9k5 ?u9k6 ?u9k7 ?u9k8 ?u9k9 ?u9k10 ?u9k11 ?u9k12 ?_; (case u9k1 => k_asm); (case u9k2 => k_asm); (case u9k3 => k_asm); (case u9k4 => k_inst); (case u9k5 => exact rfl); (case u9k6 => k_is); (case u9k7 => k_is); (case u9k8 => k_is); (case u9k9 => k_is); (case u9k10 => with_reducible assumption); (case u9k11 => k_updF); (case u9k12 => with_reducible assumption)); intro es' n' h' hz' ho' hs' F' N'; (try dsimp only at N'); (try (have q' := (ho' (Str.ofString "store") (by decide)).trans (by with_reducible assumption))); (try (have q' := (ho' (Str.ofString "aside") (by decide)).trans (by with_reducible assumption)))); (revert es' n' h' hz' ho' hs' F' N'; intros)))
  (k_with "call builtin:len" => (k_here; (with_reducible show wpAny _ _ (call (Value.builtin "len") [Value.ref _]) _ _ _); k_dflt (refine' lenL ?u9N ?u9m ?u9z ?_; (case u9N => k_asm); (case u9m => k_mem); (case u9z => ktr_rel)); (try dsimp only)))
  (k_with "call builtin:list.pop" => ((k_here; (try dsimp only); k_dflt (refine' popL ?u9k1 ?u9k2 ?u9k3 ?u9k4 ?_; (case u9k1 => k_asm); (case u9k2 => k_asm); (case u9k3 => k_updF); (case u9k4 => ktr_rel)); intro h' F' N'; (try dsimp only at N')); (revert h' F' N'; intros)))
  (k_with "call ref" => ((k_here; (with_reducible show wpAny _ _ (call (Value.ref 87) _) _ _ _); k_dflt (refine' Calls.use (plain_var_calls _ ?u9a1 ?u9a2 ?u9a3 ?u9a4 ?u9a5 ?u9a6) ?u9B ?u9F ?u9X ?u9N ?u9T ?u9hk ?u9hd ?u9hu ?_; (case u9B => k_asm); (case u9F => k_asm); (case u9X => k_asm); (case u9N => k_asm); (case u9T => k_asm); (case u9hk => first | exact rfl | assumption); (case u9hd => ktr_room); (case u9hu => ktr_units); (case u9a1 => k_mem); (case u9a2 => k_mem); (case u9a4 => with_reducible assumption); (case u9a3 => k_mem); (case u9a5 => with_reducible assumption); (case u9a6 => with_reducible assumption)); (intro r' news' h' tk' F' N' hp'; obtain ⟨hn', hv', hd'⟩ := hp'; subst hn'; (try dsimp only))); (revert r' h' tk' F' N' hv' hd'; intros)))
  (k_with "call ref" => ((k_here; (with_reducible show wpAny _ _ (call (Value.ref 122) _) _ _ _); k_dflt (refine' Calls.use (own_names_calls _ ?u9a1 ?u9a2 ?u9a3 ?u9a4 ?u9a5 ?u9a6 ?u9a7 ?u9a8 ?u9a9) ?u9B ?u9F ?u9X ?u9N ?u9T ?u9hk ?u9hd ?u9hu ?_; (case u9B => k_asm); (case u9F => k_asm); (case u9X => k_asm); (case u9N => k_asm); (case u9T => k_asm); (case u9hk => first | exact rfl | assumption); (case u9hd => ktr_room); (case u9hu => ktr_units); (case u9a1 => k_mem); (case u9a2 => k_mem); (case u9a5 => with_reducible assumption); (case u9a6 => with_reducible assumption); (case u9a7 => with_reducible assumption); (case u9a3 => k_mem); (case u9a4 => k_mem); (case u9a8 => with_reducible assumption); (case u9a9 => with_reducible assumption)); (intro r' news' h' tk' F' N' hp'; obtain ⟨l', hr', hn', l1⟩ := hp'; subst hr' hn'; (have l2 := l1); (try k_lt l2); (try dsimp only))); (revert h' tk' F' N' l' l1; intros)))
  (k_with "call ref" => ((k_here; (with_reducible show wpAny _ _ (call (Value.ref 129) _) _ _ _); k_dflt (refine' Calls.use (filled_args_calls _ ?u9a1 ?u9a2 ?u9a3) ?u9B ?u9F ?u9X ?u9N ?u9T ?u9hk ?u9hd ?u9hu ?_; (case u9B => k_asm); (case u9F => k_asm); (case u9X => k_asm); (case u9N => k_asm); (case u9T => k_asm); (case u9hk => first | exact rfl | assumption); (case u9hd => ktr_room); (case u9hu => ktr_units); (case u9a1 => k_mem); (case u9a2 => ktr_rel); (case u9a3 => ktr_rel)); (intro r' news' h' tk' F' N' hp'; obtain ⟨l', u', hr', hn', l1⟩ := hp'; subst hr' hn'; (have l2 := l1); (try k_lt l2); (try dsimp only))); (revert h' tk' F' N' l' u' l1; intros)))
  (k_with "compareOp In str ref" => (k_here; k_dflt (refine' HasD.not ?u9N ?u9m ?u9d ?u9l ?u9p ?_; (case u9N => k_asm); (case u9m => k_mem); (case u9d => with_reducible assumption); (case u9l => with_reducible assumption); (case u9p => with_reducible assumption))))
  (k_with "subscriptTail" => ((k_here; (with_reducible refine' itemStr (ss := words5) ?u9k1 ?u9k3 ?u9k4 ?u9k5 ?u9k6 ?u9k7 ?_ ?u9k8); k_dflt ((case u9k1 => k_asm); (case u9k3 => k_mem); (case u9k4 => exact StrsAre.cons _ _ (StrsAre.cons _ _ (StrsAre.cons _ _ (StrsAre.cons _ _ (StrsAre.cons _ _ StrsAre.nil))))); (case u9k5 => with_reducible assumption); (case u9k6 => with_reducible assumption); (case u9k7 => decide); (case u9k8 => with_unfolding_all rfl); k_whole); intro x' t' e'); (revert x' t' e'; intros)))
  (k_with "subscriptTail" => (k_here; (with_reducible refine' itemRef ?u9k1 ?u9k3 ?u9k5 ?u9k7 ?u9k4 ?_ ?u9k8); k_dflt ((case u9k1 => k_asm); (case u9k3 => k_mem); (case u9k4 => with_reducible assumption); (case u9k5 => first | with_reducible assumption | omega); (case u9k7 => ktr_rel); (case u9k8 => with_unfolding_all rfl))))
  (k_with "eval Dict" => ((k_here; k_dflt (refine' kdn_eval (knd := PySem.strKind _ _) ?u9F ?u9N ?u9b ?u9a ?u9l ?u9e ?u9n ?_; (case u9F => k_asm); (case u9N => k_asm); (case u9b => exact Top.nolimit (by k_asm)); (case u9a => rfl); (case u9l => rfl); (case u9e => exact List.cons_ne_nil _ _); (case u9n => exact Nat.le_of_ble_eq_true rfl)); intro d' h' o' F' N' l1 lo' hd'; (have l2 := l1); (try k_lt l2)); (revert d' h' o' F' N' l1 lo' hd'; intros)))
  (k_with "KdnMade" => ((k_here; k_dflt (refine' made1 ?u9F ?u9N ?u9U ?u9d ?u9v ?_; (case u9F => k_asm); (case u9N => k_asm); (case u9U => k_updF); (case u9d => k_asm); (case u9v => first | exact VOk.str _ | with_reducible assumption)); intro h' o' F' N' hd'; (try dsimp only at N')); (revert h' o' F' N' hd'; intros)))
  (k_with "subscriptTail" => ((k_here; (with_reducible refine' itemPad ?u9k1 ?u9k3 ?u9k4 ?u9k5 ?u9k7 ?_ ?u9k8); k_dflt ((case u9k1 => k_asm); (case u9k3 => k_mem); (case u9k4 => with_reducible assumption); (case u9k5 => omega); (case u9k7 => omega); (case u9k8 => with_unfolding_all rfl)); intro r' hv' hd'); (revert r' hv' hd'; intros)))
  (k_with "call ref" => ((k_here; (with_reducible show wpAny _ _ (call (Value.ref 148) _) _ _ _); k_dflt (refine' Calls.use (law_names_calls _ ?u9a1) ?u9B ?u9F ?u9X ?u9N ?u9T ?u9hk ?u9hd ?u9hu ?_; (case u9B => k_asm); (case u9F => k_asm); (case u9X => k_asm); (case u9N => k_asm); (case u9T => k_asm); (case u9hk => first | exact rfl | assumption); (case u9hd => ktr_room); (case u9hu => ktr_units); (case u9a1 => with_reducible assumption)); (intro r' news' h' tk' F' N' hp'; obtain ⟨l', vs', hr', hn', l1, hS'⟩ := hp'; subst hr' hn'; (have l2 := l1); (try k_lt l2); (try dsimp only))); (revert h' tk' F' N' l' vs' l1 hS'; intros)))
  (k_with "compareOp In str ref" => (k_here; k_dflt (refine' DR.hasT ?u9N ?u9m ?u9d ?u9l ?u9p ?_; (case u9N => k_asm); (case u9m => k_mem); (case u9d => with_reducible assumption); (case u9l => with_reducible assumption); (case u9p => with_reducible assumption))))
  (k_with "compareOp In str ref" => (k_here; k_dflt (refine' DR.hasF ?u9N ?u9m ?u9d ?u9l ?u9p ?_; (case u9N => k_asm); (case u9m => k_mem); (case u9d => with_reducible assumption); (case u9l => with_reducible assumption); (case u9p => with_reducible assumption))))
  (k_with "subscriptTail" => ((k_here; (with_reducible refine' DR.item ?u9N ?u9m ?u9d ?u9p ?_ ?u9e); k_dflt ((case u9N => k_asm); (case u9m => k_mem); (case u9d => with_reducible assumption); (case u9p => with_reducible assumption); (case u9e => with_unfolding_all rfl)); intro r' hv' hd'); (revert r' hv' hd'; intros)))
  (k_with "call ref" => ((k_here; (with_reducible show wpAny _ _ (call (Value.ref 162) _) _ _ _); k_dflt (refine' Calls.use (law_found_calls _ ?u9a1 (FrAt.mono ?u9a0 (Nat.le_refl _) ?u9a2) ?u9a3) ?u9B ?u9F ?u9X ?u9N ?u9T ?u9hk ?u9hd ?u9hu ?_; (case u9B => k_asm); (case u9F => k_asm); (case u9X => k_asm); (case u9N => k_asm); (case u9T => k_asm); (case u9hk => first | exact rfl | assumption); (case u9hd => ktr_room); (case u9hu => ktr_units); (case u9a1 => k_mem); (case u9a2 => with_reducible assumption); (case u9a0 => tb_start); (case u9a3 => ktr_rel)); (intro r' news' h' tk' F' N' hp'; obtain ⟨hn', hv', hd'⟩ := hp'; subst hn'; (try dsimp only))); (revert r' h' tk' F' N' hv' hd'; intros)))
  (k_with "subscriptTail" => ((k_here; (with_reducible refine' cellItem ?u9k1 ?u9k3 ?u9k4 ?u9k5 ?u9k7 ?_ ?u9k8); k_dflt ((case u9k1 => k_asm); (case u9k3 => k_mem); (case u9k4 => with_reducible assumption); (case u9k5 => omega); (case u9k7 => omega); (case u9k8 => with_unfolding_all rfl)); intro c' t' hc'); (revert c' t' hc'; intros)))
  (k_with "subscriptTail" => ((k_here; (with_reducible refine' fghItem ?u9k1 ?u9k2 ?_ ?u9k3 ?u9k4); k_dflt ((case u9k1 => omega); (case u9k2 => omega); (case u9k3 => with_unfolding_all rfl); (case u9k4 => (intro _; with_unfolding_all rfl))); intro x' t' tk' hx'); (revert x' t' tk' hx'; intros)))
  (k_with "call ref" => ((k_here; (with_reducible show wpAny _ _ (call (Value.ref 76) _) _ _ _); k_dflt (refine' Calls.use (world_calls _) ?u9B ?u9F ?u9X ?u9N ?u9T ?u9hk ?u9hd ?u9hu ?_; (case u9B => k_asm); (case u9F => k_asm); (case u9X => k_asm); (case u9N => k_asm); (case u9T => k_asm); (case u9hk => first | exact rfl | assumption); (case u9hd => ktr_room); (case u9hu => ktr_units)); (intro r' news' h' tk' F' N' hp'; obtain ⟨aw', dw', st', sa', wr', tr', wes', wn', n4', ost', owr', otr', hr', hn', hw'⟩ := hp'; subst hr' hn'; (try dsimp only))); (revert h' tk' F' N' aw' dw' st' sa' wr' tr' wes' wn' n4' ost' owr' otr' hw'; intros)))
  trivial


theorem wt_loop : True := by
  w_top off
  trivial

section
variable {prog : Program} {w : World} {A : Around} {E : Value → Shared → Prop} {s : Shared} {env : Env} {h₀ : Heap} {m : Str → Option Value} {news : List (Addr × Obj)}
/-- a loop over range(a) whose ledger may grow -/
theorem rangeUpG {a : Nat} {t : Tok} {x : Str} {body : List Stmt} {Q : Flow → Shared → Prop} (J : Nat → (Str → Option Value) → List (Addr × Obj) → Prop) (hh : A.handled = none)
    (F : Fr h₀ env.locals s.heap m) (N : News h₀ env.locals s.heap news) (hz : a ≤ 1000) (h0 : J 0 m news)
    (step : ∀ i u m₁ news₁ (s₁ : Shared) own, i < a → J i m₁ news₁ → (∀ p ∈ own, ∀ q ∈ news₁, p.1 ≠ q.1) → (∃ h tk, s₁ = { s with heap := h, toks := tk }) → Fr h₀ env.locals s₁.heap (fun y => if y = x then some (.int (i : Int) u) else m₁ y) → News h₀ env.locals s₁.heap (own ++ news₁) →
      wpAny (model prog w) A (execs body env) (fun f s₂ => f = .next ∧ ∃ h' tk m' news', s₂ = { s₁ with heap := h', toks := tk } ∧ Fr h₀ env.locals h' m' ∧ News h₀ env.locals h' (own ++ news') ∧ (∀ p ∈ own, ∀ q ∈ news', p.1 ≠ q.1) ∧ J (i + 1) m' news') E s₁)
    (done : ∀ h' tk m' news', Fr h₀ env.locals h' m' → News h₀ env.locals h' news' → J a m' news' → Q .next { s with heap := h', toks := tk }) :
    wpAny (model prog w) A (call (.type "range") [.int (a : Int) t]) (fun xv s₁ => wpAny (model prog w) A (pyIter xv) (fun it s₂ => LoopAtV prog w A h₀ env x body Q E it s₂) E s₁) E s := by
  have hrs : Builtin.Range.rangeSize 0 (a : Int) 1 = (a : Nat) := by
    unfold Builtin.Range.rangeSize
    rw [if_pos (by decide), Int.ediv_one]
    split <;> omega
  have hsm : Builtin.Range.small 0 (a : Int) 1 = true := by
    unfold Builtin.Range.small
    rw [hrs]
    unfold Builtin.Range.rangeFitsLong
    simp
    omega
  refine call_range_1 ?_
  refine wpAny_pyIter_range (Heap.get?_push_size _ rfl) hsm ?_
  rw [hrs]
  dsimp only
  generalize hh2 : s.heap.push { cls := .type "range", data := .fields #[.int 0 s.toks, .int (a : Int) t, .int 1 (s.toks + 1)] } = h2
  have F2 : Fr h₀ env.locals h2 m := hh2 ▸ F.push _
  have N2 : News h₀ env.locals h2 news := hh2 ▸ fun p hp => ⟨Heap.get?_push_of_some _ (N p hp).1, (N p hp).2⟩
  have W := Walks.range (prog := prog) (w := w) hh h2.objs.size 0 1 a
  have hI0 : h₀.get? h2.objs.size = none := next_is_new F2
  refine ⟨_, _, _, a, _, _, m, news, J, rfl, W, ?_, ?_, ?_, ?_, F2.push _, (fun p hp => ⟨Heap.get?_push_of_some _ (N2 p hp).1, (N2 p hp).2⟩), h0, ?_, ?_⟩
  · intro hm
    exact absurd F2.ns.lt (by rw [List.mem_singleton.mp hm]; exact Nat.lt_irrefl _)
  · intro b hb
    rw [List.mem_singleton.mp hb]
    exact hI0
  · intro p hp hm
    exact absurd (Heap.lt_size (N2 p hp).1) (by rw [List.mem_singleton.mp hm]; exact Nat.lt_irrefl _)
  · have e1 : (0 : Int) + ((0 : Nat) : Int) * 1 = 0 := by simp
    have e2 : ((a : Nat) : Int) - ((0 : Nat) : Int) = a := by simp
    show IsRangeIter _ _ ((0 : Int) + ((0 : Nat) : Int) * 1) (((a : Nat) : Int) - ((0 : Nat) : Int)) 1
    rw [e1, e2]
    exact Heap.get?_push_size _ rfl
  · rintro i v m₁ news₁ s₁ own ⟨hh', tk', rfl⟩ hin ⟨u', rfl⟩ hJ hoff hown howh hback hst F₁ N₁
    have hst' : IsRangeIter hh' h2.objs.size ((0 : Int) + ((i + 1 : Nat) : Int) * 1) ((a : Int) - ((i + 1 : Nat) : Int)) 1 := hst
    have hI : (h2.objs.size, _) ∈ own := hback h2.objs.size (List.mem_singleton.mpr rfl) hI0 _ hst'
    have e : (0 : Int) + (i : Int) * 1 = (i : Int) := by omega
    rw [e] at F₁
    refine wpAny_mono (step i u' m₁ news₁ _ own hin hJ (fun p hp q hq e => hoff q hq (e ▸ hown p hp)) ⟨_, _, rfl⟩ F₁ N₁) (fun f s₂ p => ?_) fun _ _ e => e
    obtain ⟨rfl, h', tk, m', news', e, F', N', hsep, hm⟩ := p
    refine .next ⟨rfl, h', tk, m', news', e, F', N', fun q hq hq2 => ?_, hm⟩
    exact hsep _ hI q hq (List.mem_singleton.mp hq2).symm
  · rintro h' tk m' news' F' N' _ hJ
    exact done h' tk m' news' F' N' hJ
end
theorem LS.withO {w : World} {L : Addr} {a : Adr} {cvs ys : List Value} {md : Int} {b : Nat} {own : List (Addr × Obj)} {wes : List DictEntry} {ost o3 : Obj} {sas : List Value} {fds R : List (Addr × Obj)} {f : PM} {tls : List (List (Str × Value))} {gs : List PM} {wn n4 nsv nfl : Nat}
    (S : LS w L a cvs ys md b [] wes ost sas fds o3 R f tls gs) (hsep : ∀ p ∈ own, ∀ q ∈ ledger L a wes wn ost sas n4 nsv fds nfl o3 [] R, p.1 ≠ q.1) : LS w L a cvs ys md b own wes ost sas fds o3 R f tls gs :=
  { S with
    offO := fun p hp => by
      have h := hsep p hp
      unfold ledger at h
      simp only [List.forall_mem_cons] at h
      exact ⟨h.1, h.2.1, h.2.2.1, h.2.2.2.1, h.2.2.2.2.1, h.2.2.2.2.2.1⟩
    apart := fun p hp q hq => by
      rcases List.mem_append.mp hp with hp | hp
      · exact hsep p hp q (by unfold ledger; simp only [List.mem_cons, List.mem_append]; grind)
      · exact S.apart p (List.mem_append_right _ hp) q hq
    apartO := fun p hp q hq => hsep p hp q (by unfold ledger; simp only [List.mem_cons, List.mem_append]; grind) }
theorem LS.dropO {w : World} {L : Addr} {a : Adr} {cvs ys : List Value} {md : Int} {b : Nat} {own : List (Addr × Obj)} {wes : List DictEntry} {ost o3 : Obj} {sas : List Value} {fds R : List (Addr × Obj)} {f : PM} {tls : List (List (Str × Value))} {gs : List PM} {wn n4 nsv nfl : Nat}
    (S : LS w L a cvs ys md b own wes ost sas fds o3 R f tls gs) : LS w L a cvs ys md b [] wes ost sas fds o3 R f tls gs ∧ ∀ p ∈ own, ∀ q ∈ ledger L a wes wn ost sas n4 nsv fds nfl o3 [] R, p.1 ≠ q.1 := by
  refine ⟨{ S with offO := (fun p hp => nomatch hp), apart := (fun p hp q hq => S.apart p (List.mem_append_right _ (by simpa using hp)) q hq), apartO := (fun p hp => nomatch hp) }, fun p hp q hq => ?_⟩
  obtain ⟨h1, h2, h3, h4, h5, h6⟩ := S.offO p hp
  unfold ledger at hq
  simp only [List.mem_cons, List.mem_append, List.not_mem_nil, false_or] at hq
  rcases hq with rfl | rfl | rfl | rfl | rfl | rfl | hq | hq
  · exact h1
  · exact h2
  · exact h3
  · exact h4
  · exact h5
  · exact h6
  · exact S.apart p (List.mem_append_left _ hp) q hq
  · exact S.apartO p hp q hq


theorem wt_rest : True := by
  w_top off
  trivial

section
theorem rg_29 : True := by
  (k_with "execs cons" => (k_here; (with_reducible rename HoldAt 7 => hz9); clear hz9; refine Held.out ?_))
  (k_with "exec For" => (k_here; refine Held.out ?_))
  (k_with "exec For Name Call cons nil" => (k_here; refine Held.out ?_))
  (k_with "call type:range" => (k_here; refine Held.out ?_))
  (k_with "exec While" => (k_here; refine Held.out ?_))
  (k_with "exec While Compare" => (k_here; refine Held.out ?_))
  (k_with "exec While Compare cons nil" => (k_here; refine Held.out ?_))
  trivial
theorem law_rest (w : World) {mean : ExcName → Option Value} {mg mb : Str → Option Value} {fa : Addr} {ccd : Value} {h₀ : Heap} {L : Addr} {m : Str → Option Value} {s : Shared} {a : Adr} {cvs ys : List Value} {md : Int} {news : List (Addr × Obj)} {Q : Flow → Shared → Prop} {E : Value → Shared → Prop}
    (sc : Scope) (hsc : sc = lawScope) (body : List Stmt) (hb : body = lawBody.drop 6) (o : Ord L a)
    (F : Fr h₀ L s.heap m) (X : (hd.heap_39 w.params).In h₀) (T : Top hd.view_39 (looseW hd.view_39 [Str.ofString "SnobolError"]) mean mg mb h₀) (N : News h₀ L s.heap news) (hM : MapOk a m)
    (hS : LSt w L a cvs ys md 0 [] news) (hmd : md ≤ 4) (hE : PassesOwn (model PySem.Challenge.rw_sj0188_01.row.prog w) (callerA.deeper (envX (Str.ofString "law") sc L fa ccd (lawCells L))) (envX (Str.ofString "law") sc L fa ccd (lawCells L)) E)
    (hQ : ∀ h' tk m', Fr h₀ L h' m' → Q (.ret (.bool true)) { s with heap := h', toks := tk }) :
    wpAny (model PySem.Challenge.rw_sj0188_01.row.prog w) (callerA.deeper (envX (Str.ofString "law") sc L fa ccd (lawCells L))) (execs body (envX (Str.ofString "law") sc L fa ccd (lawCells L))) Q E s := by
  revert X
  k_fill
  intro X
  have hsc0 := hsc
  delta lawBody lawDef PySem.Challenge.pw_sj0188_01 at hb; dsimp only [List.getLast?, List.getLast, Option.map, Option.getD, List.drop] at hb
  subst hb
  delta lawScope lawDef PySem.Challenge.pw_sj0188_01 at hsc; dsimp only [List.getLast?, List.getLast, Option.map, Option.getD] at hsc
  subst hsc
  have K0 := below_caller h₀
  obtain ⟨wes, wn, ost, sas, n4, nsv, fds, nfl, o3, R, f, tls, gs, rfl, S⟩ := hS
  obtain ⟨m1, rfl⟩ : ∃ m1, m = mapOf a m1 := ⟨m, hM.form⟩
  have F0 := F
  have N0 := N
  unfold mapOf at F
  unfold ledger at N
  have mR : ∀ p ∈ R, p ∈ fds ++ ([] ++ R) := fun p hp => List.mem_append_right _ (List.mem_append_right _ hp)
  obtain ⟨oC, hoC', hdC⟩ := S.stat.hc1
  have hoC := mR _ hoC'
  have hc9 := mR _ S.stat.hc9
  have hcc := S.stat.cells
  generalize hr : fds ++ ([] ++ R) = rest at N mR hoC hc9
  k_steps
  refine Held.mk ?_
  refine For_invVF F (by rfl) (by rfl) ?_ (by intro _; with_unfolding_all rfl) hE
  k_steps
  refine Held.mk ?_
  rename_i c tc hc0
  have hmod := Nat.mod_lt c.toNat (show 0 < 9 by decide)
  have ea : 1 + c.fmod 9 = ((1 + c.toNat % 9 : Nat) : Int) := by
    rw [show c.fmod 9 = _ from fm hc0 9]
    omega
  rw [ea]
  generalize hna : 1 + c.toNat % 9 = na
  have hna9 : na ≤ 9 := by omega
  clear hmod ea hna
  refine rangeUpG (fun i m₁ nw => MapOk a m₁ ∧ LSt w L a cvs ys md (5 * i) [] nw) rfl F0 N0 (by omega) ⟨hM, wes, wn, ost, sas, n4, nsv, fds, nfl, o3, R, f, tls, gs, rfl, S⟩ ?step ?done
  case step =>
    rintro i u m₁ news₁ s₁ own hi ⟨hM1, wes, wn, ost, sas, n4, nsv, fds, nfl, o3, R, f, tls, gs, rfl, S1⟩ hsep _ Fs Ns
    have N2 := newsSub (news := ledger L a wes wn ost sas n4 nsv fds nfl o3 own R) Ns (by
      unfold ledger
      intro p hp
      simp only [List.mem_cons, List.mem_append] at hp ⊢
      grind)
    refine wpAny_mono (turn w _ hsc0 _ (by delta forBody lawBody lawDef PySem.Challenge.pw_sj0188_01; dsimp only [List.getLast?, List.getLast, Option.map, Option.getD, List.getElem?_cons_succ, List.getElem?_cons_zero]) o Fs X T N2 (MapOk.store hM1 (by decide +kernel)) (if_pos rfl) (Nat.lt_of_lt_of_le hi hna9) ⟨wes, wn, ost, sas, n4, nsv, fds, nfl, o3, R, f, tls, gs, rfl, S1.withO hsep⟩ (by omega) hmd) (fun f' s' hd => ?_) fun _ _ x => x
    obtain ⟨rfl, h', tk', m', news', rfl, F', N', hM', wes', wn', ost', sas', n4', nsv', fds', nfl', o3', R', f', tls', gs', rfl, S'⟩ := hd
    obtain ⟨S2, hsep2⟩ := S'.dropO (wn := wn') (n4 := n4') (nsv := nsv') (nfl := nfl')
    refine ⟨rfl, h', tk', m', ledger L a wes' wn' ost' sas' n4' nsv' fds' nfl' o3' [] R', rfl, F', newsSub N' ?_, hsep2, hM', wes', wn', ost', sas', n4', nsv', fds', nfl', o3', R', f', tls', gs', rfl, S2⟩
    unfold ledger
    intro p hp
    simp only [List.mem_cons, List.mem_append, List.not_mem_nil, false_or] at hp ⊢
    grind
  case done =>
    rintro h' tk m' news' F' N' ⟨hM', wes, wn, ost, sas, n4, nsv, fds, nfl, o3, R, f, tls, gs, rfl, S⟩
    have hle := S.le
    dsimp only
    k_steps
    refine Held.mk ?_
    refine While_inv (L := L) (fun n m₁ nw => MapOk a m₁ ∧ ∃ b, b + 5 * n ≤ 70 ∧ LStN w L a cvs ys md b [] n nw) (n₀ := tls.length) F' N' ⟨hM', 5 * na, by omega, wes, wn, ost, sas, n4, nsv, fds, nfl, o3, R, f, tls, gs, rfl, S, rfl⟩ ?turn hE
    case turn =>
      rintro n m₁ news₁ h₁ tk₁ F₁ N₁ ⟨hM1, b, hb, wes, wn, ost, sas, n4, nsv, fds, nfl, o3, R, f, tls, gs, rfl, S1, hn⟩
      obtain ⟨m3, rfl⟩ : ∃ m3, m₁ = mapOf a m3 := ⟨m₁, hM1.form⟩
      have N9 := N₁
      have F9 := F₁
      unfold mapOf at F₁
      unfold ledger at N₁
      have hal := S1.as.length
      have hle := S1.le
      have hsl : sas.length ≤ 5 := by omega
      have el : (refsOf fds).length = tls.length + 1 := by
        have h1 := S1.fd.length
        have h2 := S1.ok.len
        have h4 : (refsOf fds).length = fds.length := by simp [refsOf]
        omega
      have hrl : (refsOf fds).length ≤ 6 := by omega
      obtain ⟨oF, hoF', hdF⟩ := S1.stat.hc2
      have hoF : (L + 1 + 1, oF) ∈ fds ++ ([] ++ R) := List.mem_append_right _ (List.mem_append_right _ hoF')
      clear hoC' hdC hoC hc9 hcc mR
      generalize hr : fds ++ ([] ++ R) = rest at N₁ hoF
      have hold7 := HoldAt.mk 7
      k_steps
      · refine Held.mk ?_
        refine wpAny_mono (deed_restore2 w _ hsc0 _ (by delta whileBody lawBody lawDef PySem.Challenge.pw_sj0188_01; dsimp only [List.getLast?, List.getLast, Option.map, Option.getD, List.getElem?_cons_succ, List.getElem?_cons_zero]) o F9 X T hM1 N9 S1 (by omega) (by omega) hmd) (fun f' s' hd => ?_) fun _ _ x => x
        obtain ⟨rfl, h2, tk2, m2, news2, rfl, F2, N2, hM2, hS2⟩ := hd
        rw [hn] at hS2
        exact ⟨rfl, h2, tk2, m2, news2, n - 1, rfl, F2, N2, by omega, hM2, b + 5, by omega, hS2⟩
      · refine Held.mk ?_
        k_steps
        have e1 : (((refsOf fds).length : Int) == 1) = true := by rw [beq_iff_eq]; omega
        rw [e1]
        exact hQ _ _ _ F9
end
theorem rg_30 : True := by
  k_with_none
  (k_with "own lt" => (first | (with_reducible assumption) | ((with_reducible refine Nat.lt_trans ?_ (by assumption)); k_extra "own lt") | exact And.left (by with_reducible assumption) | exact And.left (And.right (by with_reducible assumption)) | exact And.left (And.right (And.right (by with_reducible assumption))) | exact And.left (And.right (And.right (And.right (by with_reducible assumption)))) | exact And.left (And.right (And.right (And.right (And.right (by with_reducible assumption))))) | exact And.left (And.right (And.right (And.right (And.right (And.right (by with_reducible assumption)))))) | exact And.left (And.right (And.right (And.right (And.right (And.right (And.right (by with_reducible assumption))))))) | exact And.left (And.right (And.right (And.right (And.right (And.right (And.right (And.right (by with_reducible assumption)))))))) | exact And.left (And.right (And.right (And.right (And.right (And.right (And.right (And.right (And.right (by with_reducible assumption))))))))) | exact And.left (And.right (And.right (And.right (And.right (And.right (And.right (And.right (And.right (And.right (by with_reducible assumption)))))))))) | exact And.left (And.right (And.right (And.right (And.right (And.right (And.right (And.right (And.right (And.right (And.right (by with_reducible assumption))))))))))) | exact And.left (And.right (And.right (And.right (And.right (And.right (And.right (And.right (And.right (And.right (And.right (And.right (by with_reducible assumption)))))))))))) | exact And.left (And.right (And.right (And.right (And.right (And.right (And.right (And.right (And.right (And.right (And.right (And.right (And.right (by with_reducible assumption))))))))))))) | fail "own lt"))
  (k_with "own ne" => ((refine neN ?_); (try dsimp only); (first | exact Nat.ne_of_gt (by k_extra "own lt") | exact Nat.ne_of_lt (by k_extra "own lt") | fail "own ne")))
  (k_with "getAttr ref" => (k_here; k_dflt (refine' get_own ?u9k1 ?u9k2 ?u9k3 ?u9k4 ?u9k5 ?u9k6 ?u9k7 ?u9k8 ?u9k9 ?_; (case u9k1 => k_asm); (case u9k2 => k_asm); (case u9k3 => k_inst); (case u9k4 => k_is); (case u9k5 => k_is); (case u9k6 => k_is); (case u9k7 => k_is); (case u9k8 => with_reducible assumption); (case u9k9 => k_handed); k_whole)))
  (k_with "getMethod ref" => (k_here; (with_reducible show wpAny _ _ (getMethod (Value.ref _) (Str.ofString "get") _) _ _ _); k_dflt (refine' DR.method ?u9N ?u9m ?u9d ?_; (case u9N => k_asm); (case u9m => k_mem); (case u9d => with_reducible assumption))))
  (k_with "call builtin:dict.get" => ((k_here; k_dflt (refine' DR.get2 ?u9N ?u9m ?u9d ?u9l ?u9v ?_; (case u9N => k_asm); (case u9m => k_mem); (case u9d => with_reducible assumption); (case u9l => with_reducible assumption); (case u9v => first | exact VOk.str _ | with_reducible assumption)); intro r' hv' hd'); (revert r' hv' hd'; intros)))
  (k_with "compareOp In str ref" => (k_here; k_dflt (refine' DR.has ?u9N ?u9m ?u9d ?u9l ?_; (case u9N => k_asm); (case u9m => k_mem); (case u9d => with_reducible assumption); (case u9l => with_reducible assumption))))
  (k_with "setItem ref str" => ((k_here; k_dflt (refine' DR.set ?u9F ?u9N ?u9U ?u9d ?u9v ?u9z ?_; (case u9F => k_asm); (case u9N => k_asm); (case u9U => k_updF); (case u9d => with_reducible assumption); (case u9v => first | exact VOk.str _ | with_reducible assumption); (case u9z => omega)); intro h' o' F' N' hd'; (try dsimp only at N')); (revert h' o' F' N' hd'; intros)))
  (k_with "binaryOp Add ref ref" => ((k_here; k_dflt (refine' addL ?u9k1 ?u9k2 ?u9k3 ?u9k4 ?u9k5 ?_; (case u9k1 => k_asm); (case u9k2 => k_asm); (case u9k3 => k_mem); (case u9k4 => k_mem); (case u9k5 => ktr_rel); k_whole); intro c' h' F' N' l1; (have l2 := l1); (try k_lt l2)); (revert c' h' F' N' l1; intros)))
  (k_with "binaryOp Mult ref int" => ((k_here; k_dflt (refine' mul1 ?u9k1 ?u9k2 ?u9k3 ?u9k4 ?u9k5 ?_; (case u9k1 => k_asm); (case u9k2 => k_asm); (case u9k3 => k_mem); (case u9k4 => omega); (case u9k5 => omega); k_whole); intro c' h' F' N' l1; (have l2 := l1); (try k_lt l2)); (revert c' h' F' N' l1; intros)))
  (k_with "subscriptTail" => ((k_here; k_dflt (refine' sliceTo ?u9k1 ?u9k2 ?u9k3 ?u9k4 ?u9k5 ?_ ?u9k6; (case u9k1 => k_asm); (case u9k2 => k_asm); (case u9k3 => k_mem); (case u9k4 => omega); (case u9k5 => ktr_rel); (case u9k6 => with_unfolding_all rfl); k_whole); intro c' h' F' N' l1; (have l2 := l1); (try k_lt l2)); (revert c' h' F' N' l1; intros)))
  (k_with "subscriptTail" => ((k_here; k_dflt (refine' sliceFrom ?u9k1 ?u9k2 ?u9k3 ?u9k4 ?u9k5 ?_ ?u9k6; (case u9k1 => k_asm); (case u9k2 => k_asm); (case u9k3 => k_mem); (case u9k4 => omega); (case u9k5 => ktr_rel); (case u9k6 => with_unfolding_all rfl); k_whole); intro c' h' F' N' l1; (have l2 := l1); (try k_lt l2)); (revert c' h' F' N' l1; intros)))
  (k_with "subscriptTail" => ((k_here; k_dflt (refine' sliceRev ?u9k1 ?u9k2 ?u9k3 ?u9k5 ?_ ?u9k6; (case u9k1 => k_asm); (case u9k2 => k_asm); (case u9k3 => k_mem); (case u9k5 => ktr_rel); (case u9k6 => with_unfolding_all rfl); k_whole); intro c' h' F' N' l1; (have l2 := l1); (try k_lt l2)); (revert c' h' F' N' l1; intros)))
  (k_with "exec Assign cons ListComp" => (k_here; k_dflt (refine LCg.Assign_ListComp_U (F₀ := by k_asm) (by rfl) (by with_unfolding_all rfl) (by with_unfolding_all rfl) (by decide) (by rfl) (by decide) (by rfl) (by rfl) (by rfl) ?_)))
  (k_with "call builtin:list.append" => ((k_here; k_dflt (refine' appendL ?u9k1 ?u9k2 ?u9k3 ?u9k4 ?_; (case u9k1 => k_asm); (case u9k2 => k_asm); (case u9k3 => k_updF); (case u9k4 => ktr_rel)); intro h' F' N'; (try dsimp only at N')); (revert h' F' N'; intros)))
  (k_with "setAttr ref" => ((k_here; k_dflt (refine' setF ?u9k1 ?u9k2 ?u9k3 ?u9k4 ?u9k5 ?u9k6 ?u9k7 ?u9k8 ?u9k9 ?u9k10 ?u9k11 ?u9k12 ?_; (case u9k1 => k_asm); (case u9k2 => k_asm); (case u9k3 => k_asm); (case u9k4 => k_inst); (case u9k5 => exact rfl); (case u9k6 => k_is); (case u9k7 => k_is); (case u9k8 => k_is); (case u9k9 => k_is); (case u9k10 => with_reducible assumption); (case u9k11 => k_updF); (case u9k12 => with_reducible assumption)); intro es' n' h' hz' ho' hs' F' N'; (try dsimp only at N'); (try (have q' := (ho' (Str.ofString "store") (by decide)).trans (by with_reducible assumption))); (try (have q' := (ho' (Str.ofString "aside") (by decide)).trans (by with_reducible assumption)))); (revert es' n' h' hz' ho' hs' F' N'; intros)))
  (k_with "call builtin:len" => (k_here; (with_reducible show wpAny _ _ (call (Value.builtin "len") [Value.ref _]) _ _ _); k_dflt (refine' lenL ?u9N ?u9m ?u9z ?_; (case u9N => k_asm); (case u9m => k_mem); (case u9z => ktr_rel)); (try dsimp only)))
  (k_with "call builtin:list.pop" => ((k_here; (try dsimp only); k_dflt (refine' popL ?u9k1 ?u9k2 ?u9k3 ?u9k4 ?_; (case u9k1 => k_asm); (case u9k2 => k_asm); (case u9k3 => k_updF); (case u9k4 => ktr_rel)); intro h' F' N'; (try dsimp only at N')); (revert h' F' N'; intros)))
  (k_with "call ref" => ((k_here; (with_reducible show wpAny _ _ (call (Value.ref 87) _) _ _ _); k_dflt (refine' Calls.use (plain_var_calls _ ?u9a1 ?u9a2 ?u9a3 ?u9a4 ?u9a5 ?u9a6) ?u9B ?u9F ?u9X ?u9N ?u9T ?u9hk ?u9hd ?u9hu ?_; (case u9B => k_asm); (case u9F => k_asm); (case u9X => k_asm); (case u9N => k_asm); (case u9T => k_asm); (case u9hk => first | exact rfl | assumption); (case u9hd => ktr_room); (case u9hu => ktr_units); (case u9a1 => k_mem); (case u9a2 => k_mem); (case u9a4 => with_reducible assumption); (case u9a3 => k_mem); (case u9a5 => with_reducible assumption); (case u9a6 => with_reducible assumption)); (intro r' news' h' tk' F' N' hp'; obtain ⟨hn', hv', hd'⟩ := hp'; subst hn'; (try dsimp only))); (revert r' h' tk' F' N' hv' hd'; intros)))
  (k_with "call ref" => ((k_here; (with_reducible show wpAny _ _ (call (Value.ref 122) _) _ _ _); k_dflt (refine' Calls.use (own_names_calls _ ?u9a1 ?u9a2 ?u9a3 ?u9a4 ?u9a5 ?u9a6 ?u9a7 ?u9a8 ?u9a9) ?u9B ?u9F ?u9X ?u9N ?u9T ?u9hk ?u9hd ?u9hu ?_; (case u9B => k_asm); (case u9F => k_asm); (case u9X => k_asm); (case u9N => k_asm); (case u9T => k_asm); (case u9hk => first | exact rfl | assumption); (case u9hd => ktr_room); (case u9hu => ktr_units); (case u9a1 => k_mem); (case u9a2 => k_mem); (case u9a5 => with_reducible assumption); (case u9a6 => with_reducible assumption); (case u9a7 => with_reducible assumption); (case u9a3 => k_mem); (case u9a4 => k_mem); (case u9a8 => with_reducible assumption); (case u9a9 => with_reducible assumption)); (intro r' news' h' tk' F' N' hp'; obtain ⟨l', hr', hn', l1⟩ := hp'; subst hr' hn'; (have l2 := l1); (try k_lt l2); (try dsimp only))); (revert h' tk' F' N' l' l1; intros)))
  (k_with "call ref" => ((k_here; (with_reducible show wpAny _ _ (call (Value.ref 129) _) _ _ _); k_dflt (refine' Calls.use (filled_args_calls _ ?u9a1 ?u9a2 ?u9a3) ?u9B ?u9F ?u9X ?u9N ?u9T ?u9hk ?u9hd ?u9hu ?_; (case u9B => k_asm); (case u9F => k_asm); (case u9X => k_asm); (case u9N => k_asm); (case u9T => k_asm); (case u9hk => first | exact rfl | assumption); (case u9hd => ktr_room); (case u9hu => ktr_units); (case u9a1 => k_mem); (case u9a2 => ktr_rel); (case u9a3 => ktr_rel)); (intro r' news' h' tk' F' N' hp'; obtain ⟨l', u', hr', hn', l1⟩ := hp'; subst hr' hn'; (have l2 := l1); (try k_lt l2); (try dsimp only))); (revert h' tk' F' N' l' u' l1; intros)))
  (k_with "compareOp In str ref" => (k_here; k_dflt (refine' HasD.not ?u9N ?u9m ?u9d ?u9l ?u9p ?_; (case u9N => k_asm); (case u9m => k_mem); (case u9d => with_reducible assumption); (case u9l => with_reducible assumption); (case u9p => with_reducible assumption))))
  (k_with "subscriptTail" => ((k_here; (with_reducible refine' itemStr (ss := words5) ?u9k1 ?u9k3 ?u9k4 ?u9k5 ?u9k6 ?u9k7 ?_ ?u9k8); k_dflt ((case u9k1 => k_asm); (case u9k3 => k_mem); (case u9k4 => exact StrsAre.cons _ _ (StrsAre.cons _ _ (StrsAre.cons _ _ (StrsAre.cons _ _ (StrsAre.cons _ _ StrsAre.nil))))); (case u9k5 => with_reducible assumption); (case u9k6 => with_reducible assumption); (case u9k7 => decide); (case u9k8 => with_unfolding_all rfl); k_whole); intro x' t' e'); (revert x' t' e'; intros)))
  (k_with "subscriptTail" => (k_here; (with_reducible refine' itemRef ?u9k1 ?u9k3 ?u9k5 ?u9k7 ?u9k4 ?_ ?u9k8); k_dflt ((case u9k1 => k_asm); (case u9k3 => k_mem); (case u9k4 => with_reducible assumption); (case u9k5 => first | with_reducible assumption | omega); (case u9k7 => ktr_rel); (case u9k8 => with_unfolding_all rfl))))
  (k_with "eval Dict" => ((k_here; k_dflt (refine' kdn_eval (knd := PySem.strKind _ _) ?u9F ?u9N ?u9b ?u9a ?u9l ?u9e ?u9n ?_; (case u9F => k_asm); (case u9N => k_asm); (case u9b => exact Top.nolimit (by k_asm)); (case u9a => rfl); (case u9l => rfl); (case u9e => exact List.cons_ne_nil _ _); (case u9n => exact Nat.le_of_ble_eq_true rfl)); intro d' h' o' F' N' l1 lo' hd'; (have l2 := l1); (try k_lt l2)); (revert d' h' o' F' N' l1 lo' hd'; intros)))
  (k_with "KdnMade" => ((k_here; k_dflt (refine' made1 ?u9F ?u9N ?u9U ?u9d ?u9v ?_; (case u9F => k_asm); (case u9N => k_asm); (case u9U => k_updF); (case u9d => k_asm); (case u9v => first | exact VOk.str _ | with_reducible assumption)); intro h' o' F' N' hd'; (try dsimp only at N')); (revert h' o' F' N' hd'; intros)))
  (k_with "subscriptTail" => ((k_here; (with_reducible refine' itemPad ?u9k1 ?u9k3 ?u9k4 ?u9k5 ?u9k7 ?_ ?u9k8); k_dflt ((case u9k1 => k_asm); (case u9k3 => k_mem); (case u9k4 => with_reducible assumption); (case u9k5 => omega); (case u9k7 => omega); (case u9k8 => with_unfolding_all rfl)); intro r' hv' hd'); (revert r' hv' hd'; intros)))
  (k_with "call ref" => ((k_here; (with_reducible show wpAny _ _ (call (Value.ref 148) _) _ _ _); k_dflt (refine' Calls.use (law_names_calls _ ?u9a1) ?u9B ?u9F ?u9X ?u9N ?u9T ?u9hk ?u9hd ?u9hu ?_; (case u9B => k_asm); (case u9F => k_asm); (case u9X => k_asm); (case u9N => k_asm); (case u9T => k_asm); (case u9hk => first | exact rfl | assumption); (case u9hd => ktr_room); (case u9hu => ktr_units); (case u9a1 => with_reducible assumption)); (intro r' news' h' tk' F' N' hp'; obtain ⟨l', vs', hr', hn', l1, hS'⟩ := hp'; subst hr' hn'; (have l2 := l1); (try k_lt l2); (try dsimp only))); (revert h' tk' F' N' l' vs' l1 hS'; intros)))
  (k_with "compareOp In str ref" => (k_here; k_dflt (refine' DR.hasT ?u9N ?u9m ?u9d ?u9l ?u9p ?_; (case u9N => k_asm); (case u9m => k_mem); (case u9d => with_reducible assumption); (case u9l => with_reducible assumption); (case u9p => with_reducible assumption))))
  (k_with "compareOp In str ref" => (k_here; k_dflt (refine' DR.hasF ?u9N ?u9m ?u9d ?u9l ?u9p ?_; (case u9N => k_asm); (case u9m => k_mem); (case u9d => with_reducible assumption); (case u9l => with_reducible assumption); (case u9p => with_reducible assumption))))
  (k_with "subscriptTail" => ((k_here; (with_reducible refine' DR.item ?u9N ?u9m ?u9d ?u9p ?_ ?u9e); k_dflt ((case u9N => k_asm); (case u9m => k_mem); (case u9d => with_reducible assumption); (case u9p => with_reducible assumption); (case u9e => with_unfolding_all rfl)); intro r' hv' hd'); (revert r' hv' hd'; intros)))
  (k_with "call ref" => ((k_here; (with_reducible show wpAny _ _ (call (Value.ref 162) _) _ _ _); k_dflt (refine' Calls.use (law_found_calls _ ?u9a1 (FrAt.mono ?u9a0 (Nat.le_refl _) ?u9a2) ?u9a3) ?u9B ?u9F ?u9X ?u9N ?u9T ?u9hk ?u9hd ?u9hu ?_; (case u9B => k_asm); (case u9F => k_asm); (case u9X => k_asm); (case u9N => k_asm); (case u9T => k_asm); (case u9hk => first | exact rfl | assumption); (case u9hd => ktr_room); (case u9hu => ktr_units); (case u9a1 => k_mem); (case u9a2 => with_reducible assumption); (case u9a0 => tb_start); (case u9a3 => ktr_rel)); (intro r' news' h' tk' F' N' hp'; obtain ⟨hn', hv', hd'⟩ := hp'; subst hn'; (try dsimp only))); (revert r' h' tk' F' N' hv' hd'; intros)))
  (k_with "subscriptTail" => ((k_here; (with_reducible refine' cellItem ?u9k1 ?u9k3 ?u9k4 ?u9k5 ?u9k7 ?_ ?u9k8); k_dflt ((case u9k1 => k_asm); (case u9k3 => k_mem); (case u9k4 => with_reducible assumption); (case u9k5 => omega); (case u9k7 => omega); (case u9k8 => with_unfolding_all rfl)); intro c' t' hc'); (revert c' t' hc'; intros)))
  (k_with "subscriptTail" => ((k_here; (with_reducible refine' fghItem ?u9k1 ?u9k2 ?_ ?u9k3 ?u9k4); k_dflt ((case u9k1 => omega); (case u9k2 => omega); (case u9k3 => with_unfolding_all rfl); (case u9k4 => (intro _; with_unfolding_all rfl))); intro x' t' tk' hx'); (revert x' t' tk' hx'; intros)))
  (k_with "call ref" => ((k_here; (with_reducible show wpAny _ _ (call (Value.ref 76) _) _ _ _); k_dflt (refine' Calls.use (world_calls _) ?u9B ?u9F ?u9X ?u9N ?u9T ?u9hk ?u9hd ?u9hu ?_; (case u9B => k_asm); (case u9F => k_asm); (case u9X => k_asm); (case u9N => k_asm); (case u9T => k_asm); (case u9hk => first | exact rfl | assumption); (case u9hd => ktr_room); (case u9hu => ktr_units)); (intro r' news' h' tk' F' N' hp'; obtain ⟨aw', dw', st', sa', wr', tr', wes', wn', n4', ost', owr', otr', hr', hn', hw'⟩ := hp'; subst hr' hn'; (try dsimp only))); (revert h' tk' F' N' aw' dw' st' sa' wr' tr' wes' wn' n4' ost' owr' otr' hw'; intros)))
  trivial


theorem wt_mid2 : True := by
  w_top off
  trivial

section
theorem rg_31 : True := by
  (k_with "execs cons" => (k_here; (with_reducible rename HoldAt 7 => hz9); clear hz9; refine Held.out ?_))
  (k_with "call ref" => (k_here; (with_reducible rename HoldAt 5 => hz9); clear hz9; refine Held.out ?_))
  trivial
theorem law_mid (w : World) {mean : ExcName → Option Value} {mg mb : Str → Option Value} {fa : Addr} {ccd : Value} {h₀ : Heap} {L : Addr} {m0 : Str → Option Value} {s : Shared} {fD c9 lw : Addr} {cvs ys ts : List Value} {k : Nat} {o1 o2 o3 : Obj} {v2 v3 : Option Value} {R0 : List (Addr × Obj)} {Q : Flow → Shared → Prop} {E : Value → Shared → Prop}
    (sc : Scope) (hsc : sc = lawScope) (body : List Stmt) (hb : body = lawBody.drop 4)
    (F : Fr h₀ L s.heap (fun z => if z = Str.ofString "functions" then some (Value.ref fD) else if z = Str.ofString "_law_words" then some (Value.ref lw) else m0 z)) (X : (hd.heap_39 w.params).In h₀) (T : Top hd.view_39 (looseW hd.view_39 [Str.ofString "SnobolError"]) mean mg mb h₀)
    (N : News h₀ L s.heap ((L + 1 + 1, o2) :: (L + 1 + 1 + 1, o3) :: R0)) (hmD : (fD, LCg.lst ys) ∈ R0) (hmc : (c9, listOf cvs.toArray 0) ∈ R0) (hc9 : Cells17 cvs) (hmw : (lw, listOf ts.toArray k) ∈ R0) (hSw : StrsAre ts words5) (hm1 : (L + 1, o1) ∈ R0) (d1 : o1.data = .cell (some (.ref c9))) (d2 : o2.data = .cell v2) (d3 : o3.data = .cell v3)
    (h3 : ys.length = 3) (hyF : ∀ y ∈ ys, FnOk R0 y) (hR2 : ∀ p ∈ (L + 1 + 1 + 1, o3) :: R0, p.1 ≠ L + 1 + 1) (hR3 : ∀ p ∈ R0, p.1 ≠ L + 1 + 1 + 1)
    (hE : PassesOwn (model PySem.Challenge.rw_sj0188_01.row.prog w) (callerA.deeper (envX (Str.ofString "law") sc L fa ccd (lawCells L))) (envX (Str.ofString "law") sc L fa ccd (lawCells L)) E)
    (hQ : ∀ h' tk m', Fr h₀ L h' m' → Q (.ret (.bool true)) { s with heap := h', toks := tk }) :
    wpAny (model PySem.Challenge.rw_sj0188_01.row.prog w) (callerA.deeper (envX (Str.ofString "law") sc L fa ccd (lawCells L))) (execs body (envX (Str.ofString "law") sc L fa ccd (lawCells L))) Q E s := by
  revert X
  k_fill
  intro X
  have hsc0 := hsc
  delta lawBody lawDef PySem.Challenge.pw_sj0188_01 at hb; dsimp only [List.getLast?, List.getLast, Option.map, Option.getD, List.drop] at hb
  subst hb
  delta lawScope lawDef PySem.Challenge.pw_sj0188_01 at hsc; dsimp only [List.getLast?, List.getLast, Option.map, Option.getD] at hsc
  subst hsc
  have K0 := below_caller h₀
  have hold5 := HoldAt.mk 5
  k_steps
  refine Held.mk ?_
  k_dflt (refine' Calls.use (world_calls _) ?B ?F ?X ?N ?T ?hk ?hd ?hu ?_; (case B => k_asm); (case F => k_asm); (case X => k_asm); (case N => k_asm); (case T => k_asm); (case hk => first | exact rfl | assumption); (case hd => ktr_room); (case hu => ktr_units))
  rintro r' news' h' tk' F' N' ⟨aw, dw, st, sa, wr, tr, wes, wn, n4, ost, owr, otr, rfl, rfl, hz8, g1, g5, gw, gt, ⟨t8, g2⟩, ⟨t9, g3⟩, ⟨md8, t10, g4⟩, hS0, lo1, hW, lo2, hTr, lo3, b0, b1, b2, b3, b4, b5⟩
  dsimp only
  clear N F
  have c2 := b0 (_, _) List.mem_cons_self
  have c3 := b0 (_, _) (List.mem_cons_of_mem _ List.mem_cons_self)
  replace c2 := ltN c2
  replace c3 := ltN c3
  dsimp only at c2 c3
  have hold7 := HoldAt.mk 7
  k_steps
  refine Held.mk ?_
  rename_i d9 hh1 of9 lo9 hs9 fs9 hi9 fi9 l1a fl9 hh2 l1b sv9 hh3 l1c D9 hh4 l1d hh5 hh6 hh7 oF9 dF9 hh8 F9 N9
  clear fs9 hi9 fi9 l1d
  have q1 : @LT.lt Nat _ dw st := Nat.lt_trans b1 b2
  have q2 : @LT.lt Nat _ st sa := Nat.lt_trans b3 (Nat.lt_trans b4 b5)
  have q3 : @LT.lt Nat _ sa fl9 := l1b.2.2.2.1
  have q4 : @LT.lt Nat _ fl9 sv9 := l1c.1
  have q5 : @LT.lt Nat _ d9 fl9 := l1b.1
  have q6 : @LT.lt Nat _ sa d9 := l1a.2.2.1
  have N10 := newsSub (news := (dw, dictOf wes wn) :: (st, ost) :: (sa, listOf ([] : List Value).toArray n4) :: (sv9, listOf ([] : List Value).toArray 0) :: (fl9, listOf ([Value.ref d9] : List Value).toArray 0) :: (L + 1 + 1 + 1, o3) :: (d9, of9) :: (aw, instObj 76 dw) :: (wr, owr) :: (tr, otr) :: (L + 1 + 1, oF9) :: R0) N9 (by
    intro p hp; simp only [List.mem_cons] at hp ⊢; grind)
  clear N9 l1a l1b l1c
  have z : ∀ p ∈ (st, ost) :: (sa, listOf ([] : List Value).toArray n4) :: (sv9, listOf ([] : List Value).toArray 0) :: (fl9, listOf ([Value.ref d9] : List Value).toArray 0) :: (L + 1 + 1 + 1, o3) :: (d9, of9) :: (aw, instObj 76 dw) :: (wr, owr) :: (tr, otr) :: (L + 1 + 1, oF9) :: R0, p.1 ≠ dw := by
    intro p hp
    simp only [List.mem_cons] at hp
    rcases hp with rfl | rfl | rfl | rfl | rfl | rfl | rfl | rfl | rfl | rfl | hp
    · k_ne
    · k_ne
    · k_ne
    · k_ne
    · k_ne
    · k_ne
    · k_ne
    · k_ne
    · k_ne
    · k_ne
    · exact Nat.ne_of_lt (b0 p (List.mem_cons_of_mem _ (List.mem_cons_of_mem _ hp)))
  have up : ∀ p ∈ R0, p ∈ (st, ost) :: (sa, listOf ([] : List Value).toArray n4) :: (sv9, listOf ([] : List Value).toArray 0) :: (fl9, listOf ([Value.ref d9] : List Value).toArray 0) :: (L + 1 + 1 + 1, o3) :: (d9, of9) :: (aw, instObj 76 dw) :: (wr, owr) :: (tr, otr) :: (L + 1 + 1, oF9) :: R0 := fun p hp => by
    simp only [List.mem_cons]
    grind
  have haw9 : (aw, instObj 76 dw) ∈ (st, ost) :: (sa, listOf ([] : List Value).toArray n4) :: (sv9, listOf ([] : List Value).toArray 0) :: (fl9, listOf ([Value.ref d9] : List Value).toArray 0) :: (L + 1 + 1 + 1, o3) :: (d9, of9) :: (aw, instObj 76 dw) :: (wr, owr) :: (tr, otr) :: (L + 1 + 1, oF9) :: R0 := by simp
  have hmc9 := up _ hmc
  have hm19 := up _ hm1
  generalize hr : (st, ost) :: (sa, listOf ([] : List Value).toArray n4) :: (sv9, listOf ([] : List Value).toArray 0) :: (fl9, listOf ([Value.ref d9] : List Value).toArray 0) :: (L + 1 + 1 + 1, o3) :: (d9, of9) :: (aw, instObj 76 dw) :: (wr, owr) :: (tr, otr) :: (L + 1 + 1, oF9) :: R0 = rest at N10 z haw9 hmc9 hm19
  clear up
  iterate 2 (first | walk1 | (dsimp only; walk1))
  have hold7 := HoldAt.mk 7
  k_steps
  refine Held.mk ?_
  rename_i cB tB hcB es9 n9 hh9 hz9 ho9 hs99 F11 N11 qa qb
  have hmod := Nat.mod_lt cB.toNat (show 0 < 2 by decide)
  have hmB : cB.fmod 2 = ((cB.toNat % 2 : Nat) : Int) := fm hcB 2
  have oR : ∀ p ∈ (aw, instObj 76 dw) :: (wr, owr) :: (tr, otr) :: (L + 1 + 1, oF9) :: R0, OffP L ⟨aw, dw, st, sa, wr, tr, sv9, fl9, fD, c9, lw⟩ p.1 ∧ @Ne Nat p.1 d9 := by
    intro p hp
    simp only [List.mem_cons] at hp
    rcases hp with rfl | rfl | rfl | rfl | hp
    · exact ⟨⟨by k_ne, by k_ne, by k_ne, by k_ne, by k_ne, by k_ne⟩, by k_ne⟩
    · exact ⟨⟨by k_ne, by k_ne, by k_ne, by k_ne, by k_ne, by k_ne⟩, by k_ne⟩
    · exact ⟨⟨by k_ne, by k_ne, by k_ne, by k_ne, by k_ne, by k_ne⟩, by k_ne⟩
    · exact ⟨⟨by k_ne, by k_ne, by k_ne, by k_ne, by k_ne, by k_ne⟩, by k_ne⟩
    · have hlt : @LT.lt Nat _ p.1 dw := b0 p (List.mem_cons_of_mem _ (List.mem_cons_of_mem _ hp))
      exact ⟨⟨by k_ne, by k_ne, by k_ne, by k_ne, by k_ne, hR3 p hp⟩, by k_ne⟩
  have N12 := newsSub (news := ledger L ⟨aw, dw, st, sa, wr, tr, sv9, fl9, fD, c9, lw⟩ es9 n9 ost [] n4 0 [(d9, of9)] 0 o3 [] ((aw, instObj 76 dw) :: (wr, owr) :: (tr, otr) :: (L + 1 + 1, oF9) :: R0)) N11 (by
    unfold ledger
    rw [← hr]
    intro p hp
    simp only [List.mem_cons, List.mem_append, List.not_mem_nil, or_false, false_or] at hp ⊢
    rcases hp with hp | hp | hp | hp | hp | hp | hp | hp | hp | hp | hp | hp
    all_goals simp [hp, refsOf])
  have hup : ∀ p ∈ R0, p ∈ (aw, instObj 76 dw) :: (wr, owr) :: (tr, otr) :: (L + 1 + 1, oF9) :: R0 := fun p hp => List.mem_cons_of_mem _ (List.mem_cons_of_mem _ (List.mem_cons_of_mem _ (List.mem_cons_of_mem _ hp)))
  have hLS : LS w L ⟨aw, dw, st, sa, wr, tr, sv9, fl9, fD, c9, lw⟩ cvs ys (3 + cB.fmod 2) 0 [] es9 ost [] [(d9, of9)] o3 ((aw, instObj 76 dw) :: (wr, owr) :: (tr, otr) :: (L + 1 + 1, oF9) :: R0) (fun _ => none) [] [fun _ => none] :=
    { len := hz9, g1 := qa, g2 := ⟨t8, (ho9 _ (by decide +kernel)).trans g2⟩, g3 := ⟨t9, (ho9 _ (by decide +kernel)).trans g3⟩, g4 := ⟨_, hs99⟩, g5 := qb, g6 := (ho9 _ (by decide +kernel)).trans gw, g7 := (ho9 _ (by decide +kernel)).trans gt,
      c3 := ⟨_, d3⟩, dr := hS0, fd := .cons ((DR.nil hs9).le (Nat.zero_le _)) lo9 .nil, as := .nil, ok := LawOk.start, le := (by rw [hmB]; simp; omega), five := (fun _ h => nomatch h),
      stat := ⟨List.mem_cons_self, ⟨owr, by simp, hW⟩, ⟨otr, by simp, hTr⟩, hup _ hmc, hc9, ⟨ts, k, hup _ hmw, hSw⟩, hup _ hmD, h3, (fun y hy => (hyF y hy).mono hup), ⟨o1, hup _ hm1, d1⟩, ⟨oF9, by simp, dF9⟩⟩,
      offF := (fun p hp => by rw [List.mem_singleton.mp hp]; exact ⟨by k_ne, by k_ne, by k_ne, by k_ne, by k_ne, by k_ne⟩),
      offO := (fun _ h => nomatch h), offR := (fun p hp => (oR p hp).1), nodup := (by simp),
      apart := (fun p hp q hq => by rw [List.mem_singleton.mp hq]; exact (oR p (by simpa using hp)).2), apartO := (fun _ h => nomatch h) }
  have hM : MapOk ⟨aw, dw, st, sa, wr, tr, sv9, fl9, fD, c9, lw⟩ (fun y => if y = Str.ofString "saved" then some (Value.ref sv9) else if y = Str.ofString "world" then some (Value.ref aw) else if y = Str.ofString "functions" then some (Value.ref fD) else if y = Str.ofString "_law_words" then some (Value.ref lw) else m0 y) :=
    ⟨(if_neg (by decide +kernel)).trans (if_pos rfl), (if_neg (by decide +kernel)).trans ((if_neg (by decide +kernel)).trans (if_pos rfl)), (if_neg (by decide +kernel)).trans ((if_neg (by decide +kernel)).trans ((if_neg (by decide +kernel)).trans (if_pos rfl))), if_pos rfl⟩
  show wpAny _ _ (execs _ _) _ _ _
  exact law_rest w _ hsc0 _ (by delta lawBody lawDef PySem.Challenge.pw_sj0188_01; dsimp only [List.getLast?, List.getLast, Option.map, Option.getD, List.drop]) ⟨c3, q1, q2, q3, q4, lo1, lo2, lo3⟩ F11 X T N12 hM ⟨es9, n9, ost, [], n4, 0, [(d9, of9)], 0, o3, _, _, [], _, rfl, hLS⟩ (by rw [hmB]; omega) hE fun h' tk m' F' => hQ h' tk m' F'
end
theorem rg_32 : True := by
  k_with_none
  (k_with "own lt" => (first | (with_reducible assumption) | ((with_reducible refine Nat.lt_trans ?_ (by assumption)); k_extra "own lt") | exact And.left (by with_reducible assumption) | exact And.left (And.right (by with_reducible assumption)) | exact And.left (And.right (And.right (by with_reducible assumption))) | exact And.left (And.right (And.right (And.right (by with_reducible assumption)))) | exact And.left (And.right (And.right (And.right (And.right (by with_reducible assumption))))) | exact And.left (And.right (And.right (And.right (And.right (And.right (by with_reducible assumption)))))) | exact And.left (And.right (And.right (And.right (And.right (And.right (And.right (by with_reducible assumption))))))) | exact And.left (And.right (And.right (And.right (And.right (And.right (And.right (And.right (by with_reducible assumption)))))))) | exact And.left (And.right (And.right (And.right (And.right (And.right (And.right (And.right (And.right (by with_reducible assumption))))))))) | exact And.left (And.right (And.right (And.right (And.right (And.right (And.right (And.right (And.right (And.right (by with_reducible assumption)))))))))) | exact And.left (And.right (And.right (And.right (And.right (And.right (And.right (And.right (And.right (And.right (And.right (by with_reducible assumption))))))))))) | exact And.left (And.right (And.right (And.right (And.right (And.right (And.right (And.right (And.right (And.right (And.right (And.right (by with_reducible assumption)))))))))))) | exact And.left (And.right (And.right (And.right (And.right (And.right (And.right (And.right (And.right (And.right (And.right (And.right (And.right (by with_reducible assumption))))))))))))) | fail "own lt"))
  (k_with "own ne" => ((refine neN ?_); (try dsimp only); (first | exact Nat.ne_of_gt (by k_extra "own lt") | exact Nat.ne_of_lt (by k_extra "own lt") | fail "own ne")))
  (k_with "getAttr ref" => (k_here; k_dflt (refine' get_own ?u9k1 ?u9k2 ?u9k3 ?u9k4 ?u9k5 ?u9k6 ?u9k7 ?u9k8 ?u9k9 ?_; (case u9k1 => k_asm); (case u9k2 => k_asm); (case u9k3 => k_inst); (case u9k4 => k_is); (case u9k5 => k_is); (case u9k6 => k_is); (case u9k7 => k_is); (case u9k8 => with_reducible assumption); (case u9k9 => k_handed); k_whole)))
  (k_with "getMethod ref" => (k_here; (with_reducible show wpAny _ _ (getMethod (Value.ref _) (Str.ofString "get") _) _ _ _); k_dflt (refine' DR.method ?u9N ?u9m ?u9d ?_; (case u9N => k_asm); (case u9m => k_mem); (case u9d => with_reducible assumption))))
  (k_with "call builtin:dict.get" => ((k_here; k_dflt (refine' DR.get2 ?u9N ?u9m ?u9d ?u9l ?u9v ?_; (case u9N => k_asm); (case u9m => k_mem); (case u9d => with_reducible assumption); (case u9l => with_reducible assumption); (case u9v => first | exact VOk.str _ | with_reducible assumption)); intro r' hv' hd'); (revert r' hv' hd'; intros)))
  (k_with "compareOp In str ref" => (k_here; k_dflt (refine' DR.has ?u9N ?u9m ?u9d ?u9l ?_; (case u9N => k_asm); (case u9m => k_mem); (case u9d => with_reducible assumption); (case u9l => with_reducible assumption))))
  (k_with "setItem ref str" => ((k_here; k_dflt (refine' DR.set ?u9F ?u9N ?u9U ?u9d ?u9v ?u9z ?_; (case u9F => k_asm); (case u9N => k_asm); (case u9U => k_updF); (case u9d => with_reducible assumption); (case u9v => first | exact VOk.str _ | with_reducible assumption); (case u9z => omega)); intro h' o' F' N' hd'; (try dsimp only at N')); (revert h' o' F' N' hd'; intros)))
  (k_with "binaryOp Add ref ref" => ((k_here; k_dflt (refine' addL ?u9k1 ?u9k2 ?u9k3 ?u9k4 ?u9k5 ?_; (case u9k1 => k_asm); (case u9k2 => k_asm); (case u9k3 => k_mem); (case u9k4 => k_mem); (case u9k5 => ktr_rel); k_whole); intro c' h' F' N' l1; (have l2 := l1); (try k_lt l2)); (revert c' h' F' N' l1; intros)))
  (k_with "binaryOp Mult ref int" => ((k_here; k_dflt (refine' mul1 ?u9k1 ?u9k2 ?u9k3 ?u9k4 ?u9k5 ?_; (case u9k1 => k_asm); (case u9k2 => k_asm); (case u9k3 => k_mem); (case u9k4 => omega); (case u9k5 => omega); k_whole); intro c' h' F' N' l1; (have l2 := l1); (try k_lt l2)); (revert c' h' F' N' l1; intros)))
  (k_with "subscriptTail" => ((k_here; k_dflt (refine' sliceTo ?u9k1 ?u9k2 ?u9k3 ?u9k4 ?u9k5 ?_ ?u9k6; (case u9k1 => k_asm); (case u9k2 => k_asm); (case u9k3 => k_mem); (case u9k4 => omega); (case u9k5 => ktr_rel); (case u9k6 => with_unfolding_all rfl); k_whole); intro c' h' F' N' l1; (have l2 := l1); (try k_lt l2)); (revert c' h' F' N' l1; intros)))
  (k_with "subscriptTail" => ((k_here; k_dflt (refine' sliceFrom ?u9k1 ?u9k2 ?u9k3 ?u9k4 ?u9k5 ?_ ?u9k6; (case u9k1 => k_asm); (case u9k2 => k_asm); (case u9k3 => k_mem); (case u9k4 => omega); (case u9k5 => ktr_rel); (case u9k6 => with_unfolding_all rfl); k_whole); intro c' h' F' N' l1; (have l2 := l1); (try k_lt l2)); (revert c' h' F' N' l1; intros)))
  (k_with "subscriptTail" => ((k_here; k_dflt (refine' sliceRev ?u9k1 ?u9k2 ?u9k3 ?u9k5 ?_ ?u9k6; (case u9k1 => k_asm); (case u9k2 => k_asm); (case u9k3 => k_mem); (case u9k5 => ktr_rel); (case u9k6 => with_unfolding_all rfl); k_whole); intro c' h' F' N' l1; (have l2 := l1); (try k_lt l2)); (revert c' h' F' N' l1; intros)))
  (k_with "exec Assign cons ListComp" => (k_here; k_dflt (refine LCg.Assign_ListComp_U (F₀ := by k_asm) (by rfl) (by with_unfolding_all rfl) (by with_unfolding_all rfl) (by decide) (by rfl) (by decide) (by rfl) (by rfl) (by rfl) ?_)))
  (k_with "call builtin:list.append" => ((k_here; k_dflt (refine' appendL ?u9k1 ?u9k2 ?u9k3 ?u9k4 ?_; (case u9k1 => k_asm); (case u9k2 => k_asm); (case u9k3 => k_updF); (case u9k4 => ktr_rel)); intro h' F' N'; (try dsimp only at N')); (revert h' F' N'; intros)))
  (k_with "setAttr ref" => ((k_here; k_dflt (refine' setF ?u9k1 ?u9k2 ?u9k3 ?u9k4 ?u9k5 ?u9k6 ?u9k7 ?u9k8 ?u9k9 ?u9k10 ?u9k11 ?u9k12 ?_; (case u9k1 => k_asm); (case u9k2 => k_asm); (case u9k3 => k_asm); (case u9k4 => k_inst); (case u9k5 => exact rfl); (case u9k6 => k_is); (case u9k7 => k_is); (case u9k8 => k_is); (case u9k9 => k_is); (case u9k10 => with_reducible assumption); (case u9k11 => k_updF); (case u9k12 => with_reducible assumption)); intro es' n' h' hz' ho' hs' F' N'; (try dsimp only at N'); (try (have q' := (ho' (Str.ofString "store") (by decide)).trans (by with_reducible assumption))); (try (have q' := (ho' (Str.ofString "aside") (by decide)).trans (by with_reducible assumption)))); (revert es' n' h' hz' ho' hs' F' N'; intros)))
  (k_with "call builtin:len" => (k_here; (with_reducible show wpAny _ _ (call (Value.builtin "len") [Value.ref _]) _ _ _); k_dflt (refine' lenL ?u9N ?u9m ?u9z ?_; (case u9N => k_asm); (case u9m => k_mem); (case u9z => ktr_rel)); (try dsimp only)))
  (k_with "call builtin:list.pop" => ((k_here; (try dsimp only); k_dflt (refine' popL ?u9k1 ?u9k2 ?u9k3 ?u9k4 ?_; (case u9k1 => k_asm); (case u9k2 => k_asm); (case u9k3 => k_updF); (case u9k4 => ktr_rel)); intro h' F' N'; (try dsimp only at N')); (revert h' F' N'; intros)))
  (k_with "call ref" => ((k_here; (with_reducible show wpAny _ _ (call (Value.ref 87) _) _ _ _); k_dflt (refine' Calls.use (plain_var_calls _ ?u9a1 ?u9a2 ?u9a3 ?u9a4 ?u9a5 ?u9a6) ?u9B ?u9F ?u9X ?u9N ?u9T ?u9hk ?u9hd ?u9hu ?_; (case u9B => k_asm); (case u9F => k_asm); (case u9X => k_asm); (case u9N => k_asm); (case u9T => k_asm); (case u9hk => first | exact rfl | assumption); (case u9hd => ktr_room); (case u9hu => ktr_units); (case u9a1 => k_mem); (case u9a2 => k_mem); (case u9a4 => with_reducible assumption); (case u9a3 => k_mem); (case u9a5 => with_reducible assumption); (case u9a6 => with_reducible assumption)); (intro r' news' h' tk' F' N' hp'; obtain ⟨hn', hv', hd'⟩ := hp'; subst hn'; (try dsimp only))); (revert r' h' tk' F' N' hv' hd'; intros)))
  (k_with "call ref" => ((k_here; (with_reducible show wpAny _ _ (call (Value.ref 122) _) _ _ _); k_dflt (refine' Calls.use (own_names_calls _ ?u9a1 ?u9a2 ?u9a3 ?u9a4 ?u9a5 ?u9a6 ?u9a7 ?u9a8 ?u9a9) ?u9B ?u9F ?u9X ?u9N ?u9T ?u9hk ?u9hd ?u9hu ?_; (case u9B => k_asm); (case u9F => k_asm); (case u9X => k_asm); (case u9N => k_asm); (case u9T => k_asm); (case u9hk => first | exact rfl | assumption); (case u9hd => ktr_room); (case u9hu => ktr_units); (case u9a1 => k_mem); (case u9a2 => k_mem); (case u9a5 => with_reducible assumption); (case u9a6 => with_reducible assumption); (case u9a7 => with_reducible assumption); (case u9a3 => k_mem); (case u9a4 => k_mem); (case u9a8 => with_reducible assumption); (case u9a9 => with_reducible assumption)); (intro r' news' h' tk' F' N' hp'; obtain ⟨l', hr', hn', l1⟩ := hp'; subst hr' hn'; (have l2 := l1); (try k_lt l2); (try dsimp only))); (revert h' tk' F' N' l' l1; intros)))
  (k_with "call ref" => ((k_here; (with_reducible show wpAny _ _ (call (Value.ref 129) _) _ _ _); k_dflt (refine' Calls.use (filled_args_calls _ ?u9a1 ?u9a2 ?u9a3) ?u9B ?u9F ?u9X ?u9N ?u9T ?u9hk ?u9hd ?u9hu ?_; (case u9B => k_asm); (case u9F => k_asm); (case u9X => k_asm); (case u9N => k_asm); (case u9T => k_asm); (case u9hk => first | exact rfl | assumption); (case u9hd => ktr_room); (case u9hu => ktr_units); (case u9a1 => k_mem); (case u9a2 => ktr_rel); (case u9a3 => ktr_rel)); (intro r' news' h' tk' F' N' hp'; obtain ⟨l', u', hr', hn', l1⟩ := hp'; subst hr' hn'; (have l2 := l1); (try k_lt l2); (try dsimp only))); (revert h' tk' F' N' l' u' l1; intros)))
  (k_with "compareOp In str ref" => (k_here; k_dflt (refine' HasD.not ?u9N ?u9m ?u9d ?u9l ?u9p ?_; (case u9N => k_asm); (case u9m => k_mem); (case u9d => with_reducible assumption); (case u9l => with_reducible assumption); (case u9p => with_reducible assumption))))
  (k_with "subscriptTail" => ((k_here; (with_reducible refine' itemStr (ss := words5) ?u9k1 ?u9k3 ?u9k4 ?u9k5 ?u9k6 ?u9k7 ?_ ?u9k8); k_dflt ((case u9k1 => k_asm); (case u9k3 => k_mem); (case u9k4 => exact StrsAre.cons _ _ (StrsAre.cons _ _ (StrsAre.cons _ _ (StrsAre.cons _ _ (StrsAre.cons _ _ StrsAre.nil))))); (case u9k5 => with_reducible assumption); (case u9k6 => with_reducible assumption); (case u9k7 => decide); (case u9k8 => with_unfolding_all rfl); k_whole); intro x' t' e'); (revert x' t' e'; intros)))
  (k_with "subscriptTail" => (k_here; (with_reducible refine' itemRef ?u9k1 ?u9k3 ?u9k5 ?u9k7 ?u9k4 ?_ ?u9k8); k_dflt ((case u9k1 => k_asm); (case u9k3 => k_mem); (case u9k4 => with_reducible assumption); (case u9k5 => first | with_reducible assumption | omega); (case u9k7 => ktr_rel); (case u9k8 => with_unfolding_all rfl))))
  (k_with "eval Dict" => ((k_here; k_dflt (refine' kdn_eval (knd := PySem.strKind _ _) ?u9F ?u9N ?u9b ?u9a ?u9l ?u9e ?u9n ?_; (case u9F => k_asm); (case u9N => k_asm); (case u9b => exact Top.nolimit (by k_asm)); (case u9a => rfl); (case u9l => rfl); (case u9e => exact List.cons_ne_nil _ _); (case u9n => exact Nat.le_of_ble_eq_true rfl)); intro d' h' o' F' N' l1 lo' hd'; (have l2 := l1); (try k_lt l2)); (revert d' h' o' F' N' l1 lo' hd'; intros)))
  (k_with "KdnMade" => ((k_here; k_dflt (refine' made1 ?u9F ?u9N ?u9U ?u9d ?u9v ?_; (case u9F => k_asm); (case u9N => k_asm); (case u9U => k_updF); (case u9d => k_asm); (case u9v => first | exact VOk.str _ | with_reducible assumption)); intro h' o' F' N' hd'; (try dsimp only at N')); (revert h' o' F' N' hd'; intros)))
  (k_with "subscriptTail" => ((k_here; (with_reducible refine' itemPad ?u9k1 ?u9k3 ?u9k4 ?u9k5 ?u9k7 ?_ ?u9k8); k_dflt ((case u9k1 => k_asm); (case u9k3 => k_mem); (case u9k4 => with_reducible assumption); (case u9k5 => omega); (case u9k7 => omega); (case u9k8 => with_unfolding_all rfl)); intro r' hv' hd'); (revert r' hv' hd'; intros)))
  (k_with "call ref" => ((k_here; (with_reducible show wpAny _ _ (call (Value.ref 148) _) _ _ _); k_dflt (refine' Calls.use (law_names_calls _ ?u9a1) ?u9B ?u9F ?u9X ?u9N ?u9T ?u9hk ?u9hd ?u9hu ?_; (case u9B => k_asm); (case u9F => k_asm); (case u9X => k_asm); (case u9N => k_asm); (case u9T => k_asm); (case u9hk => first | exact rfl | assumption); (case u9hd => ktr_room); (case u9hu => ktr_units); (case u9a1 => with_reducible assumption)); (intro r' news' h' tk' F' N' hp'; obtain ⟨l', vs', hr', hn', l1, hS'⟩ := hp'; subst hr' hn'; (have l2 := l1); (try k_lt l2); (try dsimp only))); (revert h' tk' F' N' l' vs' l1 hS'; intros)))
  (k_with "compareOp In str ref" => (k_here; k_dflt (refine' DR.hasT ?u9N ?u9m ?u9d ?u9l ?u9p ?_; (case u9N => k_asm); (case u9m => k_mem); (case u9d => with_reducible assumption); (case u9l => with_reducible assumption); (case u9p => with_reducible assumption))))
  (k_with "compareOp In str ref" => (k_here; k_dflt (refine' DR.hasF ?u9N ?u9m ?u9d ?u9l ?u9p ?_; (case u9N => k_asm); (case u9m => k_mem); (case u9d => with_reducible assumption); (case u9l => with_reducible assumption); (case u9p => with_reducible assumption))))
  (k_with "subscriptTail" => ((k_here; (with_reducible refine' DR.item ?u9N ?u9m ?u9d ?u9p ?_ ?u9e); k_dflt ((case u9N => k_asm); (case u9m => k_mem); (case u9d => with_reducible assumption); (case u9p => with_reducible assumption); (case u9e => with_unfolding_all rfl)); intro r' hv' hd'); (revert r' hv' hd'; intros)))
  (k_with "call ref" => ((k_here; (with_reducible show wpAny _ _ (call (Value.ref 162) _) _ _ _); k_dflt (refine' Calls.use (law_found_calls _ ?u9a1 (FrAt.mono ?u9a0 (Nat.le_refl _) ?u9a2) ?u9a3) ?u9B ?u9F ?u9X ?u9N ?u9T ?u9hk ?u9hd ?u9hu ?_; (case u9B => k_asm); (case u9F => k_asm); (case u9X => k_asm); (case u9N => k_asm); (case u9T => k_asm); (case u9hk => first | exact rfl | assumption); (case u9hd => ktr_room); (case u9hu => ktr_units); (case u9a1 => k_mem); (case u9a2 => with_reducible assumption); (case u9a0 => tb_start); (case u9a3 => ktr_rel)); (intro r' news' h' tk' F' N' hp'; obtain ⟨hn', hv', hd'⟩ := hp'; subst hn'; (try dsimp only))); (revert r' h' tk' F' N' hv' hd'; intros)))
  (k_with "subscriptTail" => ((k_here; (with_reducible refine' cellItem ?u9k1 ?u9k3 ?u9k4 ?u9k5 ?u9k7 ?_ ?u9k8); k_dflt ((case u9k1 => k_asm); (case u9k3 => k_mem); (case u9k4 => with_reducible assumption); (case u9k5 => omega); (case u9k7 => omega); (case u9k8 => with_unfolding_all rfl)); intro c' t' hc'); (revert c' t' hc'; intros)))
  (k_with "subscriptTail" => ((k_here; (with_reducible refine' fghItem ?u9k1 ?u9k2 ?_ ?u9k3 ?u9k4); k_dflt ((case u9k1 => omega); (case u9k2 => omega); (case u9k3 => with_unfolding_all rfl); (case u9k4 => (intro _; with_unfolding_all rfl))); intro x' t' tk' hx'); (revert x' t' tk' hx'; intros)))
  (k_with "call ref" => ((k_here; (with_reducible show wpAny _ _ (call (Value.ref 76) _) _ _ _); k_dflt (refine' Calls.use (world_calls _) ?u9B ?u9F ?u9X ?u9N ?u9T ?u9hk ?u9hd ?u9hu ?_; (case u9B => k_asm); (case u9F => k_asm); (case u9X => k_asm); (case u9N => k_asm); (case u9T => k_asm); (case u9hk => first | exact rfl | assumption); (case u9hd => ktr_room); (case u9hu => ktr_units)); (intro r' news' h' tk' F' N' hp'; obtain ⟨aw', dw', st', sa', wr', tr', wes', wn', n4', ost', owr', otr', hr', hn', hw'⟩ := hp'; subst hr' hn'; (try dsimp only))); (revert h' tk' F' N' aw' dw' st' sa' wr' tr' wes' wn' n4' ost' owr' otr' hw'; intros)))
  trivial


theorem wt_law : True := by
  w_top off
  trivial
section
theorem rg_33 : True := by
  (k_with "CompEnd" => (k_here; refine Held.out ?_))
  (k_with "exec For" => (k_here; refine Held.out ?_))
  (k_with "exec For Name Call cons nil" => (k_here; refine Held.out ?_))
  (k_with "call ref" => (k_here; (with_reducible rename HoldAt 5 => hz9); clear hz9; refine Held.out ?_))
  (k_with "CompSrc" => (k_here; refine Held.out ?_))
  (k_with "exec Assign cons BinOp" => (k_here; refine Held.out ?_))
  (k_with "exec Assign" => (k_here; (with_reducible show wpAny _ _ (exec (Stmt.Assign _ (Expr.BinOp _ _ _ _) _) _) _ _ _); refine Held.out ?_))
  (k_with "call builtin:len" => (k_here; refine Held.out ?_))
  (k_with "subscriptTail Name Slice ref ref" => (k_here; (with_reducible rename HoldAt 3 => hz9); clear hz9; refine Held.out ?_))
  (k_with "binaryOp Add ref ref" => (k_here; refine Held.out ?_))
  trivial
theorem lawW : PySem.Challenge.rw_sj0188_01.Holds := hd (by
  k_go0
  all_goals try k_fold
  rename Shared => s1
  with_reducible rename Below _ _ _ _ => K0
  replace K0 : Below callerA s1.heap [] s1.heap := K0
  k_steps
  with_reducible rename (_ < _ ∧ _ < _ ∧ _ < _ ∧ _ < _) => lw4
  refine Held.mk ?_
  refine wpAny_Assign_Name ?_
  refine wpAny_BinOp ?_
  k_dflt (refine LCg.ListComp_U (F₀ := by k_asm) (by with_unfolding_all rfl) (by decide) (by rfl) (by decide) (by rfl) ?_)
  k_steps
  rename_i D1 ws1 hh1 F1 N1 I1 C1 L1 _
  refine Held.mk ?_
  have hz1 := I1.length
  rename List Int => sc
  refine LCg.CompSrc.ledger (by rfl) (by k_asm) (by k_asm) (by k_mem) (by rw [List.size_toArray, sizeLine_eq]; omega) ?_
  intro g1
  refine compRest_of (GoodI _ (sc.take 17)) ?step ?fin _ 0 [] _ (Nat.zero_add _) (GoodI.start _ _)
  case step =>
    intro i ys news v I oI C oC D m₂ h tk E' hi hg hP hC hx F N off ne
    obtain ⟨rfl, hY⟩ := hg
    obtain ⟨n, t, rfl, hn⟩ := IntsAre.at I1 i v (by simpa using hP)
    k_steps
    exact compEnd0 (by k_asm) (by k_asm) off (.inr ⟨_, by k_mem, rfl, _, rfl⟩) (GoodI.step hY hn)
  case fin =>
    rintro ys news ⟨rfl, hY⟩ D h tk F N off
    dsimp only
    have off := off1_mem off
    rename_i lu _ _ _ _ lw _ _ _ _ _ _ _ _ _ _ _
    k_steps
    refine Held.mk ?_
    rename_i D2 ws2 hh2 F2 N2 I2 C2 L2 l2
    have hz2 := I2.length
    refine lenL N2 List.mem_cons_self (by omega) ?_
    have hold3 := HoldAt.mk 3
    k_steps
    refine Held.mk ?_
    rename_i kN
    refine sliceFrom F2 N2 (vs := [Value.int 17 _, Value.int 13 _, Value.int 4 _, Value.int 17 _, Value.int 0 _, Value.int 7 _, Value.int 0 _, Value.int 8 _, Value.int 18 _, Value.int 1 _, Value.int 12 _, Value.int 13 _, Value.int 6 _, Value.int 18 _, Value.int 10 _, Value.int 2 _, Value.int 4 _]) (by k_mem) (Int.natCast_nonneg _) (by show (17 : Nat) ≤ 1000; decide) ?_ (by with_unfolding_all rfl)
    intro D3 hh3 F3 N3 l3
    have hz3 : ys.length ≤ 17 := by
      have := hY.length
      rw [this, List.length_map, List.length_take, C1]
      omega
    refine addL F3 N3 (l := D) (vs := ys) (by k_mem) (by k_mem) (by rw [List.length_drop]; show ys.length + (17 - _) ≤ 1000; omega) ?_
    intro c9 hh4 F4 N4 l4
    obtain ⟨cvs, hc9, N5⟩ := cellsStep (ms := [17, 13, 4, 17, 0, 7, 0, 8, 18, 1, 12, 13, 6, 18, 10, 2, 4]) N4 hY (by rw [List.size_toArray]; exact hz1) (.cons _ _ (.cons _ _ (.cons _ _ (.cons _ _ (.cons _ _ (.cons _ _ (.cons _ _ (.cons _ _ (.cons _ _ (.cons _ _ (.cons _ _ (.cons _ _ (.cons _ _ (.cons _ _ (.cons _ _ (.cons _ _ (.cons _ _ .nil))))))))))))))))) rfl (by decide) (by rw [Int.toNat_natCast]; exact hz2) (by omega)
    clear N4 hY hz1 hz2
    try clear N3 N2 F3 F2
    try clear I1 I2 C2 L2 L1
    replace N5 := newsDrop4 N5
    replace l4 := ltSub l4 (fun p hp => List.mem_cons_of_mem _ (List.mem_cons_of_mem _ (List.mem_cons_of_mem _ (List.mem_cons_of_mem _ hp))))
    have l4 := l4
    k_lt l4
    clear l3 off
    try clear kN
    k_steps
    with_reducible rename IsRange _ _ _ _ _ _ _ _ => hR6
    with_reducible rename Fr _ _ _ _ => F6
    with_reducible rename News _ _ _ _ => N6
    refine Held.mk ?_
    refine LCg.CompSrc.range (n := 3) (by rfl) F6 N6 hR6 (by rfl) (by rfl) (by decide) ?_
    intro g6
    refine compRest_of (GoodF _) ?stepF ?finF _ 0 [] _ (Nat.zero_add _) (GoodF.start _)
    case stepF =>
      intro i ys news v I oI C oC D m₂ h tk E' hi hg hP hC hx F N off ne
      obtain ⟨newp, rfl, hyl, hyF, hf⟩ := hg
      obtain ⟨t, rfl⟩ := hP
      have hi0 : (0 : Int) ≤ (0 : Int) + (i : Int) := by omega
      have hi3 : (0 : Int) + (i : Int) < 3 := by omega
      generalize (0 : Int) + (i : Int) = at9 at hi0 hi3 hx
      rename (Obj.data _ = Data.cell (some (Value.ref c9))) => hx6
      generalize hr4 : newp ++ (c9, listOf cvs.toArray 0) :: _ = rest4 at N off
      have m4 : ∀ p ∈ ((c9, listOf cvs.toArray 0) :: _ : List (Addr × Obj)), p ∈ rest4 := fun p hp => hr4 ▸ List.mem_append_right _ hp
      have j1 := m4 _ List.mem_cons_self
      have j2 := m4 (_, _) (List.mem_cons_of_mem _ (List.mem_cons_of_mem _ (List.mem_cons_of_mem _ (List.mem_cons_of_mem _ (List.mem_cons_of_mem _ List.mem_cons_self)))))
      have j3 := m4 (_, _) (List.mem_cons_of_mem _ (List.mem_cons_of_mem _ (List.mem_cons_of_mem _ (List.mem_cons_of_mem _ List.mem_cons_self))))
      have j4 := m4 (_, _) (List.mem_cons_of_mem _ (List.mem_cons_of_mem _ (List.mem_cons_of_mem _ List.mem_cons_self)))
      k_steps
      refine Held.mk ?_
      with_reducible rename (_ < _) => q4
      with_reducible rename (_ < _ ∧ _ < _ ∧ _ < _ ∧ _ < _ ∧ _ < _ ∧ AllLt _ rest4) => q3
      with_reducible rename (_ < _ ∧ _ < _ ∧ _ < _ ∧ _ < _ ∧ AllLt _ rest4) => q2
      with_reducible rename (_ < _ ∧ _ < _ ∧ _ < _ ∧ AllLt _ rest4) => q1
      with_reducible rename (_ ∈ words5) => hw9
      with_reducible rename (StrsAre _ (namesOf _)) => hs2
      revert hs2
      with_reducible rename (StrsAre _ (namesOf _)) => hs1
      intro hs2
      subst hr4
      refine compEndAdd (by k_asm) (by k_asm) off q1 q2.1 q3.1 q4 trivial (GoodF.step4 hyl hyF hf ?_ q1.2.2.2 q2.1 q3.1 q4)
      refine ⟨_, _, _, _, _, _, _, _, _, _, _, _, _, _, rfl, by k_mem, by k_mem, by k_mem, by k_mem, by with_unfolding_all rfl, by with_unfolding_all rfl, by with_unfolding_all rfl, hs1, hs2, ?_, ?_, ?_⟩
      · rw [strsLen hs1]; exact namesOf_len _
      · rw [strsLen hs2]; exact namesOf_len _
      · intro x hx
        rcases List.mem_append.mp hx with hx | hx
        · rcases List.mem_cons.mp hx with rfl | hx
          · exact hw9
          · exact namesOf_in _ x hx
        · exact namesOf_in _ x hx
    case finF =>
      have hb9 := l4
      rintro ys news ⟨newp, rfl, hyl, hyF, hf⟩ D h tk F N off
      dsimp only
      obtain ⟨R0, N9, hmD, hmc, hmw, hm1, hyF, hR2, hR3⟩ := lawLedger N off hf hb9.2.2.1 lw4.2.1 hyF
      rename (Obj.data _ = Data.cell (some (Value.ref c9))) => hx6
      obtain ⟨m0, F9⟩ : ∃ m0 : Str → Option Value, Fr s1.heap s1.heap.objs.size h (fun z => if z = Str.ofString "functions" then some (Value.ref D) else if z = Str.ofString "_law_words" then some (Value.ref _) else m0 z) := ⟨_, F⟩
      clear N off hf N6 F6 hR6 F
      clear hb9
      refine law_mid (o2 := lu) _ _ ?hsc _ ?hb F9 (by assumption) (by assumption) N9 hmD hmc hc9 hmw (.cons _ _ (.cons _ _ (.cons _ _ (.cons _ _ (.cons _ _ .nil))))) hm1 hx6 (by assumption) (by assumption) hyl hyF hR2 hR3 ?hE ?hQ
      case hsc => delta lawScope lawDef PySem.Challenge.pw_sj0188_01; dsimp only [List.getLast?, List.getLast, Option.map, Option.getD]
      case hb => delta lawBody lawDef PySem.Challenge.pw_sj0188_01; dsimp only [List.getLast?, List.getLast, Option.map, Option.getD, List.drop]
      case hE => passes_own
      case hQ =>
        intro h8 tk8 m8 F8
        dsimp only [qk]
        k_end
        wrow_close)
end
theorem rg_34 : True := by
  k_with_none
  (k_with "own lt" => (first | (with_reducible assumption) | ((with_reducible refine Nat.lt_trans ?_ (by assumption)); k_extra "own lt") | exact And.left (by with_reducible assumption) | exact And.left (And.right (by with_reducible assumption)) | exact And.left (And.right (And.right (by with_reducible assumption))) | exact And.left (And.right (And.right (And.right (by with_reducible assumption)))) | exact And.left (And.right (And.right (And.right (And.right (by with_reducible assumption))))) | exact And.left (And.right (And.right (And.right (And.right (And.right (by with_reducible assumption)))))) | exact And.left (And.right (And.right (And.right (And.right (And.right (And.right (by with_reducible assumption))))))) | exact And.left (And.right (And.right (And.right (And.right (And.right (And.right (And.right (by with_reducible assumption)))))))) | exact And.left (And.right (And.right (And.right (And.right (And.right (And.right (And.right (And.right (by with_reducible assumption))))))))) | exact And.left (And.right (And.right (And.right (And.right (And.right (And.right (And.right (And.right (And.right (by with_reducible assumption)))))))))) | exact And.left (And.right (And.right (And.right (And.right (And.right (And.right (And.right (And.right (And.right (And.right (by with_reducible assumption))))))))))) | exact And.left (And.right (And.right (And.right (And.right (And.right (And.right (And.right (And.right (And.right (And.right (And.right (by with_reducible assumption)))))))))))) | exact And.left (And.right (And.right (And.right (And.right (And.right (And.right (And.right (And.right (And.right (And.right (And.right (And.right (by with_reducible assumption))))))))))))) | fail "own lt"))
  (k_with "own ne" => ((refine neN ?_); (try dsimp only); (first | exact Nat.ne_of_gt (by k_extra "own lt") | exact Nat.ne_of_lt (by k_extra "own lt") | fail "own ne")))
  (k_with "getAttr ref" => (k_here; k_dflt (refine' get_own ?u9k1 ?u9k2 ?u9k3 ?u9k4 ?u9k5 ?u9k6 ?u9k7 ?u9k8 ?u9k9 ?_; (case u9k1 => k_asm); (case u9k2 => k_asm); (case u9k3 => k_inst); (case u9k4 => k_is); (case u9k5 => k_is); (case u9k6 => k_is); (case u9k7 => k_is); (case u9k8 => with_reducible assumption); (case u9k9 => k_handed); k_whole)))
  (k_with "getMethod ref" => (k_here; (with_reducible show wpAny _ _ (getMethod (Value.ref _) (Str.ofString "get") _) _ _ _); k_dflt (refine' DR.method ?u9N ?u9m ?u9d ?_; (case u9N => k_asm); (case u9m => k_mem); (case u9d => with_reducible assumption))))
  (k_with "call builtin:dict.get" => ((k_here; k_dflt (refine' DR.get2 ?u9N ?u9m ?u9d ?u9l ?u9v ?_; (case u9N => k_asm); (case u9m => k_mem); (case u9d => with_reducible assumption); (case u9l => with_reducible assumption); (case u9v => first | exact VOk.str _ | with_reducible assumption)); intro r' hv' hd'); (revert r' hv' hd'; intros)))
  (k_with "compareOp In str ref" => (k_here; k_dflt (refine' DR.has ?u9N ?u9m ?u9d ?u9l ?_; (case u9N => k_asm); (case u9m => k_mem); (case u9d => with_reducible assumption); (case u9l => with_reducible assumption))))
  (k_with "setItem ref str" => ((k_here; k_dflt (refine' DR.set ?u9F ?u9N ?u9U ?u9d ?u9v ?u9z ?_; (case u9F => k_asm); (case u9N => k_asm); (case u9U => k_updF); (case u9d => with_reducible assumption); (case u9v => first | exact VOk.str _ | with_reducible assumption); (case u9z => omega)); intro h' o' F' N' hd'; (try dsimp only at N')); (revert h' o' F' N' hd'; intros)))
  (k_with "binaryOp Add ref ref" => ((k_here; k_dflt (refine' addL ?u9k1 ?u9k2 ?u9k3 ?u9k4 ?u9k5 ?_; (case u9k1 => k_asm); (case u9k2 => k_asm); (case u9k3 => k_mem); (case u9k4 => k_mem); (case u9k5 => ktr_rel); k_whole); intro c' h' F' N' l1; (have l2 := l1); (try k_lt l2)); (revert c' h' F' N' l1; intros)))
  (k_with "binaryOp Mult ref int" => ((k_here; k_dflt (refine' mul1 ?u9k1 ?u9k2 ?u9k3 ?u9k4 ?u9k5 ?_; (case u9k1 => k_asm); (case u9k2 => k_asm); (case u9k3 => k_mem); (case u9k4 => omega); (case u9k5 => omega); k_whole); intro c' h' F' N' l1; (have l2 := l1); (try k_lt l2)); (revert c' h' F' N' l1; intros)))
  (k_with "subscriptTail" => ((k_here; k_dflt (refine' sliceTo ?u9k1 ?u9k2 ?u9k3 ?u9k4 ?u9k5 ?_ ?u9k6; (case u9k1 => k_asm); (case u9k2 => k_asm); (case u9k3 => k_mem); (case u9k4 => omega); (case u9k5 => ktr_rel); (case u9k6 => with_unfolding_all rfl); k_whole); intro c' h' F' N' l1; (have l2 := l1); (try k_lt l2)); (revert c' h' F' N' l1; intros)))
  (k_with "subscriptTail" => ((k_here; k_dflt (refine' sliceFrom ?u9k1 ?u9k2 ?u9k3 ?u9k4 ?u9k5 ?_ ?u9k6; (case u9k1 => k_asm); (case u9k2 => k_asm); (case u9k3 => k_mem); (case u9k4 => omega); (case u9k5 => ktr_rel); (case u9k6 => with_unfolding_all rfl); k_whole); intro c' h' F' N' l1; (have l2 := l1); (try k_lt l2)); (revert c' h' F' N' l1; intros)))
  (k_with "subscriptTail" => ((k_here; k_dflt (refine' sliceRev ?u9k1 ?u9k2 ?u9k3 ?u9k5 ?_ ?u9k6; (case u9k1 => k_asm); (case u9k2 => k_asm); (case u9k3 => k_mem); (case u9k5 => ktr_rel); (case u9k6 => with_unfolding_all rfl); k_whole); intro c' h' F' N' l1; (have l2 := l1); (try k_lt l2)); (revert c' h' F' N' l1; intros)))
  (k_with "exec Assign cons ListComp" => (k_here; k_dflt (refine LCg.Assign_ListComp_U (F₀ := by k_asm) (by rfl) (by with_unfolding_all rfl) (by with_unfolding_all rfl) (by decide) (by rfl) (by decide) (by rfl) (by rfl) (by rfl) ?_)))
  (k_with "call builtin:list.append" => ((k_here; k_dflt (refine' appendL ?u9k1 ?u9k2 ?u9k3 ?u9k4 ?_; (case u9k1 => k_asm); (case u9k2 => k_asm); (case u9k3 => k_updF); (case u9k4 => ktr_rel)); intro h' F' N'; (try dsimp only at N')); (revert h' F' N'; intros)))
  (k_with "setAttr ref" => ((k_here; k_dflt (refine' setF ?u9k1 ?u9k2 ?u9k3 ?u9k4 ?u9k5 ?u9k6 ?u9k7 ?u9k8 ?u9k9 ?u9k10 ?u9k11 ?u9k12 ?_; (case u9k1 => k_asm); (case u9k2 => k_asm); (case u9k3 => k_asm); (case u9k4 => k_inst); (case u9k5 => exact rfl); (case u9k6 => k_is); (case u9k7 => k_is); (case u9k8 => k_is); (case u9k9 => k_is); (case u9k10 => with_reducible assumption); (case u9k11 => k_updF); (case u9k12 => with_reducible assumption)); intro es' n' h' hz' ho' hs' F' N'; (try dsimp only at N'); (try (have q' := (ho' (Str.ofString "store") (by decide)).trans (by with_reducible assumption))); (try (have q' := (ho' (Str.ofString "aside") (by decide)).trans (by with_reducible assumption)))); (revert es' n' h' hz' ho' hs' F' N'; intros)))
  (k_with "call builtin:len" => (k_here; (with_reducible show wpAny _ _ (call (Value.builtin "len") [Value.ref _]) _ _ _); k_dflt (refine' lenL ?u9N ?u9m ?u9z ?_; (case u9N => k_asm); (case u9m => k_mem); (case u9z => ktr_rel)); (try dsimp only)))
  (k_with "call builtin:list.pop" => ((k_here; (try dsimp only); k_dflt (refine' popL ?u9k1 ?u9k2 ?u9k3 ?u9k4 ?_; (case u9k1 => k_asm); (case u9k2 => k_asm); (case u9k3 => k_updF); (case u9k4 => ktr_rel)); intro h' F' N'; (try dsimp only at N')); (revert h' F' N'; intros)))
  (k_with "call ref" => ((k_here; (with_reducible show wpAny _ _ (call (Value.ref 87) _) _ _ _); k_dflt (refine' Calls.use (plain_var_calls _ ?u9a1 ?u9a2 ?u9a3 ?u9a4 ?u9a5 ?u9a6) ?u9B ?u9F ?u9X ?u9N ?u9T ?u9hk ?u9hd ?u9hu ?_; (case u9B => k_asm); (case u9F => k_asm); (case u9X => k_asm); (case u9N => k_asm); (case u9T => k_asm); (case u9hk => first | exact rfl | assumption); (case u9hd => ktr_room); (case u9hu => ktr_units); (case u9a1 => k_mem); (case u9a2 => k_mem); (case u9a4 => with_reducible assumption); (case u9a3 => k_mem); (case u9a5 => with_reducible assumption); (case u9a6 => with_reducible assumption)); (intro r' news' h' tk' F' N' hp'; obtain ⟨hn', hv', hd'⟩ := hp'; subst hn'; (try dsimp only))); (revert r' h' tk' F' N' hv' hd'; intros)))
  (k_with "call ref" => ((k_here; (with_reducible show wpAny _ _ (call (Value.ref 122) _) _ _ _); k_dflt (refine' Calls.use (own_names_calls _ ?u9a1 ?u9a2 ?u9a3 ?u9a4 ?u9a5 ?u9a6 ?u9a7 ?u9a8 ?u9a9) ?u9B ?u9F ?u9X ?u9N ?u9T ?u9hk ?u9hd ?u9hu ?_; (case u9B => k_asm); (case u9F => k_asm); (case u9X => k_asm); (case u9N => k_asm); (case u9T => k_asm); (case u9hk => first | exact rfl | assumption); (case u9hd => ktr_room); (case u9hu => ktr_units); (case u9a1 => k_mem); (case u9a2 => k_mem); (case u9a5 => with_reducible assumption); (case u9a6 => with_reducible assumption); (case u9a7 => with_reducible assumption); (case u9a3 => k_mem); (case u9a4 => k_mem); (case u9a8 => with_reducible assumption); (case u9a9 => with_reducible assumption)); (intro r' news' h' tk' F' N' hp'; obtain ⟨l', hr', hn', l1⟩ := hp'; subst hr' hn'; (have l2 := l1); (try k_lt l2); (try dsimp only))); (revert h' tk' F' N' l' l1; intros)))
  (k_with "call ref" => ((k_here; (with_reducible show wpAny _ _ (call (Value.ref 129) _) _ _ _); k_dflt (refine' Calls.use (filled_args_calls _ ?u9a1 ?u9a2 ?u9a3) ?u9B ?u9F ?u9X ?u9N ?u9T ?u9hk ?u9hd ?u9hu ?_; (case u9B => k_asm); (case u9F => k_asm); (case u9X => k_asm); (case u9N => k_asm); (case u9T => k_asm); (case u9hk => first | exact rfl | assumption); (case u9hd => ktr_room); (case u9hu => ktr_units); (case u9a1 => k_mem); (case u9a2 => ktr_rel); (case u9a3 => ktr_rel)); (intro r' news' h' tk' F' N' hp'; obtain ⟨l', u', hr', hn', l1⟩ := hp'; subst hr' hn'; (have l2 := l1); (try k_lt l2); (try dsimp only))); (revert h' tk' F' N' l' u' l1; intros)))
  (k_with "compareOp In str ref" => (k_here; k_dflt (refine' HasD.not ?u9N ?u9m ?u9d ?u9l ?u9p ?_; (case u9N => k_asm); (case u9m => k_mem); (case u9d => with_reducible assumption); (case u9l => with_reducible assumption); (case u9p => with_reducible assumption))))
  (k_with "subscriptTail" => ((k_here; (with_reducible refine' itemStr (ss := words5) ?u9k1 ?u9k3 ?u9k4 ?u9k5 ?u9k6 ?u9k7 ?_ ?u9k8); k_dflt ((case u9k1 => k_asm); (case u9k3 => k_mem); (case u9k4 => exact StrsAre.cons _ _ (StrsAre.cons _ _ (StrsAre.cons _ _ (StrsAre.cons _ _ (StrsAre.cons _ _ StrsAre.nil))))); (case u9k5 => with_reducible assumption); (case u9k6 => with_reducible assumption); (case u9k7 => decide); (case u9k8 => with_unfolding_all rfl); k_whole); intro x' t' e'); (revert x' t' e'; intros)))
  (k_with "subscriptTail" => (k_here; (with_reducible refine' itemRef ?u9k1 ?u9k3 ?u9k5 ?u9k7 ?u9k4 ?_ ?u9k8); k_dflt ((case u9k1 => k_asm); (case u9k3 => k_mem); (case u9k4 => with_reducible assumption); (case u9k5 => first | with_reducible assumption | omega); (case u9k7 => ktr_rel); (case u9k8 => with_unfolding_all rfl))))
  (k_with "eval Dict" => ((k_here; k_dflt (refine' kdn_eval (knd := PySem.strKind _ _) ?u9F ?u9N ?u9b ?u9a ?u9l ?u9e ?u9n ?_; (case u9F => k_asm); (case u9N => k_asm); (case u9b => exact Top.nolimit (by k_asm)); (case u9a => rfl); (case u9l => rfl); (case u9e => exact List.cons_ne_nil _ _); (case u9n => exact Nat.le_of_ble_eq_true rfl)); intro d' h' o' F' N' l1 lo' hd'; (have l2 := l1); (try k_lt l2)); (revert d' h' o' F' N' l1 lo' hd'; intros)))
  (k_with "KdnMade" => ((k_here; k_dflt (refine' made1 ?u9F ?u9N ?u9U ?u9d ?u9v ?_; (case u9F => k_asm); (case u9N => k_asm); (case u9U => k_updF); (case u9d => k_asm); (case u9v => first | exact VOk.str _ | with_reducible assumption)); intro h' o' F' N' hd'; (try dsimp only at N')); (revert h' o' F' N' hd'; intros)))
  (k_with "subscriptTail" => ((k_here; (with_reducible refine' itemPad ?u9k1 ?u9k3 ?u9k4 ?u9k5 ?u9k7 ?_ ?u9k8); k_dflt ((case u9k1 => k_asm); (case u9k3 => k_mem); (case u9k4 => with_reducible assumption); (case u9k5 => omega); (case u9k7 => omega); (case u9k8 => with_unfolding_all rfl)); intro r' hv' hd'); (revert r' hv' hd'; intros)))
  (k_with "call ref" => ((k_here; (with_reducible show wpAny _ _ (call (Value.ref 148) _) _ _ _); k_dflt (refine' Calls.use (law_names_calls _ ?u9a1) ?u9B ?u9F ?u9X ?u9N ?u9T ?u9hk ?u9hd ?u9hu ?_; (case u9B => k_asm); (case u9F => k_asm); (case u9X => k_asm); (case u9N => k_asm); (case u9T => k_asm); (case u9hk => first | exact rfl | assumption); (case u9hd => ktr_room); (case u9hu => ktr_units); (case u9a1 => with_reducible assumption)); (intro r' news' h' tk' F' N' hp'; obtain ⟨l', vs', hr', hn', l1, hS'⟩ := hp'; subst hr' hn'; (have l2 := l1); (try k_lt l2); (try dsimp only))); (revert h' tk' F' N' l' vs' l1 hS'; intros)))
  (k_with "compareOp In str ref" => (k_here; k_dflt (refine' DR.hasT ?u9N ?u9m ?u9d ?u9l ?u9p ?_; (case u9N => k_asm); (case u9m => k_mem); (case u9d => with_reducible assumption); (case u9l => with_reducible assumption); (case u9p => with_reducible assumption))))
  (k_with "compareOp In str ref" => (k_here; k_dflt (refine' DR.hasF ?u9N ?u9m ?u9d ?u9l ?u9p ?_; (case u9N => k_asm); (case u9m => k_mem); (case u9d => with_reducible assumption); (case u9l => with_reducible assumption); (case u9p => with_reducible assumption))))
  (k_with "subscriptTail" => ((k_here; (with_reducible refine' DR.item ?u9N ?u9m ?u9d ?u9p ?_ ?u9e); k_dflt ((case u9N => k_asm); (case u9m => k_mem); (case u9d => with_reducible assumption); (case u9p => with_reducible assumption); (case u9e => with_unfolding_all rfl)); intro r' hv' hd'); (revert r' hv' hd'; intros)))
  (k_with "call ref" => ((k_here; (with_reducible show wpAny _ _ (call (Value.ref 162) _) _ _ _); k_dflt (refine' Calls.use (law_found_calls _ ?u9a1 (FrAt.mono ?u9a0 (Nat.le_refl _) ?u9a2) ?u9a3) ?u9B ?u9F ?u9X ?u9N ?u9T ?u9hk ?u9hd ?u9hu ?_; (case u9B => k_asm); (case u9F => k_asm); (case u9X => k_asm); (case u9N => k_asm); (case u9T => k_asm); (case u9hk => first | exact rfl | assumption); (case u9hd => ktr_room); (case u9hu => ktr_units); (case u9a1 => k_mem); (case u9a2 => with_reducible assumption); (case u9a0 => tb_start); (case u9a3 => ktr_rel)); (intro r' news' h' tk' F' N' hp'; obtain ⟨hn', hv', hd'⟩ := hp'; subst hn'; (try dsimp only))); (revert r' h' tk' F' N' hv' hd'; intros)))
  (k_with "subscriptTail" => ((k_here; (with_reducible refine' cellItem ?u9k1 ?u9k3 ?u9k4 ?u9k5 ?u9k7 ?_ ?u9k8); k_dflt ((case u9k1 => k_asm); (case u9k3 => k_mem); (case u9k4 => with_reducible assumption); (case u9k5 => omega); (case u9k7 => omega); (case u9k8 => with_unfolding_all rfl)); intro c' t' hc'); (revert c' t' hc'; intros)))
  (k_with "subscriptTail" => ((k_here; (with_reducible refine' fghItem ?u9k1 ?u9k2 ?_ ?u9k3 ?u9k4); k_dflt ((case u9k1 => omega); (case u9k2 => omega); (case u9k3 => with_unfolding_all rfl); (case u9k4 => (intro _; with_unfolding_all rfl))); intro x' t' tk' hx'); (revert x' t' tk' hx'; intros)))
  (k_with "call ref" => ((k_here; (with_reducible show wpAny _ _ (call (Value.ref 76) _) _ _ _); k_dflt (refine' Calls.use (world_calls _) ?u9B ?u9F ?u9X ?u9N ?u9T ?u9hk ?u9hd ?u9hu ?_; (case u9B => k_asm); (case u9F => k_asm); (case u9X => k_asm); (case u9N => k_asm); (case u9T => k_asm); (case u9hk => first | exact rfl | assumption); (case u9hd => ktr_room); (case u9hu => ktr_units)); (intro r' news' h' tk' F' N' hp'; obtain ⟨aw', dw', st', sa', wr', tr', wes', wn', n4', ost', owr', otr', hr', hn', hw'⟩ := hp'; subst hr' hn'; (try dsimp only))); (revert h' tk' F' N' aw' dw' st' sa' wr' tr' wes' wn' n4' ost' owr' otr' hw'; intros)))
  trivial



end
end Mine
theorem PySem.Challenge.cw_sj0188_01_holds : PySem.Challenge.rw_sj0188_01.Holds :=
  Mine.lawW
