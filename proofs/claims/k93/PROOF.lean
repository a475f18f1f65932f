import PyProof.Rows.All
import Wide.All
import OpenK.AllK
import Wide.FinOn
import KE.GoesMore
import HandS.ForMost
import HandS.IsInst
import HandS.Style
import HandS.TupAny
import HandS.TupMul
import HandS.SortKw
import HandS.New0
import HandS.Walk
import HandS.Codes
import PySem.Challenge.RW_satchelmeet_k93_whole_rules_and_missed
import KE.KStateDown
import HandS.Head0
import HandS.Head1
import HandS.Head2
import HandS.HeadEnd
import HandS.HeadHook1
set_option autoImplicit false
set_option linter.all false
namespace Sm
/-- a meeting: its walkers, its when, its many -/
structure Mt where
  a : Nat
  b : Nat
  w : Int
  c : Int
/-- a letter: sender, since, wish, last -/
structure Lt where
  s : Nat
  t : Int
  d : Nat
  e : Int

abbrev Row := List (Option Int)
def ga (r : Row) (i : Nat) : Option Int := r.getD i none
theorem ga_set {r : Row} {i j : Nat} {v : Option Int} (h : i < r.length) : ga (r.set i v) j = if j = i then v else ga r j := by
  unfold ga
  rw [List.getD_eq_getElem?_getD, List.getD_eq_getElem?_getD]
  by_cases e : j = i
  · subst e
    rw [if_pos rfl, List.getElem?_set_self h]
    rfl
  · rw [if_neg e, List.getElem?_set_ne (Ne.symm e)]
theorem ga_rep (n i : Nat) : ga (List.replicate n none) i = none := by
  unfold ga
  rw [List.getD_eq_getElem?_getD, List.getElem?_replicate]
  split <;> rfl
theorem ga_at {r : Row} {i : Nat} (h : i < r.length) : r[i]? = some (ga r i) := by
  unfold ga
  rw [List.getD_eq_getElem?_getD, List.getElem?_eq_getElem h]
  rfl

/-- whether a letter is given, by times alone -/
def gives (r : Row) (w : Int) (g o : Nat) : Bool :=
  match ga r g, ga r o with
  | some t, none => decide (t < w)
  | _, _ => false
theorem gives_iff {r : Row} {w : Int} {g o : Nat} : gives r w g o = true ↔ (∃ t, ga r g = some t ∧ t < w) ∧ ga r o = none := by
  unfold gives
  cases h1 : ga r g with
  | none => simp
  | some t =>
    cases h2 : ga r o with
    | none => simp
    | some u => simp
def step1 (w : Int) (g o : Nat) (r : Row) : Row := if gives r w g o then r.set o (some w) else r
def stepM (r : Row) (m : Mt) : Row := step1 m.w m.b m.a (step1 m.w m.a m.b r)
def row0 (n s : Nat) (t : Int) : Row := (List.replicate n none).set s (some t)
def times (n : Nat) (ms : List Mt) (s : Nat) (t : Int) : Row := ms.foldl stepM (row0 n s t)
theorem len_step1 (w : Int) (g o : Nat) (r : Row) : (step1 w g o r).length = r.length := by
  unfold step1
  split
  · exact List.length_set
  · rfl
theorem len_stepM (r : Row) (m : Mt) : (stepM r m).length = r.length := by
  unfold stepM
  rw [len_step1, len_step1]
theorem len_fold (ms : List Mt) : ∀ r : Row, (ms.foldl stepM r).length = r.length := by
  induction ms with
  | nil => intro r; rfl
  | cons m ms ih => intro r; rw [List.foldl_cons, ih, len_stepM]
theorem len_row0 (n s : Nat) (t : Int) : (row0 n s t).length = n := by
  unfold row0
  rw [List.length_set, List.length_replicate]
theorem len_times (n : Nat) (ms : List Mt) (s : Nat) (t : Int) : (times n ms s t).length = n := by
  unfold times
  rw [len_fold, len_row0]
theorem times_take {n : Nat} {ms : List Mt} {s : Nat} {t : Int} {i : Nat} {m : Mt} (h : ms[i]? = some m) : times n (ms.take (i + 1)) s t = stepM (times n (ms.take i) s t) m := by
  unfold times
  rw [List.take_succ, h]
  simp [List.foldl_append]

/-! ### rules -/
inductive Rl where
  | all
  | halves (k : Int)
  | nearer
def Rl.first : Rl → Int
  | .halves k => k
  | _ => 0
/-- what the other one may get -/
def Rl.may (R : Rl) (l : Lt) (o : Nat) (u k : Int) : Prop :=
  match R with
  | .all => k = 0
  | .nearer => k = 0
  | .halves _ => (o = l.d ∧ k = 0) ∨ (o ≠ l.d ∧ 2 ≤ u ∧ k = u / 2)

/-! ### what holds of a letter's rows while a rule is run -/
def sumO (r : Row) : Int := (r.map fun x => x.getD 0).sum
theorem sum_set' : ∀ (r : List Int) (i : Nat) (v : Int), i < r.length → (r.set i v).sum = r.sum - r.getD i 0 + v
  | [], i, v, h => absurd h (Nat.not_lt_zero _)
  | x :: r, 0, v, _ => by
    simp only [List.set_cons_zero, List.sum_cons, List.getD_cons_zero]
    omega
  | x :: r, i + 1, v, h => by
    have ih := sum_set' r i v (Nat.lt_of_succ_lt_succ h)
    simp only [List.set_cons_succ, List.sum_cons, List.getD_cons_succ, ih]
    omega
theorem sumO_set {r : Row} {i : Nat} {v : Option Int} (h : i < r.length) : sumO (r.set i v) = sumO r - (ga r i).getD 0 + v.getD 0 := by
  unfold sumO
  rw [List.map_set, sum_set' _ _ _ (by rw [List.length_map]; exact h)]
  have e : (r.map fun x => x.getD 0).getD i 0 = (ga r i).getD 0 := by
    rw [List.getD_eq_getElem?_getD, List.getElem?_map, ga_at h]
    rfl
  rw [e]

/-- L: the least times so far; T, U: times and tokens; W: the latest when; ex: no bag and no meeting is full, and all is copied -/
structure RowOk (R : Rl) (n : Nat) (l : Lt) (ex : Prop) (W : Int) (L T U : Row) : Prop where
  lL : L.length = n
  lT : T.length = n
  lU : U.length = n
  snd : ga T l.s = some l.t
  both : ∀ k, ga T k = none ↔ ga U k = none
  least : ∀ k t, ga T k = some t → ∃ t0, ga L k = some t0 ∧ t0 ≤ t
  late : ∀ k t, ga L k = some t → k = l.s ∨ t ≤ W
  pos : ∀ k u, ga U k = some u → 0 ≤ u
  sum : sumO U = R.first
  half : ∀ f, R = .halves f → ∀ k u, ga U k = some u → k ≠ l.d → 1 ≤ u
  zero : (∀ f, R ≠ .halves f) → ∀ k u, ga U k = some u → u = 0
  same : ex → T = L

theorem sumO_rep (n : Nat) : sumO (List.replicate n none) = 0 := by
  unfold sumO
  induction n with
  | zero => rfl
  | succ n ih =>
    rw [List.replicate_succ, List.map_cons, List.sum_cons, ih]
    rfl
theorem RowOk.start {R : Rl} {n : Nat} {l : Lt} {ex : Prop} {W : Int} (hs : l.s < n) (hf : 0 ≤ R.first) (hh : ∀ f, R = .halves f → 1 ≤ f) : RowOk R n l ex W (row0 n l.s l.t) (row0 n l.s l.t) (row0 n l.s R.first) := by
  have g : ∀ (v : Int) (k : Nat), ga (row0 n l.s v) k = if k = l.s then some v else none := fun v k => by
    unfold row0
    rw [ga_set (by rw [List.length_replicate]; exact hs), ga_rep]
  refine ⟨len_row0 _ _ _, len_row0 _ _ _, len_row0 _ _ _, ?_, fun k => ?_, fun k t h => ⟨t, h, Int.le_refl _⟩, fun k t h => ?_, fun k u h => ?_, ?_, fun f e k u h _ => ?_, fun e k u h => ?_, fun _ => rfl⟩
  · rw [g, if_pos rfl]
  · rw [g, g]
    split <;> simp
  · rw [g] at h
    split at h
    · exact .inl (by assumption)
    · cases h
  · rw [g] at h
    split at h
    · cases h
      exact hf
    · cases h
  · unfold row0
    rw [sumO_set (by rw [List.length_replicate]; exact hs), sumO_rep, ga_rep]
    show (0 : Int) - 0 + R.first = R.first
    omega
  · rw [g] at h
    split at h
    · cases h
      subst e
      exact hh f rfl
    · cases h
  · rw [g] at h
    split at h
    · cases h
      cases R with
      | all => rfl
      | nearer => rfl
      | halves f => exact absurd rfl (e f)
    · cases h
section
variable {R : Rl} {n : Nat} {l : Lt} {ex : Prop} {W w : Int} {L T U : Row} {g o : Nat}
theorem ga_step1 (h : o < L.length) (k : Nat) : ga (step1 w g o L) k = if k = o ∧ gives L w g o = true then some w else ga L k := by
  unfold step1
  by_cases e : gives L w g o = true
  · rw [if_pos e, ga_set h]
    by_cases e2 : k = o
    · rw [if_pos e2, if_pos ⟨e2, e⟩]
    · rw [if_neg e2, if_neg fun q => e2 q.1]
  · rw [if_neg e, if_neg fun q => e q.2]
/-- nothing is copied -/
theorem RowOk.skip (x : RowOk R n l ex W L T U) (ho : o < n) (hw : W ≤ w) (hx : ex → gives T w g o = false) : RowOk R n l ex w (step1 w g o L) T U := by
  have hL : o < L.length := by rw [x.lL]; exact ho
  refine ⟨by rw [len_step1]; exact x.lL, x.lT, x.lU, x.snd, x.both, fun k t h => ?_, fun k t h => ?_, x.pos, x.sum, x.half, x.zero, fun e => ?_⟩
  · obtain ⟨t0, h0, h1⟩ := x.least k t h
    rw [ga_step1 hL]
    by_cases q : k = o ∧ gives L w g o = true
    · obtain ⟨q1, q2⟩ := q
      rw [gives_iff] at q2
      rw [q1, q2.2] at h0
      cases h0
    · rw [if_neg q]
      exact ⟨t0, h0, h1⟩
  · rw [ga_step1 hL] at h
    by_cases q : k = o ∧ gives L w g o = true
    · rw [if_pos q] at h
      cases h
      exact .inr (Int.le_refl _)
    · rw [if_neg q] at h
      rcases x.late k t h with q | q
      · exact .inl q
      · exact .inr (Int.le_trans q hw)
  · have h0 := hx e
    rw [x.same e] at h0
    unfold step1
    rw [if_neg (by rw [h0]; exact Bool.false_ne_true)]
    exact x.same e
/-- a letter is copied, k tokens go along -/
theorem RowOk.copy (x : RowOk R n l ex W L T U) (hg : g < n) (ho : o < n) (hgo : g ≠ o) (hw : W ≤ w) (hx : gives T w g o = true) {u k : Int} (hu : ga U g = some u) (hk : R.may l o u k) :
    RowOk R n l ex w (step1 w g o L) (T.set o (some w)) ((U.set o (some k)).set g (some (u - k))) := by
  have hL : o < L.length := by rw [x.lL]; exact ho
  have hT : o < T.length := by rw [x.lT]; exact ho
  have hU : o < U.length := by rw [x.lU]; exact ho
  have hU2 : g < (U.set o (some k)).length := by rw [List.length_set, x.lU]; exact hg
  obtain ⟨⟨t, ht, htw⟩, hn⟩ := gives_iff.mp hx
  have hUo : ga U o = none := (x.both o).mp hn
  have gT : ∀ j, ga (T.set o (some w)) j = if j = o then some w else ga T j := fun j => ga_set hT
  have gU : ∀ j, ga ((U.set o (some k)).set g (some (u - k))) j = if j = g then some (u - k) else if j = o then some k else ga U j := fun j => by
    rw [ga_set hU2, ga_set hU]
  have hso : l.s ≠ o := fun e => by
    have h := x.snd
    rw [e, hn] at h
    cases h
  have hu0 : 0 ≤ u := x.pos g u hu
  have key : 0 ≤ k ∧ 0 ≤ u - k ∧ (∀ f, R = .halves f → (g ≠ l.d → 1 ≤ u - k) ∧ (o ≠ l.d → 1 ≤ k)) ∧ ((∀ f, R ≠ .halves f) → k = 0 ∧ u = 0) := by
    cases R with
    | all =>
      have e : k = 0 := hk
      subst e
      exact ⟨Int.le_refl _, by omega, fun f e => (nomatch e), fun e => ⟨rfl, x.zero e g u hu⟩⟩
    | nearer =>
      have e : k = 0 := hk
      subst e
      exact ⟨Int.le_refl _, by omega, fun f e => (nomatch e), fun e => ⟨rfl, x.zero e g u hu⟩⟩
    | halves f =>
      have hk' : (o = l.d ∧ k = 0) ∨ (o ≠ l.d ∧ 2 ≤ u ∧ k = u / 2) := hk
      refine ⟨?_, ?_, fun f' e => ⟨fun q => ?_, fun q => ?_⟩, fun e => absurd rfl (e f)⟩
      · rcases hk' with ⟨_, h⟩ | ⟨_, h1, h2⟩ <;> omega
      · rcases hk' with ⟨_, h⟩ | ⟨_, h1, h2⟩ <;> omega
      · have h1 := x.half f rfl g u hu q
        rcases hk' with ⟨_, h⟩ | ⟨_, h1, h2⟩ <;> omega
      · rcases hk' with ⟨h, _⟩ | ⟨_, h1, h2⟩
        · exact absurd h q
        · omega
  obtain ⟨k0, k1, k2, k3⟩ := key
  refine ⟨by rw [len_step1]; exact x.lL, by rw [List.length_set]; exact x.lT, by rw [List.length_set, List.length_set]; exact x.lU, ?_, fun j => ?_, fun j t' h => ?_, fun j t' h => ?_, fun j u' h => ?_, ?_, fun f e j u' h q => ?_, fun e j u' h => ?_, fun e => ?_⟩
  · rw [gT, if_neg hso]
    exact x.snd
  · rw [gT, gU]
    by_cases e1 : j = o
    · rw [if_pos e1, if_neg (by rw [e1]; exact Ne.symm hgo), if_pos e1]
      simp
    · rw [if_neg e1]
      by_cases e2 : j = g
      · rw [if_pos e2, e2, ht]
        simp
      · rw [if_neg e2, if_neg e1]
        exact x.both j
  · rw [ga_step1 hL]
    rw [gT] at h
    by_cases e1 : j = o
    · rw [if_pos e1] at h
      cases h
      by_cases q : j = o ∧ gives L w g o = true
      · rw [if_pos q]
        exact ⟨w, rfl, Int.le_refl _⟩
      · rw [if_neg q]
        obtain ⟨tg, hg0, hg1⟩ := x.least g t ht
        cases hLo : ga L o with
        | none =>
          refine absurd ⟨e1, gives_iff.mpr ⟨⟨tg, hg0, by omega⟩, hLo⟩⟩ q
        | some t0 =>
          rw [e1, hLo]
          refine ⟨t0, rfl, ?_⟩
          rcases x.late o t0 hLo with r | r
          · exact absurd r.symm hso
          · omega
    · rw [if_neg e1] at h
      rw [if_neg fun q => e1 q.1]
      exact x.least j t' h
  · rw [ga_step1 hL] at h
    by_cases q : j = o ∧ gives L w g o = true
    · rw [if_pos q] at h
      cases h
      exact .inr (Int.le_refl _)
    · rw [if_neg q] at h
      rcases x.late j t' h with q | q
      · exact .inl q
      · exact .inr (Int.le_trans q hw)
  · rw [gU] at h
    split at h
    · cases h
      exact k1
    · split at h
      · cases h
        exact k0
      · exact x.pos j u' h
  · have e1 : ga (U.set o (some k)) g = some u := by rw [ga_set hU, if_neg hgo]; exact hu
    rw [sumO_set hU2, sumO_set hU, e1, hUo]
    have hs := x.sum
    show sumO U - 0 + k - u + (u - k) = R.first
    omega
  · rw [gU] at h
    obtain ⟨z1, z2⟩ := k2 f e
    split at h
    · cases h
      rename_i e3
      exact z1 (by rw [← e3]; exact q)
    · split at h
      · cases h
        rename_i e3
        exact z2 (by rw [← e3]; exact q)
      · exact x.half f e j u' h q
  · rw [gU] at h
    obtain ⟨z1, z2⟩ := k3 e
    split at h
    · cases h
      omega
    · split at h
      · cases h
        exact z1
      · exact x.zero e j u' h
  · have h0 := hx
    rw [x.same e] at h0
    unfold step1
    rw [if_pos h0, x.same e]
end

/-! ### all letters -/
abbrev Grid := List Row
/-- the rows of all letters: Ls the least ones -/
structure GridOk (R : Rl) (n : Nat) (ls : List Lt) (ex : Prop) (W : Int) (Ls T U : Grid) : Prop where
  lL : Ls.length = ls.length
  lT : T.length = ls.length
  lU : U.length = ls.length
  row : ∀ (i : Nat) (l : Lt) (rL rT rU : Row), ls[i]? = some l → Ls[i]? = some rL → T[i]? = some rT → U[i]? = some rU → RowOk R n l ex W rL rT rU

/-! ### coming -/
def comesR (r : Row) (l : Lt) : Bool :=
  match ga r l.d with
  | none => false
  | some t => decide (t ≤ l.e)
def comes (n : Nat) (ms : List Mt) (l : Lt) : Bool := comesR (times n ms l.s l.t) l
def comeL (n : Nat) (ms : List Mt) (ls : List Lt) : List Nat := (List.range ls.length).filter fun k => (ls[k]?).any (comes n ms)
def lostL (n : Nat) (ms ms' : List Mt) (ls : List Lt) : List Nat := (List.range ls.length).filter fun k => (ls[k]?).any fun l => comes n ms l && !comes n ms' l
theorem lost_eq (n : Nat) (ms ms' : List Mt) (ls : List Lt) : (comeL n ms ls).filter (fun k => !(comeL n ms' ls).contains k) = lostL n ms ms' ls := by
  unfold lostL
  have e0 : comeL n ms ls = (List.range ls.length).filter fun k => (ls[k]?).any (comes n ms) := rfl
  rw [e0, List.filter_filter]
  refine List.filter_congr fun k hk => ?_
  have hk' : k < ls.length := List.mem_range.mp hk
  have e : (comeL n ms' ls).contains k = comes n ms' ls[k] := by
    unfold comeL
    rw [Bool.eq_iff_iff, List.contains_iff_mem, List.mem_filter, List.getElem?_eq_getElem hk']
    exact ⟨fun h => h.2, fun h => ⟨hk, h⟩⟩
  rw [e, List.getElem?_eq_getElem hk']
  show (!comes n ms' ls[k] && comes n ms ls[k]) = (comes n ms ls[k] && !comes n ms' ls[k])
  exact Bool.and_comm _ _
end Sm
set_option Elab.async false
set_option linter.all false
set_option maxRecDepth 100000
set_option maxHeartbeats 4000000
/-! Rules that the layer lacks. -/
namespace SmE
open PySem PyProof.Rows
open AutoSeq1 (wpAny_loadPart')
/-- enumerate of a tuple -/
theorem meets_enum_tup (l : Addr) (items : Array Value) (n : Nat) (dct : Option Addr) (sl : Array (Option Value)) :
    Meets (Builtin.«enumerate.__new__» ⟨[.type "enumerate", .ref l], []⟩) (fun _ R s => s.heap.get? l = some { cls := .type "tuple", dict := dct, data := .seq items n, slots := sl } ∧
      R (.ok (.ret (.ref (s.heap.push { cls := .type "tuple_iterator", data := .fields #[.ref l, .int 0 0] }).objs.size)))
        { s with heap := (s.heap.push { cls := .type "tuple_iterator", data := .fields #[.ref l, .int 0 0] }).push { cls := .type "enumerate", data := .fields #[.none, .bool false, .ref s.heap.objs.size, rawInt 0, .none, .none] } }) :=
  .of_wp fun prog w A R s h => by
    obtain ⟨hp, g, d, tk, os⟩ := s; obtain ⟨hl, h⟩ := h
    have hsub := sub_enumerate
    have hL : Heap.IsTuple (Shared.heap ⟨hp, g, d, tk, os⟩) l items := ⟨_, hl, rfl, n, rfl⟩
    wp_walk using wpAny_loadPart' hl
    refine wpAny_stack_any fun st => wpAny_pure ?_
    split
    · rename_i c _ _ _ _ _
      cases (c == Value.type "enumerate")
      · wp_walk using wpAny_loadPart' hl, wpAny_pyIter_tuple hL
        exact ⟨_, rfl, h⟩
      · wp_walk using wpAny_loadPart' hl, wpAny_pyIter_tuple hL
        exact ⟨_, rfl, h⟩
    · wp_walk using wpAny_loadPart' hl, wpAny_pyIter_tuple hL
      exact ⟨_, rfl, h⟩
section
variable {prog : Program} {w : World} {A : Around} {E : Value → Shared → Prop} {s : Shared}
theorem call_enum_tup {l : Addr} {items : Array Value} {Q : Value → Shared → Prop} (hL : s.heap.IsTuple l items)
    (h : ∀ h', IsEnum h' (s.heap.objs.size + 1) s.heap.objs.size 0 .none → h'.IsTupleIter s.heap.objs.size l 0 → h'.objs.size = s.heap.objs.size + 2 →
      (∀ b o, s.heap.get? b = some o → h'.get? b = some o) → Q (.ref (s.heap.objs.size + 1)) { s with heap := h' }) :
    wpAny (model prog w) A (call (.type "enumerate") [.ref l]) Q E s := by
  obtain ⟨⟨c, dct, dt, sl⟩, hl, hc, n, hd⟩ := hL
  replace hc : c = .type "tuple" := hc
  replace hd : dt = .seq items n := hd
  subst hc hd
  refine callType_new F.called_enumerate (by decide) (F.typeCall_enumerate_1 _) (F.newCall_enumerate_1 _) (fun obj => F.args_object_init_2 obj _) F.entry_enumerate_new
    (meets_enum_tup l items n dct sl) ⟨hl, ?_⟩
  have hz : (s.heap.push { cls := .type "tuple_iterator", data := .fields #[.ref l, .int 0 0] }).objs.size = s.heap.objs.size + 1 := Heap.size_push ..
  show _ ∧ _
  rw [hz]
  have he : IsEnum ((s.heap.push { cls := .type "tuple_iterator", data := .fields #[.ref l, .int 0 0] }).push
      { cls := .type "enumerate", data := .fields #[.none, .bool false, .ref s.heap.objs.size, rawInt 0, .none, .none] }) (s.heap.objs.size + 1) s.heap.objs.size 0 .none := by
    have := Heap.get?_push_size (s.heap.push { cls := .type "tuple_iterator", data := .fields #[.ref l, .int 0 0] })
      (o := { cls := .type "enumerate", data := .fields #[.none, .bool false, .ref s.heap.objs.size, rawInt 0, .none, .none] }) rfl
    rw [hz] at this; exact this
  refine ⟨⟨_, he, rfl⟩, h _ he ⟨_, Heap.get?_push_of_some _ (Heap.get?_push_size _ rfl), rfl, rfl⟩ (by rw [Heap.size_push, hz]) fun b o x => Heap.get?_push_of_some _ (Heap.get?_push_of_some _ x)⟩
theorem next_enum_tup_end {e it t : Addr} {items : Array Value} {i : Nat} {k : Int} {old : Value} {Q : Option Value → Shared → Prop} (hh : A.handled = none)
    (he : IsEnum s.heap e it k old) (hit : s.heap.IsTupleIter it t i) (ht : s.heap.IsTuple t items) (hx : items[i]? = none)
    (hQ : ∀ h', Heap.ExtBut it s.heap h' → Q none { s with heap := h' }) : wpAny (model prog w) A (pyNext (.ref e)) Q E s := by
  have hT : s.TypeIs (.ref e) "enumerate" := ⟨_, he, rfl⟩
  unfold pyNext
  refine wpAny_bind (wpAny_attempt (wpAny_callSpecial?_slot (name := Str.ofString "__next__") hT F.slot_enumerate_next
    (wpAny_call_entry F.slot_enumerate_next hT F.entry_enumerate_next ?_ (F.args_enumerate_next_1 _))))
  show wpAny _ _ (field (.ref e) 2 >>= _) _ _ _
  refine wpAny_bind (wpAny_field he rfl (x := .ref it) rfl ?_)
  refine wpAny_bind (wpAny_nextOf_tuple_end hh hit ht hx fun h' x he' hx' => ?_)
  obtain ⟨o, ho, hc⟩ := hx'
  refine wpAny_bind (wpAny_isInstance (T := "StopIteration") (b := true) ⟨o, ho, hc⟩ isSubtype_stop ?_)
  exact wpAny_pure (hQ _ he')
end
end SmE
namespace L2
open PySem PySem.Spec PyProof.Rows
/-! ### o[i] op= e on a list -/
def rGetL (K : PySem.W.Frag) : V → V → Hp → VK → Prop := fun o i H Q => ∃ p xs j v, o = .ref p ∧ i = .int j ∧ SqL K H p xs ∧ atI xs j = some v ∧ Q v H
theorem get_list {X : Cx} : PGet X (rGetL X.K) := by
  intro pins s σ H o i ov iv Q I ro ri h
  obtain ⟨p, xs, i, z, rfl, rfl, hq, he, q⟩ := h
  cases ro
  obtain ⟨t, rfl⟩ := ri
  obtain ⟨its, r, pl, hz⟩ := I.list hq
  obtain ⟨j, h1, h2, h3, h4, h5⟩ := atI_get he
  obtain ⟨w, ew, rw'⟩ := r.get h2
  have hl := r.length
  have hn := line63
  have fin : EP X pins σ Q w s := ⟨z, H, I, rw', q⟩
  by_cases h0 : 0 ≤ i
  · have hj : i.toNat = j := by
      rw [seqIndex_of h0 h5] at h1
      exact Option.some.inj h1
    exact wpAny_getItem_list pl.isList h0 (by omega) (by rw [hj]; simpa using ew) fin
  · have hj : (i + (its.toArray.size : Int)).toNat = j := by
      rw [seqIndex_neg (by omega) h4] at h1
      rw [List.size_toArray, ← hl]
      exact Option.some.inj h1
    exact wpAny_getItem_list_neg pl.isList (by omega) (by rw [List.size_toArray] <;> omega) (by omega) (by rw [hj]; simpa using ew) fin
/-! ### enumerate of a tuple -/
def IteT (K : PySem.W.Frag) (a : Addr) : It :=
  ⟨fun i H => ∃ (xs : List V) (x : V), SqT K H a xs ∧ xs[i]? = some x, fun i H v H' => ∃ T x, v = .ref T ∧ H T = none ∧ H' = upd H T (.tup [.int (i : Nat), x]) ∧ ∀ xs, SqT K H a xs → xs[i]? = some x, fun i H => ∃ xs : List V, SqT K H a xs ∧ xs.length ≤ i⟩
theorem turn_enumT {P : Program} {w : World} {K : PySem.W.Frag} {elts : List Expr} {kk : Nat} {tpos : Pos} (a e it : Addr) :
    Turn P w K (.Tuple elts kk tpos) (IteT K a) [e, it] e (fun i h => (∃ old, IsEnum h e it ((i : Nat) : Int) old) ∧ h.IsTupleIter it a i ∧ e ≠ it) where
  mem := by simp
  obj := fun i h st b hb => by
    obtain ⟨⟨old, he⟩, ⟨o, ho, hc, hd⟩, _⟩ := st
    have e' : b = e ∨ b = it := by simpa using hb
    rcases e' with z | z
    · rw [z]; exact ⟨_, he, fun v q => nomatch q⟩
    · rw [z]; exact ⟨o, ho, fun v q => by rw [hd] at q; cases q⟩
  keep := fun i h h' st k => let ⟨⟨old, he⟩, hi, hne⟩ := st; ⟨⟨old, k e (by simp) _ he⟩, hi.at fun o q => k it (by simp) o q, hne⟩
  item := by
    intro X hP hw hK hc i pins s σ H E I hf st hg
    subst hP hw hK
    obtain ⟨⟨old, he⟩, hit, hne⟩ := st
    obtain ⟨xs, x, hq, hx⟩ := hg
    obtain ⟨its, rv, p, hz⟩ := I.tuple hq
    obtain ⟨u, hu, ru⟩ := rv.get hx
    have hh : X.A.handled = none := I.ok.hd hc
    have hel : e < s.heap.objs.size := Heap.lt_size he
    have hil : it < s.heap.objs.size := by obtain ⟨_, q, _⟩ := hit; exact Heap.lt_size q
    have hai : a ≠ it := fun z => by
      obtain ⟨o1, h1, c1, _⟩ := p
      obtain ⟨o2, h2, c2, _⟩ := hit
      rw [z, h2] at h1
      cases h1
      rw [c2] at c1
      exact absurd (Value.type.inj c1) (by decide)
    have hae : a ≠ e := fun z => by
      obtain ⟨o1, h1, c1, _⟩ := p
      rw [z, he] at h1
      cases h1
      exact absurd (Value.type.inj c1) (by decide)
    have hlt : i < its.toArray.size := by
      rw [List.size_toArray]
      exact (List.getElem?_eq_some_iff.mp hu).1
    refine wpAny_pyNext_enum_itemD (Draws.tuple (A := X.A.in1) hh it a hai its.toArray) he ⟨hit, p⟩ hlt hne (by simp [hne, Ne.symm hae]) fun y h' tk hy ho hst hT hsz hk => ?_
    obtain ⟨hit', _⟩ := hst
    have ey : y = u := by
      have h2 : its.toArray[i]? = some u := by simpa using hu
      rw [hy] at h2
      exact Option.some.inj h2
    subst ey
    refine ⟨_, rfl, wpAny_letOwnedTupleGo_enum (s := { s with heap := h', toks := tk + 1 }) ho fun h'' he' sb => ?_⟩
    have hT2 : h''.get? s.heap.objs.size = some { cls := .type "tuple", data := .seq #[.int i tk, y] } := (sb.2 _ (Nat.ne_of_gt hel)).trans hT
    have new : ObjOk X.prog X.w (upd H s.heap.objs.size (.tup [.int (i : Nat), x])) h'' s.heap.objs.size (.tup [.int (i : Nat), x]) :=
      ⟨by show 2 ≤ sizeLine; decide, [.int i tk, y], .cons ⟨_, rfl⟩ (.cons ru .nil), ⟨_, hT2, rfl, _, rfl⟩⟩
    have I1 : Inv X pins σ (upd H s.heap.objs.size (.tup [.int (i : Nat), x])) { s with heap := h'', toks := tk + 1 } :=
      I.turnedNew (ch := [e, it]) (fun b ob hb q => (sb.2 b (fun z => hb (by simp [z]))).trans (hk b ob (fun z => hb (by simp [z])) (fun z => hb (by simp [z])) q)) hf (Nat.le_refl _) new
    refine ⟨.ref s.heap.objs.size, _, I1, rfl, ⟨_, x, rfl, I.hok.fresh (Nat.le_refl _), rfl, fun ys hy => by rw [I.tuple_inj hy hq]; exact hx⟩, ⟨⟨y, ?_⟩, hit'.at fun o q => (sb.2 it (Ne.symm hne)).trans q, hne⟩, fun b hb => ?_⟩
    · have e1 : ((i + 1 : Nat) : Int) = (i : Int) + 1 := by omega
      rw [e1]; exact he'
    · have hb' : b < s.heap.objs.size := by
        have e' : b = e ∨ b = it := by simpa using hb
        rcases e' with z | z
        · rw [z]; exact hel
        · rw [z]; exact hil
      rw [upd_ne (Nat.ne_of_lt hb')]
      exact (hf b hb).1
  done := by
    intro X hP hw hK hc i pins s σ H E I hf st hg
    subst hP hw hK
    obtain ⟨⟨old, he⟩, hit, hne⟩ := st
    obtain ⟨xs, hq, hx⟩ := hg
    obtain ⟨its, rv, p, hz⟩ := I.tuple hq
    obtain ⟨f0, f1, f2, f3, f4, f5⟩ := hf it (by simp)
    have hl := rv.length
    exact SmE.next_enum_tup_end (I.ok.hd hc) he hit p (by simp; omega) fun h' eb => ⟨rfl, I.turned (t' := s.toks) (fun b o hb q => eb b o hb q) f0 f1 f3 f4 f5⟩
  self := fun A i s Q E st h => let ⟨⟨_, he⟩, _⟩ := st; wpAny_pyIter_enum he h
def iEnumT (K : PySem.W.Frag) (ta : TA) : TI := fun σ H R => ta σ H fun vs H1 => ∃ a xs, vs = [.ref a] ∧ SqT K H1 a xs ∧ R (IteT K a) H1
theorem pi_enumT {X : Cx} {e : Expr} {ta : TA} {p pos tpos : Pos} {elts : List Expr} {kk : Nat} (hg : Gl X "enumerate") (hm : X.mg "enumerate" = none) (ha : PA X [e] ta) (hs : starEach [e] X.env = [(false, eval e X.env)] := by rfl) :
    PI X (.Tuple elts kk tpos) (.Call (.Name "enumerate" p) [e] [] pos) (iEnumT X.K ta) := by
  refine ⟨fun pins s σ H R I h => ?_⟩
  refine Call_ (ld_blt I hg hm boot_enumerate (PyProof.Rows.callWith_type1 (thn (ha.run pos pins s σ H _ I h) fun us s1 ⟨vs, H1, I1, r1, q1⟩ => ?_) hs rfl))
  obtain ⟨a, xs, ex, hq, q⟩ := q1
  subst ex
  cases r1 with
  | cons r rr =>
    cases rr
    cases r
    obtain ⟨its, rv, p', hz⟩ := I1.tuple hq
    refine SmE.call_enum_tup p' fun h' he hit hsz hk => wpAny_pyIter_enum he ?_
    have I2 : Inv X pins σ H1 { s1 with heap := h' } := I1.kept (t' := s1.toks) hk
    refine ⟨s1.heap.objs.size + 1, [s1.heap.objs.size + 1, s1.heap.objs.size], _, _, H1, rfl, I2, turn_enumT a (s1.heap.objs.size + 1) s1.heap.objs.size, ⟨⟨.none, he⟩, hit, Nat.succ_ne_self _⟩, fun b hb => ?_, q⟩
    have e' : b = s1.heap.objs.size + 1 ∨ b = s1.heap.objs.size := by simpa using hb
    have hle : s1.heap.objs.size ≤ b := by
      rcases e' with z | z
      · rw [z]; exact Nat.le_add_right _ _
      · rw [z]; exact Nat.le_refl _
    exact I1.fpOk hle (I1.hok.fresh hle)
/-- the turns of enumerate(tuple), for the for loop: each pair is a new tuple -/
theorem for_enumT {K : PySem.W.Frag} {a : Addr} {xs : List V} {g : TG} {tb : TS} {D : Ends} {σ : St} {H : Hp} (Pv : Nat → St → Hp → Prop) (h0 : Pv 0 σ H) (hl : ∀ i σ H, i ≤ xs.length → Pv i σ H → SqT K H a xs)
    (hs : ∀ i x σ H T, xs[i]? = some x → Pv i σ H → H T = none → g (.ref T) σ (upd H T (.tup [.int (i : Nat), x])) fun σ2 H2 => tb { D with nx := Pv (i + 1), ct := Pv (i + 1), bk := D.nx } σ2 H2) (hd : ∀ σ H, Pv xs.length σ H → D.nx σ H) :
    ∃ W : Nat → Nat → St → Hp → Prop, (∃ m, W 0 m σ H) ∧ ∀ i m σ H, W i m σ H →
      ((IteT K a).stop i H ∧ D.nx σ H) ∨ ((IteT K a).go i H ∧ ∃ N : St → Hp → Prop, (∀ σ' H', N σ' H' → ∃ m', m' < m ∧ W (i + 1) m' σ' H') ∧ ∀ x H', (IteT K a).yld i H x H' → g x σ H' fun σ2 H2 => tb { D with nx := N, ct := N, bk := D.nx } σ2 H2) := by
  refine ⟨fun i m σ H => i + m = xs.length ∧ Pv i σ H, ⟨xs.length, by omega, h0⟩, fun i m σ H ⟨e, hp⟩ => ?_⟩
  have hq := hl i σ H (by omega) hp
  by_cases hi : i < xs.length
  · refine .inr ⟨⟨xs, xs[i], hq, by simp [hi]⟩, Pv (i + 1), fun σ' H' h' => ⟨m - 1, by omega, by omega, h'⟩, fun x H' hy => ?_⟩
    obtain ⟨T, y, rfl, hT, rfl, hx⟩ := hy
    exact hs i y σ H T (hx xs hq) hp hT
  · have ei : i = xs.length := by omega
    subst ei
    exact .inl ⟨⟨xs, hq, Nat.le_refl _⟩, hd σ H hp⟩
end L2
namespace L2
open PySem PySem.Spec PyProof.Rows
theorem walk_enumT {K : PySem.W.Frag} {a : Addr} {xs : List V} : Walk (IteT K a) xs.length (fun H => SqT K H a xs) (YPair (fun i => some (.int (i : Nat))) (fun i => xs[i]?)) := by
  refine ⟨fun i _ hi q => ⟨xs, xs[i], q, by simp [hi]⟩, fun _ q => ⟨xs, q, Nat.le_refl _⟩, fun i H v H' _ q y => ?_⟩
  obtain ⟨T, x, h1, h2, h3, h4⟩ := y
  exact ⟨T, .int (i : Nat), x, h1, h2, h3, rfl, h4 xs q⟩
/-! ### C() of a class whose __init__ is object's -/
structure MkO (K : PySem.W.Frag) (C : Addr) : Prop where
  makes : PySem.W.makesIn K C = true
  init : PySem.W.findIn K (.ref C) "__init__" = some (some (.builtin "object.__init__"))
  kp : PySem.W.keepIn K (.ref C) = true
def tMakeO (C : Addr) : TE := fun _ H Q => ∀ x dx, H x = none → H dx = none → dx ≠ x → Q (.ref x) (upd (upd H dx (.own x)) x (.ins C dx []))
section
variable {X : Cx} {C : Addr} {x : Str} {p pos : Pos}
theorem run_makeO {pins : List (Addr × Obj)} {σ : St} {H : Hp} {s : Shared} {Q : VK} (M : MkO X.K C) (I : Inv X pins σ H s) (h : tMakeO C σ H Q) : wpAny (model X.prog X.w) X.A (call (.ref C) []) (EP X pins σ Q) X.xe s := by
  have hq := h (s.heap.objs.size + 1) s.heap.objs.size (I.hok.fresh (Nat.le_succ _)) (I.hok.fresh (Nat.le_refl _)) (Nat.ne_of_lt (Nat.lt_succ_self _))
  have I2 := Inv.made (C := C) I
  refine wpAny_call (make_map0 I.kIn M.makes M.init (fun self => PySem.W.Looks.of_pure (PySem.W.oi_bind _)) ?_)
  obtain ⟨q1, q2, q3, q4, q5⟩ := I2.hok _ _ upd_same
  have t2 : PySem.W.Looks (model X.prog X.w) ((s.heap.push PySem.W.emptyDict).push (PySem.W.instObj C s.heap.objs.size)) (isInstance (.ref (s.heap.objs.size + 1)) (.type "object")) true :=
    (NwA.type_at q4 rfl).andThen (PySem.W.makes_of (M := model X.prog X.w) I2.kIn M.makes).top
  refine codeAny_call_builtin PySem.W.oi_plain PySem.W.entry_oi (@PySem.W.check_slot (model X.prog X.w) _ _ _ "object.__init__" "object" "__init__" (.ref (s.heap.objs.size + 1)) [] [] _ PySem.W.oi_kind PySem.W.oi_split t2 (NwA.oi_args_any _ [] []) ?_)
  rw [PySem.W.oi_run]
  exact wpAny_pure (And.intro rfl ⟨.ref _, _, I2, rfl, hq⟩)
theorem pe_makeO (M : MkO X.K C) (hg : Gl X x) (hm : X.mg x = some (.ref C)) (hdb : (x == ("__debug__" : Str)) = false := by decide) : PE X (.Call (.Name x p) [] [] pos) (tMakeO C) := by
  refine ⟨fun pins s σ H Q I h => ?_⟩
  refine wpAny_Call_Name_kw (ld_glob I hg hm ?_ hdb)
  exact PySem.W.callWith_K0 I.kIn M.kp (run_makeO M I h)
end
/-! ### a tuple times an int from 1 on -/
theorem tuple_mul1 (l : Addr) (items : Array Value) (n : Nat) (dd : Option Addr) (sl : Array (Option Value)) (u : Tok) :
    Meets (Builtin.«tuple.__mul__» ⟨[.ref l, .int 1 u], []⟩) (fun _ R s => s.heap.get? l = some { cls := .type "tuple", dict := dd, data := .seq items n, slots := sl } ∧ R (.ok (.ret (.ref l))) s) :=
  .of_wp fun prog w A R s h => by
    obtain ⟨hp, g, d, tk, os⟩ := s
    obtain ⟨hl, h⟩ := h
    have f1 := AutoSeq1.idx_int
    wp_walk using AutoSeq1.wpAny_loadPart' hl
    exact ⟨_, rfl, h⟩
def rRepT1 (K : PySem.W.Frag) : R2 := fun x y H Q => ∃ l k xs, x = .ref l ∧ y = .int k ∧ SqT K H l xs ∧ xs ≠ [] ∧ 1 ≤ k ∧ k ≤ 1000 ∧ xs.length ≤ 1000 ∧ (k = 1 → Q (.ref l) H) ∧ (2 ≤ k → ∀ p, H p = none → Q (.ref p) (upd H p (.tup (List.replicate k.toNat xs).flatten)))
theorem op_repT1 {X : Cx} : OpR X (binaryOp .Mult) (rRepT1 X.K) := by
  intro pins s σ H x y v u Q I rx ry h
  obtain ⟨l, k, xs, rfl, rfl, hT, hne, h1, h2, hz, q1, q2⟩ := h
  by_cases hk : k = 1
  · subst hk
    have q := q1 rfl
    cases rx
    obtain ⟨t, rfl⟩ := ry
    obtain ⟨its, r, ⟨⟨cls, dd, data, sl⟩, ho, hc, n, hd⟩, hs⟩ := I.tuple hT
    simp only at hc hd
    subst hc hd
    refine wpAny_binaryOp_repeat_ref (T := "tuple") (U := "int") (by decide) ⟨_, ho, rfl⟩ (fun s' => typeIs_int s' 1 t) noFill_tuple_mul F.fills_int_mul F.slot_int_rmul repeat_tuple F.slot_int_index.lookup
      (call_meets F.slot_int_rmul (typeIs_int s 1 t) F.entry_int_rmul (F.args_int_rmul_2 _ _) (int_rmul_tuple 1 t l its.toArray n dd sl)
        ⟨ho, rfl, ⟨_, ho, rfl⟩, call_meets F.slot_tuple_mul ⟨_, ho, rfl⟩ F.entry_tuple_mul (F.args_tuple_mul_2 _ _) (tuple_mul1 l its.toArray n dd sl t) ⟨ho, ?_⟩⟩)
    exact ⟨.ref l, H, I, rfl, q⟩
  · exact op_repT pins s σ H _ _ v u Q I rx ry ⟨l, k, xs, rfl, rfl, hT, hne, by omega, h2, hz, q2 (by omega)⟩
end L2
set_option Elab.async false
set_option linter.all false
set_option maxRecDepth 100000
set_option maxHeartbeats 4000000
/-! sorted of tuples of ints of one length; sorted by a key that is a def giving such tuples -/
namespace SmS
open PySem PyProof.Rows Srt SrtO
/-- the order of lists of ints -/
theorem lex_asym : ∀ x y : List Int, HT.lexLt x y = true → HT.lexLt y x = false
  | [], [], h => by cases h
  | [], _ :: _, _ => rfl
  | _ :: _, [], h => by cases h
  | x :: xs, y :: ys, h => by
    rw [HT.lexLt_cons] at h ⊢
    by_cases e : x = y
    · rw [if_pos e] at h
      rw [if_pos e.symm]
      exact lex_asym xs ys h
    · rw [if_neg e] at h
      rw [if_neg (Ne.symm e)]
      have := of_decide_eq_true h
      exact decide_eq_false (by omega)
theorem lex_tr : ∀ x y z : List Int, HT.lexLt y x = false → HT.lexLt z y = false → HT.lexLt z x = false
  | _, _, [], h1, h2 => by
    rename_i x y
    cases y with
    | nil =>
      cases x with
      | nil => rfl
      | cons a r => cases h1
    | cons a r => cases h2
  | [], _, _ :: _, _, _ => rfl
  | x :: xs, [], z :: zs, h1, h2 => by cases h1
  | x :: xs, y :: ys, z :: zs, h1, h2 => by
    rw [HT.lexLt_cons] at h1 h2 ⊢
    by_cases e1 : y = x
    · rw [if_pos e1] at h1
      by_cases e2 : z = y
      · rw [if_pos e2] at h2
        rw [if_pos (e2.trans e1)]
        exact lex_tr xs ys zs h1 h2
      · rw [if_neg e2] at h2
        rw [if_neg (by rw [← e1]; exact e2), ← e1]
        exact h2
    · rw [if_neg e1] at h1
      have q1 := of_decide_eq_false h1
      by_cases e2 : z = y
      · rw [if_neg (by rw [e2]; exact e1), e2]
        exact h1
      · rw [if_neg e2] at h2
        have q2 := of_decide_eq_false h2
        rw [if_neg (by omega)]
        exact decide_eq_false (by omega)
theorem swo_lexL {α : Type} (k : α → List Int) : Swo fun v u => HT.lexLt (k v) (k u) :=
  ⟨fun x y h => lex_asym _ _ h, fun x y z h1 h2 => lex_tr _ _ _ h1 h2⟩
section
variable {prog : Program} {w : World} {A : Around} {E : Value → Shared → Prop} {s : Shared}
/-- a tuple of the ints ns -/
def IsTI (h : Heap) (v : Value) (ns : List Int) : Prop := ∃ a o its n, v = .ref a ∧ h.get? a = some o ∧ o.cls = .type "tuple" ∧ o.data = .seq (List.toArray its) n ∧ IntsAre its ns
theorem IsTI.keeps {h h' : Heap} {v : Value} {ns : List Int} (p : IsTI h v ns) (k : ∀ b o, h.get? b = some o → o.cls = .type "tuple" → h'.get? b = some o) : IsTI h' v ns := by
  obtain ⟨a, o, its, n, e, ho, hc, hd, hi⟩ := p
  exact ⟨a, o, its, n, e, k _ _ ho hc, hc, hd, hi⟩
theorem lex_walk {Q : Bool → Shared → Prop} : ∀ {us vs : List Value} {ns ms : List Int} (i : Nat), IntsAre us ns → IntsAre vs ms → us.length = vs.length → Q (HT.lexLt ns ms) s →
    PySem.W.KatLex prog w A true false Q (us.zip vs) i s
  | _, _, _, _, i, .nil, .nil, _, q => PySem.W.kat_nil q
  | _, _, _, _, i, .nil, .cons _ _ _, h, _ => by cases h
  | _, _, _, _, i, .cons _ _ _, .nil, h, _ => by cases h
  | _, _, _, _, i, .cons x t r, .cons y u r', h, q => by
    refine PySem.W.kat_cons (SeqAt.EqAt.int_int x t y u prog w _ _ ?_)
    refine PySem.W.kat_go (fun e => ?_) (fun e => ?_)
    · have ex : x = y := by simpa using e
      rw [HT.lexLt_cons, if_pos ex] at q
      exact PySem.W.kat_yes (lex_walk (i + 1) r r' (Nat.succ.inj h) q)
    · have ex : ¬ x = y := by simpa using e
      rw [HT.lexLt_cons, if_neg ex] at q
      refine PySem.W.kat_no ?_
      cases hb : (true && i == 0) with
      | true => exact oneLt_int q
      | false => exact PySem.W.kat_one _ _ (PyProof.Rows.lt_int q)
theorem tups_cmp {d : Nat} {vs : List Value} {k : Value → List Int} (hp : ∀ v ∈ vs, IsTI s.heap v (k v) ∧ (k v).length = d) : Cmp prog w A s (tuples' true) (fun p => p.1 ∈ vs) (lt2 fun v u => HT.lexLt (k v) (k u)) := by
  intro p q hm hm'
  obtain ⟨h1, l1⟩ := hp _ hm
  obtain ⟨h2, l2⟩ := hp _ hm'
  show wpAny (model prog w) A (keyLt' (tuples' true) p.1 q.1) (fun r s' => s' = s ∧ r = HT.lexLt (k p.1) (k q.1)) (fun _ _ => False) s
  generalize k p.1 = x at h1 l1 ⊢
  generalize k q.1 = y at h2 l2 ⊢
  obtain ⟨a, o, its, n, e, ho, hc, hd, hi⟩ := h1
  obtain ⟨a', o', its', n', e', ho', hc', hd', hi'⟩ := h2
  have z1 := hi.length
  have z2 := hi'.length
  rw [e, e']
  refine PySem.W.kat_lt ho hd ho' hd' ?_
  have ef : decide ((List.toArray its).size < (List.toArray its').size) = false := by
    have c1 : (List.toArray its).size = its.length := List.size_toArray ..
    have c2 : (List.toArray its').size = its'.length := List.size_toArray ..
    exact decide_eq_false (show ¬ (List.toArray its).size < (List.toArray its').size from by rw [c1, c2]; omega)
  rw [ef]
  exact lex_walk 0 hi hi' (show its.length = its'.length by omega) ⟨rfl, rfl⟩
theorem firsts_ti {d : Nat} {h : Heap} {k : Value → List Int} (hd0 : 1 ≤ d) : ∀ {vs : List Value}, (∀ v ∈ vs, IsTI h v (k v) ∧ (k v).length = d) → ∃ fs : List Value, PySem.W.KatTups h vs fs ∧ fs.length = vs.length ∧ ∀ f ∈ fs, ∃ x t, f = Value.int x t
  | [], _ => ⟨[], PySem.W.KatTups.nil, rfl, fun _ hm => by simp at hm⟩
  | v :: vs, hp => by
    obtain ⟨fs, h1, h2, h3⟩ := firsts_ti hd0 (vs := vs) fun v' hm => hp v' (List.mem_cons_of_mem _ hm)
    obtain ⟨⟨a, o, its, n, e, ho, hc, hd, hi⟩, hl⟩ := hp v (List.mem_cons_self ..)
    subst e
    generalize k (Value.ref a) = x at hi hl
    cases hi with
    | nil => exact absurd hl (by simp; omega)
    | cons x t r =>
      refine ⟨.int x t :: fs, PySem.W.KatTups.cons ho hc hd rfl h1, by rw [List.length_cons, List.length_cons, h2], fun f hm => ?_⟩
      rcases List.mem_cons.mp hm with rfl | hm
      · exact ⟨x, t, rfl⟩
      · exact h3 f hm
theorem tups_kind {d : Nat} {vs : List Value} {k : Value → List Int} {Q : SortKind → Shared → Prop} (hd0 : 1 ≤ d) (h0 : 0 < vs.length) (hp : ∀ v ∈ vs, IsTI s.heap v (k v) ∧ (k v).length = d) (hq : Q (tuples' true) s) :
    wpAny (model prog w) A (keyKind' vs.toArray) Q E s := by
  obtain ⟨fs, h1, h2, h3⟩ := firsts_ti hd0 hp
  refine PySem.W.kat_kind (T := .type "int") h1 (by omega) (fun f hm => ?_) (by rfl) ?_
  · obtain ⟨x, t, rfl⟩ := h3 f hm
    exact PySem.W.Looks.now
  · have e : (Value.type "int" != Value.type "tuple") = true := by first | decide +kernel | rfl | decide
    rw [e]
    exact hq
theorem tups_sortable {d : Nat} {a : Addr} {vs : List Value} {k : Value → List Int} (hd0 : 1 ≤ d) (h0 : 0 < vs.length) (hp : ∀ v ∈ vs, IsTI s.heap v (k v) ∧ (k v).length = d) (ha : ∀ o, s.heap.get? a = some o → o.cls ≠ .type "tuple") : SortableO prog w A s a vs fun v u => HT.lexLt (k v) (k u) := by
  intro h' keep
  have hp' : ∀ v ∈ vs, IsTI h' v (k v) ∧ (k v).length = d := fun v hm => ⟨(hp v hm).1.keeps fun b o e c => keep b o (fun z => by subst z; exact ha o e c) e, (hp v hm).2⟩
  exact ⟨tuples' true, fun Q E hq => tups_kind (s := { s with heap := h' }) hd0 h0 hp' hq, tups_cmp (s := { s with heap := h' }) hp'⟩
end
end SmS
namespace L2
open PySem PySem.Spec PyProof.Rows
/-- a tracked tuple of ints, as the sort sees it -/
theorem ti_of {X : Cx} {pins : List (Addr × Obj)} {σ : St} {H : Hp} {s : Shared} {t : Addr} {ns : List Int} (I : Inv X pins σ H s) (h : H t = some (.tup (ns.map V.int))) : SmS.IsTI s.heap (.ref t) ns := by
  obtain ⟨_, its, r, o, ho, hc, n, hd⟩ := I.hok _ _ h
  exact ⟨t, o, its, n, rfl, ho, hc, hd, r.ints⟩
/-- sorted(xs), xs a list of tuples of d ints (k says which): a new list, in order -/
def rSortedTd (K : PySem.W.Frag) : List V → Hp → VK → Prop := fun vs H Q => ∃ (a : Addr) (xs : List V) (k : V → List Int) (d : Nat), vs = [V.ref a] ∧ SqL K H a xs ∧ 1 ≤ d ∧ (∀ x ∈ xs, ∃ t, x = V.ref t ∧ H t = some (.tup ((k x).map V.int)) ∧ (k x).length = d) ∧
  ∀ ys p, ys.Perm xs → ys.Pairwise (fun x y => HT.lexLt (k y) (k x) = false) → H p = none → Q (.ref p) (upd H p (.lst ys))
section
variable {X : Cx}
theorem cr_sortedTd : CallR X (.builtin "sorted") (rSortedTd X.K) := by
  intro pins s σ H vs us Q I r h
  obtain ⟨a, xs, k, d, rfl, hs, hd0, hx, q⟩ := h
  obtain ⟨its, rv, hl, hz⟩ := I.list hs
  obtain ⟨u, rfl, ru⟩ := vals1 r
  obtain rfl : u = Value.ref a := ru
  obtain ⟨e1, e2⟩ := refs_back rv fun x m => by
    obtain ⟨t, e, _⟩ := hx x m
    exact ⟨t, e⟩
  have hp : ∀ v ∈ its, SmS.IsTI s.heap v (k (backV v)) ∧ (k (backV v)).length = d := fun v hv => by
    obtain ⟨t, rfl⟩ := e2 v hv
    have hm : V.ref t ∈ xs := by rw [e1]; exact List.mem_map.mpr ⟨_, hv, rfl⟩
    obtain ⟨t', e, ht, hlen⟩ := hx _ hm
    cases e
    exact ⟨ti_of I ht, hlen⟩
  refine SrtO.sorted_ord (SmS.swo_lexL fun u => k (backV u)) hl.isList (by rw [← rv.length]; exact hz) (fun h2 h₁ a' ha kk => ?_) fun out hsr hb => ?_
  · refine SmS.tups_sortable (s := { s with heap := h₁ }) hd0 (by omega) (fun v hm => ⟨(hp v hm).1.keeps fun b o e _ => (kk b o e).2, (hp v hm).2⟩) fun o e => ?_
    have e' : some o = some (seqObj "list" its.toArray 0) := e.symm.trans ha
    cases e'
    intro c
    exact absurd (Value.type.inj c) (by decide)
  · have h3 : ∀ u ∈ out, ∃ a, u = Value.ref a := fun u hu => e2 u (hb.perm.mem_iff.mp hu)
    obtain ⟨n, hn⟩ := sortedAll_at s.heap its out.toArray
    have hpm : (out.map backV).Perm xs := by
      rw [e1]
      exact hb.perm.map _
    refine ⟨.ref (s.heap.objs.size + 1), upd H (s.heap.objs.size + 1) (.lst (out.map backV)), I.laid (t' := s.toks) (fun _ _ => sortedAll_old) (Nat.le_succ _) ⟨?_, out, n, vals_back h3, hn⟩, rfl, q _ _ hpm (List.pairwise_map.mpr hsr) (I.hok.fresh (Nat.le_succ _))⟩
    rw [hpm.length_eq]
    exact hz
end
end L2
set_option Elab.async false
set_option linter.all false
set_option maxRecDepth 100000
set_option maxHeartbeats 4000000
namespace L2
open PySem PySem.Spec PyProof.Rows
/-- the key of an item: a new tuple of ints -/
def KeyOk (sp : Sp) (kf : V → List Int) (H0 : Hp) (v : V) : Prop := ∀ H1, Same H0 H1 → ∀ Q : VK, (∀ p, H1 p = none → Q (.ref p) (upd H1 p (.tup ((kf v).map V.int)))) → sp [v] H1 Q E0
section
variable {X : Cx} {k : Nat} {f : Addr} {fd : FuncData} {ps : List Str} {sp : Sp} {pins : List (Addr × Obj)} {σ : St}
theorem call_key (F : FnOk X.prog X.w X.K X.mg X.base CX0 k f fd ps sp) (hr : Room (k + 2) X.A) (hb : Binds X.K fd ps []) {H : Hp} {s : Shared} {v : V} {u : Value} {Q : VK} (I : Inv X pins σ H s) (r : RelV v u) (h : sp [v] H Q E0) :
    wpAny (model X.prog X.w) X.A.in1.in1 (call (.ref f) [u]) (EP X pins σ Q) (fun _ _ => False) s := by
  have r2 : Vals [v] [u] := .cons r .nil
  have hl : ([u] ++ ([] : List Value)).length = ps.length := F.len _ _ _ _ h
  refine wpAny_call (codeAny_mono (F.run X.A.in1.in1 X.stack s H ⟨[u], []⟩ [u] [v] Q E0 hr.in1.in1 I.env0.in1.in1 (hb s [u] I.kIn hl) r2 h) fun r s' hq => ?_)
  cases r with
  | error e => exact False.elim hq
  | ok fl =>
    cases fl with
    | ret u => exact I.after hq
    | next => exact False.elim hq
    | brk => exact False.elim hq
    | cont => exact False.elim hq
/-- the ints of a key -/
def kI (h : Heap) : Value → List Int
  | .ref t => match h.get? t with
    | some o => match o.data with
      | .seq its _ => its.toList.map SrtO.iv
      | _ => []
    | none => []
  | _ => []
theorem kI_of {h : Heap} {v : Value} {ns : List Int} (p : SmS.IsTI h v ns) : kI h v = ns := by
  obtain ⟨a, o, its, n, rfl, ho, hc, hd, hi⟩ := p
  unfold kI
  dsimp only
  rw [ho]
  dsimp only
  rw [hd]
  exact SrtO.iv_ints hi
variable {vsV ks : List V} {its keys : List Value} {D kS : Addr} {H : Hp} {s : Shared} {e1 : Nat} {P : PySem.Fin → Shared → Prop} {E : Value → Shared → Prop}
/-- what a sort leaves -/
def KDone (X : Cx) (pins : List (Addr × Obj)) (σ : St) (D kS : Addr) (H : Hp) (vsV : List V) (kf : V → List Int) (s' : Shared) : Prop :=
  ∃ H' ys, Inv X pins σ H' s' ∧ ys.Perm vsV ∧ ys.Pairwise (fun x y => HT.lexLt (kf y) (kf x) = false) ∧ (∀ b o, b ≠ D → b ≠ kS → H b = some o → H' b = some o) ∧ H' D = some (.lst ys)
theorem key_tail {st : SortSt} {od : Obj} {kf : V → List Int} (I : Inv X pins σ H s) (hD : H D = some (.frz od (.lst []))) (hn : ∀ o' u', X.H_0 D ≠ some (.frz o' u')) (he : s.heap.get? D = some (seqObj "list" #[] e1)) (hk : H kS = some (.lst ks)) (hne : kS ≠ D)
    {out : List Value} (ho : (arrOf st).map (·.2) = out.toArray) {ys : List V} (ry : Vals ys out) (hz : ys.length ≤ sizeLine) (hf : failedOf st = none) (hp : ys.Perm vsV) (hs : ys.Pairwise fun x y => HT.lexLt (kf y) (kf x) = false)
    (h : ∀ s', KDone X pins σ D kS H vsV kf s' → P (.done (.ret .none)) s') : wpAny (model X.prog X.w) X.A.in1.in1 (ksk_tail D false e1 (.ref kS) st) P E s := by
  obtain ⟨hkz, kits, kn, rk, hkl, hkg⟩ := I.lstM hk
  have I1 : Inv X pins σ (upd H kS (.lst [])) { s with heap := s.heap.update kS (Obj.mapSeq fun _ => #[]), toks := s.toks } := I.lset (its' := []) hk hkg rfl .nil (Nat.zero_le _)
  have hD1 : upd H kS (.lst []) D = some (.frz od (.lst [])) := by rw [upd_ne (Ne.symm hne)]; exact hD
  have he1 : (s.heap.update kS (Obj.mapSeq fun _ => (#[] : Array Value))).get? D = some (seqObj "list" #[] e1) := (Heap.get?_update_ne _ _ _ _ (Ne.symm hne)).trans he
  have I2 := I1.unlock hD1 hn
  have hD2 : upd (upd H kS (.lst [])) D (.lst []) D = some (.lst []) := upd_same
  have I3 := I2.lset (its' := out) (ys := ys) (f := fun _ => if false = true then ((arrOf st).map (·.2)).reverse else (arrOf st).map (·.2)) (t' := s.toks) hD2 (its := []) he1 (by rw [if_neg Bool.false_ne_true]; exact ho) ry hz
  unfold ksk_tail
  try dsimp only
  have hol : ((arrOf st).map (·.2)).size ≤ sizeLine := by
    rw [ho, List.size_toArray, ← ry.length]
    exact hz
  refine wpAny_bind (listUpdate_at hkg rfl ?_ (by rw [List.size_toArray, ← hkl]; exact hkz) (Nat.zero_le _))
  refine wpAny_bind (wpAny_letGo ?_)
  refine wpAny_bind (seqEpoch_at he1 rfl ?_)
  refine wpAny_bind (listUpdate_at he1 rfl ?_ (Nat.zero_le _) (by rw [if_neg Bool.false_ne_true]; exact Nat.le_succ_of_le hol))
  rw [hf]
  simp only [bne_self_eq_false, Bool.false_eq_true, if_false]
  simp only [Bool.false_eq_true, if_false] at I3
  refine wpAny_pure (h _ ⟨_, ys, I3, hp, hs, fun b o hb hb2 e => ?_, upd_same⟩)
  rw [upd_ne hb, upd_ne hb, upd_ne hb2]
  exact e
theorem zip_len {α β : Type} : ∀ {l : List α} {m : List β}, l.length = m.length → (l.zip m).map (·.2) = m
  | [], [], _ => rfl
  | [], _ :: _, h => by cases h
  | _ :: _, [], h => by cases h
  | a :: l, b :: m, h => by
    rw [List.zip_cons_cons, List.map_cons, zip_len (Nat.succ.inj h)]
theorem zip_mem {α β : Type} {l : List α} {m : List β} {p : α × β} (h : p ∈ l.zip m) : ∃ j : Nat, l[j]? = some p.1 ∧ m[j]? = some p.2 := by
  obtain ⟨j, hj, e⟩ := List.mem_iff_getElem.mp h
  have h1 : j < l.length := by rw [List.length_zip] at hj; omega
  have h2 : j < m.length := by rw [List.length_zip] at hj; omega
  rw [List.getElem_zip] at e
  refine ⟨j, ?_, ?_⟩
  · rw [List.getElem?_eq_getElem h1, ← e]
  · rw [List.getElem?_eq_getElem h2, ← e]
theorem short_pw {α : Type} {R : α → α → Prop} : ∀ {l : List α}, l.length < 2 → l.Pairwise R
  | [], _ => .nil
  | [a], _ => List.pairwise_singleton _ _
  | _ :: _ :: _, h => by
    exfalso
    simp only [List.length_cons] at h
    omega
theorem key_end {od : Obj} {kf : V → List Int} {d : Nat} (I : Inv X pins σ H s) (hD : H D = some (.frz od (.lst []))) (hn : ∀ o' u', X.H_0 D ≠ some (.frz o' u')) (he : s.heap.get? D = some (seqObj "list" #[] e1)) (hk : H kS = some (.lst ks)) (hne : kS ≠ D)
    (rv : Vals vsV its) (hv : ∀ x ∈ vsV, ∃ a, x = V.ref a) (hz : vsV.length ≤ sizeLine) (rk : Vals ks keys) (hlen : ks.length = vsV.length) (hd0 : 1 ≤ d)
    (hkey : ∀ (j : Nat) u, ks[j]? = some u → ∃ t v, u = .ref t ∧ vsV[j]? = some v ∧ H t = some (.tup ((kf v).map V.int)) ∧ (kf v).length = d)
    (h : ∀ s', KDone X pins σ D kS H vsV kf s' → P (.done (.ret .none)) s') : wpAny (model X.prog X.w) X.A.in1.in1 (ksk_end D false its.toArray e1 (.ref kS) keys.toArray) P E s := by
  have l1 := rv.length
  have l2 := rk.length
  obtain ⟨b1, b2⟩ := refs_back rv hv
  -- each pair's key
  have hpair : ∀ p ∈ keys.zip its, SmS.IsTI s.heap p.1 (kf (backV p.2)) ∧ (kf (backV p.2)).length = d := fun p hp => by
    obtain ⟨j, h1, h2⟩ := zip_mem hp
    have hj : j < ks.length := by rw [l2]; exact (List.getElem?_eq_some_iff.mp h1).1
    obtain ⟨t, v, e, hvj, ht, hl⟩ := hkey j ks[j] (List.getElem?_eq_getElem hj)
    obtain ⟨u, hu, ru⟩ := rk.get (List.getElem?_eq_getElem hj)
    rw [e] at ru
    obtain rfl : u = Value.ref t := ru
    rw [h1] at hu
    obtain ⟨u2, hu2, ru2⟩ := rv.get hvj
    rw [h2] at hu2
    have ev : v = backV p.2 := by
      obtain ⟨a, ea⟩ := hv v (List.mem_of_getElem? hvj)
      rw [ea] at ru2
      have q : u2 = Value.ref a := ru2
      have q2 : p.2 = u2 := Option.some.inj hu2
      rw [q2, q, ea]
      rfl
    have q3 : p.1 = Value.ref t := Option.some.inj hu
    rw [q3, ← ev]
    exact ⟨ti_of I ht, hl⟩
  have hsz : keys.toArray.zip its.toArray = (keys.zip its).toArray := by simp
  -- what an arrangement of the pairs gives
  have fin : ∀ st : SortSt, (arrOf st).toList.Perm (keys.zip its) → (arrOf st).toList.Pairwise (fun p q => HT.lexLt (kI s.heap q.1) (kI s.heap p.1) = false) → failedOf st = none →
      wpAny (model X.prog X.w) X.A.in1.in1 (ksk_tail D false e1 (.ref kS) st) P E s := fun st hp hs hf => by
    have hm : ((arrOf st).toList.map (·.2)).Perm its := by
      have q := hp.map (·.2)
      rw [zip_len (by rw [← l1, ← l2]; exact hlen)] at q
      exact q
    have hpm : (((arrOf st).toList.map (·.2)).map backV).Perm vsV := by
      rw [b1]
      exact hm.map _
    have h3 : ∀ u ∈ (arrOf st).toList.map (·.2), ∃ a, u = Value.ref a := fun u hu => b2 u (hm.mem_iff.mp hu)
    refine key_tail I hD hn he hk hne (out := (arrOf st).toList.map (·.2)) ?_ (vals_back h3) (by rw [hpm.length_eq]; exact hz) hf hpm ?_ h
    · rw [← Array.toList_map, Array.toArray_toList]
    · rw [List.map_map]
      refine List.pairwise_map.mpr (hs.imp_of_mem fun {p q} m1 m2 e => ?_)
      rw [kI_of (hpair p (hp.mem_iff.mp m1)).1, kI_of (hpair q (hp.mem_iff.mp m2)).1] at e
      exact e
  unfold ksk_end
  try dsimp only
  rw [if_neg Bool.false_ne_true, hsz]
  simp only [Bool.false_eq_true, if_false]
  by_cases h2 : its.toArray.size < 2
  · rw [if_pos h2, if_pos h2]
    refine wpAny_bind (wpAny_pure ?_)
    rw [StateT.run_pure]
    refine wpAny_bind (wpAny_pure ?_)
    try dsimp only
    refine fin _ (List.Perm.refl _) (short_pw ?_) rfl
    show (keys.zip its).length < 2
    rw [List.length_zip]
    rw [List.size_toArray] at h2
    omega
  · rw [if_neg h2, if_neg h2]
    rw [List.size_toArray] at h2
    have hkeys : ∀ v ∈ keys, SmS.IsTI s.heap v (kI s.heap v) ∧ (kI s.heap v).length = d := fun v hm => by
      obtain ⟨j, hj, e⟩ := List.mem_iff_getElem.mp hm
      have hj2 : j < its.length := by omega
      have hp : (v, its[j]) ∈ keys.zip its := by
        refine List.mem_iff_getElem.mpr ⟨j, by rw [List.length_zip]; omega, ?_⟩
        rw [List.getElem_zip, e]
      obtain ⟨q1, q2⟩ := hpair _ hp
      dsimp only at q1 q2
      rw [kI_of q1]
      exact ⟨q1, q2⟩
    refine wpAny_bind (SmS.tups_kind hd0 (by omega) hkeys ?_)
    refine wpAny_bind (wpAny_mono (SrtO.wpS_sortO (st0 := SortSt.mk' (tuples' true) (keys.zip its).toArray #[] 7 none) (P := fun p => p.1 ∈ keys) (lt := SrtO.lt2 fun v u => HT.lexLt (kI s.heap v) (kI s.heap u))
      (Q := fun _ st' => SrtO.Srtd (SrtO.lt2 fun v u => HT.lexLt (kI s.heap v) (kI s.heap u)) (arrOf st').toList ∧ SrtO.Stb (SrtO.lt2 fun v u => HT.lexLt (kI s.heap v) (kI s.heap u)) (arrOf st').toList (keys.zip its) ∧ failedOf st' = none)
      (SrtO.swo2 (SmS.swo_lexL _)) (SmS.tups_cmp hkeys) rfl ?_ rfl rfl fun st' a1 a2 a3 => ⟨a1, a2, a3⟩) ?_ fun _ _ e => e)
    · intro p hp
      exact (List.of_mem_zip (show p ∈ keys.zip its from hp)).1
    · rintro ⟨⟨⟩, st'⟩ s' ⟨rfl, h1, h2', hf⟩
      try dsimp only
      exact fin st' h2'.perm h1 hf
/-- the list at D has been emptied and locked, the keys are asked for -/
theorem key_rest {od : Obj} {kf : V → List Int} {d : Nat} {H0 : Hp} (F : FnOk X.prog X.w X.K X.mg X.base CX0 k f fd ps sp) (hr : Room (k + 2) X.A) (hb : Binds X.K fd ps [])
    (I : Inv X pins σ H s) (hD : H D = some (.frz od (.lst []))) (hn : ∀ o' u', X.H_0 D ≠ some (.frz o' u')) (hod : od = seqObj "list" #[] e1) (hk : H kS = some (.lst [])) (hne : kS ≠ D) (h0 : ∀ b o, H0 b = some o → H b = some o ∧ b ≠ D ∧ b ≠ kS)
    (rv : Vals vsV its) (hv : ∀ x ∈ vsV, ∃ a, x = V.ref a) (hz : vsV.length ≤ sizeLine) (hd0 : 1 ≤ d) (hsp : ∀ v ∈ vsV, (kf v).length = d ∧ KeyOk sp kf H0 v)
    (h : ∀ s' H' ys, Inv X pins σ H' s' → ys.Perm vsV → ys.Pairwise (fun x y => HT.lexLt (kf y) (kf x) = false) → (∀ b o, H0 b = some o → H' b = some o) → H' D = some (.lst ys) → P (.done (.ret .none)) s') :
    wpAny (model X.prog X.w) X.A.in1.in1 (ksk_rest D (.ref f) false its.toArray e1 (.ref kS)) P E s := by
  have l1 := rv.length
  subst hod
  unfold ksk_rest
  refine wpAny_bind (wpAny_rule ?_)
  rw [List.forIn_toArray]
  refine wpAny_bind (ksk_fold (fun i s' => ∃ (H' : Hp) (ks : List V), Inv X pins σ H' s' ∧ (∀ b o, H0 b = some o → H' b = some o ∧ b ≠ D ∧ b ≠ kS) ∧ H' D = some (.frz (seqObj "list" #[] e1) (.lst [])) ∧ H' kS = some (.lst ks) ∧ ks.length = i ∧
      ∀ (j : Nat) u, ks[j]? = some u → ∃ t v, u = .ref t ∧ vsV[j]? = some v ∧ H' t = some (.tup ((kf v).map V.int)) ∧ (kf v).length = d) its 0 s
    ⟨H, [], I, h0, hD, hk, rfl, fun j u e => by simp at e⟩ ?step ?done)
  case step =>
    rintro j x s' hx ⟨H', ks, I', h0', hD', hk', hlen, hks⟩
    simp only [Nat.zero_add] at hlen ⊢
    have hj : j < its.length := (List.getElem?_eq_some_iff.mp hx).1
    have hvj : vsV[j]? = some (vsV[j]'(by omega)) := List.getElem?_eq_getElem (by omega)
    obtain ⟨u, hu, ru⟩ := rv.get hvj
    rw [hx] at hu
    cases hu
    obtain ⟨hl, ko⟩ := hsp _ (List.mem_of_getElem? hvj)
    refine wpAny_bind (wpAny_attempt (wpAny_mono (call_key (Q := fun y H2 => ∃ p, y = .ref p ∧ H' p = none ∧ H2 = upd H' p (.tup ((kf (vsV[j]'(by omega))).map V.int))) F hr hb I' ru (ko H' (fun b o e => (h0' b o e).1) _ fun p np => ⟨p, rfl, np, rfl⟩)) (fun v s'' he => ?_) fun _ _ hF => hF.elim))
    obtain ⟨y, H2, I2, ry, p, rfl, np, rfl⟩ := he
    obtain rfl : v = Value.ref p := ry
    try dsimp only
    have hkp : kS ≠ p := ne_of_none hk' np
    have hk2 : upd H' p (.tup ((kf (vsV[j]'(by omega))).map V.int)) kS = some (.lst ks) := by rw [upd_ne hkp]; exact hk'
    obtain ⟨hkz, kits, kn, rk, hkl, hkg⟩ := I2.lstM hk2
    have hb2 : ks.length + 1 ≤ sizeLine := by omega
    have I3 := I2.lset (its' := kits ++ [Value.ref p]) (ys := ks ++ [.ref p]) (f := (·.push (Value.ref p))) (t' := s''.toks) hk2 hkg (by simp) (rk.append (.cons (show RelV (.ref p) (.ref p) from rfl) .nil)) (by rw [List.length_append]; exact hb2)
    refine wpAny_bind (listUpdate_at hkg rfl ?_ (by rw [List.size_toArray, ← hkl]; exact hkz) (by rw [Array.size_push, List.size_toArray, ← hkl]; omega))
    refine wpAny_pure ⟨rfl, _, ks ++ [.ref p], I3, fun b o e => ?_, ?_, upd_same, by rw [List.length_append, hlen]; rfl, fun i u e => ?_⟩
    · obtain ⟨z1, z2, z3⟩ := h0' b o e
      exact ⟨by rw [upd_ne z3, upd_ne (ne_of_none z1 np)]; exact z1, z2, z3⟩
    · rw [upd_ne (Ne.symm hne), upd_ne (ne_of_none hD' np)]
      exact hD'
    · have keep : ∀ t xs, H' t = some (.tup xs) → upd (upd H' p (.tup ((kf (vsV[j]'(by omega))).map V.int))) kS (.lst (ks ++ [.ref p])) t = some (.tup xs) := fun t xs q => by
        rw [upd_ne (ne_of q hk' (by intro z; cases z)), upd_ne (ne_of_none q np)]
        exact q
      by_cases hi : i < ks.length
      · rw [List.getElem?_append_left hi] at e
        obtain ⟨t, v, q1, q2, q3, q4⟩ := hks i u e
        exact ⟨t, v, q1, q2, keep _ _ q3, q4⟩
      · have ei : i = ks.length := by
          have := (List.getElem?_eq_some_iff.mp e).1
          rw [List.length_append, List.length_singleton] at this
          omega
        subst ei
        rw [List.getElem?_append_right (Nat.le_refl _), Nat.sub_self] at e
        cases e
        refine ⟨p, _, rfl, by rw [hlen]; exact hvj, ?_, hl⟩
        rw [upd_ne (Ne.symm hkp), upd_same]
  case done =>
    rintro s' ⟨H', ks, I', h0', hD', hk', hlen, hks⟩
    rw [Nat.zero_add] at hlen
    obtain ⟨hkz, keys, kn, rk, hkl, hkg⟩ := I'.lstM hk'
    have he' : s'.heap.get? D = some (seqObj "list" #[] e1) := (I'.hok D _ hD').1
    try dsimp only
    refine wpAny_bind (listItems_at hkg rfl ?_)
    refine key_end I' hD' hn he' hk' hne rv hv hz rk (by omega) hd0 hks fun s3 ⟨H3, ys, I3, p1, p2, p3, p4⟩ => h s3 H3 ys I3 p1 p2 (fun b o e => ?_) p4
    obtain ⟨z1, z2, z3⟩ := h0' b o e
    exact p3 b o z2 z3 z1
/-- sorted(xs, key=f), f a def of the text that hands back a new tuple of ints -/
def rSortedKey (K : PySem.W.Frag) (f : Addr) (sp : Sp) : List V → List V → Hp → VK → Prop := fun xs zs H Q => ∃ (a : Addr) (vsV : List V) (kf : V → List Int) (d : Nat), xs = [.ref a] ∧ zs = [.ref f] ∧ SqL K H a vsV ∧ 1 ≤ d ∧ (∀ v ∈ vsV, (∃ t, v = V.ref t) ∧ (kf v).length = d ∧ KeyOk sp kf H v) ∧
  ∀ ys p H', ys.Perm vsV → ys.Pairwise (fun x y => HT.lexLt (kf y) (kf x) = false) → Same H H' → H p = none → H' p = some (.lst ys) → Q (.ref p) H'
theorem cr_sortedKeyF (F : FnOk X.prog X.w X.K X.mg X.base CX0 k f fd ps sp) (hr : Room (k + 2) X.A) (hb : Binds X.K fd ps []) : CallRK X (.builtin "sorted") [Str.ofString "key"] (rSortedKey X.K f sp) := by
  intro pins s σ H xs zs us ws Q I rx rz h
  obtain ⟨a0, vsV, kf, d, rfl, rfl, hs, hd0, hv, q⟩ := h
  obtain ⟨its, rv, hl, hz⟩ := I.list hs
  have hz2 : its.length ≤ sizeLine := by rw [← rv.length]; exact hz
  rw [Vals.ref1 rx, Vals.ref1 rz]
  show wpAny _ _ (call (.builtin "sorted") [Value.ref a0] [(Str.ofString "key", Value.ref f)]) _ _ s
  refine call_function_entry_kw kind_sorted plain_sorted entry_sorted (ksk_s1 _ _) ?_
  unfold Builtin.«sorted»
  refine wpAny_bind (m := checkCount "sorted" 1 1 _) (wpAny_pure ?_)
  refine wpAny_bind (collect_list hl.isList ?_ hz2)
  refine wpAny_bind (wpAny_newList ?_ hz2)
  have hsz : ((s.heap.push (seqObj "list" #[] 0)).update s.heap.objs.size (Obj.mapSeq (· ++ its.toArray))).objs.size = s.heap.objs.size + 1 := by
    rw [Heap.size_update, size_push']
  have hoL : (((s.heap.push (seqObj "list" #[] 0)).update s.heap.objs.size (Obj.mapSeq (· ++ its.toArray))).push (seqObj "list" its.toArray 0)).get? (s.heap.objs.size + 1) = some (seqObj "list" its.toArray 0) := by
    rw [← hsz]; exact Heap.get?_push_size _ rfl
  have keep : ∀ b o, s.heap.get? b = some o → (((s.heap.push (seqObj "list" #[] 0)).update s.heap.objs.size (Obj.mapSeq (· ++ its.toArray))).push (seqObj "list" its.toArray 0)).get? b = some o := fun b o e => by
    have hlt : b < s.heap.objs.size := Heap.lt_size e
    refine Heap.get?_push_of_some _ ?_
    rw [Heap.get?_update_ne _ _ _ _ (Nat.ne_of_lt hlt)]
    exact Heap.get?_push_of_some _ e
  show wpAny _ _ _ _ _ { s with heap := ((s.heap.push (seqObj "list" #[] 0)).update s.heap.objs.size (Obj.mapSeq (· ++ its.toArray))).push (seqObj "list" its.toArray 0) }
  rw [hsz]
  have nD : H (s.heap.objs.size + 1) = none := I.hok.fresh (Nat.le_succ _)
  have I1 : Inv X pins σ (upd H (s.heap.objs.size + 1) (.lst vsV)) { s with heap := ((s.heap.push (seqObj "list" #[] 0)).update s.heap.objs.size (Obj.mapSeq (· ++ its.toArray))).push (seqObj "list" its.toArray 0), toks := s.toks } :=
    I.laid keep (Nat.le_succ _) ⟨hz, its, 0, rv, hoL⟩
  refine wpAny_bind (wpAny_holding (wpAny_call_entry_kw slot_list_sort ⟨_, hoL, rfl⟩ entry_list_sort ?body (ksk_l1 _ _)))
  generalize ((s.heap.push (seqObj "list" #[] 0)).update s.heap.objs.size (Obj.mapSeq (· ++ its.toArray))).push (seqObj "list" its.toArray 0) = hp1 at hoL I1 keep
  generalize s.heap.objs.size + 1 = D at hoL I1 nD
  show wpAny (model X.prog X.w) X.A.in1.in1 (Builtin.«list.sort» ⟨[Value.ref D], [(Str.ofString "key", Value.ref f)]⟩) _ _ _
  rw [ksk_t1]
  unfold ksk_tree
  have hD1 : upd H D (.lst vsV) D = some (.lst vsV) := upd_same
  have I2 := I1.lset (its' := []) (ys := []) (f := fun _ => #[]) (t' := s.toks) hD1 hoL rfl .nil (Nat.zero_le _)
  obtain ⟨e1, he1⟩ : ∃ e1, (hp1.update D (Obj.mapSeq fun _ => (#[] : Array Value))).get? D = some (seqObj "list" #[] e1) := ⟨_, get?_update_seq hoL fun _ => #[]⟩
  have e2 : upd (upd H D (.lst vsV)) D (.lst []) = upd H D (.lst []) := upd_upd
  rw [e2] at I2
  refine wpAny_bind (listItems_at hoL rfl ?_)
  refine wpAny_bind (listUpdate_at hoL rfl ?_ (by rw [List.size_toArray]; exact hz2) (Nat.zero_le _))
  refine wpAny_bind (seqEpoch_at he1 rfl ?_)
  refine wpAny_bind (wpAny_newTuple ?_ hz2)
  refine wpAny_bind (wpAny_newList ?_ (Nat.zero_le _))
  refine wpAny_holding ?_
  have he2 : (((hp1.update D (Obj.mapSeq fun _ => (#[] : Array Value))).push (seqObj "tuple" its.toArray 0)).push (seqObj "list" #[] 0)).get? D = some (seqObj "list" #[] e1) := Heap.get?_push_of_some _ (Heap.get?_push_of_some _ he1)
  have hsz2 : (hp1.update D (Obj.mapSeq fun _ => (#[] : Array Value))).objs.size ≤ ((hp1.update D (Obj.mapSeq fun _ => (#[] : Array Value))).push (seqObj "tuple" its.toArray 0)).objs.size := by
    rw [size_push']
    exact Nat.le_succ _
  have nK : upd H D (.lst []) ((hp1.update D (Obj.mapSeq fun _ => (#[] : Array Value))).push (seqObj "tuple" its.toArray 0)).objs.size = none := I2.hok.fresh hsz2
  have I3 : Inv X pins σ (upd (upd H D (.lst [])) ((hp1.update D (Obj.mapSeq fun _ => (#[] : Array Value))).push (seqObj "tuple" its.toArray 0)).objs.size (.lst [])) { s with heap := ((hp1.update D (Obj.mapSeq fun _ => (#[] : Array Value))).push (seqObj "tuple" its.toArray 0)).push (seqObj "list" #[] 0), toks := s.toks } :=
    I2.laid (fun b u e => Heap.get?_push_of_some _ (Heap.get?_push_of_some _ e)) hsz2 ⟨Nat.zero_le _, [], 0, .nil, Heap.get?_push_size _ rfl⟩
  show wpAny (model X.prog X.w) X.A.in1.in1 (ksk_rest D (.ref f) false its.toArray e1 (.ref ((hp1.update D (Obj.mapSeq fun _ => (#[] : Array Value))).push (seqObj "tuple" its.toArray 0)).objs.size)) _ _
    { s with heap := ((hp1.update D (Obj.mapSeq fun _ => (#[] : Array Value))).push (seqObj "tuple" its.toArray 0)).push (seqObj "list" #[] 0) }
  generalize ((hp1.update D (Obj.mapSeq fun _ => (#[] : Array Value))).push (seqObj "tuple" its.toArray 0)).objs.size = kS at nK I3
  have hneK : kS ≠ D := fun e => by
    rw [e, upd_same] at nK
    cases nK
  have nK0 : H kS = none := by
    rw [upd_ne hneK] at nK
    exact nK
  have hD3 : upd (upd H D (.lst [])) kS (.lst []) D = some (.lst []) := by rw [upd_ne (Ne.symm hneK), upd_same]
  obtain ⟨od, I4⟩ := I3.lock hD3 trivial
  have hn := I3.nofrz hD3 trivial
  have hod : od = seqObj "list" #[] e1 := by
    have q1 := (I4.hok D _ upd_same).1
    exact Option.some.inj (q1.symm.trans he2)
  refine key_rest (H0 := H) F hr hb I4 upd_same hn hod (by rw [upd_ne hneK, upd_same]) hneK (fun b o e => ⟨?_, ne_of_none e nD, ne_of_none e nK0⟩) rv (fun x m => (hv x m).1) hz hd0 (fun v m => (hv v m).2) fun s' H' ys I' p1 p2 p3 p4 => ?_
  · rw [upd_ne (ne_of_none e nD), upd_ne (ne_of_none e nK0), upd_ne (ne_of_none e nD)]
    exact e
  · exact ⟨_, rfl, wpAny_pure ⟨_, rfl, .ref D, H', I', rfl, q ys D H' p1 p2 (fun b o e => p3 b o e) nD p4⟩⟩
end
end L2
set_option Elab.async false
set_option linter.all false
set_option maxRecDepth 100000
set_option maxHeartbeats 4000000
namespace Sm
open PySem L2
/-! ### the text by places -/
def top (i : Nat) : Stmt := PySem.Challenge.pw_satchelmeet_k93_whole_rules_and_missed.main.body.getD i (.Pass ⟨0, 0, 0, 0⟩)
abbrev st_is_whole : Stmt := top 7
abbrev N_is_whole : List Str := ["thing"]
theorem sc_is_whole : FnScope N_is_whole ["thing"] (defScope st_is_whole) := ⟨rfl, rfl, rfl, by decide +kernel, rfl, by decide +kernel, by decide +kernel⟩
abbrev st_is_within : Stmt := top 8
abbrev N_is_within : List Str := ["thing", "low", "high"]
theorem sc_is_within : FnScope N_is_within ["thing", "low", "high"] (defScope st_is_within) := ⟨rfl, rfl, rfl, by decide +kernel, rfl, by decide +kernel, by decide +kernel⟩
abbrev st_are_rooms : Stmt := top 14
abbrev N_are_rooms : List Str := ["thing", "room"]
theorem sc_are_rooms : FnScope N_are_rooms ["thing"] (defScope st_are_rooms) := ⟨rfl, rfl, rfl, by decide +kernel, rfl, by decide +kernel, by decide +kernel⟩
abbrev st_is_meeting : Stmt := top 15
abbrev N_is_meeting : List Str := ["thing", "walkers", "one", "other", "when", "many"]
theorem sc_is_meeting : FnScope N_is_meeting ["thing", "walkers"] (defScope st_is_meeting) := ⟨rfl, rfl, rfl, by decide +kernel, rfl, by decide +kernel, by decide +kernel⟩
abbrev st_put_right : Stmt := top 16
abbrev N_put_right : List Str := ["meeting", "one", "other", "when", "many"]
theorem sc_put_right : FnScope N_put_right ["meeting"] (defScope st_put_right) := ⟨rfl, rfl, rfl, by decide +kernel, rfl, by decide +kernel, by decide +kernel⟩
abbrev st_meets_two_at_once : Stmt := top 17
abbrev N_meets_two_at_once : List Str := ["meetings", "known", "one", "other", "when", "many"]
theorem sc_meets_two_at_once : FnScope N_meets_two_at_once ["meetings"] (defScope st_meets_two_at_once) := ⟨rfl, rfl, rfl, by decide +kernel, rfl, by decide +kernel, by decide +kernel⟩
abbrev st_by_when : Stmt := top 18
abbrev N_by_when : List Str := ["meeting"]
theorem sc_by_when : FnScope N_by_when ["meeting"] (defScope st_by_when) := ⟨rfl, rfl, rfl, by decide +kernel, rfl, by decide +kernel, by decide +kernel⟩
abbrev st_made_book : Stmt := top 19
abbrev N_made_book : List Str := ["rooms", "meetings", "meeting"]
theorem sc_made_book : FnScope N_made_book ["rooms", "meetings"] (defScope st_made_book) := ⟨rfl, rfl, rfl, by decide +kernel, rfl, by decide +kernel, by decide +kernel⟩
abbrev st_is_number_of : Stmt := top 20
abbrev N_is_number_of : List Str := ["book", "thing"]
theorem sc_is_number_of : FnScope N_is_number_of ["book", "thing"] (defScope st_is_number_of) := ⟨rfl, rfl, rfl, by decide +kernel, rfl, by decide +kernel, by decide +kernel⟩
abbrev st_both_ways : Stmt := top 21
abbrev N_both_ways : List Str := ["meeting"]
theorem sc_both_ways : FnScope N_both_ways ["meeting"] (defScope st_both_ways) := ⟨rfl, rfl, rfl, by decide +kernel, rfl, by decide +kernel, by decide +kernel⟩
abbrev st_Copying_init : Stmt := inClass (top 23) 0
abbrev N_Copying_init : List Str := ["self", "book", "letters", "rule", "room", "letter", "number"]
theorem sc_Copying_init : FnScope N_Copying_init ["self", "book", "letters", "rule"] (defScope st_Copying_init) := ⟨rfl, rfl, rfl, by decide +kernel, rfl, by decide +kernel, by decide +kernel⟩
abbrev st_Copying_has_room : Stmt := inClass (top 23) 1
abbrev N_Copying_has_room : List Str := ["self", "number", "walker", "one", "held"]
theorem sc_Copying_has_room : FnScope N_Copying_has_room ["self", "number", "walker"] (defScope st_Copying_has_room) := ⟨rfl, rfl, rfl, by decide +kernel, rfl, by decide +kernel, by decide +kernel⟩
abbrev st_Copying_copied : Stmt := inClass (top 23) 2
abbrev N_Copying_copied : List Str := ["self", "meeting", "when", "number", "giver", "other", "times", "share"]
theorem sc_Copying_copied : FnScope N_Copying_copied ["self", "meeting", "when", "number", "giver", "other"] (defScope st_Copying_copied) := ⟨rfl, rfl, rfl, by decide +kernel, rfl, by decide +kernel, by decide +kernel⟩
abbrev st_Copying_meet : Stmt := inClass (top 23) 3
abbrev N_Copying_meet : List Str := ["self", "number", "meeting", "left", "letter", "giver", "other"]
theorem sc_Copying_meet : FnScope N_Copying_meet ["self", "number", "meeting"] (defScope st_Copying_meet) := ⟨rfl, rfl, rfl, by decide +kernel, rfl, by decide +kernel, by decide +kernel⟩
abbrev st_run : Stmt := top 24
abbrev N_run : List Str := ["book", "letters", "rule", "found", "number", "meeting"]
theorem sc_run : FnScope N_run ["book", "letters", "rule"] (defScope st_run) := ⟨rfl, rfl, rfl, by decide +kernel, rfl, by decide +kernel, by decide +kernel⟩
abbrev st_need_meeting : Stmt := top 26
abbrev N_need_meeting : List Str := ["book", "meeting"]
theorem sc_need_meeting : FnScope N_need_meeting ["book", "meeting"] (defScope st_need_meeting) := ⟨rfl, rfl, rfl, by decide +kernel, rfl, by decide +kernel, by decide +kernel⟩
abbrev st_without : Stmt := top 27
abbrev N_without : List Str := ["book", "meeting", "at", "row"]
theorem sc_without : FnScope N_without ["book", "meeting"] (defScope st_without) := ⟨rfl, rfl, rfl, by decide +kernel, rfl, by decide +kernel, by decide +kernel⟩
abbrev st_comings : Stmt := top 29
abbrev N_comings : List Str := ["book", "sender", "since", "room", "times", "by", "number", "meeting", "giver", "other"]
theorem sc_comings : FnScope N_comings ["book", "sender", "since"] (defScope st_comings) := ⟨rfl, rfl, rfl, by decide +kernel, rfl, by decide +kernel, by decide +kernel⟩
abbrev st_chain_by : Stmt := top 30
abbrev N_chain_by : List Str := ["book", "by", "walker", "found", "number"]
theorem sc_chain_by : FnScope N_chain_by ["book", "by", "walker"] (defScope st_chain_by) := ⟨rfl, rfl, rfl, by decide +kernel, rfl, by decide +kernel, by decide +kernel⟩
abbrev st_earliest : Stmt := top 31
abbrev N_earliest : List Str := ["book", "letter", "sender", "since", "wish", "last", "times", "by"]
theorem sc_earliest : FnScope N_earliest ["book", "letter"] (defScope st_earliest) := ⟨rfl, rfl, rfl, by decide +kernel, rfl, by decide +kernel, by decide +kernel⟩
abbrev st_lost : Stmt := top 33
abbrev N_lost : List Str := ["book", "letters", "meeting", "left", "found", "number", "letter"]
theorem sc_lost : FnScope N_lost ["book", "letters", "meeting"] (defScope st_lost) := ⟨rfl, rfl, rfl, by decide +kernel, rfl, by decide +kernel, by decide +kernel⟩
abbrev st_counts_of : Stmt := top 36
abbrev N_counts_of : List Str := ["book", "room", "found", "one", "other", "when", "many"]
theorem sc_counts_of : FnScope N_counts_of ["book"] (defScope st_counts_of) := ⟨rfl, rfl, rfl, by decide +kernel, rfl, by decide +kernel, by decide +kernel⟩
abbrev st_Rule_at_first : Stmt := inClass (top 37) 0
abbrev N_Rule_at_first : List Str := ["self"]
theorem sc_Rule_at_first : FnScope N_Rule_at_first ["self"] (defScope st_Rule_at_first) := ⟨rfl, rfl, rfl, by decide +kernel, rfl, by decide +kernel, by decide +kernel⟩
abbrev st_Rule_share : Stmt := inClass (top 37) 1
abbrev N_Rule_share : List Str := ["self", "letter", "giver", "other", "tokens"]
theorem sc_Rule_share : FnScope N_Rule_share ["self", "letter", "giver", "other", "tokens"] (defScope st_Rule_share) := ⟨rfl, rfl, rfl, by decide +kernel, rfl, by decide +kernel, by decide +kernel⟩
abbrev st_Rule_goes_with : Stmt := inClass (top 37) 2
abbrev N_Rule_goes_with : List Str := ["self", "book"]
theorem sc_Rule_goes_with : FnScope N_Rule_goes_with ["self", "book"] (defScope st_Rule_goes_with) := ⟨rfl, rfl, rfl, by decide +kernel, rfl, by decide +kernel, by decide +kernel⟩
abbrev st_AllMet_share : Stmt := inClass (top 38) 0
abbrev N_AllMet_share : List Str := ["self", "letter", "giver", "other", "tokens"]
theorem sc_AllMet_share : FnScope N_AllMet_share ["self", "letter", "giver", "other", "tokens"] (defScope st_AllMet_share) := ⟨rfl, rfl, rfl, by decide +kernel, rfl, by decide +kernel, by decide +kernel⟩
abbrev st_Halves_init : Stmt := inClass (top 39) 0
abbrev N_Halves_init : List Str := ["self", "tokens"]
theorem sc_Halves_init : FnScope N_Halves_init ["self", "tokens"] (defScope st_Halves_init) := ⟨rfl, rfl, rfl, by decide +kernel, rfl, by decide +kernel, by decide +kernel⟩
abbrev st_Halves_at_first : Stmt := inClass (top 39) 1
abbrev N_Halves_at_first : List Str := ["self"]
theorem sc_Halves_at_first : FnScope N_Halves_at_first ["self"] (defScope st_Halves_at_first) := ⟨rfl, rfl, rfl, by decide +kernel, rfl, by decide +kernel, by decide +kernel⟩
abbrev st_Halves_share : Stmt := inClass (top 39) 2
abbrev N_Halves_share : List Str := ["self", "letter", "giver", "other", "tokens"]
theorem sc_Halves_share : FnScope N_Halves_share ["self", "letter", "giver", "other", "tokens"] (defScope st_Halves_share) := ⟨rfl, rfl, rfl, by decide +kernel, rfl, by decide +kernel, by decide +kernel⟩
abbrev st_Nearer_init : Stmt := inClass (top 40) 0
abbrev N_Nearer_init : List Str := ["self", "past"]
theorem sc_Nearer_init : FnScope N_Nearer_init ["self", "past"] (defScope st_Nearer_init) := ⟨rfl, rfl, rfl, by decide +kernel, rfl, by decide +kernel, by decide +kernel⟩
abbrev st_Nearer_share : Stmt := inClass (top 40) 1
abbrev N_Nearer_share : List Str := ["self", "letter", "giver", "other", "tokens", "wish"]
theorem sc_Nearer_share : FnScope N_Nearer_share ["self", "letter", "giver", "other", "tokens"] (defScope st_Nearer_share) := ⟨rfl, rfl, rfl, by decide +kernel, rfl, by decide +kernel, by decide +kernel⟩
abbrev st_Nearer_goes_with : Stmt := inClass (top 40) 2
abbrev N_Nearer_goes_with : List Str := ["self", "book"]
theorem sc_Nearer_goes_with : FnScope N_Nearer_goes_with ["self", "book"] (defScope st_Nearer_goes_with) := ⟨rfl, rfl, rfl, by decide +kernel, rfl, by decide +kernel, by decide +kernel⟩
abbrev st_l_purse : Stmt := top 42
abbrev N_l_purse : List Str := ["_law_script", "_law_k", "_law_cell", "_law_left"]
theorem sc_l_purse : FnScope N_l_purse ["_law_script", "_law_k"] (defScope st_l_purse) := ⟨rfl, rfl, rfl, by decide +kernel, rfl, by decide +kernel, by decide +kernel⟩
abbrev st_l_take : Stmt := top 43
abbrev N_l_take : List Str := ["_law_purse_here", "_law_many", "_law_digit", "_law_mixed"]
theorem sc_l_take : FnScope N_l_take ["_law_purse_here", "_law_many"] (defScope st_l_take) := ⟨rfl, rfl, rfl, by decide +kernel, rfl, by decide +kernel, by decide +kernel⟩
abbrev st_l_far : Stmt := top 44
abbrev N_l_far : List Str := ["_law_purse_here", "_law_high"]
theorem sc_l_far : FnScope N_l_far ["_law_purse_here"] (defScope st_l_far) := ⟨rfl, rfl, rfl, by decide +kernel, rfl, by decide +kernel, by decide +kernel⟩
abbrev st_l_rooms : Stmt := top 45
abbrev N_l_rooms : List Str := ["_law_purse_here", "_law_walkers", "_law_rooms_here", "_law_walker", "_law_room"]
theorem sc_l_rooms : FnScope N_l_rooms ["_law_purse_here", "_law_walkers"] (defScope st_l_rooms) := ⟨rfl, rfl, rfl, by decide +kernel, rfl, by decide +kernel, by decide +kernel⟩
abbrev st_l_step : Stmt := top 46
abbrev N_l_step : List Str := ["_law_purse_here", "_law_way"]
theorem sc_l_step : FnScope N_l_step ["_law_purse_here"] (defScope st_l_step) := ⟨rfl, rfl, rfl, by decide +kernel, rfl, by decide +kernel, by decide +kernel⟩
abbrev st_l_meetings : Stmt := top 47
abbrev N_l_meetings : List Str := ["_law_purse_here", "_law_walkers", "_law_most", "_law_found", "_law_when", "_law_busy", "_law_k", "_law_one", "_law_other", "_law_gap", "_law_passed", "_law_late", "_law_then", "_law_low", "_law_high", "_law_room"]
theorem sc_l_meetings : FnScope N_l_meetings ["_law_purse_here", "_law_walkers", "_law_most"] (defScope st_l_meetings) := ⟨rfl, rfl, rfl, by decide +kernel, rfl, by decide +kernel, by decide +kernel⟩
abbrev st_l_book : Stmt := top 48
abbrev N_l_book : List Str := ["_law_purse_here", "_law_most_walkers", "_law_most_meetings", "_law_walkers", "_law_most"]
theorem sc_l_book : FnScope N_l_book ["_law_purse_here", "_law_most_walkers", "_law_most_meetings"] (defScope st_l_book) := ⟨rfl, rfl, rfl, by decide +kernel, rfl, by decide +kernel, by decide +kernel⟩
abbrev st_l_time : Stmt := top 49
abbrev N_l_time : List Str := ["_law_purse_here", "_law_book_here", "_law_later", "_law_way", "_law_at"]
theorem sc_l_time : FnScope N_l_time ["_law_purse_here", "_law_book_here", "_law_later"] (defScope st_l_time) := ⟨rfl, rfl, rfl, by decide +kernel, rfl, by decide +kernel, by decide +kernel⟩
abbrev st_l_letter : Stmt := top 50
abbrev N_l_letter : List Str := ["_law_purse_here", "_law_book_here", "_law_walkers", "_law_sender", "_law_wish", "_law_since"]
theorem sc_l_letter : FnScope N_l_letter ["_law_purse_here", "_law_book_here"] (defScope st_l_letter) := ⟨rfl, rfl, rfl, by decide +kernel, rfl, by decide +kernel, by decide +kernel⟩
abbrev st_l_whole : Stmt := top 51
abbrev N_l_whole : List Str := ["_law_thing"]
theorem sc_l_whole : FnScope N_l_whole ["_law_thing"] (defScope st_l_whole) := ⟨rfl, rfl, rfl, by decide +kernel, rfl, by decide +kernel, by decide +kernel⟩
abbrev st_l_times : Stmt := top 52
abbrev N_l_times : List Str := ["_law_book_here", "_law_sender", "_law_since", "_law_found", "_law_one", "_law_other", "_law_when", "_law_passed", "_law_giver", "_law_taker"]
theorem sc_l_times : FnScope N_l_times ["_law_book_here", "_law_sender", "_law_since"] (defScope st_l_times) := ⟨rfl, rfl, rfl, by decide +kernel, rfl, by decide +kernel, by decide +kernel⟩
abbrev st_l_letters : Stmt := top 53
abbrev N_l_letters : List Str := ["_law_purse_here", "_law_book_here", "_law_many", "_law_k"]
theorem sc_l_letters : FnScope N_l_letters ["_law_purse_here", "_law_book_here"] (defScope st_l_letters) := ⟨rfl, rfl, rfl, by decide +kernel, rfl, by decide +kernel, by decide +kernel⟩
abbrev st_l_past : Stmt := top 54
abbrev N_l_past : List Str := ["_law_purse_here", "_law_walkers", "_law_most"]
theorem sc_l_past : FnScope N_l_past ["_law_purse_here", "_law_walkers"] (defScope st_l_past) := ⟨rfl, rfl, rfl, by decide +kernel, rfl, by decide +kernel, by decide +kernel⟩
abbrev st_l_rule : Stmt := top 55
abbrev N_l_rule : List Str := ["_law_purse_here", "_law_walkers", "_law_kind", "_law_tokens", "_law_past_here", "_law_k", "_law_counts", "_law_one", "_law_other", "_law_when", "_law_passed"]
theorem sc_l_rule : FnScope N_l_rule ["_law_purse_here", "_law_walkers"] (defScope st_l_rule) := ⟨rfl, rfl, rfl, by decide +kernel, rfl, by decide +kernel, by decide +kernel⟩
abbrev st_l_made : Stmt := top 56
abbrev N_l_made : List Str := ["_law_rule_here"]
theorem sc_l_made : FnScope N_l_made ["_law_rule_here"] (defScope st_l_made) := ⟨rfl, rfl, rfl, by decide +kernel, rfl, by decide +kernel, by decide +kernel⟩
abbrev st_l_numbers_are : Stmt := top 57
abbrev N_l_numbers_are : List Str := ["_law_found", "_law_due", "_law_one"]
theorem sc_l_numbers_are : FnScope N_l_numbers_are ["_law_found", "_law_due"] (defScope st_l_numbers_are) := ⟨rfl, rfl, rfl, by decide +kernel, rfl, by decide +kernel, by decide +kernel⟩
abbrev st_l_bounded : Stmt := top 58
abbrev N_l_bounded : List Str := ["_law_book_here", "_law_letter_here", "_law_rule_here", "_law_row", "_law_tokens", "_law_sender", "_law_since", "_law_wish", "_law_last", "_law_least", "_law_sum", "_law_holders", "_law_k", "_law_first"]
theorem sc_l_bounded : FnScope N_l_bounded ["_law_book_here", "_law_letter_here", "_law_rule_here", "_law_row", "_law_tokens"] (defScope st_l_bounded) := ⟨rfl, rfl, rfl, by decide +kernel, rfl, by decide +kernel, by decide +kernel⟩
abbrev st_l_run_right : Stmt := top 59
abbrev N_l_run_right : List Str := ["_law_book_here", "_law_letters_here", "_law_rule_here", "_law_found", "_law_many", "_law_k"]
theorem sc_l_run_right : FnScope N_l_run_right ["_law_book_here", "_law_letters_here", "_law_rule_here"] (defScope st_l_run_right) := ⟨rfl, rfl, rfl, by decide +kernel, rfl, by decide +kernel, by decide +kernel⟩
abbrev st_l_come : Stmt := top 60
abbrev N_l_come : List Str := ["_law_book_here", "_law_letters_here", "_law_found", "_law_numbers", "_law_k", "_law_time_here"]
theorem sc_l_come : FnScope N_l_come ["_law_book_here", "_law_letters_here"] (defScope st_l_come) := ⟨rfl, rfl, rfl, by decide +kernel, rfl, by decide +kernel, by decide +kernel⟩
abbrev st_l_missed_right : Stmt := top 61
abbrev N_l_missed_right : List Str := ["_law_book_here", "_law_letters_here", "_law_at", "_law_left", "_law_less", "_law_k", "_law_due"]
theorem sc_l_missed_right : FnScope N_l_missed_right ["_law_book_here", "_law_letters_here", "_law_at"] (defScope st_l_missed_right) := ⟨rfl, rfl, rfl, by decide +kernel, rfl, by decide +kernel, by decide +kernel⟩
abbrev st_law : Stmt := top 62
abbrev N_law : List Str := ["_law_script_here", "_law_at", "_law_drawn", "_law_letters_here", "_law_purse_here", "_law_rule_here", "_law_one", "_law_wide", "_law_turns", "_law_turn"]
theorem sc_law : FnScope N_law ["_law_script_here"] (defScope st_law) := ⟨rfl, rfl, rfl, by decide +kernel, rfl, by decide +kernel, by decide +kernel⟩
end Sm
namespace L2
open PySem PySem.Spec PyProof.Rows
/-! ### shorter words -/
/-- a def of the module, as a caller sees it -/
structure Cl (P : Program) (w : World) (K : PySem.W.Frag) (mg : Str → Option Value) (base : Heap) (x : Str) (k : Nat) (ps : List Str) (sp : Sp) (f : Addr) (fd : FuncData) : Prop where
  ok : FnOk P w K mg base CX0 k f fd ps sp
  mg : mg x = some (.ref f)
  kp : PySem.W.keepIn K (.ref f) = true
  b : Binds K fd ps []
section
variable {X : Cx} {x : Str} {k : Nat} {ps : List Str} {sp : Sp} {f : Addr} {fd : FuncData} {e : Expr} {es : List Expr} {t : TA} {te : TE} {p pos pos' : Pos}
theorem pe_cl (c : Cl X.prog X.w X.K X.mg X.base x k ps sp f fd) (hr : Room k X.A) (hg : Gl X x) (ha : PA X (e :: es) t) (hdb : (x == ("__debug__" : Str)) = false := by decide) (he : starEach (e :: es) X.env = (false, eval e X.env) :: starEach es X.env := by rfl) (hpl : (backTo pos (starEach es X.env)).any (·.1) = false := by rfl) :
    PE X (.Call (.Name x p) (e :: es) [] pos) (tCall sp [] E0 t) := pe_call c.ok hr hg c.mg c.kp c.b .nil pass0 ha hdb he hpl
theorem pset (i : Nat) (hN : X.N.Nodup) (he : PE X e te) (hi : X.N[i]? = some x := by rfl) (hx : Loc X.env.scope x := by first | exact Or.inl rfl | exact Or.inr rfl) (hs : swapsWith e (some (.Name x pos')) pos.line X.env = pure false := by rfl)
    (hf : X.fn x = true ∨ X.env.scope.names.lookup x = some .local := by first | exact .inl rfl | exact .inr rfl) : PS X (.Assign [.Name x pos'] e pos) (tAsg te (gName i)) := ps_set hN hi hx he hs hf
theorem pnm (i : Nat) (hN : X.N.Nodup) (hi : X.N[i]? = some x := by rfl) (hx : Loc X.env.scope x := by first | exact Or.inl rfl | exact Or.inr rfl) (hf : X.fn x = true ∨ X.env.scope.names.lookup x = some .local := by first | exact .inl rfl | exact .inr rfl) :
    PG X (.Name x pos) (gName i) := pg_name hN hi hx hf
/-- a module's whole number -/
def Gc (mg : Str → Option Value) (x : Str) (i : Int) : Prop := ∃ t, mg x = some (.int i t)
theorem pe_gi {i : Int} (h : Gc X.mg x i) (hg : Gl X x := by rfl) (hd : (x == ("__debug__" : Str)) = false := by decide) : PE X (.Name x pos) (tC (.int i)) := by
  obtain ⟨u, h⟩ := h
  exact pe_glob hg h ⟨u, rfl⟩ hd
end
/-! ### the rules with the written part by a name -/
section
variable {X : Cx} (K : PySem.W.Frag) {a b e l : Expr} {es : List Expr} {ta te tl : TE} {t : TA} {ts : TGs} {f : Str} {tg : Expr} {p pos tpos : Pos} {elts : List Expr} {kk n : Nat}
theorem ix_listK (h : X.K = K) : IxR X (rIxL K) := h ▸ ix_list
theorem ix_tupK (h : X.K = K) : IxR X (rIxT K) := h ▸ ix_tup
theorem get_listK (h : X.K = K) : PGet X (rGetL K) := h ▸ get_list
def rLenK (K : PySem.W.Frag) : List V → Hp → VK → Prop := fun xs H Q => ∃ p ys, xs = [.ref p] ∧ (SqL K H p ys ∨ SqT K H p ys) ∧ Q (.int ys.length) H
theorem len_K (h : X.K = K) : CallR X (.builtin "len") (rLenK K) := h ▸ call_len_seq
theorem isi_K (h : X.K = K) : CallR X (.builtin "isinstance") (rIsi K) := h ▸ call_isi
theorem all_K (h : X.K = K) (hc : X.calm = true) : CallR X (.builtin "all") (rAll K) := h ▸ cr_all hc
def rListK (K : PySem.W.Frag) : List V → Hp → VK → Prop := fun xs H Q => ∃ p ys, xs = [.ref p] ∧ (SqL K H p ys ∨ SqT K H p ys) ∧ ∀ l, H l = none → Q (.ref l) (upd H l (.lst ys))
theorem list_K (h : X.K = K) : CallR X (.type "list") (rListK K) := h ▸ call_list_of
def rTupleK (K : PySem.W.Frag) : List V → Hp → VK → Prop := fun xs H Q => ∃ p ys, xs = [.ref p] ∧ ((SqL K H p ys ∧ ∀ l, H l = none → Q (.ref l) (upd H l (.tup ys))) ∨ (SqT K H p ys ∧ Q (.ref p) H))
theorem tuple_K (h : X.K = K) : CallR X (.type "tuple") (rTupleK K) := h ▸ call_tuple_of
theorem sortedT_K (h : X.K = K) : CallR X (.builtin "sorted") (rSortedTd K) := h ▸ cr_sortedTd
theorem in_K (h : X.K = K) : OpR X (compareOp .In) (rIn K false) := h ▸ op_in_seq
theorem notIn_K (h : X.K = K) : OpR X (compareOp .NotIn) (rIn K true) := h ▸ op_notIn_seq
theorem eqD_K (h : X.K = K) (hu : X.A.units + 64 < cLine) : OpR X (compareOp .Eq) (rEqD K) := h ▸ op_eqD hu
theorem neD_K (h : X.K = K) (hu : X.A.units + 64 < cLine) : OpR X (compareOp .NotEq) (rNeD K) := h ▸ op_neD hu
theorem catA_K (h : X.K = K) : OpR X (binaryOp .Add) (rCatA K) := h ▸ op_catA
theorem repT1_K (h : X.K = K) : OpR X (binaryOp .Mult) (rRepT1 K) := h ▸ op_repT1
theorem slA_K (h : X.K = K) : SlR X (rSlA K) := h ▸ sl_tupA
theorem pl_K (h : X.K = K) (hl : PE X l tl) : PI X tg l (iList K tl) := h ▸ pi_list hl
theorem pt_K (h : X.K = K) (hl : PE X l tl) : PI X tg l (iTup K tl) := h ▸ pi_tup hl
theorem fld_K (h : X.K = K) (he : PE X e te) (hb : attributeBase e f X.env (eval e X.env) = eval e X.env) : PE X (.Attribute e f pos) (tFld K te f) := h ▸ pe_fld he hb
theorem tup_K (h : X.K = K) (hc : X.calm = true) (ht : PGs X es ts) (hn : (assignEach es X.env).length = n := by rfl) (hst : (assignEach es X.env).findIdx? (·.1) = none := by rfl) : PG X (.Tuple es kk pos) (gTup K n ts) := h ▸ pg_tup hc ht hn hst
theorem enum_K (h : X.K = K) (hg : Gl X "enumerate") (hm : X.mg "enumerate" = none) (ha : PA X [e] t) (hs : starEach [e] X.env = [(false, eval e X.env)] := by rfl) : PI X (.Tuple elts kk tpos) (.Call (.Name "enumerate" p) [e] [] pos) (iEnum K t) := h ▸ pi_enum hg hm ha hs
theorem enumT_K (h : X.K = K) (hg : Gl X "enumerate") (hm : X.mg "enumerate" = none) (ha : PA X [e] t) (hs : starEach [e] X.env = [(false, eval e X.env)] := by rfl) : PI X (.Tuple elts kk tpos) (.Call (.Name "enumerate" p) [e] [] pos) (iEnumT K t) := h ▸ pi_enumT hg hm ha hs
end
theorem bo_len : bootBuiltins "len" = some (.builtin "len") := by decide +kernel
theorem bo_isinstance : bootBuiltins "isinstance" = some (.builtin "isinstance") := by decide +kernel
theorem bo_all : bootBuiltins "all" = some (.builtin "all") := by decide +kernel
theorem bo_min : bootBuiltins "min" = some (.builtin "min") := by decide +kernel
theorem bo_max : bootBuiltins "max" = some (.builtin "max") := by decide +kernel
theorem bo_sorted : bootBuiltins "sorted" = some (.builtin "sorted") := by decide +kernel
theorem bo_tuple : bootBuiltins "tuple" = some (.type "tuple") := by decide +kernel
theorem bo_list : bootBuiltins "list" = some (.type "list") := by decide +kernel
theorem bo_int : bootBuiltins "int" = some (.type "int") := by decide +kernel
theorem bo_bool : bootBuiltins "bool" = some (.type "bool") := by decide +kernel
/-- what the module doesn't hide -/
structure Bt (mg : Str → Option Value) : Prop where
  len : mg "len" = none
  isinstance : mg "isinstance" = none
  all : mg "all" = none
  min : mg "min" = none
  max : mg "max" = none
  sorted : mg "sorted" = none
  tuple : mg "tuple" = none
  list : mg "list" = none
  int : mg "int" = none
  bool : mg "bool" = none
  range : mg "range" = none
  enumerate : mg "enumerate" = none
/-- the module's numbers -/
structure Gk (mg : Str → Option Value) : Prop where
  MOST_TIME : Gc mg "MOST_TIME" 1000000000
  MOST_WALKERS : Gc mg "MOST_WALKERS" 12
  MOST_ROOM : Gc mg "MOST_ROOM" 99
  MOST_MEETINGS : Gc mg "MOST_MEETINGS" 60
  MOST_MANY : Gc mg "MOST_MANY" 99
  MOST_TOKENS : Gc mg "MOST_TOKENS" 64
end L2
set_option Elab.async false
set_option linter.all false
set_option maxRecDepth 100000
set_option maxHeartbeats 4000000
namespace Sm
open PySem L2
/-! ### meetings -/
structure MOk (n : Nat) (m : Mt) : Prop where
  ab : m.a < m.b
  bn : m.b < n
  w1 : 1 ≤ m.w
  w2 : m.w ≤ 1000000000
  c1 : 1 ≤ m.c
  c2 : m.c ≤ 99
def Apart (x y : Mt) : Prop := x.w = y.w → x.a ≠ y.a ∧ x.a ≠ y.b ∧ x.b ≠ y.a ∧ x.b ≠ y.b
def Before (x y : Mt) : Prop := x.w < y.w ∨ (x.w = y.w ∧ x.a < y.a)
structure WFm (n : Nat) (ms : List Mt) : Prop where
  len : ms.length ≤ 60
  ok : ∀ m ∈ ms, MOk n m
  apart : ms.Pairwise Apart
  srt : ms.Pairwise Before
theorem Apart.symm {x y : Mt} (h : Apart x y) : Apart y x := fun e => by
  obtain ⟨h1, h2, h3, h4⟩ := h e.symm
  exact ⟨Ne.symm h1, Ne.symm h3, Ne.symm h2, Ne.symm h4⟩
theorem WFm.sub {n : Nat} {ms ms' : List Mt} (h : WFm n ms) (s : ms'.Sublist ms) : WFm n ms' :=
  ⟨Nat.le_trans s.length_le h.len, fun m hm => h.ok m (s.subset hm), h.apart.sublist s, h.srt.sublist s⟩
/-- what a meeting is told as: (one, other, when, many) -/
def mtI (m : Mt) : List Int := [(m.a : Int), (m.b : Int), m.w, m.c]
/-- and by when first -/
def r4 (m : Mt) : List Int := [m.w, (m.a : Int), (m.b : Int), m.c]
def r4inv (ns : List Int) : Mt := ⟨(ns.getD 1 0).toNat, (ns.getD 2 0).toNat, ns.getD 0 0, ns.getD 3 0⟩
theorem r4_inv (m : Mt) : r4inv (r4 m) = m := by
  unfold r4inv r4
  simp
theorem r4_before {x y : Mt} (h : HT.lexLt (r4 y) (r4 x) = false) (ap : Apart x y) : Before x y := by
  unfold r4 at h
  rw [HT.lexLt_cons] at h
  unfold Before
  by_cases e : y.w = x.w
  · rw [if_pos e, HT.lexLt_cons] at h
    obtain ⟨h1, _⟩ := ap e.symm
    by_cases e2 : (y.a : Int) = x.a
    · exact absurd (by omega) h1
    · rw [if_neg e2] at h
      have := of_decide_eq_false h
      omega
  · rw [if_neg e] at h
    have := of_decide_eq_false h
    omega
theorem sorted_ms {ms : List Mt} {rows : List (List Int)} (ap : ms.Pairwise Apart) (hp : rows.Perm (ms.map r4)) (hs : rows.Pairwise fun x y => HT.lexLt y x = false) :
    ∃ ms' : List Mt, rows = ms'.map r4 ∧ ms'.Perm ms ∧ ms'.Pairwise Apart ∧ ms'.Pairwise Before := by
  have e : rows = (rows.map r4inv).map r4 := by
    rw [List.map_map]
    refine (List.map_id rows).symm.trans (List.map_congr_left fun r hr => ?_)
    obtain ⟨m, _, rfl⟩ := List.mem_map.mp (hp.mem_iff.mp hr)
    show r4 m = r4 (r4inv (r4 m))
    rw [r4_inv]
  have p : (rows.map r4inv).Perm ms := by
    have q := hp.map r4inv
    rw [List.map_map] at q
    have e2 : ms.map (r4inv ∘ r4) = ms := by
      refine (List.map_congr_left fun m _ => ?_).trans (List.map_id ms)
      exact r4_inv m
    rw [e2] at q
    exact q
  have ap' : (rows.map r4inv).Pairwise Apart := (p.pairwise_iff fun h => Apart.symm h).mpr ap
  refine ⟨_, e, p, ap', ?_⟩
  rw [e] at hs
  have hs' := List.pairwise_map.mp hs
  exact (hs'.and ap').imp fun h => r4_before h.1 h.2
theorem WFm.late {n : Nat} {ms : List Mt} {d : Int} (h0 : 0 ≤ d) (len : ms.length ≤ 60) (ok : ∀ m ∈ ms, MOk n m ∧ m.w + d ≤ 1000000000) (ap : ms.Pairwise Apart) (sr : ms.Pairwise Before) :
    WFm n (ms.map fun m => { m with w := m.w + d }) := by
  refine ⟨by rw [List.length_map]; exact len, fun m hm => ?_, List.pairwise_map.mpr (ap.imp fun {x y} h e => h ?_), List.pairwise_map.mpr (sr.imp fun {x y} h => ?_)⟩
  · obtain ⟨m0, hm0, rfl⟩ := List.mem_map.mp hm
    obtain ⟨k, hw⟩ := ok m0 hm0
    have := k.w1
    exact ⟨k.ab, k.bn, by show 1 ≤ m0.w + d; omega, hw, k.c1, k.c2⟩
  · unfold Before at h ⊢
    dsimp only
    omega
  · have e2 : x.w + d = y.w + d := e
    omega
/-- the same book with all that may pass made 99 -/
def widen (ms : List Mt) : List Mt := ms.map fun m => { m with c := 99 }
theorem WFm.wide {n : Nat} {ms : List Mt} (h : WFm n ms) : WFm n (widen ms) := by
  refine ⟨by unfold widen; rw [List.length_map]; exact h.len, fun m hm => ?_, List.pairwise_map.mpr (h.apart.imp fun h e => h e), List.pairwise_map.mpr (h.srt.imp fun h => h)⟩
  obtain ⟨m0, hm0, rfl⟩ := List.mem_map.mp hm
  have k := h.ok m0 hm0
  exact ⟨k.ab, k.bn, k.w1, k.w2, by show (1 : Int) ≤ 99; decide, by show (99 : Int) ≤ 99; decide⟩
/-! ### in the heap -/
def mtV (m : Mt) : List V := [.int m.a, .int m.b, .int m.w, .int m.c]
def ltV (l : Lt) : List V := [.int l.s, .int l.t, .int l.d, .int l.e]
theorem mtV_eq (m : Mt) : mtV m = (mtI m).map V.int := rfl
/-- at the addresses stand tuples of these items -/
def TupsAt (H : Hp) : List Addr → List (List V) → Prop
  | [], [] => True
  | a :: as, x :: xs => H a = some (.tup x) ∧ TupsAt H as xs
  | [], _ :: _ => False
  | _ :: _, [] => False
theorem TupsAt.length {H : Hp} : ∀ {as : List Addr} {xs : List (List V)}, TupsAt H as xs → as.length = xs.length
  | [], [], _ => rfl
  | _ :: _, _ :: _, h => by rw [List.length_cons, List.length_cons, h.2.length]
  | [], _ :: _, h => h.elim
  | _ :: _, [], h => h.elim
theorem TupsAt.get {H : Hp} : ∀ {as : List Addr} {xs : List (List V)} {i : Nat} {x : List V}, TupsAt H as xs → xs[i]? = some x → ∃ a, as[i]? = some a ∧ H a = some (.tup x)
  | [], [], i, x, _, e => by simp at e
  | a :: as, y :: xs, 0, x, h, e => by
    cases e
    exact ⟨a, rfl, h.1⟩
  | a :: as, y :: xs, i + 1, x, h, e => h.2.get (i := i) e
  | [], _ :: _, _, _, h, _ => h.elim
  | _ :: _, [], _, _, h, _ => h.elim
theorem TupsAt.geta {H : Hp} : ∀ {as : List Addr} {xs : List (List V)} {i : Nat} {a : Addr}, TupsAt H as xs → as[i]? = some a → ∃ x, xs[i]? = some x ∧ H a = some (.tup x)
  | [], [], i, x, _, e => by simp at e
  | b :: as, y :: xs, 0, a, h, e => by
    cases e
    exact ⟨y, rfl, h.1⟩
  | b :: as, y :: xs, i + 1, x, h, e => h.2.geta (i := i) e
  | [], _ :: _, _, _, h, _ => h.elim
  | _ :: _, [], _, _, h, _ => h.elim
theorem TupsAt.mono {H H' : Hp} (k : ∀ a x, H a = some (.tup x) → H' a = some (.tup x)) : ∀ {as : List Addr} {xs : List (List V)}, TupsAt H as xs → TupsAt H' as xs
  | [], [], _ => trivial
  | _ :: _, _ :: _, h => ⟨k _ _ h.1, h.2.mono k⟩
  | [], _ :: _, h => h.elim
  | _ :: _, [], h => h.elim
theorem TupsAt.snoc {H : Hp} {a : Addr} {x : List V} (e : H a = some (.tup x)) : ∀ {as : List Addr} {xs : List (List V)}, TupsAt H as xs → TupsAt H (as ++ [a]) (xs ++ [x])
  | [], [], _ => ⟨e, trivial⟩
  | _ :: _, _ :: _, h => ⟨h.1, h.2.snoc e⟩
  | [], _ :: _, h => h.elim
  | _ :: _, [], h => h.elim
theorem TupsAt.take {H : Hp} : ∀ (k : Nat) {as : List Addr} {xs : List (List V)}, TupsAt H as xs → TupsAt H (as.take k) (xs.take k)
  | 0, _, _, _ => trivial
  | _ + 1, [], [], _ => trivial
  | k + 1, _ :: _, _ :: _, h => ⟨h.1, h.2.take k⟩
  | _, [], _ :: _, h => h.elim
  | _, _ :: _, [], h => h.elim
theorem TupsAt.drop {H : Hp} : ∀ (k : Nat) {as : List Addr} {xs : List (List V)}, TupsAt H as xs → TupsAt H (as.drop k) (xs.drop k)
  | 0, _, _, h => h
  | _ + 1, [], [], _ => trivial
  | k + 1, _ :: _, _ :: _, h => h.2.drop k
  | _, [], _ :: _, h => h.elim
  | _, _ :: _, [], h => h.elim
theorem TupsAt.app {H : Hp} {bs : List Addr} {ys : List (List V)} (g : TupsAt H bs ys) : ∀ {as : List Addr} {xs : List (List V)}, TupsAt H as xs → TupsAt H (as ++ bs) (xs ++ ys)
  | [], [], _ => g
  | _ :: _, _ :: _, h => ⟨h.1, TupsAt.app g h.2⟩
  | [], _ :: _, h => h.elim
  | _ :: _, [], h => h.elim
def MsAt (H : Hp) (t : Addr) (ms : List Mt) : Prop := ∃ as : List Addr, H t = some (.tup (as.map V.ref)) ∧ TupsAt H as (ms.map mtV)
def LsAt (H : Hp) (t : Addr) (ls : List Lt) : Prop := ∃ as : List Addr, H t = some (.lst (as.map V.ref)) ∧ TupsAt H as (ls.map ltV)
def BookAt (H : Hp) (b : Addr) (rs : List Int) (ms : List Mt) : Prop := ∃ pr pm : Addr, H b = some (.tup [.ref pr, .ref pm]) ∧ H pr = some (.tup (rs.map V.int)) ∧ MsAt H pm ms
/-- the tuples stay -/
def Tups (H H' : Hp) : Prop := ∀ a x, H a = some (.tup x) → H' a = some (.tup x)
theorem Tups.refl (H : Hp) : Tups H H := fun _ _ h => h
theorem Tups.trans {H H1 H2 : Hp} (a : Tups H H1) (b : Tups H1 H2) : Tups H H2 := fun c x e => b c x (a c x e)
theorem Same.tups {H H' : Hp} (s : Same H H') : Tups H H' := fun a x e => s _ _ e
theorem Tups.new {H : Hp} {p : Addr} {o : HO} (h : H p = none) : Tups H (upd H p o) := fun a x e => by rw [upd_ne (ne_of_none e h)]; exact e
theorem Tups.lst {H : Hp} {p : Addr} {xs : List V} {o : HO} (h : H p = some (.lst xs)) : Tups H (upd H p o) := fun a x e => by rw [upd_ne (ne_of e h (by intro z; cases z))]; exact e
theorem MsAt.mono {H H' : Hp} (k : Tups H H') {t : Addr} {ms : List Mt} (h : MsAt H t ms) : MsAt H' t ms := let ⟨as, h1, h2⟩ := h; ⟨as, k _ _ h1, h2.mono k⟩
theorem BookAt.mono {H H' : Hp} (k : Tups H H') {b : Addr} {rs : List Int} {ms : List Mt} (h : BookAt H b rs ms) : BookAt H' b rs ms := let ⟨pr, pm, h1, h2, h3⟩ := h; ⟨pr, pm, k _ _ h1, k _ _ h2, h3.mono k⟩
/-! ### the purse -/
def Purse (H : Hp) (p : Addr) : Prop := ∃ x y z : Int, H p = some (.lst [.int x, .int y, .int z])
/-- all but the purse is as it was -/
structure SamB (p : Addr) (H H' : Hp) : Prop where
  was : Purse H p
  is_ : Purse H' p
  keep : ∀ b o, b ≠ p → H b = some o → H' b = some o
theorem SamB.refl {p : Addr} {H : Hp} (h : Purse H p) : SamB p H H := ⟨h, h, fun _ _ _ e => e⟩
theorem SamB.upd {p : Addr} {H : Hp} {x y z : Int} (h : Purse H p) : SamB p H (L2.upd H p (.lst [.int x, .int y, .int z])) := ⟨h, ⟨x, y, z, upd_same⟩, fun b o n e => by rw [upd_ne n]; exact e⟩
theorem SamB.trans {p : Addr} {H H1 H2 : Hp} (a : SamB p H H1) (b : SamB p H1 H2) : SamB p H H2 := ⟨a.was, b.is_, fun c o n e => b.keep c o n (a.keep c o n e)⟩
theorem SamB.new {p a : Addr} {o : HO} {H H1 : Hp} (s : SamB p H H1) (h : H1 a = none) : SamB p H (L2.upd H1 a o) := by
  obtain ⟨x, y, z, e⟩ := s.is_
  exact ⟨s.was, ⟨x, y, z, by rw [upd_ne (ne_of_none e h)]; exact e⟩, fun b u n q => by have q2 := s.keep b u n q; rw [upd_ne (ne_of_none q2 h)]; exact q2⟩
/-- an object made behind H is changed -/
theorem SamB.mut {p a : Addr} {o : HO} {H H1 : Hp} (s : SamB p H H1) (h : H a = none) : SamB p H (L2.upd H1 a o) := by
  obtain ⟨x, y, z, e⟩ := s.is_
  obtain ⟨x0, y0, z0, e0⟩ := s.was
  exact ⟨s.was, ⟨x, y, z, by rw [upd_ne (ne_of_none e0 h)]; exact e⟩, fun b u n q => by rw [upd_ne (ne_of_none q h)]; exact s.keep b u n q⟩
theorem SamB.tups {p : Addr} {H H' : Hp} (s : SamB p H H') : Tups H H' := fun a x e => by
  obtain ⟨_, _, _, h⟩ := s.was
  exact s.keep a _ (ne_of e h (by intro z; cases z)) e
theorem SamB.free {p a : Addr} {H H' : Hp} (s : SamB p H H') (h : H' a = none) : H a = none := by
  cases q : H a with
  | none => rfl
  | some o =>
    by_cases e : a = p
    · obtain ⟨x, y, z, hp⟩ := s.is_
      rw [e, hp] at h
      cases h
    · rw [s.keep a o e q] at h
      cases h
theorem mod_in (x : Int) : -(2 ^ 64) < x % 2147483647 ∧ x % 2147483647 < 2 ^ 64 := by omega
theorem flat_ints : ∀ ns : List Int, (ns.map V.int).all flatV = true
  | [] => rfl
  | n :: ns => by
    rw [List.map_cons, List.all_cons, flat_ints ns]
    rfl
theorem inV_ints (i : Int) : ∀ ns : List Int, inV (.int i) (ns.map V.int) = decide (i ∈ ns)
  | [] => by simp [inV]
  | n :: ns => by
    have ih := inV_ints i ns
    unfold inV at ih ⊢
    rw [List.map_cons, List.any_cons, ih]
    show ((n == i) || decide (i ∈ ns)) = decide (i ∈ n :: ns)
    rw [Bool.eq_iff_iff]
    simp only [Bool.or_eq_true, beq_iff_eq, decide_eq_true_eq, List.mem_cons]
    exact ⟨fun h => h.imp Eq.symm id, fun h => h.imp Eq.symm id⟩
theorem iteD {c A B : Prop} [Decidable c] (h : c) (a : A) : if decide c = true then A else B := by
  rw [if_pos (decide_eq_true h)]
  exact a
theorem iteDN {c A B : Prop} [Decidable c] (h : ¬ c) (b : B) : if decide c = true then A else B := by
  rw [if_neg (fun e => h (of_decide_eq_true e))]
  exact b
theorem all_true : ∀ n : Nat, (List.replicate n true).all id = true
  | 0 => rfl
  | n + 1 => by rw [List.replicate_succ, List.all_cons, all_true n]; rfl
/-! ### data that == looks at -/
theorem dp_ints {K : PySem.W.Frag} {H : Hp} : ∀ ns : List Int, DpAll K H (ns.map V.int) (ns.map PyData.int)
  | [] => .nil
  | n :: ns => .cons (.int n) (dp_ints ns)
theorem dp_rows {K : PySem.W.Frag} {H : Hp} : ∀ {as : List Addr} {rows : List (List Int)}, TupsAt H as (rows.map fun r => r.map V.int) → DpAll K H (as.map V.ref) (rows.map fun r => PyData.tuple (r.map PyData.int))
  | [], [], _ => .nil
  | a :: as, r :: rows, h => .cons (.tup (SqT.of h.1) (dp_ints r)) (dp_rows h.2)
  | [], _ :: _, h => h.elim
  | _ :: _, [], h => h.elim
theorem lay_rows : ∀ rows : List (List Int), PyData.canLayAll0 (rows.map fun r => PyData.tuple (r.map PyData.int)) = true
  | [] => by simp [PyData.canLayAll0]
  | r :: rows => by simp [PyData.canLayAll0, PyData.canLay0, lay_rows rows, PySem.W.canLayAll0_ints]
theorem depth_rows : ∀ rows : List (List Int), PyData.depthAll (rows.map fun r => PyData.tuple (r.map PyData.int)) ≤ 2
  | [] => by simp [PyData.depthAll]
  | r :: rows => by
    have h1 := depth_rows rows
    have h2 := PySem.W.depthAll_ints r
    simp only [List.map_cons, PyData.depthAll, PyData.depth]
    omega
theorem shaped_rowsT (rows : List (List Int)) : SeqAt.shaped (.tuple (rows.map fun r => PyData.tuple (r.map PyData.int))) = true := by
  have h1 := depth_rows rows
  have h2 : PyData.depth (.tuple (rows.map fun r => PyData.tuple (r.map PyData.int))) ≤ 64 := by simp only [PyData.depth]; omega
  show (PyData.canLay0 (.tuple (rows.map fun r => PyData.tuple (r.map PyData.int))) && decide (PyData.depth (.tuple (rows.map fun r => PyData.tuple (r.map PyData.int))) ≤ 64)) = true
  rw [Bool.and_eq_true]
  exact ⟨by simp only [PyData.canLay0]; exact lay_rows rows, decide_eq_true h2⟩
theorem shaped_rowsL (rows : List (List Int)) : SeqAt.shaped (.list (rows.map fun r => PyData.tuple (r.map PyData.int))) = true := by
  have h1 := depth_rows rows
  have h2 : PyData.depth (.list (rows.map fun r => PyData.tuple (r.map PyData.int))) ≤ 64 := by simp only [PyData.depth]; omega
  show (PyData.canLay0 (.list (rows.map fun r => PyData.tuple (r.map PyData.int))) && decide (PyData.depth (.list (rows.map fun r => PyData.tuple (r.map PyData.int))) ≤ 64)) = true
  rw [Bool.and_eq_true]
  exact ⟨by simp only [PyData.canLay0]; exact lay_rows rows, decide_eq_true h2⟩
theorem eqv_nilT (rows : List (List Int)) : PyData.eqv (.tuple (rows.map fun r => PyData.tuple (r.map PyData.int))) (.tuple []) = rows.isEmpty := by
  cases rows with
  | nil => simp [PyData.eqv, PyData.eqvAll]
  | cons r rows => simp [PyData.eqv, PyData.eqvAll]
theorem eqv_nilL (rows : List (List Int)) : PyData.eqv (.list (rows.map fun r => PyData.tuple (r.map PyData.int))) (.list []) = rows.isEmpty := by
  cases rows with
  | nil => simp [PyData.eqv, PyData.eqvAll]
  | cons r rows => simp [PyData.eqv, PyData.eqvAll]
theorem MsAt.rows {H : Hp} {as : List Addr} {ms : List Mt} (h : TupsAt H as (ms.map mtV)) : TupsAt H as ((ms.map mtI).map fun r => r.map V.int) := by
  rw [List.map_map]
  exact h
/-! ### a sorted list of tuples of ints -/
def kH (H : Hp) : V → List Int
  | .ref t => match H t with
    | some (.tup vs) => vs.map fun v => match v with
      | .int i => i
      | _ => 0
    | _ => []
  | _ => []
theorem kH_of {H : Hp} {t : Addr} {ns : List Int} (h : H t = some (.tup (ns.map V.int))) : kH H (.ref t) = ns := by
  unfold kH
  dsimp only
  rw [h]
  dsimp only
  rw [List.map_map]
  exact (List.map_congr_left fun _ _ => rfl).trans (List.map_id ns)
def unref : V → Addr
  | .ref a => a
  | _ => 0
theorem rows_key {H : Hp} : ∀ {as : List Addr} {rows : List (List Int)}, TupsAt H as (rows.map fun r => r.map V.int) → (as.map V.ref).map (kH H) = rows
  | [], [], _ => rfl
  | a :: as, r :: rows, h => by
    rw [List.map_cons, List.map_cons, rows_key h.2, kH_of h.1]
  | [], _ :: _, h => h.elim
  | _ :: _, [], h => h.elim
theorem rows_at {H : Hp} : ∀ {ys : List V}, (∀ y ∈ ys, ∃ t ns, y = V.ref t ∧ H t = some (.tup ((ns : List Int).map V.int))) → ∃ as : List Addr, ys = as.map V.ref ∧ TupsAt H as ((ys.map (kH H)).map fun r => r.map V.int)
  | [], _ => ⟨[], rfl, trivial⟩
  | y :: ys, h => by
    obtain ⟨as, e, q⟩ := rows_at (ys := ys) fun z hz => h z (List.mem_cons_of_mem _ hz)
    obtain ⟨t, ns, rfl, ht⟩ := h y List.mem_cons_self
    refine ⟨t :: as, by rw [List.map_cons, e], ?_⟩
    rw [List.map_cons, List.map_cons, kH_of ht]
    exact ⟨ht, q⟩
theorem rows_mem {H : Hp} : ∀ {as : List Addr} {rows : List (List Int)}, TupsAt H as (rows.map fun r => r.map V.int) → ∀ y ∈ as.map V.ref, ∃ t ns, y = V.ref t ∧ H t = some (.tup ((ns : List Int).map V.int)) ∧ ns ∈ rows
  | [], [], _, y, h => by simp at h
  | a :: as, r :: rows, h, y, hy => by
    rcases List.mem_cons.mp hy with rfl | hy
    · exact ⟨a, r, rfl, h.1, List.mem_cons_self⟩
    · obtain ⟨t, ns, h1, h2, h3⟩ := rows_mem h.2 y hy
      exact ⟨t, ns, h1, h2, List.mem_cons_of_mem _ h3⟩
  | [], _ :: _, h, _, _ => h.elim
  | _ :: _, [], h, _, _ => h.elim
/-- what a sort of such a list leaves -/
theorem sorted_rows {H : Hp} {as : List Addr} {rows : List (List Int)} {ys : List V} (h : TupsAt H as (rows.map fun r => r.map V.int)) (hp : ys.Perm (as.map V.ref)) (hs : ys.Pairwise fun x y => HT.lexLt (kH H y) (kH H x) = false) :
    ∃ as' rows', ys = as'.map V.ref ∧ TupsAt H as' ((rows' : List (List Int)).map fun r => r.map V.int) ∧ rows'.Perm rows ∧ rows'.Pairwise fun x y => HT.lexLt y x = false := by
  obtain ⟨as', e, q⟩ := rows_at (H := H) (ys := ys) fun y hy => by
    obtain ⟨t, ns, h1, h2, _⟩ := rows_mem h y (hp.mem_iff.mp hy)
    exact ⟨t, ns, h1, h2⟩
  refine ⟨as', ys.map (kH H), e, q, ?_, List.pairwise_map.mpr hs⟩
  have z := hp.map (kH H)
  rw [rows_key h] at z
  exact z
end Sm
set_option Elab.async false
set_option linter.all false
set_option maxRecDepth 100000
set_option maxHeartbeats 4000000
namespace Sm
open PySem L2
open C8 (tCut pss_cut)
local macro_rules | `(tactic| walk_at "rdc") => `(tactic| first
  | with_reducible assumption
  | exact (show flatV _ = true from rfl)
  | exact flat_ints _
  | exact Or.inr ⟨by decide, by decide⟩
  | exact Or.inl ⟨by decide, by decide⟩
  | exact Or.inl (mod_in _)
  | exact Or.inl ⟨by (try dsimp only); omega, by (try dsimp only); omega⟩
  | exact Or.inr ⟨by (try dsimp only); omega, by (try dsimp only); omega⟩
  | exact ⟨by decide, by decide, by decide⟩
  | exact ⟨by decide, by decide⟩
  | exact ⟨by omega, by omega⟩
  | decide
  | omega
  | (show (0 : Int) < _; decide)
  | exact Nat.le_of_ble_eq_true rfl)
local macro_rules | `(tactic| walk_at "rd1") => `(tactic| first
  | (refine ⟨_, rfl, ?_⟩)
  | (refine ⟨_, _, rfl, rfl, ?_⟩)
  | (refine And.intro (by walk_at "rdc") ?_)
  | (refine ⟨_, _, rfl, (by first | exact Or.inl (by assumption) | exact Or.inl (SqL.of (by assumption)) | exact Or.inr (SqT.of (by assumption))), ?_⟩)
  | (refine ⟨_, _, _, _, rfl, rfl, (by first | exact SqL.of (by assumption) | exact SqT.of (by assumption) | exact SqL.of upd_same | assumption), (by rfl), ?_⟩)
  | (refine ⟨_, _, _, _, rfl, rfl, (by first | assumption | exact upd_same), (by rfl), ?_⟩)
  | (refine ⟨rfl, _, rfl, ?_⟩))
local macro_rules | `(tactic| walk_at "rd") => `(tactic| repeat (walk_at "rd1"))
def sp_purse (K : PySem.W.Frag) : Sp := fun vs H Q _ => ∃ (a : Addr) (ns : List Int) (k : Int), vs = [.ref a, .int k] ∧ 0 ≤ k ∧ SqL K H a (ns.map V.int) ∧ ∀ p (x y z : Int), H p = none → Q (.ref p) (upd H p (.lst [.int x, .int y, .int z]))
def sp_take : Sp := fun vs H Q _ => ∃ (p : Addr) (n : Int), vs = [.ref p, .int n] ∧ Purse H p ∧ 0 < n ∧ n < 1073741824 ∧ ∀ (r : Int) H', 0 ≤ r → r < n → SamB p H H' → Q (.int r) H'
def sp_far : Sp := fun vs H Q _ => ∃ (p : Addr), vs = [.ref p] ∧ Purse H p ∧ ∀ (r : Int) H', SamB p H H' → Q (.int r) H'
def sp_step : Sp := fun vs H Q _ => ∃ (p : Addr), vs = [.ref p] ∧ Purse H p ∧ ∀ (r : Int) H', 0 ≤ r → r ≤ 16000000 → SamB p H H' → Q (.int r) H'
def sp_rooms : Sp := fun vs H Q _ => ∃ (p : Addr) (n : Nat), vs = [.ref p, .int n] ∧ Purse H p ∧ n ≤ 1000 ∧ ∀ t (rs : List Int) H', rs.length = n → SamB p H H' → H t = none → H' t = some (.tup (rs.map V.int)) → Q (.ref t) H'
section
variable {P : Program} {w : World} {K : PySem.W.Frag} {mg : Str → Option Value} {base : Heap} {f ft : Addr} {fd fdt : FuncData}
theorem ok_purse (F : Fun K "_law_purse" "_law_purse" st_l_purse f fd) (B : Bt mg) : FnOk P w K mg base CX0 1 f fd ["_law_script", "_law_k"] (sp_purse K) := by
  refine F.ok sc_l_purse (fun vs H Q E h => ?_) (fun cdv A outer s H vs Q E hr h => ?_)
  · obtain ⟨a, ns, k, rfl, _⟩ := h
    rfl
  · obtain ⟨a, ns, k, rfl, k0, hS, q⟩ := h
    refine ⟨_, 
      (pss_cons (pset 2 sc_l_purse.nd (pe_int)) 
      (pss_cut (ps_if (pt_cmpR op_lt (pv 1) (pe_callB (len_K K (by rfl)) (by rfl) B.len bo_len (pa_cons (pv 0) pa_nil)) (nomark _)) 
        (pss_one (pset 2 sc_l_purse.nd (pe_ix (ix_listK K (by rfl)) (pv 0) (pv 1) (fun _ _ => rfl)))) pss_nil) 
      (pss_cons (pset 3 sc_l_purse.nd (pe_int)) 
      (pss_cut (ps_if (pt_cmpR op_lt (pv 2) (pe_int) (nomark _)) 
        (pss_one (pset 3 sc_l_purse.nd (pe_op op_sub (pe_un un_neg (pe_int)) (pv 2)))) pss_nil) 
      (pss_cut (ps_if (pt_cmpR op_ge (pv 2) (pe_op op_pow (pe_int) (pe_int)) (nomark _)) 
        (pss_one (pset 3 sc_l_purse.nd (pv 2))) pss_nil) 
      (pss_one (ps_ret (pe_lst (pa_cons (pv 3) (pa_cons (pe_op op_mod (pe_op op_add (pe_op op_add (pe_op op_mul (pv 2) (pe_int)) (pe_op op_mul (pv 1) (pe_int))) (pe_int)) (pe_int)) (pa_cons (pe_int) pa_nil))))))))))), ?_⟩
    refine ⟨fun σ' H' => ∃ c : Int, σ' = [some (.ref a), some (.int k), some (.int c), none] ∧ H = H', ?_, ?_⟩
    · walk_at "rd"
      refine ite2 (fun h => ?_) (fun h => ?_)
      · have hk := of_decide_eq_true h
        rw [List.length_map] at hk
        obtain ⟨j, rfl⟩ := Int.eq_ofNat_of_zero_le k0
        walk_at "rd"
        refine ⟨_, _, _, _, rfl, rfl, hS, atI_nat (by rw [List.getElem?_map, List.getElem?_eq_getElem (by omega)]; rfl), ?_⟩
        exact ⟨_, rfl, rfl⟩
      · exact ⟨_, rfl, rfl⟩
    · rintro σ' H' ⟨c, rfl, rfl⟩
      refine ⟨fun σ' H' => ∃ d : Int, σ' = [some (.ref a), some (.int k), some (.int c), some (.int d)] ∧ H = H', ?_, ?_⟩
      · walk_at "rd"
        refine ite2 (fun h => ?_) (fun h => ?_)
        · walk_at "rd"
          rfl
        · exact ⟨_, rfl, rfl⟩
      · rintro σ' H' ⟨d, rfl, rfl⟩
        refine ⟨fun σ' H' => ∃ d : Int, σ' = [some (.ref a), some (.int k), some (.int c), some (.int d)] ∧ H = H', ?_, ?_⟩
        · walk_at "rd"
          refine ite2 (fun h => ?_) (fun h => ?_)
          · exact ⟨_, rfl, _, rfl, rfl⟩
          · exact ⟨_, rfl, rfl⟩
        · rintro σ' H' ⟨d, rfl, rfl⟩
          walk_at "rd"
          exact fun p hp => q p _ _ _ hp
theorem ok_take (F : Fun K "_law_take" "_law_take" st_l_take f fd) (B : Bt mg) : FnOk P w K mg base CX0 1 f fd ["_law_purse_here", "_law_many"] sp_take := by
  refine F.ok sc_l_take (fun vs H Q E h => ?_) (fun cdv A outer s H vs Q E hr h => ?_)
  · obtain ⟨p, n, rfl, _⟩ := h
    rfl
  · obtain ⟨p, n, rfl, hP, n0, n1, q⟩ := h
    obtain ⟨x, y, z, hp⟩ := id hP
    refine ⟨_, 
      (pss_cons (ps_if (pt_cmpR op_gt (pe_ix (ix_listK K (by rfl)) (pv 0) (pe_int) (fun _ _ => rfl)) (pe_int) (nomark _)) 
        (pss_cons (pset 2 sc_l_take.nd (pe_op op_mod (pe_ix (ix_listK K (by rfl)) (pv 0) (pe_int) (fun _ _ => rfl)) (pv 1))) 
        (pss_cons (ps_asg (pe_op op_fdiv (pe_ix (ix_listK K (by rfl)) (pv 0) (pe_int) (fun _ _ => rfl)) (pv 1)) (pg_sub (pv 0) (pe_int) set_list)) 
        (pss_one (ps_ret (pv 2))))) pss_nil) 
      (pss_cons (ps_augS (pv 0) (pe_int) (get_listK K (by rfl)) (pe_int) ip_add set_list) 
      (pss_cons (pset 3 sc_l_take.nd (pe_op op_mod (pe_op op_mul (pe_op op_add (pe_ix (ix_listK K (by rfl)) (pv 0) (pe_int) (fun _ _ => rfl)) (pe_op op_mul (pe_ix (ix_listK K (by rfl)) (pv 0) (pe_int) (fun _ _ => rfl)) (pe_int))) (pe_int)) (pe_int))) 
      (pss_cons (pset 3 sc_l_take.nd (pe_op op_mod (pe_op op_add (pe_op op_add (pe_op op_mul (pv 3) (pv 3)) (pe_op op_mul (pe_ix (ix_listK K (by rfl)) (pv 0) (pe_int) (fun _ _ => rfl)) (pe_int))) (pe_ix (ix_listK K (by rfl)) (pv 0) (pe_int) (fun _ _ => rfl))) (pe_int))) 
      (pss_one (ps_ret (pe_op op_mod (pe_op op_fdiv (pe_op op_mod (pe_op op_mul (pv 3) (pe_int)) (pe_int)) (pe_int)) (pv 1)))))))), ?_⟩
    walk_at "rd"
    refine ite2 (fun h => ?_) (fun h => ?_)
    · walk_at "rd"
      exact q _ _ (Int.emod_nonneg _ (by omega)) (Int.emod_lt_of_pos _ n0) (.upd hP)
    · walk_at "rd"
      exact q _ _ (Int.emod_nonneg _ (by omega)) (Int.emod_lt_of_pos _ n0) (.upd hP)
theorem ok_far (F : Fun K "_law_far" "_law_far" st_l_far f fd) (B : Bt mg) (c_l_take : Cl P w K mg base "_law_take" 1 ["_law_purse_here", "_law_many"] sp_take ft fdt) : FnOk P w K mg base CX0 2 f fd ["_law_purse_here"] sp_far := by
  refine F.ok sc_l_far (fun vs H Q E h => ?_) (fun cdv A outer s H vs Q E hr h => ?_)
  · obtain ⟨p, rfl, _⟩ := h
    rfl
  · obtain ⟨p, rfl, hP, q⟩ := h
    refine ⟨_, 
      (pss_cons (pset 1 sc_l_far.nd (pe_cl c_l_take (hr.mono (by decide)) rfl (pa_cons (pv 0) (pa_cons (pe_int) pa_nil)))) 
      (pss_one (ps_ret (pe_op op_mod (pe_op op_add (pe_op op_mul (pv 1) (pe_int)) (pe_cl c_l_take (hr.mono (by decide)) rfl (pa_cons (pv 0) (pa_cons (pe_int) pa_nil)))) (pe_op op_add (pe_op op_pow (pe_int) (pe_int)) (pe_int)))))), ?_⟩
    walk_at "rd"
    refine ⟨_, _, rfl, hP, by decide, by decide, fun r1 H1 r10 r11 s1 => ?_⟩
    walk_at "rd"
    refine ⟨_, _, rfl, s1.is_, by decide, by decide, fun r2 H2 r20 r21 s2 => ?_⟩
    walk_at "rd"
    exact q _ _ (s1.trans s2)
theorem ok_step (F : Fun K "_law_step" "_law_step" st_l_step f fd) (B : Bt mg) (c_l_take : Cl P w K mg base "_law_take" 1 ["_law_purse_here", "_law_many"] sp_take ft fdt) : FnOk P w K mg base CX0 2 f fd ["_law_purse_here"] sp_step := by
  refine F.ok sc_l_step (fun vs H Q E h => ?_) (fun cdv A outer s H vs Q E hr h => ?_)
  · obtain ⟨p, rfl, _⟩ := h
    rfl
  · obtain ⟨p, rfl, hP, q⟩ := h
    refine ⟨_, 
      (pss_cons (pset 1 sc_l_step.nd (pe_cl c_l_take (hr.mono (by decide)) rfl (pa_cons (pv 0) (pa_cons (pe_int) pa_nil)))) 
      (pss_cons (ps_if (pt_cmpR op_lt (pv 1) (pe_int) (nomark _)) 
        (pss_one (ps_ret (pe_ix (ix_listK K (by rfl)) (pe_lst (pa_cons (pe_int) (pa_cons (pe_int) (pa_cons (pe_int) pa_nil)))) (pv 1) (fun _ _ => rfl)))) pss_nil) 
      (pss_cons (ps_if (pt_cmpR op_eq (pv 1) (pe_int) (nomark _)) 
        (pss_one (ps_ret (pe_op op_add (pe_int) (pe_cl c_l_take (hr.mono (by decide)) rfl (pa_cons (pv 0) (pa_cons (pe_int) pa_nil)))))) pss_nil) 
      (pss_one (ps_ret (pe_op op_add (pe_int) (pe_cl c_l_take (hr.mono (by decide)) rfl (pa_cons (pv 0) (pa_cons (pe_op op_mul (pe_int) (pe_op op_pow (pe_int) (pe_int))) pa_nil))))))))), ?_⟩
    walk_at "rd"
    refine ⟨_, _, rfl, hP, by decide, by decide, fun r1 H1 r10 r11 s1 => ?_⟩
    walk_at "rd"
    refine ite2 (fun h => ?_) (fun h => ?_)
    · have h3 := of_decide_eq_true h
      walk_at "rd"
      intro D hD
      have h3' : r1 < 3 := h3
      have s2 : SamB p H (upd H1 D (.lst [.int 0, .int 1, .int 1])) := s1.new hD
      have hc : r1 = 0 ∨ r1 = 1 ∨ r1 = 2 := by omega
      rcases hc with rfl | rfl | rfl
      · walk_at "rd"
        exact q _ _ (by decide) (by decide) s2
      · walk_at "rd"
        exact q _ _ (by decide) (by decide) s2
      · walk_at "rd"
        exact q _ _ (by decide) (by decide) s2
    · walk_at "rd"
      refine ite2 (fun h => ?_) (fun h => ?_)
      · walk_at "rd"
        refine ⟨_, _, rfl, s1.is_, by decide, by decide, fun r2 H2 r20 r21 s2 => ?_⟩
        walk_at "rd"
        exact q _ _ (by omega) (by omega) (s1.trans s2)
      · walk_at "rd"
        refine ⟨_, _, rfl, s1.is_, by decide, by decide, fun r2 H2 r20 r21 s2 => ?_⟩
        walk_at "rd"
        have e : (16 : Int) * 10 ^ Int.toNat 6 = 16000000 := by decide
        have r22 : r2 < 16 * 10 ^ Int.toNat 6 := r21
        exact q _ _ (by omega) (by omega) (s1.trans s2)
theorem ok_rooms (F : Fun K "_law_rooms" "_law_rooms" st_l_rooms f fd) (B : Bt mg) (c_l_take : Cl P w K mg base "_law_take" 1 ["_law_purse_here", "_law_many"] sp_take ft fdt) : FnOk P w K mg base CX0 2 f fd ["_law_purse_here", "_law_walkers"] sp_rooms := by
  refine F.ok sc_l_rooms (fun vs H Q E h => ?_) (fun cdv A outer s H vs Q E hr h => ?_)
  · obtain ⟨p, n, rfl, _⟩ := h
    rfl
  · obtain ⟨p, n, rfl, hP, hn, q⟩ := h
    refine ⟨_, 
      (pss_cons (pset 2 sc_l_rooms.nd (pe_lst pa_nil)) 
      (pss_cons (ps_for PassesOwn.never rfl (pi_range1 (by rfl) B.range (pa_cons (pv 1) pa_nil)) (pnm 3 sc_l_rooms.nd) 
        (pss_cons (pset 4 sc_l_rooms.nd (pe_op op_fdiv (pe_cl c_l_take (hr.mono (by decide)) rfl (pa_cons (pv 0) (pa_cons (pe_int) pa_nil))) (pe_int))) 
        (pss_cut (ps_if (pt_cmpR op_eq (pv 4) (pe_int) (nomark _)) 
          (pss_one (pset 4 sc_l_rooms.nd (pe_cl c_l_take (hr.mono (by decide)) rfl (pa_cons (pv 0) (pa_cons (pe_int) pa_nil))))) pss_nil) 
        (pss_one (ps_expr (pe_bm PySem.F.plainAttrs_list PySem.F.slot_list_append PySem.F.type_list_append mt_append (pv 2) (pa_cons (pv 4) pa_nil))))))) 
      (pss_one (ps_ret (pe_callTy (tuple_K K (by rfl)) (by rfl) B.tuple bo_tuple (pa_cons (pv 2) pa_nil)))))), ?_⟩
    walk_at "rd"
    intro D hD
    have s0 : SamB p H (upd H D (.lst [])) := (SamB.refl hP).new hD
    walk_at "rd"
    refine (for_range (lo := 0) (n := (n : Int).toNat) (fun i σ H' => ∃ (rs : List Int) (v3 v4 : Option V), rs.length = i ∧ SamB p H H' ∧ H' D = some (.lst (rs.map V.int)) ∧ σ = [some (.ref p), some (.int n), some (.ref D), v3, v4])
      ⟨[], _, _, rfl, s0, upd_same, rfl⟩ ?_ ?_)
    · rintro i σ H' hi ⟨rs, v3, v4, hl, s1, hD1, rfl⟩
      walk_at "rd"
      refine ⟨_, _, rfl, s1.is_, by decide, by decide, fun r1 H1 r10 r11 s2 => ?_⟩
      walk_at "rd"
      refine ⟨fun σ' H'' => ∃ (r : Int), σ' = [some (.ref p), some (.int n), some (.ref D), some (.int (0 + i)), some (.int r)] ∧ SamB p H' H'', ?_, ?_⟩
      · walk_at "rd"
        refine ite2 (fun h => ?_) (fun h => ?_)
        · walk_at "rd"
          refine ⟨_, _, rfl, s2.is_, by decide, by decide, fun r2 H2 r20 r21 s3 => ?_⟩
          exact ⟨_, rfl, s2.trans s3⟩
        · exact ⟨_, rfl, s2⟩
      · rintro σ' H'' ⟨r, rfl, s4⟩
        have hne : D ≠ p := fun e => by
          obtain ⟨x, y, z, hp⟩ := s0.was
          rw [e, hp] at hD
          cases hD
        have hD2 := s4.keep D _ hne hD1
        walk_at "rd"
        refine ⟨.inl ⟨rfl, _, SqL.of hD2⟩, _, rfl, D, _, _, rfl, rfl, hD2, by rw [List.length_map]; exact Nat.lt_of_lt_of_le (show rs.length < 1000 by omega) (by decide), ?_⟩
        refine ⟨rs ++ [r], _, _, by rw [List.length_append, hl]; rfl, (s1.trans s4).mut hD, by rw [upd_same, List.map_append]; rfl, rfl⟩
    · rintro σ H' ⟨rs, v3, v4, hl, s1, hD1, rfl⟩
      walk_at "rd"
      refine ⟨_, _, rfl, .inl ⟨SqL.of hD1, fun t ht => q t rs _ (by omega) (s1.new ht) (s1.free ht) upd_same⟩⟩
end
end Sm
set_option Elab.async false
set_option linter.all false
set_option maxRecDepth 100000
set_option maxHeartbeats 4000000
set_option pp.maxSteps 600
namespace Sm
open PySem L2
open C8 (tCut pss_cut)
local macro_rules | `(tactic| walk_at "rdc") => `(tactic| first
  | with_reducible assumption
  | exact (show flatV _ = true from rfl)
  | exact flat_ints _
  | exact Or.inr ⟨by decide, by decide⟩
  | exact Or.inl ⟨by decide, by decide⟩
  | exact Or.inl (mod_in _)
  | exact Or.inl ⟨by (try dsimp only); omega, by (try dsimp only); omega⟩
  | exact Or.inr ⟨by (try dsimp only); omega, by (try dsimp only); omega⟩
  | exact ⟨by decide, by decide, by decide⟩
  | exact ⟨by decide, by decide⟩
  | exact ⟨by omega, by omega⟩
  | decide
  | omega
  | (show (0 : Int) < _; decide)
  | exact Nat.le_of_ble_eq_true rfl)
local macro_rules | `(tactic| walk_at "rd1") => `(tactic| first
  | (refine ⟨_, rfl, ?_⟩)
  | (refine ⟨_, _, rfl, rfl, ?_⟩)
  | (refine And.intro (by walk_at "rdc") ?_)
  | (refine ⟨_, _, rfl, (by first | exact Or.inl (by assumption) | exact Or.inl (SqL.of (by assumption)) | exact Or.inr (SqT.of (by assumption))), ?_⟩)
  | (refine ⟨_, _, _, _, rfl, rfl, (by first | exact SqL.of (by assumption) | exact SqT.of (by assumption) | exact SqL.of upd_same | assumption), (by rfl), ?_⟩)
  | (refine ⟨_, _, _, _, rfl, rfl, (by first | assumption | exact upd_same), (by rfl), ?_⟩)
  | (refine ⟨rfl, _, rfl, ?_⟩))
local macro_rules | `(tactic| walk_at "rd") => `(tactic| repeat (walk_at "rd1"))
/-! ### meetings as they are drawn -/
structure GenOk (n : Nat) (ms : List Mt) (wh : Int) (bs : List Int) (i : Nat) : Prop where
  len : ms.length = i
  w1 : 1 ≤ wh
  w2 : wh ≤ 10000000 + 16000000 * i
  ok : ∀ m ∈ ms, m.a < m.b ∧ m.b < n ∧ 1 ≤ m.w ∧ m.w ≤ wh ∧ 1 ≤ m.c ∧ m.c ≤ 99
  apart : ms.Pairwise Apart
  busy : ∀ m ∈ ms, m.w = wh → (m.a : Int) ∈ bs ∧ (m.b : Int) ∈ bs
  bl : bs.length ≤ 2 * i
theorem GenOk.next {n : Nat} {ms : List Mt} {wh : Int} {bs : List Int} {i : Nat} (g : GenOk n ms wh bs i) {a b : Nat} (hab : a < b) (hbn : b < n) {gap c : Int} (g0 : 0 ≤ gap) (g1 : gap ≤ 16000000) (c1 : 1 ≤ c) (c2 : c ≤ 99)
    (hb : ¬ 0 < gap → (a : Int) ∉ bs ∧ (b : Int) ∉ bs) {x y : Int} (hxy : (x = a ∧ y = b) ∨ (x = b ∧ y = a)) : GenOk n (ms ++ [⟨a, b, wh + gap, c⟩]) (wh + gap) ((if 0 < gap then [] else bs) ++ [x, y]) (i + 1) := by
  refine ⟨by rw [List.length_append, g.len]; rfl, by have := g.w1; omega, by have := g.w2; push_cast; omega, fun m hm => ?_, ?_, fun m hm e => ?_, by have := g.bl; rw [List.length_append]; split <;> simp only [List.length_nil, List.length_cons] <;> omega⟩
  · rcases List.mem_append.mp hm with h | h
    · obtain ⟨h1, h2, h3, h4, h5, h6⟩ := g.ok m h
      exact ⟨h1, h2, h3, by omega, h5, h6⟩
    · rw [List.mem_singleton.mp h]
      exact ⟨hab, hbn, by have := g.w1; show 1 ≤ wh + gap; omega, Int.le_refl _, c1, c2⟩
  · refine List.pairwise_append.mpr ⟨g.apart, List.pairwise_singleton _ _, fun m hm m' hm' => ?_⟩
    rw [List.mem_singleton.mp hm']
    intro e
    have e' : m.w = wh + gap := e
    obtain ⟨h1, h2, h3, h4, h5, h6⟩ := g.ok m hm
    have hz : gap = 0 := by omega
    obtain ⟨k1, k2⟩ := hb (by omega)
    obtain ⟨k3, k4⟩ := g.busy m hm (by omega)
    refine ⟨fun q => k1 ?_, fun q => k2 ?_, fun q => k1 ?_, fun q => k2 ?_⟩
    · rw [show a = m.a from q.symm]; exact k3
    · rw [show b = m.a from q.symm]; exact k3
    · rw [show a = m.b from q.symm]; exact k4
    · rw [show b = m.b from q.symm]; exact k4
  · rcases List.mem_append.mp hm with h | h
    · obtain ⟨h1, h2, h3, h4, h5, h6⟩ := g.ok m h
      have hz : ¬ 0 < gap := by omega
      rw [if_neg hz]
      obtain ⟨k3, k4⟩ := g.busy m h (by omega)
      exact ⟨List.mem_append_left _ k3, List.mem_append_left _ k4⟩
    · rw [List.mem_singleton.mp h]
      refine ⟨List.mem_append_right _ ?_, List.mem_append_right _ ?_⟩
      · show (a : Int) ∈ [x, y]
        rcases hxy with ⟨e1, e2⟩ | ⟨e1, e2⟩ <;> rw [e1, e2] <;> simp
      · show (b : Int) ∈ [x, y]
        rcases hxy with ⟨e1, e2⟩ | ⟨e1, e2⟩ <;> rw [e1, e2] <;> simp
theorem mod_ne {one r n : Int} (h0 : 0 ≤ one) (h1 : one < n) (h2 : 0 ≤ r) (h3 : r < n - 1) : (one + 1 + r) % n ≠ one := by
  by_cases h : one + 1 + r < n
  · rw [Int.emod_eq_of_lt (by omega) h]
    omega
  · have e : one + 1 + r = (one + 1 + r - n) + n * 1 := by omega
    rw [e, Int.add_mul_emod_self_left, Int.emod_eq_of_lt (by omega) (by omega)]
    omega
def r4V (m : Mt) : List V := (r4 m).map V.int
def sp_meetings : Sp := fun vs H Q _ => ∃ (p : Addr) (n k : Nat), vs = [.ref p, .int n, .int k] ∧ Purse H p ∧ n ≤ 12 ∧ k ≤ 60 ∧ (2 ≤ n ∨ k = 0) ∧ ∀ t (ms : List Mt) H', MsAt H' t ms → WFm n ms → SamB p H H' → H t = none → Q (.ref t) H'
section
variable {P : Program} {w : World} {K : PySem.W.Frag} {mg : Str → Option Value} {base : Heap} {f ft fs : Addr} {fd fdt fds : FuncData}
theorem ok_meetings (F : Fun K "_law_meetings" "_law_meetings" st_l_meetings f fd) (B : Bt mg) (c_l_take : Cl P w K mg base "_law_take" 1 ["_law_purse_here", "_law_many"] sp_take ft fdt) (c_l_step : Cl P w K mg base "_law_step" 2 ["_law_purse_here"] sp_step fs fds) :
    FnOk P w K mg base CX0 3 f fd ["_law_purse_here", "_law_walkers", "_law_most"] sp_meetings := by
  refine F.ok sc_l_meetings (fun vs H Q E h => ?_) (fun cdv A outer s H vs Q E hr h => ?_)
  · obtain ⟨p, n, k, rfl, _⟩ := h
    rfl
  · obtain ⟨p, n, k, rfl, hP, hn, hk, hnk, q⟩ := h
    refine ⟨_, 
      (pss_cons (pset 3 sc_l_meetings.nd (pe_lst pa_nil)) 
      (pss_cons (pset 4 sc_l_meetings.nd (pe_op op_add (pe_int) (pe_op op_mul (pe_op op_fdiv (pe_cl c_l_take (hr.mono (by decide)) rfl (pa_cons (pv 0) (pa_cons (pe_int) pa_nil))) (pe_int)) (pe_cl c_l_take (hr.mono (by decide)) rfl (pa_cons (pv 0) (pa_cons (pe_op op_pow (pe_int) (pe_int)) pa_nil)))))) 
      (pss_cons (pset 5 sc_l_meetings.nd (pe_lst pa_nil)) 
      (pss_cons (ps_for PassesOwn.never rfl (pi_range1 (by rfl) B.range (pa_cons (pv 2) pa_nil)) (pnm 6 sc_l_meetings.nd) 
        (pss_cons (pset 7 sc_l_meetings.nd (pe_cl c_l_take (hr.mono (by decide)) rfl (pa_cons (pv 0) (pa_cons (pv 1) pa_nil)))) 
        (pss_cons (pset 8 sc_l_meetings.nd (pe_op op_mod (pe_op op_add (pe_op op_add (pv 7) (pe_int)) (pe_cl c_l_take (hr.mono (by decide)) rfl (pa_cons (pv 0) (pa_cons (pe_op op_sub (pv 1) (pe_int)) pa_nil)))) (pv 1))) 
        (pss_cons (pset 9 sc_l_meetings.nd (pe_cl c_l_step (hr.mono (by decide)) rfl (pa_cons (pv 0) pa_nil))) 
        (pss_cut (ps_if (PW.pt (pw_or (pt_cmpR (in_K K (by rfl)) (pv 7) (pv 5) rfl) (pw_or1 (pt_cmpR (in_K K (by rfl)) (pv 8) (pv 5) rfl)))) 
          (pss_one (pset 9 sc_l_meetings.nd (pe_callB (call_max2 rfl) (by rfl) B.max bo_max (pa_cons (pe_int) (pa_cons (pv 9) pa_nil))))) pss_nil) 
        (pss_cut (ps_if (pt_cmpR op_gt (pv 9) (pe_int) (nomark _)) 
          (pss_one (pset 5 sc_l_meetings.nd (pe_lst pa_nil))) pss_nil) 
        (pss_cons (pset 4 sc_l_meetings.nd (pe_op op_add (pv 4) (pv 9))) 
        (pss_cons (pset 5 sc_l_meetings.nd (pe_op op_cat (pv 5) (pe_lst (pa_cons (pv 7) (pa_cons (pv 8) pa_nil))))) 
        (pss_cons (pset 10 sc_l_meetings.nd (pe_op op_add (pe_int) (pe_op op_fdiv (pe_cl c_l_take (hr.mono (by decide)) rfl (pa_cons (pv 0) (pa_cons (pe_int) pa_nil))) (pe_int)))) 
        (pss_cut (ps_if (pt_cmpR op_eq (pe_cl c_l_take (hr.mono (by decide)) rfl (pa_cons (pv 0) (pa_cons (pe_int) pa_nil))) (pe_int) (nomark _)) 
          (pss_one (pset 10 sc_l_meetings.nd (pe_op op_add (pe_int) (pe_cl c_l_take (hr.mono (by decide)) rfl (pa_cons (pv 0) (pa_cons (pe_int) pa_nil)))))) pss_nil) 
        (pss_one (ps_expr (pe_bm PySem.F.plainAttrs_list PySem.F.slot_list_append PySem.F.type_list_append mt_append (pv 3) (pa_cons (pe_tup (pa_cons (pv 4) (pa_cons (pe_callB (call_min2 rfl) (by rfl) B.min bo_min (pa_cons (pv 7) (pa_cons (pv 8) pa_nil))) (pa_cons (pe_callB (call_max2 rfl) (by rfl) B.max bo_max (pa_cons (pv 7) (pa_cons (pv 8) pa_nil))) (pa_cons (pv 10) pa_nil))))) pa_nil)))))))))))))) 
      (pss_cons (pset 11 sc_l_meetings.nd (pe_int)) 
      (pss_cut (ps_if (PW.pt (pw_and (pt_cmpR op_eq (pe_cl c_l_take (hr.mono (by decide)) rfl (pa_cons (pv 0) (pa_cons (pe_int) pa_nil))) (pe_int) (nomark _)) (pw_and1 (pt_cmpR (neD_K K (by rfl) hr.units) (pv 3) (pe_lst pa_nil) (nomark _))))) 
        (pss_one (pset 11 sc_l_meetings.nd (pe_op op_sub (pe_op op_pow (pe_int) (pe_int)) (pv 4)))) pss_nil) 
      (pss_one (ps_ret (pe_callTy (tuple_K K (by rfl)) (by rfl) B.tuple bo_tuple (pa_cons (pe_lc (own := [("_law_then", 12), ("_law_low", 13), ("_law_high", 14), ("_law_room", 15)]) (g := (gTup K 4 (gCons (gName 12) (gCons (gName 13) (gCons (gName 14) (gCons (gName 15) gNil)))))) (tt := tYes) (by rfl) sc_l_meetings.nd (pl_K K (by rfl) (pe_callB (sortedT_K K (by rfl)) (by rfl) B.sorted bo_sorted (pa_cons (pv 3) pa_nil))) (blkOk_by (N := N_l_meetings) (sc := defScope st_l_meetings) (by decide +kernel)) (fun _ _ _ _ _ => (tup_K K (by rfl) rfl (pgs_cons (pnm 12 sc_l_meetings.nd) (pgs_cons (pnm 13 sc_l_meetings.nd) (pgs_cons (pnm 14 sc_l_meetings.nd) (pgs_cons (pnm 15 sc_l_meetings.nd) pgs_nil)))))) (fun _ _ _ _ _ => pts_nil) (fun _ _ _ _ _ => (pe_tup (pa_cons (pv 13) (pa_cons (pv 14) (pa_cons (pe_op op_add (pv 12) (pv 11)) (pa_cons (pv 15) pa_nil))))))) pa_nil)))))))))), ?_⟩
    walk_at "rd"
    intro D hD
    have s0 : SamB p H (upd H D (.lst [])) := (SamB.refl hP).new hD
    walk_at "rd"
    refine ⟨_, _, rfl, s0.is_, by decide, by decide, fun r1 H1 r10 r11 s1 => ?_⟩
    walk_at "rd"
    refine ⟨_, _, rfl, s1.is_, by decide, by decide, fun r2 H2 r20 r21 s2 => ?_⟩
    walk_at "rd"
    intro Bz hBz
    have sB : SamB p H (upd H2 Bz (.lst [])) := ((s0.trans s1).trans s2).new hBz
    have hneD : D ≠ p := fun e => by
      obtain ⟨x, y, z, hp⟩ := s0.was
      rw [e, hp] at hD
      cases hD
    have hD2 : H2 D = some (.lst []) := s2.keep D _ hneD (s1.keep D _ hneD upd_same)
    have hw1 : 1 ≤ 1 + r1 / 2 * r2 ∧ 1 + r1 / 2 * r2 ≤ 10000000 := by
      have e7 : (10 : Int) ^ Int.toNat 7 = 10000000 := by decide
      have r21' : r2 < (10 : Int) ^ Int.toNat 7 := r21
      have c : r1 / 2 = 0 ∨ r1 / 2 = 1 := by omega
      rcases c with c | c <;> rw [c] <;> omega
    walk_at "rd"
    refine for_range (lo := 0) (n := (k : Int).toNat) (fun i σ H' => ∃ (ms : List Mt) (wh : Int) (bs : List Int) (bz : Addr) (as : List Addr) (v6 v7 v8 v9 v10 : Option V), GenOk n ms wh bs i ∧ SamB p H H' ∧ H' D = some (.lst (as.map V.ref)) ∧ TupsAt H' as (ms.map r4V) ∧
        H' bz = some (.lst (bs.map V.int)) ∧ H bz = none ∧ bz ≠ D ∧ σ = [some (.ref p), some (.int n), some (.int k), some (.ref D), some (.int wh), some (.ref bz), v6, v7, v8, v9, v10, none, none, none, none, none])
      ⟨[], _, [], Bz, [], _, _, _, _, _, ⟨rfl, hw1.1, by have := hw1.2; omega, fun m hm => by simp at hm, .nil, fun m hm => by simp at hm, Nat.le_refl _⟩, sB, by rw [upd_ne (ne_of_none hD2 hBz)]; exact hD2, trivial, upd_same, ((s0.trans s1).trans s2).free hBz, (ne_of_none hD2 hBz).symm, rfl⟩ ?_ ?_
    · rintro i σ H' hi ⟨ms, wh, bs, bz, as, v6, v7, v8, v9, v10, g, sm, hDl, hT, hbz, nbz, nbD, rfl⟩
      have hik : i < k := hi
      have hn2 : 2 ≤ n := by omega
      have hnebz : bz ≠ p := fun e => by
        obtain ⟨x, y, z, hp⟩ := s0.was
        rw [e, hp] at nbz
        cases nbz
      walk_at "rd"
      refine ⟨_, _, rfl, sm.is_, by omega, by omega, fun one H3 o0 o1 s3 => ?_⟩
      walk_at "rd"
      refine ⟨_, _, rfl, s3.is_, by (try dsimp only); omega, by (try dsimp only); omega, fun r4 H4 p0 p1 s4 => ?_⟩
      walk_at "rd"
      refine ⟨s4.is_, fun gap H5 g0 g1 s5 => ?_⟩
      have s35 : SamB p H' H5 := (s3.trans s4).trans s5
      have hDl5 := s35.keep D _ hneD hDl
      have hT5 := hT.mono s35.tups
      have hbz5 := s35.keep bz _ hnebz hbz
      obtain ⟨a, rfl⟩ := Int.eq_ofNat_of_zero_le o0
      have q0 : 0 ≤ ((a : Int) + 1 + r4) % (n : Int) := Int.emod_nonneg _ (by omega)
      have q1 : ((a : Int) + 1 + r4) % (n : Int) < n := Int.emod_lt_of_pos _ (by omega)
      have qn : ((a : Int) + 1 + r4) % (n : Int) ≠ a := mod_ne o0 o1 p0 p1
      obtain ⟨b, eb⟩ := Int.eq_ofNat_of_zero_le q0
      have eb' : ((fun i j : Int => i % j) ((a : Int) + 1 + r4) (n : Int)) = (b : Int) := eb
      rw [eb] at q1 qn
      have mx : 0 ≤ (if gap > 1 then gap else 1) ∧ (if gap > 1 then gap else 1) ≤ 16000000 ∧ 0 < (if gap > 1 then gap else 1) := by split <;> omega
      refine ⟨fun σ' H'' => ∃ gp : Int, H5 = H'' ∧ 0 ≤ gp ∧ gp ≤ 16000000 ∧ (¬ 0 < gp → (a : Int) ∉ bs ∧ (b : Int) ∉ bs) ∧
        σ' = [some (.ref p), some (.int n), some (.int k), some (.ref D), some (.int wh), some (.ref bz), some (.int (0 + i)), some (.int a), some (.int b), some (.int gp), v10, none, none, none, none, none], ?_, ?_⟩
      · walk_at "rd"
        refine ite2 (fun h => ?_) (fun h => ?_)
        · refine iteT ?_
          walk_at "rd"
          refine ⟨_, _, rfl, (if gap > 1 then gap else 1), rfl, mx.1, mx.2.1, fun h0 => absurd mx.2.2 h0, ?_⟩
          rw [← eb]
          rfl
        · walk_at "rd"
          refine ite2 (fun h' => ?_) (fun h' => ?_)
          · walk_at "rd"
            refine ⟨_, _, rfl, (if gap > 1 then gap else 1), rfl, mx.1, mx.2.1, fun h0 => absurd mx.2.2 h0, ?_⟩
            rw [← eb]
            rfl
          · refine ⟨_, rfl, g0, g1, fun _ => ⟨?_, ?_⟩, by rw [← eb]; rfl⟩
            · have h2 : ¬ inV (.int (a : Int)) (bs.map V.int) = true := h
              rw [inV_ints, decide_eq_true_eq] at h2
              exact h2
            · have h2 : ¬ inV (.int (((a : Int) + 1 + r4) % (n : Int))) (bs.map V.int) = true := h'
              rw [inV_ints, decide_eq_true_eq, eb] at h2
              exact h2
      · rintro σ' H'' ⟨gp, rfl, gp0, gp1, gpb, rfl⟩
        refine ⟨fun σ' H'' => ∃ (bz' : Addr), SamB p H' H'' ∧ H'' D = some (.lst (as.map V.ref)) ∧ TupsAt H'' as (ms.map r4V) ∧ H'' bz' = some (.lst (((if 0 < gp then [] else bs) : List Int).map V.int)) ∧ H bz' = none ∧ bz' ≠ D ∧
          σ' = [some (.ref p), some (.int n), some (.int k), some (.ref D), some (.int wh), some (.ref bz'), some (.int (0 + i)), some (.int a), some (.int b), some (.int gp), v10, none, none, none, none, none], ?_, ?_⟩
        · walk_at "rd"
          refine ite2 (fun h => ?_) (fun h => ?_)
          · have h1 : 0 < gp := of_decide_eq_true h
            walk_at "rd"
            intro B2 hB2
            refine ⟨B2, s35.new hB2, by rw [upd_ne (ne_of_none hDl5 hB2)]; exact hDl5, hT5.mono (Tups.new hB2), by rw [if_pos h1]; exact upd_same, (sm.trans s35).free hB2, (ne_of_none hDl5 hB2).symm, rfl⟩
          · have h1 : ¬ 0 < gp := fun q => h (decide_eq_true q)
            exact ⟨bz, s35, hDl5, hT5, by rw [if_neg h1]; exact hbz5, nbz, nbD, rfl⟩
        · rintro σ' H6 ⟨bz', s36, hD6, hT6, hb6, nb6, nbD6, rfl⟩
          walk_at "rd"
          intro L1 hL1
          have hneb6 : bz' ≠ p := fun e => by
            obtain ⟨x, y, z, hp⟩ := s0.was
            rw [e, hp] at nb6
            cases nb6
          refine ⟨_, _, _, _, rfl, rfl, (by rw [upd_ne (ne_of_none hb6 hL1)]; exact hb6), upd_same, ?_, fun B3 hB3 => ?_⟩
          · rw [List.length_map]
            have hb : ((if 0 < gp then [] else bs) : List Int).length ≤ 120 := by
              have := g.bl
              split
              · exact Nat.zero_le _
              · omega
            exact Nat.le_trans (Nat.add_le_add_right hb 2) (by decide)
          have s38 : SamB p H' (upd (upd H6 L1 (.lst [.int a, .int b])) B3 (.lst (((if 0 < gp then [] else bs) : List Int).map V.int ++ [.int a, .int b]))) := (s36.new hL1).new hB3
          walk_at "rd"
          refine ⟨_, _, rfl, s38.is_, by decide, by decide, fun r5 H7 t0 t1 s7 => ?_⟩
          walk_at "rd"
          refine ⟨fun σ' H'' => ∃ c : Int, SamB p H7 H'' ∧ 1 ≤ c ∧ c ≤ 99 ∧
            σ' = [some (.ref p), some (.int n), some (.int k), some (.ref D), some (.int (wh + gp)), some (.ref B3), some (.int (0 + i)), some (.int a), some (.int b), some (.int gp), some (.int c), none, none, none, none, none], ?_, ?_⟩
          · walk_at "rd"
            refine ⟨_, _, rfl, s7.is_, by decide, by decide, fun r6 H8 u0 u1 s8 => ?_⟩
            walk_at "rd"
            refine ite2 (fun h => ?_) (fun h => ?_)
            · walk_at "rd"
              refine ⟨_, _, rfl, s8.is_, by decide, by decide, fun r7 H9 w0 w1 s9 => ?_⟩
              walk_at "rd"
              exact ⟨1 + r7, s8.trans s9, by omega, by omega, rfl⟩
            · exact ⟨1 + r5 / 2, s8, by omega, by omega, rfl⟩
          · rintro σ' H10 ⟨c, s10, c1, c2, rfl⟩
            have sA : SamB p H' H10 := (s38.trans s7).trans s10
            have hD38 : upd (upd H6 L1 (.lst [.int a, .int b])) B3 (.lst (((if 0 < gp then [] else bs) : List Int).map V.int ++ [.int a, .int b])) D = some (.lst (as.map V.ref)) := by
              have q1 : upd H6 L1 (.lst [.int a, .int b]) D = some (.lst (as.map V.ref)) := by
                rw [upd_ne (ne_of_none hD6 hL1)]
                exact hD6
              rw [upd_ne (ne_of_none q1 hB3)]
              exact q1
            have hD10 := s10.keep D _ hneD (s7.keep D _ hneD hD38)
            have hT10 : TupsAt H10 as (ms.map r4V) := (((hT6.mono (Tups.new hL1)).mono (Tups.new hB3)).mono s7.tups).mono s10.tups
            have hneB3 : B3 ≠ p := fun e => by
              obtain ⟨x, y, z, hp⟩ := (s36.new (o := .lst [.int a, .int b]) hL1).is_
              rw [e, hp] at hB3
              cases hB3
            have hB10 := s10.keep B3 _ hneB3 (s7.keep B3 _ hneB3 upd_same)
            have nB3 : H B3 = none := ((sm.trans s36).new (o := .lst [.int a, .int b]) hL1).free hB3
            have hmin : (if (b : Int) < a then (b : Int) else a) = ((min a b : Nat) : Int) := by split <;> omega
            have hmax : (if (b : Int) > a then (b : Int) else a) = ((max a b : Nat) : Int) := by split <;> omega
            have hla : as.length = i := by
              have := hT10.length
              rw [List.length_map, g.len] at this
              exact this
            walk_at "rd"
            refine ⟨.inl ⟨rfl, _, SqL.of hD10⟩, ?_⟩
            walk_at "rd"
            refine ⟨_, _, rfl, ?_⟩
            walk_at "rd"
            refine ⟨_, _, rfl, ?_⟩
            walk_at "rd"
            intro T hT2
            refine ⟨_, _, _, rfl, rfl, (by rw [upd_ne (ne_of_none hD10 hT2)]; exact hD10), by rw [List.length_map]; exact Nat.lt_of_lt_of_le (show as.length < 1000 by omega) (by decide), ?_⟩
            have hTD : T ≠ D := (ne_of_none hD10 hT2).symm
            refine ⟨ms ++ [⟨min a b, max a b, wh + gp, c⟩], wh + gp, _, B3, as ++ [T], _, _, _, _, _, g.next (a := min a b) (b := max a b) (by omega) (by omega) gp0 gp1 c1 c2 (fun q => ?_) (x := (a : Int)) (y := (b : Int)) (by omega), ?_, by rw [upd_same, List.map_append]; rfl, ?_, ?_, nB3, ?_, rfl⟩
            · obtain ⟨k1, k2⟩ := gpb q
              have hc : (min a b = a ∧ max a b = b) ∨ (min a b = b ∧ max a b = a) := by omega
              rcases hc with ⟨e1, e2⟩ | ⟨e1, e2⟩ <;> rw [e1, e2]
              · exact ⟨k1, k2⟩
              · exact ⟨k2, k1⟩
            · exact ((sm.trans sA).new hT2).mut hD
            · rw [List.map_append]
              refine TupsAt.snoc ?_ ((hT10.mono (Tups.new hT2)).mono (Tups.lst (by rw [upd_ne (Ne.symm hTD)]; exact hD10)))
              rw [upd_ne hTD, upd_same]
              show some (HO.tup [V.int (wh + gp), V.int (if (b : Int) < a then (b : Int) else a), V.int (if (b : Int) > a then (b : Int) else a), V.int c]) = some (HO.tup [V.int (wh + gp), V.int ((min a b : Nat) : Int), V.int ((max a b : Nat) : Int), V.int c])
              rw [hmin, hmax]
            · have nBD : B3 ≠ D := fun e => by
                rw [e] at hB3
                rw [upd_ne (ne_of_none hD6 hL1), hD6] at hB3
                cases hB3
              rw [upd_ne nBD, upd_ne (ne_of_none hB10 hT2), hB10, List.map_append]
              rfl
            · intro e
              rw [e] at hB3
              rw [upd_ne (ne_of_none hD6 hL1), hD6] at hB3
              cases hB3
    · rintro σ H' ⟨ms, wh, bs, bz, as, v6, v7, v8, v9, v10, g, sm, hDl, hT, hbz, nbz, nbD, rfl⟩
      have hwl : ∀ m ∈ ms, m.w ≤ wh := fun m hm => (g.ok m hm).2.2.2.1
      have hw960 : wh ≤ 970000000 := by have := g.w2; omega
      have hrows : TupsAt H' as ((ms.map r4).map fun r => r.map V.int) := by rw [List.map_map]; exact hT
      refine ⟨fun σ' H'' => ∃ d : Int, SamB p H' H'' ∧ 0 ≤ d ∧ wh + d ≤ 1000000000 ∧
        σ' = [some (.ref p), some (.int n), some (.int k), some (.ref D), some (.int wh), some (.ref bz), v6, v7, v8, v9, v10, some (.int d), none, none, none, none], ?_, ?_⟩
      · walk_at "rd"
        refine ⟨_, _, rfl, sm.is_, by decide, by decide, fun r8 H8 x0 x1 s8 => ?_⟩
        walk_at "rd"
        refine ite2 (fun h => ?_) (fun h => ?_)
        · walk_at "rd"
          intro Ea hEa
          refine ⟨_, _, .lst (SqL.of (by rw [upd_ne (ne_of_none (s8.keep D _ hneD hDl) hEa)]; exact s8.keep D _ hneD hDl)) (dp_rows ((hrows.mono s8.tups).mono (Tups.new hEa))), .lst (SqL.of upd_same) .nil, shaped_rowsL _, by decide +kernel, _, rfl, ite2 (fun h => ?_) (fun h => ?_)⟩
          · walk_at "rd"
            exact ⟨1000000000 - wh, s8.new hEa, by omega, by omega, rfl⟩
          · exact ⟨0, s8.new hEa, by omega, by omega, rfl⟩
        · exact ⟨0, s8, by omega, by omega, rfl⟩
      · rintro σ' H9 ⟨d, s9, d0, d1, rfl⟩
        have hD9 := s9.keep D _ hneD hDl
        have hr9 := hrows.mono s9.tups
        walk_at "rd"
        refine ⟨_, _, kH H9, 4, rfl, SqL.of hD9, by decide, fun x hx => ?_, fun ys S hpm hpw hS => ?_⟩
        · obtain ⟨t, ns, rfl, ht, hm⟩ := rows_mem hr9 x hx
          obtain ⟨m, _, rfl⟩ := List.mem_map.mp hm
          rw [kH_of ht]
          exact ⟨t, rfl, ht, rfl⟩
        · obtain ⟨as', rows', rfl, hT', hp', hs'⟩ := sorted_rows hr9 hpm hpw
          obtain ⟨ms', rfl, pm, ap', sr'⟩ := sorted_ms g.apart hp' hs'
          have hla : as'.length = ms'.length := by
            have := hT'.length
            rw [List.length_map, List.length_map] at this
            exact this
          have hl60 : ms'.length ≤ 60 := by
            rw [pm.length_eq, g.len]
            exact hk
          have sS : SamB p H (upd H9 S (.lst (as'.map V.ref))) := (sm.trans s9).new hS
          refine ⟨_, rfl, ⟨_, SqL.of upd_same⟩, fun D2 hD2 => ?_⟩
          refine lc_list (K := K) (a := S) (xs := as'.map V.ref) (fun i Hx => ∃ bs : List Addr, SamB p H Hx ∧ H D2 = none ∧ Hx D2 = some (.lst (bs.map V.ref)) ∧ TupsAt Hx bs ((ms'.take i).map fun m => mtV { m with w := m.w + d }) ∧ Hx S = some (.lst (as'.map V.ref)) ∧ TupsAt Hx as' ((ms'.map r4).map fun r => r.map V.int))
            ⟨[], sS.new hD2, sS.free hD2, upd_same, trivial, by rw [upd_ne (ne_of_none upd_same hD2), upd_same], (hT'.mono (Tups.new hS)).mono (Tups.new hD2)⟩ (fun i Hx _ ⟨_, _, _, _, _, q, _⟩ => SqL.of q) ?_ ?_
          · rintro i x Hx hi ⟨bs', sx, nD2, hb, hTb, hSx, hTx⟩
            rw [List.getElem?_map] at hi
            obtain ⟨t, ht, rfl⟩ := Option.map_eq_some_iff.mp hi
            obtain ⟨row, hrow, hHt⟩ := hTx.geta ht
            rw [List.getElem?_map, List.getElem?_map, Option.map_map] at hrow
            obtain ⟨m, hm, rfl⟩ := Option.map_eq_some_iff.mp hrow
            refine ⟨_, _, rfl, SqT.of hHt, rfl, _, _, rfl, _, _, rfl, _, _, rfl, _, _, rfl, rfl, rfl, ?_⟩
            walk_at "rd"
            intro T hT2
            have hDT : upd Hx T (.tup [.int m.a, .int m.b, .int (m.w + d), .int m.c]) D2 = some (.lst (bs'.map V.ref)) := by rw [upd_ne (ne_of_none hb hT2)]; exact hb
            have hlb : bs'.length ≤ 60 := by
              have := hTb.length
              rw [List.length_map, List.length_take] at this
              omega
            refine ⟨_, hDT, by rw [List.length_map]; exact Nat.lt_of_le_of_lt hlb (by decide), bs' ++ [T], (sx.new hT2).mut nD2, nD2, by rw [upd_same, List.map_append]; rfl, ?_, ?_, ?_⟩
            · rw [List.take_add_one, hm, List.map_append]
              refine TupsAt.snoc ?_ ((hTb.mono (Tups.new hT2)).mono (Tups.lst hDT))
              rw [upd_ne (ne_of_none hb hT2).symm, upd_same]
              rfl
            · have hne : S ≠ D2 := (ne_of_none (H := upd H9 S (.lst (as'.map V.ref))) upd_same hD2)
              rw [upd_ne hne, upd_ne (ne_of_none hSx hT2)]
              exact hSx
            · exact (hTx.mono (Tups.new hT2)).mono (Tups.lst hDT)
          · rintro Hx ⟨bs', sx, nD2, hb, hTb, hSx, hTx⟩
            rw [List.length_map, hla, List.take_of_length_le (Nat.le_refl _)] at hTb
            refine ⟨_, _, rfl, .inl ⟨SqL.of hb, fun t ht => q t (ms'.map fun m => { m with w := m.w + d }) _ ⟨bs', upd_same, ?_⟩ (WFm.late d0 hl60 (fun m hm => ?_) ap' sr') (sx.new ht) (sx.free ht)⟩⟩
            · rw [List.map_map]
              exact hTb.mono (Tups.new ht)
            · have hm' := pm.mem_iff.mp hm
              obtain ⟨z1, z2, z3, z4, z5, z6⟩ := g.ok m hm'
              exact ⟨⟨z1, z2, z3, by omega, z5, z6⟩, by omega⟩
end
end Sm
set_option Elab.async false
set_option linter.all false
set_option maxRecDepth 100000
set_option maxHeartbeats 4000000
set_option pp.maxSteps 600
namespace Sm
open PySem L2
open C8 (tCut pss_cut)
local macro_rules | `(tactic| walk_at "rdc") => `(tactic| first
  | with_reducible assumption
  | exact (show flatV _ = true from rfl)
  | exact flat_ints _
  | exact Or.inr ⟨by decide, by decide⟩
  | exact Or.inl ⟨by decide, by decide⟩
  | exact Or.inl (mod_in _)
  | exact Or.inl ⟨by (try dsimp only); omega, by (try dsimp only); omega⟩
  | exact Or.inr ⟨by (try dsimp only); omega, by (try dsimp only); omega⟩
  | exact ⟨by decide, by decide, by decide⟩
  | exact ⟨by decide, by decide⟩
  | exact ⟨by omega, by omega⟩
  | decide
  | omega
  | (show (0 : Int) < _; decide)
  | exact Nat.le_of_ble_eq_true rfl)
local macro_rules | `(tactic| walk_at "rd1") => `(tactic| first
  | (refine ⟨_, rfl, ?_⟩)
  | (refine ⟨_, _, rfl, rfl, ?_⟩)
  | (refine And.intro (by walk_at "rdc") ?_)
  | (refine ⟨_, _, rfl, (by first | exact Or.inl (by assumption) | exact Or.inl (SqL.of (by assumption)) | exact Or.inr (SqT.of (by assumption))), ?_⟩)
  | (refine ⟨_, _, _, _, rfl, rfl, (by first | exact SqL.of (by assumption) | exact SqT.of (by assumption) | exact SqL.of upd_same | assumption), (by rfl), ?_⟩)
  | (refine ⟨_, _, _, _, rfl, rfl, (by first | assumption | exact upd_same), (by rfl), ?_⟩)
  | (refine ⟨rfl, _, rfl, ?_⟩))
local macro_rules | `(tactic| walk_at "rd") => `(tactic| repeat (walk_at "rd1"))
def sp_book : Sp := fun vs H Q _ => ∃ (p : Addr), vs = [.ref p, .int 12, .int 60] ∧ Purse H p ∧ ∀ b (rs : List Int) (ms : List Mt) H', BookAt H' b rs ms → 1 ≤ rs.length → rs.length ≤ 12 → WFm rs.length ms → SamB p H H' → Q (.ref b) H'
def sp_past : Sp := fun vs H Q _ => ∃ (p : Addr) (n : Nat), vs = [.ref p, .int n] ∧ 1 ≤ n ∧ n ≤ 12 ∧ Purse H p ∧ ∀ b (rs : List Int) (ms : List Mt) H', BookAt H' b rs ms → rs.length = n → WFm n ms → SamB p H H' → Q (.ref b) H'
def sp_time : Sp := fun vs H Q _ => ∃ (p b : Addr) (l : Int) (rs : List Int) (ms : List Mt), vs = [.ref p, .ref b, .int l] ∧ (l = 0 ∨ l = 1) ∧ ms.length ≤ 60 ∧ BookAt H b rs ms ∧ Purse H p ∧ ∀ (r : Int) H', SamB p H H' → Q (.int r) H'
def sp_letter : Sp := fun vs H Q _ => ∃ (p b : Addr) (rs : List Int) (ms : List Mt), vs = [.ref p, .ref b] ∧ 1 ≤ rs.length ∧ rs.length ≤ 12 ∧ ms.length ≤ 60 ∧ BookAt H b rs ms ∧ Purse H p ∧ ∀ t (l : Lt) H', H t = none → H' t = some (.tup (ltV l)) → l.s < rs.length → l.d < rs.length → SamB p H H' → Q (.ref t) H'
def sp_letters : Sp := fun vs H Q _ => ∃ (p b : Addr) (rs : List Int) (ms : List Mt), vs = [.ref p, .ref b] ∧ 1 ≤ rs.length ∧ rs.length ≤ 12 ∧ ms.length ≤ 60 ∧ BookAt H b rs ms ∧ Purse H p ∧ ∀ t (ls : List Lt) H', H t = none → LsAt H' t ls → ls.length ≤ 40 → (∀ l ∈ ls, l.s < rs.length ∧ l.d < rs.length) → SamB p H H' → Q (.ref t) H'
section
variable {P : Program} {w : World} {K : PySem.W.Frag} {mg : Str → Option Value} {base : Heap} {f ft fs fr fm : Addr} {fd fdt fds fdr fdm : FuncData}
theorem ok_book (F : Fun K "_law_book" "_law_book" st_l_book f fd) (B : Bt mg) (c_l_take : Cl P w K mg base "_law_take" 1 ["_law_purse_here", "_law_many"] sp_take ft fdt) (c_l_rooms : Cl P w K mg base "_law_rooms" 2 ["_law_purse_here", "_law_walkers"] sp_rooms fr fdr) (c_l_meetings : Cl P w K mg base "_law_meetings" 3 ["_law_purse_here", "_law_walkers", "_law_most"] sp_meetings fm fdm) :
    FnOk P w K mg base CX0 4 f fd ["_law_purse_here", "_law_most_walkers", "_law_most_meetings"] sp_book := by
  refine F.ok sc_l_book (fun vs H Q E h => ?_) (fun cdv A outer s H vs Q E hr h => ?_)
  · obtain ⟨p, rfl, _⟩ := h
    rfl
  · obtain ⟨p, rfl, hP, q⟩ := h
    refine ⟨_, 
      (pss_cons (pset 3 sc_l_book.nd (pe_op op_add (pe_int) (pe_cl c_l_take (hr.mono (by decide)) rfl (pa_cons (pv 0) (pa_cons (pv 1) pa_nil))))) 
      (pss_cons (pset 4 sc_l_book.nd (pe_callB (call_min2 rfl) (by rfl) B.min bo_min (pa_cons (pv 2) (pa_cons (pe_cl c_l_take (hr.mono (by decide)) rfl (pa_cons (pv 0) (pa_cons (pe_op op_add (pv 2) (pe_int)) pa_nil))) pa_nil)))) 
      (pss_cut (ps_if (pt_cmpR op_eq (pv 3) (pe_int) (nomark _)) 
        (pss_one (pset 4 sc_l_book.nd (pe_int))) pss_nil) 
      (pss_one (ps_ret (pe_tup (pa_cons (pe_cl c_l_rooms (hr.mono (by decide)) rfl (pa_cons (pv 0) (pa_cons (pv 3) pa_nil))) (pa_cons (pe_cl c_l_meetings (hr.mono (by decide)) rfl (pa_cons (pv 0) (pa_cons (pv 3) (pa_cons (pv 4) pa_nil)))) pa_nil)))))))), ?_⟩
    walk_at "rd"
    refine ⟨_, _, rfl, hP, by decide, by decide, fun r1 H1 r10 r11 s1 => ?_⟩
    obtain ⟨a, rfl⟩ := Int.eq_ofNat_of_zero_le r10
    walk_at "rd"
    refine ⟨_, _, rfl, s1.is_, by decide, by decide, fun r2 H2 r20 r21 s2 => ?_⟩
    have r21' : r2 < 63 := r21
    refine ⟨_, _, rfl, ?_⟩
    walk_at "rd"
    refine ⟨fun σ' H'' => ∃ k : Nat, H2 = H'' ∧ k ≤ 60 ∧ (2 ≤ 1 + a ∨ k = 0) ∧ σ' = [some (.ref p), some (.int 12), some (.int 60), some (.int ((1 + a : Nat) : Int)), some (.int k)], ?_, ?_⟩
    · walk_at "rd"
      refine ite2 (fun h => ?_) (fun h => ?_)
      · exact ⟨0, rfl, Nat.zero_le _, .inr rfl, rfl⟩
      · have h1 : ¬ (V.int (1 + (a : Int)) = V.int 1) := fun e => h (decide_eq_true e)
        have h2 : ¬ a = 0 := fun e => h1 (by rw [e]; rfl)
        obtain ⟨k, ek⟩ := Int.eq_ofNat_of_zero_le (show 0 ≤ (if r2 < (60 : Int) then r2 else 60) by split <;> omega)
        refine ⟨k, rfl, ?_, .inl (by omega), ?_⟩
        · have : (if r2 < (60 : Int) then r2 else 60) ≤ 60 := by split <;> omega
          omega
        · rw [← ek]
          rfl
    · rintro σ' H'' ⟨k, rfl, hk, hnk, rfl⟩
      walk_at "rd"
      refine ⟨_, _, rfl, s2.is_, by omega, fun t rs H3 hl s3 ht0 ht => ?_⟩
      walk_at "rd"
      refine ⟨_, _, _, rfl, s3.is_, by omega, hk, hnk, fun t2 ms H4 hms wf s4 ht2 => ?_⟩
      walk_at "rd"
      intro b hb
      have s14 : SamB p H H4 := ((s1.trans s2).trans s3).trans s4
      refine q b rs ms _ ⟨t, t2, upd_same, ?_, hms.mono (Tups.new hb)⟩ (by omega) (by omega) (by rw [hl]; exact wf) (s14.new hb)
      exact Tups.new hb _ _ (s4.tups _ _ ht)
theorem ok_past (F : Fun K "_law_past" "_law_past" st_l_past f fd) (B : Bt mg) (c_l_take : Cl P w K mg base "_law_take" 1 ["_law_purse_here", "_law_many"] sp_take ft fdt) (c_l_rooms : Cl P w K mg base "_law_rooms" 2 ["_law_purse_here", "_law_walkers"] sp_rooms fr fdr) (c_l_meetings : Cl P w K mg base "_law_meetings" 3 ["_law_purse_here", "_law_walkers", "_law_most"] sp_meetings fm fdm) :
    FnOk P w K mg base CX0 4 f fd ["_law_purse_here", "_law_walkers"] sp_past := by
  refine F.ok sc_l_past (fun vs H Q E h => ?_) (fun cdv A outer s H vs Q E hr h => ?_)
  · obtain ⟨p, n, rfl, _⟩ := h
    rfl
  · obtain ⟨p, n, rfl, hn1, hn2, hP, q⟩ := h
    refine ⟨_, 
      (pss_cons (pset 2 sc_l_past.nd (pe_cl c_l_take (hr.mono (by decide)) rfl (pa_cons (pv 0) (pa_cons (pe_int) pa_nil)))) 
      (pss_cut (ps_if (pt_cmpR op_eq (pv 1) (pe_int) (nomark _)) 
        (pss_one (pset 2 sc_l_past.nd (pe_int))) pss_nil) 
      (pss_one (ps_ret (pe_tup (pa_cons (pe_cl c_l_rooms (hr.mono (by decide)) rfl (pa_cons (pv 0) (pa_cons (pv 1) pa_nil))) (pa_cons (pe_cl c_l_meetings (hr.mono (by decide)) rfl (pa_cons (pv 0) (pa_cons (pv 1) (pa_cons (pv 2) pa_nil)))) pa_nil))))))), ?_⟩
    walk_at "rd"
    refine ⟨_, _, rfl, hP, by decide, by decide, fun r1 H1 r10 r11 s1 => ?_⟩
    obtain ⟨a, rfl⟩ := Int.eq_ofNat_of_zero_le r10
    walk_at "rd"
    refine ⟨fun σ' H'' => ∃ k : Nat, H1 = H'' ∧ k ≤ 60 ∧ (2 ≤ n ∨ k = 0) ∧ σ' = [some (.ref p), some (.int n), some (.int k)], ?_, ?_⟩
    · walk_at "rd"
      refine ite2 (fun h => ?_) (fun h => ?_)
      · exact ⟨0, rfl, Nat.zero_le _, .inr rfl, rfl⟩
      · have h1 : ¬ (V.int (n : Int) = V.int 1) := fun e => h (decide_eq_true e)
        have h2 : ¬ n = 1 := fun e => h1 (by rw [e]; rfl)
        exact ⟨a, rfl, by omega, .inl (by omega), rfl⟩
    · rintro σ' H'' ⟨k, rfl, hk, hnk, rfl⟩
      walk_at "rd"
      refine ⟨_, _, rfl, s1.is_, by omega, fun t rs H3 hl s3 ht0 ht => ?_⟩
      walk_at "rd"
      refine ⟨_, _, _, rfl, s3.is_, by omega, hk, hnk, fun t2 ms H4 hms wf s4 ht2 => ?_⟩
      walk_at "rd"
      intro b hb
      have s14 : SamB p H H4 := (s1.trans s3).trans s4
      refine q b rs ms _ ⟨t, t2, upd_same, ?_, hms.mono (Tups.new hb)⟩ hl wf (s14.new hb)
      exact Tups.new hb _ _ (s4.tups _ _ ht)
theorem ok_time (F : Fun K "_law_time" "_law_time" st_l_time f fd) (B : Bt mg) (c_l_take : Cl P w K mg base "_law_take" 1 ["_law_purse_here", "_law_many"] sp_take ft fdt) (c_l_far : Cl P w K mg base "_law_far" 2 ["_law_purse_here"] sp_far fr fdr) :
    FnOk P w K mg base CX0 3 f fd ["_law_purse_here", "_law_book_here", "_law_later"] sp_time := by
  refine F.ok sc_l_time (fun vs H Q E h => ?_) (fun cdv A outer s H vs Q E hr h => ?_)
  · obtain ⟨p, b, l, rs, ms, rfl, _⟩ := h
    rfl
  · obtain ⟨p, b, l, rs, ms, rfl, hl, hm60, ⟨pr, pm, hb, hpr, as, hpm, hT⟩, hP, q⟩ := h
    refine ⟨_, 
      (pss_cons (pset 3 sc_l_time.nd (pe_cl c_l_take (hr.mono (by decide)) rfl (pa_cons (pv 0) (pa_cons (pe_int) pa_nil)))) 
      (pss_cons (ps_if (pt_cmpR op_eq (pv 3) (pe_int) (nomark _)) 
        (pss_one (ps_ret (pe_ix (ix_listK K (by rfl)) (pe_lst (pa_cons (pe_int) (pa_cons (pe_op op_pow (pe_int) (pe_int)) pa_nil))) (pv 2) (fun _ _ => rfl)))) pss_nil) 
      (pss_cons (ps_if (pt_cmpR op_eq (pv 3) (pe_int) (nomark _)) 
        (pss_one (ps_ret (pe_cl c_l_far (hr.mono (by decide)) rfl (pa_cons (pv 0) pa_nil)))) pss_nil) 
      (pss_cons (ps_if (pt_cmpR (eqD_K K (by rfl) hr.units) (pe_ix (ix_tupK K (by rfl)) (pv 1) (pe_int) (fun _ _ => rfl)) (pe_tup pa_nil) (nomark _)) 
        (pss_one (ps_ret (pe_cl c_l_take (hr.mono (by decide)) rfl (pa_cons (pv 0) (pa_cons (pe_int) pa_nil))))) pss_nil) 
      (pss_cons (pset 4 sc_l_time.nd (pe_cl c_l_take (hr.mono (by decide)) rfl (pa_cons (pv 0) (pa_cons (pe_callB (len_K K (by rfl)) (by rfl) B.len bo_len (pa_cons (pe_ix (ix_tupK K (by rfl)) (pv 1) (pe_int) (fun _ _ => rfl)) pa_nil)) pa_nil)))) 
      (pss_cut (ps_if (pt_cmpR op_gt (pv 3) (pe_int) (nomark _)) 
        (pss_one (pset 4 sc_l_time.nd (pe_ix (ix_listK K (by rfl)) (pe_lst (pa_cons (pe_op op_fdiv (pv 4) (pe_int)) (pa_cons (pe_op op_fdiv (pe_op op_add (pv 4) (pe_callB (len_K K (by rfl)) (by rfl) B.len bo_len (pa_cons (pe_ix (ix_tupK K (by rfl)) (pv 1) (pe_int) (fun _ _ => rfl)) pa_nil))) (pe_int)) pa_nil))) (pv 2) (fun _ _ => rfl)))) pss_nil) 
      (pss_one (ps_ret (pe_op op_sub (pe_ix (ix_tupK K (by rfl)) (pe_ix (ix_tupK K (by rfl)) (pe_ix (ix_tupK K (by rfl)) (pv 1) (pe_int) (fun _ _ => rfl)) (pv 4) (fun _ _ => rfl)) (pe_int) (fun _ _ => rfl)) (pe_ix (ix_listK K (by rfl)) (pe_lst (pa_cons (pe_int) (pa_cons (pe_int) pa_nil))) (pe_op op_xor (pe_op op_fdiv (pe_cl c_l_take (hr.mono (by decide)) rfl (pa_cons (pv 0) (pa_cons (pe_int) pa_nil))) (pe_int)) (pv 2)) (fun _ _ => rfl))))))))))), ?_⟩
    walk_at "rd"
    refine ⟨_, _, rfl, hP, by decide, by decide, fun way H1 r10 r11 s1 => ?_⟩
    have hb1 := s1.tups _ _ hb
    have hpm1 := s1.tups _ _ hpm
    have hT1 := hT.mono s1.tups
    walk_at "rd"
    refine ite2 (fun h => ?_) (fun h => ?_)
    · walk_at "rd"
      intro D hD
      rcases hl with rfl | rfl
      · walk_at "rd"
        exact q _ _ (s1.new hD)
      · walk_at "rd"
        exact q _ _ (s1.new hD)
    · walk_at "rd"
      refine ite2 (fun h => ?_) (fun h => ?_)
      · walk_at "rd"
        refine ⟨s1.is_, fun r H2 s2 => ?_⟩
        exact q _ _ (s1.trans s2)
      · walk_at "rd"
        intro U hU
        refine ⟨_, _, .tup (SqT.of (Tups.new hU _ _ hpm1)) (dp_rows (MsAt.rows (hT1.mono (Tups.new hU)))), .tup (SqT.of upd_same) .nil, shaped_rowsT _, by decide +kernel, _, rfl, ite2 (fun h => ?_) (fun h => ?_)⟩
        · walk_at "rd"
          refine ⟨_, _, rfl, (s1.new hU).is_, by decide, by decide, fun r H2 _ _ s2 => ?_⟩
          exact q _ _ ((s1.new hU).trans s2)
        · have hne : ms ≠ [] := fun e => h (by rw [e]; decide +kernel)
          have hlen : as.length = ms.length := by
            have := hT.length
            rw [List.length_map] at this
            exact this
          have h0 : 0 < ms.length := List.length_pos_iff.mpr hne
          have hpmU := Tups.new (o := .tup []) hU _ _ hpm1
          have hbU := Tups.new (o := .tup []) hU _ _ hb1
          have sU : SamB p H (upd H1 U (.tup [])) := s1.new hU
          have hTU := hT1.mono (Tups.new (o := .tup []) hU)
          generalize upd H1 U (.tup []) = HU at hpmU hbU sU hTU
          walk_at "rd"
          refine ⟨_, _, rfl, sU.is_, by (try dsimp only); rw [List.length_map]; omega, by (try dsimp only); rw [List.length_map]; omega, fun at_ H2 a0 a1 s2 => ?_⟩
          have hpm2 := s2.tups _ _ hpmU
          have hb2 := s2.tups _ _ hbU
          have hT2 := hTU.mono s2.tups
          have a1' : at_ < ((as.map V.ref).length : Int) := a1
          rw [List.length_map] at a1'
          walk_at "rd"
          refine ⟨fun σ' H'' => ∃ (j : Nat), SamB p H2 H'' ∧ j < ms.length ∧ σ' = [some (.ref p), some (.ref b), some (.int l), some (.int way), some (.int j)], ?_, ?_⟩
          · walk_at "rd"
            refine ite2 (fun h => ?_) (fun h => ?_)
            · walk_at "rd"
              intro D hD
              have hll : (((as.map V.ref).length : Nat) : Int) = (ms.length : Int) := by rw [List.length_map, hlen]
              rcases hl with rfl | rfl
              · walk_at "rd"
                obtain ⟨j, ej⟩ := Int.eq_ofNat_of_zero_le (show 0 ≤ at_ / 2 by omega)
                refine ⟨j, (SamB.refl s2.is_).new hD, by omega, ?_⟩
                rw [← ej]
                rfl
              · walk_at "rd"
                obtain ⟨j, ej⟩ := Int.eq_ofNat_of_zero_le (show 0 ≤ (at_ + (((as.map V.ref).length : Nat) : Int)) / 2 by omega)
                refine ⟨j, (SamB.refl s2.is_).new hD, by omega, ?_⟩
                rw [← ej]
                rfl
            · obtain ⟨j, rfl⟩ := Int.eq_ofNat_of_zero_le a0
              exact ⟨j, .refl s2.is_, by omega, rfl⟩
          · rintro σ' H3 ⟨j, s3, hj, rfl⟩
            have hb3 := s3.tups _ _ hb2
            have hpm3 := s3.tups _ _ hpm2
            obtain ⟨ta, hta, htv⟩ := (hT2.mono s3.tups).get (i := j) (x := mtV ms[j]) (by rw [List.getElem?_map, List.getElem?_eq_getElem hj]; rfl)
            walk_at "rd"
            refine ⟨_, _, _, _, rfl, rfl, SqT.of hpm3, atI_nat (by rw [List.getElem?_map, hta]; rfl), ?_⟩
            refine ⟨_, _, _, _, rfl, rfl, SqT.of htv, rfl, ?_⟩
            walk_at "rd"
            intro D hD
            have s3D : SamB p H2 (upd H3 D (.lst [.int 1, .int 0])) := s3.new hD
            have hx : ∀ (r : Int) (H4 : Hp), 0 ≤ r → r < 4 → (Builtin.bitXor (r / 3) l = 0 ∨ Builtin.bitXor (r / 3) l = 1) := fun r H4 h0 h1 => by
              have c : r / 3 = 0 ∨ r / 3 = 1 := by omega
              rcases c with c | c <;> rcases hl with rfl | rfl <;> rw [c] <;> decide
            walk_at "rd"
            refine ⟨_, _, rfl, s3D.is_, by decide, by decide, fun r H4 b0 b1 s4 => ?_⟩
            have hD4 : H4 D = some (.lst [.int 1, .int 0]) := s4.keep D _ (fun e => by
              obtain ⟨x, y, z, hp⟩ := s3.is_
              rw [e, hp] at hD
              cases hD) upd_same
            have sF : SamB p H H4 := ((sU.trans s2).trans s3D).trans s4
            rcases hx r H4 b0 b1 with e | e
            · walk_at "rd"
              refine ⟨_, _, _, _, rfl, rfl, SqL.of hD4, (by (try dsimp only); rw [e]; rfl), ?_⟩
              walk_at "rd"
              exact q _ _ sF
            · walk_at "rd"
              refine ⟨_, _, _, _, rfl, rfl, SqL.of hD4, (by (try dsimp only); rw [e]; rfl), ?_⟩
              walk_at "rd"
              exact q _ _ sF
theorem ok_letter (F : Fun K "_law_letter" "_law_letter" st_l_letter f fd) (B : Bt mg) (c_l_take : Cl P w K mg base "_law_take" 1 ["_law_purse_here", "_law_many"] sp_take ft fdt) (c_l_time : Cl P w K mg base "_law_time" 3 ["_law_purse_here", "_law_book_here", "_law_later"] sp_time fr fdr) :
    FnOk P w K mg base CX0 4 f fd ["_law_purse_here", "_law_book_here"] sp_letter := by
  refine F.ok sc_l_letter (fun vs H Q E h => ?_) (fun cdv A outer s H vs Q E hr h => ?_)
  · obtain ⟨p, b, rs, ms, rfl, _⟩ := h
    rfl
  · obtain ⟨p, b, rs, ms, rfl, hn1, hn2, hm60, hB, hP, q⟩ := h
    obtain ⟨pr, pm, hb, hpr, hms⟩ := id hB
    refine ⟨_, 
      (pss_cons (pset 2 sc_l_letter.nd (pe_callB (len_K K (by rfl)) (by rfl) B.len bo_len (pa_cons (pe_ix (ix_tupK K (by rfl)) (pv 1) (pe_int) (fun _ _ => rfl)) pa_nil))) 
      (pss_cons (pset 3 sc_l_letter.nd (pe_cl c_l_take (hr.mono (by decide)) rfl (pa_cons (pv 0) (pa_cons (pv 2) pa_nil)))) 
      (pss_cons (pset 4 sc_l_letter.nd (pe_cl c_l_take (hr.mono (by decide)) rfl (pa_cons (pv 0) (pa_cons (pv 2) pa_nil)))) 
      (pss_cut (ps_if (PW.pt (pw_and (pt_cmpR op_eq (pv 3) (pv 4) (nomark _)) (pw_and1 (pt_cmpR op_gt (pe_cl c_l_take (hr.mono (by decide)) rfl (pa_cons (pv 0) (pa_cons (pe_int) pa_nil))) (pe_int) (nomark _))))) 
        (pss_one (pset 4 sc_l_letter.nd (pe_op op_mod (pe_op op_add (pv 4) (pe_int)) (pv 2)))) pss_nil) 
      (pss_cons (pset 5 sc_l_letter.nd (pe_cl c_l_time (hr.mono (by decide)) rfl (pa_cons (pv 0) (pa_cons (pv 1) (pa_cons (pe_int) pa_nil))))) 
      (pss_one (ps_ret (pe_tup (pa_cons (pv 3) (pa_cons (pv 5) (pa_cons (pv 4) (pa_cons (pe_cl c_l_time (hr.mono (by decide)) rfl (pa_cons (pv 0) (pa_cons (pv 1) (pa_cons (pe_int) pa_nil)))) pa_nil)))))))))))), ?_⟩
    walk_at "rd"
    have hll : (((rs.map V.int).length : Nat) : Int) = (rs.length : Int) := by rw [List.length_map]
    refine ⟨_, _, rfl, hP, by (try dsimp only); omega, by (try dsimp only); omega, fun sd H1 r10 r11 s1 => ?_⟩
    obtain ⟨a, rfl⟩ := Int.eq_ofNat_of_zero_le r10
    walk_at "rd"
    refine ⟨_, _, rfl, s1.is_, by (try dsimp only); omega, by (try dsimp only); omega, fun wi H2 r20 r21 s2 => ?_⟩
    have r11' : (a : Int) < (((rs.map V.int).length : Nat) : Int) := r11
    have r21' : wi < (((rs.map V.int).length : Nat) : Int) := r21
    rw [hll] at r11' r21'
    obtain ⟨d0, rfl⟩ := Int.eq_ofNat_of_zero_le r20
    walk_at "rd"
    refine ⟨fun σ' H'' => ∃ (d : Nat), SamB p H2 H'' ∧ d < rs.length ∧ σ' = [some (.ref p), some (.ref b), some (.int ((rs.map V.int).length : Nat)), some (.int a), some (.int d), none], ?_, ?_⟩
    · walk_at "rd"
      refine ite2 (fun h => ?_) (fun h => ?_)
      · walk_at "rd"
        refine ⟨_, _, rfl, s2.is_, by decide, by decide, fun r3 H3 _ _ s3 => ?_⟩
        walk_at "rd"
        refine ite2 (fun h => ?_) (fun h => ?_)
        · walk_at "rd"
          have e0 : 0 ≤ ((d0 : Int) + 1) % (((rs.map V.int).length : Nat) : Int) := Int.emod_nonneg _ (by omega)
          have e1 : ((d0 : Int) + 1) % (((rs.map V.int).length : Nat) : Int) < (((rs.map V.int).length : Nat) : Int) := Int.emod_lt_of_pos _ (by omega)
          obtain ⟨d, ed⟩ := Int.eq_ofNat_of_zero_le e0
          refine ⟨d, s3, by omega, ?_⟩
          rw [← ed]
          rfl
        · exact ⟨d0, s3, by omega, rfl⟩
      · exact ⟨d0, .refl s2.is_, by omega, rfl⟩
    · rintro σ' H3 ⟨d, s3, hd, rfl⟩
      have s13 : SamB p H H3 := (s1.trans s2).trans s3
      walk_at "rd"
      refine ⟨p, b, 0, rs, ms, rfl, .inl rfl, hm60, hB.mono s13.tups, s13.is_, fun t H4 s4 => ?_⟩
      walk_at "rd"
      refine ⟨p, b, 1, rs, ms, rfl, .inr rfl, hm60, hB.mono (s13.trans s4).tups, s4.is_, fun e H5 s5 => ?_⟩
      walk_at "rd"
      intro T hT
      exact q T ⟨a, t, d, e⟩ _ (((s13.trans s4).trans s5).free hT) upd_same (by show a < rs.length; omega) hd (((s13.trans s4).trans s5).new hT)
theorem ok_letters (F : Fun K "_law_letters" "_law_letters" st_l_letters f fd) (B : Bt mg) (c_l_take : Cl P w K mg base "_law_take" 1 ["_law_purse_here", "_law_many"] sp_take ft fdt) (c_l_letter : Cl P w K mg base "_law_letter" 4 ["_law_purse_here", "_law_book_here"] sp_letter fr fdr) :
    FnOk P w K mg base CX0 5 f fd ["_law_purse_here", "_law_book_here"] sp_letters := by
  refine F.ok sc_l_letters (fun vs H Q E h => ?_) (fun cdv A outer s H vs Q E hr h => ?_)
  · obtain ⟨p, b, rs, ms, rfl, _⟩ := h
    rfl
  · obtain ⟨p, b, rs, ms, rfl, hn1, hn2, hm60, hB, hP, q⟩ := h
    refine ⟨_, 
      (pss_cons (pset 2 sc_l_letters.nd (pe_cl c_l_take (hr.mono (by decide)) rfl (pa_cons (pv 0) (pa_cons (pe_int) pa_nil)))) 
      (pss_cut (ps_if (pt_cmpR op_eq (pe_cl c_l_take (hr.mono (by decide)) rfl (pa_cons (pv 0) (pa_cons (pe_int) pa_nil))) (pe_int) (nomark _)) 
        (pss_one (pset 2 sc_l_letters.nd (pe_cl c_l_take (hr.mono (by decide)) rfl (pa_cons (pv 0) (pa_cons (pe_int) pa_nil))))) pss_nil) 
      (pss_one (ps_ret (pe_lc (own := [("_law_k", 3)]) (g := (gName 3)) (tt := tYes) (by rfl) sc_l_letters.nd (pi_range1 (by rfl) B.range (pa_cons (pv 2) pa_nil)) (blkOk_by (N := N_l_letters) (sc := defScope st_l_letters) (by decide +kernel)) (fun _ _ _ _ _ => (pnm 3 sc_l_letters.nd)) (fun _ _ _ _ _ => pts_nil) (fun _ _ _ _ _ => (pe_cl c_l_letter (hr.mono (by decide)) rfl (pa_cons (pv 0) (pa_cons (pv 1) pa_nil))))))))), ?_⟩
    walk_at "rd"
    refine ⟨_, _, rfl, hP, by decide, by decide, fun r1 H1 r10 r11 s1 => ?_⟩
    have r11' : r1 < 7 := r11
    walk_at "rd"
    refine ⟨fun σ' H'' => ∃ (m : Nat), SamB p H1 H'' ∧ m ≤ 40 ∧ σ' = [some (.ref p), some (.ref b), some (.int m), none], ?_, ?_⟩
    · walk_at "rd"
      refine ⟨_, _, rfl, s1.is_, by decide, by decide, fun r2 H2 _ _ s2 => ?_⟩
      walk_at "rd"
      refine ite2 (fun h => ?_) (fun h => ?_)
      · walk_at "rd"
        refine ⟨_, _, rfl, s2.is_, by decide, by decide, fun r3 H3 r30 r31 s3 => ?_⟩
        have r31' : r3 < 41 := r31
        obtain ⟨m, rfl⟩ := Int.eq_ofNat_of_zero_le r30
        exact ⟨m, s2.trans s3, by omega, rfl⟩
      · obtain ⟨m, rfl⟩ := Int.eq_ofNat_of_zero_le r10
        exact ⟨m, s2, by omega, rfl⟩
    · rintro σ' H2 ⟨m, s2, hm, rfl⟩
      have s12 := s1.trans s2
      walk_at "rd"
      intro D hD
      refine lc_range (lo := 0) (n := (m : Int).toNat) (fun i Hx => ∃ (ls : List Lt) (as : List Addr), ls.length = i ∧ SamB p H Hx ∧ H D = none ∧ Hx D = some (.lst (as.map V.ref)) ∧ TupsAt Hx as (ls.map ltV) ∧ ∀ l ∈ ls, l.s < rs.length ∧ l.d < rs.length)
        ⟨[], [], rfl, s12.new hD, s12.free hD, upd_same, trivial, fun l hl => by simp at hl⟩ ?_ ?_
      · rintro i Hx hi ⟨ls, as, hl, sx, nD, hDx, hTx, hls⟩
        have him : i < m := hi
        refine ⟨rfl, ?_⟩
        walk_at "rd"
        refine ⟨p, b, rs, ms, rfl, hn1, hn2, hm60, hB.mono sx.tups, sx.is_, fun t l H3 ht0 ht l1 l2 s3 => ?_⟩
        have hneD : D ≠ p := fun e => by
          obtain ⟨x, y, z, hp⟩ := sx.was
          rw [e, hp] at nD
          cases nD
        have hD3 := s3.keep D _ hneD hDx
        have hla : as.length = i := by
          have := hTx.length
          rw [List.length_map, hl] at this
          exact this
        refine ⟨_, hD3, by rw [List.length_map, hla]; exact Nat.lt_of_le_of_lt (show i ≤ 40 by omega) (by decide), ls ++ [l], as ++ [t], by rw [List.length_append, hl]; rfl, (sx.trans s3).mut nD, nD, by rw [upd_same, List.map_append]; rfl, ?_, fun l' hl' => ?_⟩
        · rw [List.map_append]
          refine TupsAt.snoc ?_ ((hTx.mono s3.tups).mono (Tups.lst hD3))
          exact Tups.lst hD3 _ _ ht
        · rcases List.mem_append.mp hl' with h | h
          · exact hls l' h
          · rw [List.mem_singleton.mp h]
            exact ⟨l1, l2⟩
      · rintro Hx ⟨ls, as, hl, sx, nD, hDx, hTx, hls⟩
        exact q D ls _ nD ⟨as, hDx, hTx⟩ (by omega) hls sx
end
end Sm
set_option Elab.async false
set_option linter.all false
set_option maxRecDepth 100000
set_option maxHeartbeats 4000000
set_option pp.maxSteps 600
namespace Sm
open PySem L2
open C8 (tCut pss_cut)
local macro_rules | `(tactic| walk_at "rdc") => `(tactic| first
  | with_reducible assumption
  | exact (show flatV _ = true from rfl)
  | exact flat_ints _
  | exact Or.inr ⟨by decide, by decide⟩
  | exact Or.inl ⟨by decide, by decide⟩
  | exact Or.inl (mod_in _)
  | exact Or.inl ⟨by (try dsimp only); omega, by (try dsimp only); omega⟩
  | exact Or.inr ⟨by (try dsimp only); omega, by (try dsimp only); omega⟩
  | exact ⟨by decide, by decide, by decide⟩
  | exact ⟨by decide, by decide⟩
  | exact ⟨by omega, by omega⟩
  | decide
  | omega
  | (show (0 : Int) < _; decide)
  | exact Nat.le_of_ble_eq_true rfl)
local macro_rules | `(tactic| walk_at "rd1") => `(tactic| first
  | (refine ⟨_, rfl, ?_⟩)
  | (refine ⟨_, _, rfl, rfl, ?_⟩)
  | (refine And.intro (by walk_at "rdc") ?_)
  | (refine ⟨_, _, rfl, (by first | exact Or.inl (by assumption) | exact Or.inl (SqL.of (by assumption)) | exact Or.inr (SqT.of (by assumption))), ?_⟩)
  | (refine ⟨_, _, _, _, rfl, rfl, (by first | exact SqL.of (by assumption) | exact SqT.of (by assumption) | exact SqL.of upd_same | assumption), (by rfl), ?_⟩)
  | (refine ⟨_, _, _, _, rfl, rfl, (by first | assumption | exact upd_same), (by rfl), ?_⟩)
  | (refine ⟨rfl, _, rfl, ?_⟩))
local macro_rules | `(tactic| walk_at "rd") => `(tactic| repeat (walk_at "rd1"))
theorem pw_take {α : Type} {R : α → α → Prop} {ms : List α} (h : ms.Pairwise R) {i : Nat} {m : α} (e : ms[i]? = some m) : ∀ x ∈ ms.take i, R x m := by
  intro x hx
  obtain ⟨j, hj, ex⟩ := List.mem_iff_getElem.mp hx
  have hi := List.getElem?_eq_some_iff.mp e
  obtain ⟨hi1, hi2⟩ := hi
  rw [List.length_take] at hj
  rw [List.getElem_take] at ex
  have := List.pairwise_iff_getElem.mp h j i (by omega) hi1 (by omega)
  rw [ex, hi2] at this
  exact this
def sp_whole : Sp := fun vs H Q _ => ∃ i : Int, vs = [.int i] ∧ Q (.bl true) H
def sp_within : Sp := fun vs H Q _ => ∃ i lo hi : Int, vs = [.int i, .int lo, .int hi] ∧ lo ≤ i ∧ i ≤ hi ∧ Q (.bl true) H
def sp_arerooms (K : PySem.W.Frag) : Sp := fun vs H Q _ => ∃ (a : Addr) (rs : List Int), vs = [.ref a] ∧ H a = some (.lst (rs.map V.int)) ∧ 1 ≤ rs.length ∧ rs.length ≤ 12 ∧ (∀ r ∈ rs, 0 ≤ r ∧ r ≤ 99) ∧ ∀ H', Same H H' → Q (.bl true) H'
def sp_ismeeting : Sp := fun vs H Q _ => ∃ (t : Addr) (m : Mt) (n : Nat), vs = [.ref t, .int n] ∧ H t = some (.tup (mtV m)) ∧ MOk n m ∧ Q (.bl true) H
def sp_putright : Sp := fun vs H Q _ => ∃ (t : Addr) (m : Mt), vs = [.ref t] ∧ H t = some (.tup (mtV m)) ∧ m.a < m.b ∧ ∀ p, H p = none → Q (.ref p) (upd H p (.tup (mtV m)))
def sp_meetstwo : Sp := fun vs H Q _ => ∃ (l : Addr) (as : List Addr) (ms : List Mt), vs = [.ref l] ∧ H l = some (.lst (as.map V.ref)) ∧ TupsAt H as (ms.map mtV) ∧ ms.length ≤ 60 ∧ ms.Pairwise Apart ∧ ∀ H', Same H H' → Q (.bl false) H'
def sp_bywhen : Sp := fun vs H Q _ => ∃ (t : Addr) (m : Mt), vs = [.ref t] ∧ H t = some (.tup (mtV m)) ∧ ∀ p, H p = none → Q (.ref p) (upd H p (.tup ([m.w, (m.a : Int)].map V.int)))
def sp_bothways : Sp := fun vs H Q _ => ∃ (t : Addr) (m : Mt), vs = [.ref t] ∧ H t = some (.tup (mtV m)) ∧ ∀ l t1 t2 H', Same H H' → H l = none → H' l = some (.lst [.ref t1, .ref t2]) → H' t1 = some (.tup [.int m.a, .int m.b]) → H' t2 = some (.tup [.int m.b, .int m.a]) → Q (.ref l) H'
def sp_isnumber : Sp := fun vs H Q _ => ∃ (b : Addr) (rs : List Int) (ms : List Mt) (i : Nat), vs = [.ref b, .int i] ∧ BookAt H b rs ms ∧ i < ms.length ∧ Q (.bl true) H
def sp_needmeeting : Sp := fun vs H Q _ => ∃ (b : Addr) (rs : List Int) (ms : List Mt) (i : Nat), vs = [.ref b, .int i] ∧ BookAt H b rs ms ∧ i < ms.length ∧ Q .non H
section
variable {P : Program} {w : World} {K : PySem.W.Frag} {mg : Str → Option Value} {base : Heap} {f fw fi : Addr} {fd fdw fdi : FuncData}
theorem ok_iswhole (F : Fun K "is_whole" "is_whole" st_is_whole f fd) (B : Bt mg) : FnOk P w K mg base CX0 1 f fd ["thing"] sp_whole := by
  refine F.ok sc_is_whole (fun vs H Q E h => ?_) (fun cdv A outer s H vs Q E hr h => ?_)
  · obtain ⟨i, rfl, _⟩ := h
    rfl
  · obtain ⟨i, rfl, q⟩ := h
    refine ⟨_, 
      (pss_one (ps_ret (pe_and (pe_callB (isi_K K (by rfl)) (by rfl) B.isinstance bo_isinstance (pa_cons (pv 0) (pa_cons (pe_bltn (v := .ty "int") (by rfl) B.int bo_int rfl) pa_nil))) (pe_one (pe_not (pe_callB (isi_K K (by rfl)) (by rfl) B.isinstance bo_isinstance (pa_cons (pv 0) (pa_cons (pe_bltn (v := .ty "bool") (by rfl) B.bool bo_bool rfl) pa_nil)))))))), ?_⟩
    walk_at "rd"
    refine ⟨_, _, _, _, true, rfl, .ty "int", .base (.int _), kit_ty (by decide +kernel), ?_⟩
    walk_at "rd"
    refine ⟨_, _, _, _, false, rfl, .ty "bool", .base (.int _), kit_ty (by decide +kernel), ?_⟩
    walk_at "rd"
    exact q
theorem ok_within (F : Fun K "is_within" "is_within" st_is_within f fd) (B : Bt mg) (c_is_whole : Cl P w K mg base "is_whole" 1 ["thing"] sp_whole fw fdw) : FnOk P w K mg base CX0 2 f fd ["thing", "low", "high"] sp_within := by
  refine F.ok sc_is_within (fun vs H Q E h => ?_) (fun cdv A outer s H vs Q E hr h => ?_)
  · obtain ⟨i, lo, hi, rfl, _⟩ := h
    rfl
  · obtain ⟨i, lo, hi, rfl, h1, h2, q⟩ := h
    refine ⟨_, 
      (pss_one (ps_ret (pe_and (pe_cl c_is_whole (hr.mono (by decide)) rfl (pa_cons (pv 0) pa_nil)) (pe_one (pe_chain op_le op_le (pv 1) (pv 0) (pv 2)))))), ?_⟩
    walk_at "rd"
    refine iteD h1 ?_
    walk_at "rd"
    have e : decide (i ≤ hi) = true := decide_eq_true h2
    show Q (.bl (decide (i ≤ hi))) H
    rw [e]
    exact q
theorem ok_arerooms (F : Fun K "are_rooms" "are_rooms" st_are_rooms f fd) (B : Bt mg) (G : Gk mg) (c_is_within : Cl P w K mg base "is_within" 2 ["thing", "low", "high"] sp_within fw fdw) : FnOk P w K mg base CX0 3 f fd ["thing"] (sp_arerooms K) := by
  refine F.ok sc_are_rooms (fun vs H Q E h => ?_) (fun cdv A outer s H vs Q E hr h => ?_)
  · obtain ⟨a, rs, rfl, _⟩ := h
    rfl
  · obtain ⟨a, rs, rfl, ha, h1, h2, hb, q⟩ := h
    refine ⟨_, 
      (pss_cons (ps_if (PW.pt (pw_or (pt_not (pt_val (pe_callB (isi_K K (by rfl)) (by rfl) B.isinstance bo_isinstance (pa_cons (pv 0) (pa_cons (pe_bltn (v := .ty "list") (by rfl) B.list bo_list rfl) pa_nil))))) (pw_or1 (pt_not (pt_chain op_le op_le (pe_int) (pe_callB (len_K K (by rfl)) (by rfl) B.len bo_len (pa_cons (pv 0) pa_nil)) (pe_gi G.MOST_WALKERS)))))) 
        (pss_one (ps_ret (pe_bl))) pss_nil) 
      (pss_one (ps_ret (pe_callB (all_K K (by rfl) rfl) (by rfl) B.all bo_all (pa_cons (pe_lc (own := [("room", 1)]) (g := (gName 1)) (tt := tYes) (by rfl) sc_are_rooms.nd (pl_K K (by rfl) (pv 0)) (blkOk_by (N := N_are_rooms) (sc := defScope st_are_rooms) (by decide +kernel)) (fun _ _ _ _ _ => (pnm 1 sc_are_rooms.nd)) (fun _ _ _ _ _ => pts_nil) (fun _ _ _ _ _ => (pe_cl c_is_within (hr.mono (by decide)) rfl (pa_cons (pv 1) (pa_cons (pe_int) (pa_cons (pe_gi G.MOST_ROOM) pa_nil)))))) pa_nil))))), ?_⟩
    walk_at "rd"
    refine ⟨_, _, _, _, true, rfl, .ty "list", .base (.lst ha), kit_ty (by decide +kernel), ?_⟩
    walk_at "rd"
    have e1 : (((rs.map V.int).length : Nat) : Int) = (rs.length : Int) := by rw [List.length_map]
    refine iteD (by omega) ?_
    walk_at "rd"
    refine iteNS (show (((rs.map V.int).length : Nat) : Int) ≤ 12 by omega) ?_
    walk_at "rd"
    refine ⟨⟨_, SqL.of ha⟩, fun D hD => ?_⟩
    have hne := ne_of_none ha hD
    refine lc_list (K := K) (a := a) (xs := rs.map V.int) (fun i Hx => Same H Hx ∧ Hx D = some (.lst ((List.replicate i true).map V.bl)) ∧ Hx a = some (.lst (rs.map V.int)))
      ⟨fun b o e => by rw [upd_ne (ne_of_none e hD)]; exact e, upd_same, by rw [upd_ne hne]; exact ha⟩ (fun i Hx _ h => SqL.of h.2.2) ?_ ?_
    · rintro i x Hx hi ⟨sx, hDx, hax⟩
      rw [List.getElem?_map] at hi
      obtain ⟨r, hr', rfl⟩ := Option.map_eq_some_iff.mp hi
      obtain ⟨b1, b2⟩ := hb r (List.mem_of_getElem? hr')
      have hil : i < rs.length := (List.getElem?_eq_some_iff.mp hr').1
      refine ⟨rfl, ?_⟩
      walk_at "rd"
      refine ⟨_, _, _, rfl, b1, b2, _, hDx, by rw [List.length_map, List.length_replicate]; exact Nat.lt_of_lt_of_le (show i < 12 by omega) (by decide), fun b o e => ?_, ?_, by rw [upd_ne hne]; exact hax⟩
      · rw [upd_ne (ne_of_none e hD)]
        exact sx b o e
      · rw [upd_same, List.replicate_succ', List.map_append]
        rfl
    · rintro Hx ⟨sx, hDx, hax⟩
      refine ⟨_, _, rfl, SqL.of hDx, ?_⟩
      rw [List.length_map, all_true]
      exact q Hx sx
theorem ok_ismeeting (F : Fun K "is_meeting" "is_meeting" st_is_meeting f fd) (B : Bt mg) (G : Gk mg) (c_is_within : Cl P w K mg base "is_within" 2 ["thing", "low", "high"] sp_within fw fdw) : FnOk P w K mg base CX0 3 f fd ["thing", "walkers"] sp_ismeeting := by
  refine F.ok sc_is_meeting (fun vs H Q E h => ?_) (fun cdv A outer s H vs Q E hr h => ?_)
  · obtain ⟨t, m, n, rfl, _⟩ := h
    rfl
  · obtain ⟨t, m, n, rfl, ht, ok, q⟩ := h
    have hab := ok.ab
    have hbn := ok.bn
    refine ⟨_, 
      (pss_cons (ps_if (PW.pt (pw_or (pt_not (pt_val (pe_callB (isi_K K (by rfl)) (by rfl) B.isinstance bo_isinstance (pa_cons (pv 0) (pa_cons (pe_bltn (v := .ty "tuple") (by rfl) B.tuple bo_tuple rfl) pa_nil))))) (pw_or1 (pt_cmpR op_ne (pe_callB (len_K K (by rfl)) (by rfl) B.len bo_len (pa_cons (pv 0) pa_nil)) (pe_int) (nomark _))))) 
        (pss_one (ps_ret (pe_bl))) pss_nil) 
      (pss_cons (ps_asg (pv 0) (tup_K K (by rfl) rfl (pgs_cons (pnm 2 sc_is_meeting.nd) (pgs_cons (pnm 3 sc_is_meeting.nd) (pgs_cons (pnm 4 sc_is_meeting.nd) (pgs_cons (pnm 5 sc_is_meeting.nd) pgs_nil)))))) 
      (pss_cons (ps_if (PW.pt (pw_or (pt_not (pt_val (pe_cl c_is_within (hr.mono (by decide)) rfl (pa_cons (pv 2) (pa_cons (pe_int) (pa_cons (pe_op op_sub (pv 1) (pe_int)) pa_nil)))))) (pw_or (pt_not (pt_val (pe_cl c_is_within (hr.mono (by decide)) rfl (pa_cons (pv 3) (pa_cons (pe_int) (pa_cons (pe_op op_sub (pv 1) (pe_int)) pa_nil)))))) (pw_or1 (pt_cmpR op_eq (pv 2) (pv 3) (nomark _)))))) 
        (pss_one (ps_ret (pe_bl))) pss_nil) 
      (pss_one (ps_ret (pe_and (pe_cl c_is_within (hr.mono (by decide)) rfl (pa_cons (pv 4) (pa_cons (pe_int) (pa_cons (pe_gi G.MOST_TIME) pa_nil)))) (pe_one (pe_cl c_is_within (hr.mono (by decide)) rfl (pa_cons (pv 5) (pa_cons (pe_int) (pa_cons (pe_gi G.MOST_MANY) pa_nil))))))))))), ?_⟩
    walk_at "rd"
    refine ⟨_, _, _, _, true, rfl, .ty "tuple", .base (.tup ht), kit_ty (by decide +kernel), ?_⟩
    walk_at "rd"
    refine ⟨_, _, rfl, SqT.of ht, rfl, _, _, rfl, _, _, rfl, _, _, rfl, _, _, rfl, rfl, ?_⟩
    walk_at "rd"
    refine ⟨_, _, _, rfl, by omega, by (try dsimp only); omega, ?_⟩
    walk_at "rd"
    refine ⟨_, _, _, rfl, by omega, by (try dsimp only); omega, ?_⟩
    walk_at "rd"
    refine iteDN (fun e => by have e' := V.int.inj e; omega) ?_
    walk_at "rd"
    refine ⟨_, _, _, rfl, ok.w1, ok.w2, ?_⟩
    walk_at "rd"
    refine ⟨_, _, _, rfl, ok.c1, ok.c2, ?_⟩
    walk_at "rd"
    exact q
theorem ok_putright (F : Fun K "put_right" "put_right" st_put_right f fd) (B : Bt mg) : FnOk P w K mg base CX0 1 f fd ["meeting"] sp_putright := by
  refine F.ok sc_put_right (fun vs H Q E h => ?_) (fun cdv A outer s H vs Q E hr h => ?_)
  · obtain ⟨t, m, rfl, _⟩ := h
    rfl
  · obtain ⟨t, m, rfl, ht, hab, q⟩ := h
    refine ⟨_, 
      (pss_cons (ps_asg (pv 0) (tup_K K (by rfl) rfl (pgs_cons (pnm 1 sc_put_right.nd) (pgs_cons (pnm 2 sc_put_right.nd) (pgs_cons (pnm 3 sc_put_right.nd) (pgs_cons (pnm 4 sc_put_right.nd) pgs_nil)))))) 
      (pss_one (ps_ret (pe_tup (pa_cons (pe_callB (call_min2 rfl) (by rfl) B.min bo_min (pa_cons (pv 1) (pa_cons (pv 2) pa_nil))) (pa_cons (pe_callB (call_max2 rfl) (by rfl) B.max bo_max (pa_cons (pv 1) (pa_cons (pv 2) pa_nil))) (pa_cons (pv 3) (pa_cons (pv 4) pa_nil)))))))), ?_⟩
    walk_at "rd"
    refine ⟨_, _, rfl, SqT.of ht, rfl, _, _, rfl, _, _, rfl, _, _, rfl, _, _, rfl, rfl, ?_⟩
    walk_at "rd"
    refine ⟨_, _, rfl, ?_⟩
    walk_at "rd"
    refine ⟨_, _, rfl, ?_⟩
    walk_at "rd"
    intro p hp
    have e1 : (if (m.b : Int) < m.a then (m.b : Int) else m.a) = m.a := by split <;> omega
    have e2 : (if (m.b : Int) > m.a then (m.b : Int) else m.a) = m.b := by split <;> omega
    show Q (.ref p) (upd H p (.tup [.int (if (m.b : Int) < m.a then (m.b : Int) else m.a), .int (if (m.b : Int) > m.a then (m.b : Int) else m.a), .int m.w, .int m.c]))
    rw [e1, e2]
    exact q p hp
theorem ok_bywhen (F : Fun K "by_when" "by_when" st_by_when f fd) : FnOk P w K mg base CX0 1 f fd ["meeting"] sp_bywhen := by
  refine F.ok sc_by_when (fun vs H Q E h => ?_) (fun cdv A outer s H vs Q E hr h => ?_)
  · obtain ⟨t, m, rfl, _⟩ := h
    rfl
  · obtain ⟨t, m, rfl, ht, q⟩ := h
    refine ⟨_, 
      (pss_one (ps_ret (pe_tup (pa_cons (pe_ix (ix_tupK K (by rfl)) (pv 0) (pe_int) (fun _ _ => rfl)) (pa_cons (pe_ix (ix_tupK K (by rfl)) (pv 0) (pe_int) (fun _ _ => rfl)) pa_nil))))), ?_⟩
    walk_at "rd"
    exact q
theorem ok_bothways (F : Fun K "both_ways" "both_ways" st_both_ways f fd) : FnOk P w K mg base CX0 1 f fd ["meeting"] sp_bothways := by
  refine F.ok sc_both_ways (fun vs H Q E h => ?_) (fun cdv A outer s H vs Q E hr h => ?_)
  · obtain ⟨t, m, rfl, _⟩ := h
    rfl
  · obtain ⟨t, m, rfl, ht, q⟩ := h
    refine ⟨_, 
      (pss_one (ps_ret (pe_lst (pa_cons (pe_tup (pa_cons (pe_ix (ix_tupK K (by rfl)) (pv 0) (pe_int) (fun _ _ => rfl)) (pa_cons (pe_ix (ix_tupK K (by rfl)) (pv 0) (pe_int) (fun _ _ => rfl)) pa_nil))) (pa_cons (pe_tup (pa_cons (pe_ix (ix_tupK K (by rfl)) (pv 0) (pe_int) (fun _ _ => rfl)) (pa_cons (pe_ix (ix_tupK K (by rfl)) (pv 0) (pe_int) (fun _ _ => rfl)) pa_nil))) pa_nil))))), ?_⟩
    walk_at "rd"
    intro t1 h1
    have ht1 := Tups.new (o := .tup [.int m.a, .int m.b]) h1 _ _ ht
    walk_at "rd"
    intro t2 h2
    walk_at "rd"
    intro l hl
    have n12 : t1 ≠ t2 := ne_of_none (H := upd H t1 (.tup [.int m.a, .int m.b])) upd_same h2
    refine q l t1 t2 _ (fun b o e => ?_) ?_ upd_same ?_ ?_
    · have z1 := ne_of_none e h1
      have e1 : upd H t1 (.tup [.int m.a, .int m.b]) b = some o := by rw [upd_ne z1]; exact e
      have z2 := ne_of_none e1 h2
      have e2 : upd (upd H t1 (.tup [.int m.a, .int m.b])) t2 (.tup [.int m.b, .int m.a]) b = some o := by rw [upd_ne z2]; exact e1
      rw [upd_ne (ne_of_none e2 hl)]
      exact e2
    · cases q0 : H l with
      | none => rfl
      | some o =>
        have z1 := ne_of_none q0 h1
        have e1 : upd H t1 (.tup [.int m.a, .int m.b]) l = some o := by rw [upd_ne z1]; exact q0
        have z2 := ne_of_none e1 h2
        rw [upd_ne z2, e1] at hl
        cases hl
    · have e2 : upd (upd H t1 (.tup [.int m.a, .int m.b])) t2 (.tup [.int m.b, .int m.a]) t1 = some (.tup [.int m.a, .int m.b]) := by rw [upd_ne n12, upd_same]
      rw [upd_ne (ne_of_none e2 hl)]
      exact e2
    · have e2 : upd (upd H t1 (.tup [.int m.a, .int m.b])) t2 (.tup [.int m.b, .int m.a]) t2 = some (.tup [.int m.b, .int m.a]) := upd_same
      rw [upd_ne (ne_of_none e2 hl)]
      exact e2
theorem ok_isnumber (F : Fun K "is_number_of" "is_number_of" st_is_number_of f fd) (B : Bt mg) (c_is_within : Cl P w K mg base "is_within" 2 ["thing", "low", "high"] sp_within fw fdw) : FnOk P w K mg base CX0 3 f fd ["book", "thing"] sp_isnumber := by
  refine F.ok sc_is_number_of (fun vs H Q E h => ?_) (fun cdv A outer s H vs Q E hr h => ?_)
  · obtain ⟨b, rs, ms, i, rfl, _⟩ := h
    rfl
  · obtain ⟨b, rs, ms, i, rfl, ⟨pr, pm, hb, hpr, as, hpm, hT⟩, hi, q⟩ := h
    refine ⟨_, 
      (pss_one (ps_ret (pe_cl c_is_within (hr.mono (by decide)) rfl (pa_cons (pv 1) (pa_cons (pe_int) (pa_cons (pe_op op_sub (pe_callB (len_K K (by rfl)) (by rfl) B.len bo_len (pa_cons (pe_ix (ix_tupK K (by rfl)) (pv 0) (pe_int) (fun _ _ => rfl)) pa_nil)) (pe_int)) pa_nil)))))), ?_⟩
    walk_at "rd"
    have hl := hT.length
    rw [List.length_map] at hl
    refine ⟨_, _, _, rfl, by omega, ?_, q⟩
    show (i : Int) ≤ (((as.map V.ref).length : Nat) : Int) - 1
    rw [List.length_map]
    omega
theorem ok_needmeeting (F : Fun K "need_meeting" "need_meeting" st_need_meeting f fd) (c_is_number_of : Cl P w K mg base "is_number_of" 3 ["book", "thing"] sp_isnumber fw fdw) : FnOk P w K mg base CX0 4 f fd ["book", "meeting"] sp_needmeeting := by
  refine F.ok sc_need_meeting (fun vs H Q E h => ?_) (fun cdv A outer s H vs Q E hr h => ?_)
  · obtain ⟨b, rs, ms, i, rfl, _⟩ := h
    rfl
  · obtain ⟨b, rs, ms, i, rfl, hB, hi, q⟩ := h
    refine ⟨_, 
      (pss_one (ps_if (pt_not (pt_val (pe_cl c_is_number_of (hr.mono (by decide)) rfl (pa_cons (pv 0) (pa_cons (pv 1) pa_nil))))) 
        (pss_one ps_never) pss_nil)), ?_⟩
    walk_at "rd"
    refine ⟨_, _, _, _, rfl, hB, hi, true, rfl, ?_⟩
    walk_at "rd"
    exact q
end
end Sm
set_option Elab.async false
set_option linter.all false
set_option maxRecDepth 100000
set_option maxHeartbeats 4000000
set_option pp.maxSteps 600
namespace L2
open PySem PySem.Spec PyProof.Rows
section
variable {X : Cx} {x : Str} {k : Nat} {ps : List Str} {sp : Sp} {f : Addr} {fd : FuncData}
theorem sortKey_K (K : PySem.W.Frag) (h : X.K = K) (c : Cl X.prog X.w X.K X.mg X.base x k ps sp f fd) (hr : Room (k + 2) X.A) : CallRK X (.builtin "sorted") [Str.ofString "key"] (rSortedKey K f sp) := h ▸ cr_sortedKeyF c.ok hr c.b
end
theorem Same.add {H H1 : Hp} {a : Addr} {o : HO} (s : Same H H1) (h : H1 a = none) : Same H (upd H1 a o) := fun b u e => by have q := s b u e; rw [upd_ne (ne_of_none q h)]; exact q
theorem Same.mut {H H1 : Hp} {a : Addr} {o : HO} (s : Same H H1) (h : H a = none) : Same H (upd H1 a o) := fun b u e => by rw [upd_ne (ne_of_none e h)]; exact s b u e
theorem Same.new1 {H : Hp} {a : Addr} {o : HO} (h : H a = none) : Same H (upd H a o) := (Same.refl H).add h
end L2
namespace Sm
open PySem L2
open C8 (tCut pss_cut)
local macro_rules | `(tactic| walk_at "rdc") => `(tactic| first
  | with_reducible assumption
  | exact (show flatV _ = true from rfl)
  | exact flat_ints _
  | exact Or.inr ⟨by decide, by decide⟩
  | exact Or.inl ⟨by decide, by decide⟩
  | exact Or.inl (mod_in _)
  | exact Or.inl ⟨by (try dsimp only); omega, by (try dsimp only); omega⟩
  | exact Or.inr ⟨by (try dsimp only); omega, by (try dsimp only); omega⟩
  | exact ⟨by decide, by decide, by decide⟩
  | exact ⟨by decide, by decide⟩
  | exact ⟨by omega, by omega⟩
  | decide
  | omega
  | (show (0 : Int) < _; decide)
  | exact Nat.le_of_ble_eq_true rfl)
local macro_rules | `(tactic| walk_at "rd1") => `(tactic| first
  | (refine ⟨_, rfl, ?_⟩)
  | (refine ⟨_, _, rfl, rfl, ?_⟩)
  | (refine And.intro (by walk_at "rdc") ?_)
  | (refine ⟨_, _, rfl, (by first | exact Or.inl (by assumption) | exact Or.inl (SqL.of (by assumption)) | exact Or.inr (SqT.of (by assumption))), ?_⟩)
  | (refine ⟨_, _, _, _, rfl, rfl, (by first | exact SqL.of (by assumption) | exact SqT.of (by assumption) | exact SqL.of upd_same | assumption), (by rfl), ?_⟩)
  | (refine ⟨_, _, _, _, rfl, rfl, (by first | assumption | exact upd_same), (by rfl), ?_⟩)
  | (refine ⟨rfl, _, rfl, ?_⟩))
local macro_rules | `(tactic| walk_at "rd") => `(tactic| repeat (walk_at "rd1"))
def keyT (x : Nat) (w : Int) : List Key := [.inl x, .inl w]
theorem keyT_inj {x y : Nat} {v w : Int} (e : keyT x v = keyT y w) : x = y ∧ v = w := by
  unfold keyT at e
  injection e with e1 e2
  injection e2 with e2 _
  exact ⟨Int.ofNat.inj (Sum.inl.inj e1), Sum.inl.inj e2⟩
/-- what is known behind i meetings -/
def KnownOk (kvs : List (List Key × V)) (ms : List Mt) : Prop := ∀ k, (valV kvs k).isSome = true → ∃ m ∈ ms, k = keyT m.a m.w ∨ k = keyT m.b m.w
theorem KnownOk.no {kvs : List (List Key × V)} {ms : List Mt} {m : Mt} (h : KnownOk kvs ms) (ap : ∀ x ∈ ms, Apart x m) {x : Nat} (hx : x = m.a ∨ x = m.b) : valV kvs (keyT x m.w) = none := by
  cases e : valV kvs (keyT x m.w) with
  | none => rfl
  | some v =>
    obtain ⟨m', hm', q⟩ := h (keyT x m.w) (by rw [e]; rfl)
    exfalso
    rcases q with q | q
    · obtain ⟨q1, q2⟩ := keyT_inj q
      obtain ⟨h1, h2, h3, h4⟩ := ap m' hm' q2.symm
      rcases hx with hx | hx
      · exact h1 (by rw [← q1, hx])
      · exact h2 (by rw [← q1, hx])
    · obtain ⟨q1, q2⟩ := keyT_inj q
      obtain ⟨h1, h2, h3, h4⟩ := ap m' hm' q2.symm
      rcases hx with hx | hx
      · exact h3 (by rw [← q1, hx])
      · exact h4 (by rw [← q1, hx])
theorem perm_strict {α : Type} {lt : α → α → Bool} {ys xs : List α} (hp : ys.Perm xs) (hx : xs.Pairwise fun x y => lt x y = true ∧ lt y x = false) (hy : ys.Pairwise fun x y => lt y x = false) : ys = xs := by
  refine List.Perm.eq_of_pairwise (le := fun x y => lt y x = false) (fun a b ha hb h1 h2 => ?_) hy (hx.imp fun h => h.2) hp
  obtain ⟨i, hi, ea⟩ := List.mem_iff_getElem.mp (hp.mem_iff.mp ha)
  obtain ⟨j, hj, eb⟩ := List.mem_iff_getElem.mp hb
  have pw := List.pairwise_iff_getElem.mp hx
  by_cases e : i = j
  · subst e
    rw [← ea, eb]
  · exfalso
    by_cases l : i < j
    · have := (pw i j hi hj l).1
      rw [ea, eb, h2] at this
      cases this
    · have := (pw j i hj hi (by omega)).1
      rw [ea, eb, h1] at this
      cases this
section
variable {P : Program} {w : World} {K : PySem.W.Frag} {mg : Str → Option Value} {base : Heap} {f fw fi fm fr fb fp : Addr} {fd fdw fdi fdm fdr fdb fdp : FuncData}
theorem ok_meetstwo (F : Fun K "meets_two_at_once" "meets_two_at_once" st_meets_two_at_once f fd) : FnOk P w K mg base CX0 1 f fd ["meetings"] sp_meetstwo := by
  refine F.ok sc_meets_two_at_once (fun vs H Q E h => ?_) (fun cdv A outer s H vs Q E hr h => ?_)
  · obtain ⟨l, as, ms, rfl, _⟩ := h
    rfl
  · obtain ⟨l, as, ms, rfl, hl, hT, h60, hap, q⟩ := h
    have hu := hu_of hr
    have hlen := hT.length
    rw [List.length_map] at hlen
    refine ⟨_, 
      (pss_cons (pset 1 sc_meets_two_at_once.nd (pe_dnewT)) 
      (pss_cons (ps_for PassesOwn.never rfl (pl_K K (by rfl) (pv 0)) (tup_K K (by rfl) rfl (pgs_cons (pnm 2 sc_meets_two_at_once.nd) (pgs_cons (pnm 3 sc_meets_two_at_once.nd) (pgs_cons (pnm 4 sc_meets_two_at_once.nd) (pgs_cons (pnm 5 sc_meets_two_at_once.nd) pgs_nil))))) 
        (pss_cons (ps_if (PW.pt (pw_or (pt_cmp (pc_din hu (pe_tup (pa_cons (pv 2) (pa_cons (pv 4) pa_nil))) (pv 1))) (pw_or1 (pt_cmp (pc_din hu (pe_tup (pa_cons (pv 3) (pa_cons (pv 4) pa_nil))) (pv 1)))))) 
          (pss_one (ps_ret (pe_bl))) pss_nil) 
        (pss_cons (ps_dput hu (pv 1) (pe_tup (pa_cons (pv 2) (pa_cons (pv 4) pa_nil))) (pe_bl) rfl) 
        (pss_one (ps_dput hu (pv 1) (pe_tup (pa_cons (pv 3) (pa_cons (pv 4) pa_nil))) (pe_bl) rfl))))) 
      (pss_one (ps_ret (pe_bl))))), ?_⟩
    walk_at "rd"
    intro D hD
    walk_at "rd"
    refine ⟨⟨_, SqL.of (Same.new1 hD _ _ hl)⟩, ?_⟩
    refine for_list (K := K) (a := l) (xs := as.map V.ref) (fun i σ Hx => ∃ (kvs : List (List Key × V)) (v2 v3 v4 v5 : Option V), Same H Hx ∧ Hx D = some (.dT kvs) ∧ kvs.length ≤ 2 * i ∧ KnownOk kvs (ms.take i) ∧ σ = [some (.ref l), some (.ref D), v2, v3, v4, v5])
      ⟨[], _, _, _, _, Same.new1 hD, upd_same, Nat.le_refl _, (fun k h => by cases h), rfl⟩ (fun i σ Hx _ h => ?_) ?_ ?_
    · obtain ⟨kvs, v2, v3, v4, v5, sx, _⟩ := h
      exact SqL.of (sx _ _ hl)
    · rintro i x σ Hx hi ⟨kvs, v2, v3, v4, v5, sx, hDx, hk, kn, rfl⟩
      rw [List.getElem?_map] at hi
      obtain ⟨t, ht, rfl⟩ := Option.map_eq_some_iff.mp hi
      obtain ⟨y, hy, hHt⟩ := (hT.mono (Same.tups sx)).geta ht
      rw [List.getElem?_map] at hy
      obtain ⟨m, hm, rfl⟩ := Option.map_eq_some_iff.mp hy
      have hil : i < ms.length := (List.getElem?_eq_some_iff.mp hm).1
      have hno := fun x hx => kn.no (pw_take hap hm) (x := x) hx
      refine ⟨_, _, rfl, SqT.of hHt, rfl, _, _, rfl, _, _, rfl, _, _, rfl, _, _, rfl, rfl, ?_⟩
      walk_at "rd"
      intro t1 h1
      walk_at "rd"
      refine ⟨_, _, rfl, DGet.t (k := keyT m.a m.w) (Same.new1 h1 _ _ hDx) upd_same, ?_⟩
      rw [hno _ (.inl rfl)]
      walk_at "rd"
      intro t2 h2
      walk_at "rd"
      have s2 := (Same.new1 (o := HO.tup [V.int m.a, V.int m.w]) h1).add (o := HO.tup [V.int m.b, V.int m.w]) h2
      refine ⟨_, _, rfl, DGet.t (k := keyT m.b m.w) (s2 _ _ hDx) upd_same, ?_⟩
      rw [hno _ (.inr rfl)]
      walk_at "rd"
      have s3 : Same H (upd (upd Hx t1 (HO.tup [V.int m.a, V.int m.w])) t2 (HO.tup [V.int m.b, V.int m.w])) := sx.trans s2
      have hD3 := s2 _ _ hDx
      generalize upd (upd Hx t1 (HO.tup [V.int m.a, V.int m.w])) t2 (HO.tup [V.int m.b, V.int m.w]) = H3 at s3 hD3
      intro t3 h3
      walk_at "rd"
      have hD4 := Same.new1 (o := HO.tup [V.int m.a, V.int m.w]) h3 _ _ hD3
      have s4 := s3.add (o := HO.tup [V.int m.a, V.int m.w]) h3
      refine ⟨D, _, rfl, DPut.t (k := keyT m.a m.w) hD4 upd_same (Nat.lt_of_le_of_lt (show kvs.length ≤ 120 by omega) (by decide)), ?_⟩
      walk_at "rd"
      have s5 := s4.mut (o := .dT (putK kvs (keyT m.a m.w) (.bl true))) hD
      have hD5 : upd (upd H3 t3 (HO.tup [V.int m.a, V.int m.w])) D (.dT (putK kvs (keyT m.a m.w) (.bl true))) D = some (.dT (putK kvs (keyT m.a m.w) (.bl true))) := upd_same
      generalize upd (upd H3 t3 (HO.tup [V.int m.a, V.int m.w])) D (.dT (putK kvs (keyT m.a m.w) (.bl true))) = H5 at s5 hD5
      intro t6 h6
      walk_at "rd"
      have hD6 := Same.new1 (o := HO.tup [V.int m.b, V.int m.w]) h6 _ _ hD5
      have s6 := s5.add (o := HO.tup [V.int m.b, V.int m.w]) h6
      have l1 := length_putK kvs (keyT m.a m.w) (.bl true)
      have l2 := length_putK (putK kvs (keyT m.a m.w) (.bl true)) (keyT m.b m.w) (.bl true)
      refine ⟨D, _, rfl, DPut.t (k := keyT m.b m.w) hD6 upd_same (Nat.lt_of_le_of_lt (show (putK kvs (keyT m.a m.w) (.bl true)).length ≤ 120 by omega) (by decide)), ?_⟩
      refine ⟨_, _, _, _, _, s6.mut hD, upd_same, by omega, fun k hk => ?_, rfl⟩
      rw [valV_put, valV_put] at hk
      have hm1 : m ∈ ms.take (i + 1) := by
        rw [List.take_succ, hm]
        exact List.mem_append_right _ List.mem_cons_self
      by_cases e1 : k = keyT m.b m.w
      · exact ⟨m, hm1, .inr e1⟩
      · rw [if_neg e1] at hk
        by_cases e2 : k = keyT m.a m.w
        · exact ⟨m, hm1, .inl e2⟩
        · rw [if_neg e2] at hk
          obtain ⟨m', hm', z⟩ := kn k hk
          exact ⟨m', by rw [List.take_succ]; exact List.mem_append_left _ hm', z⟩
    · rintro σ Hx ⟨kvs, v2, v3, v4, v5, sx, hDx, hk, kn, rfl⟩
      walk_at "rd"
      exact q _ sx
end
end Sm
set_option Elab.async false
set_option linter.all false
set_option maxRecDepth 100000
set_option maxHeartbeats 4000000
set_option pp.maxSteps 600
namespace Sm
open PySem L2
open C8 (tCut pss_cut)
local macro_rules | `(tactic| walk_at "rdc") => `(tactic| first
  | with_reducible assumption
  | exact (show flatV _ = true from rfl)
  | exact flat_ints _
  | exact Or.inr ⟨by decide, by decide⟩
  | exact Or.inl ⟨by decide, by decide⟩
  | exact Or.inl (mod_in _)
  | exact Or.inl ⟨by (try dsimp only); omega, by (try dsimp only); omega⟩
  | exact Or.inr ⟨by (try dsimp only); omega, by (try dsimp only); omega⟩
  | exact ⟨by decide, by decide, by decide⟩
  | exact ⟨by decide, by decide⟩
  | exact ⟨by omega, by omega⟩
  | decide
  | omega
  | (show (0 : Int) < _; decide)
  | exact Nat.le_of_ble_eq_true rfl)
local macro_rules | `(tactic| walk_at "rd1") => `(tactic| first
  | (refine ⟨_, rfl, ?_⟩)
  | (refine ⟨_, _, rfl, rfl, ?_⟩)
  | (refine And.intro (by walk_at "rdc") ?_)
  | (refine ⟨_, _, rfl, (by first | exact Or.inl (by assumption) | exact Or.inl (SqL.of (by assumption)) | exact Or.inr (SqT.of (by assumption))), ?_⟩)
  | (refine ⟨_, _, _, _, rfl, rfl, (by first | exact SqL.of (by assumption) | exact SqT.of (by assumption) | exact SqL.of upd_same | assumption), (by rfl), ?_⟩)
  | (refine ⟨_, _, _, _, rfl, rfl, (by first | assumption | exact upd_same), (by rfl), ?_⟩)
  | (refine ⟨rfl, _, rfl, ?_⟩))
local macro_rules | `(tactic| walk_at "rd") => `(tactic| repeat (walk_at "rd1"))
/-- the key by_when of a meeting -/
def kfM (H : Hp) (v : V) : List Int := [(kH H v).getD 2 0, (kH H v).getD 0 0]
theorem kfM_of {H : Hp} {t : Addr} {m : Mt} (h : H t = some (.tup (mtV m))) : kfM H (.ref t) = [m.w, (m.a : Int)] := by
  unfold kfM
  rw [kH_of (ns := mtI m) h]
  rfl
theorem before_lt {x y : Mt} (h : Before x y) : HT.lexLt [x.w, (x.a : Int)] [y.w, (y.a : Int)] = true ∧ HT.lexLt [y.w, (y.a : Int)] [x.w, (x.a : Int)] = false := by
  rw [HT.lexLt_cons, HT.lexLt_cons, HT.lexLt_cons, HT.lexLt_cons]
  rcases h with h | ⟨h1, h2⟩
  · rw [if_neg (by omega), if_neg (by omega)]
    exact ⟨decide_eq_true h, decide_eq_false (by omega)⟩
  · rw [if_pos h1, if_pos h1.symm, if_neg (by omega), if_neg (by omega)]
    exact ⟨decide_eq_true (by omega), decide_eq_false (by omega)⟩
theorem pw_refs {H : Hp} {R : V → V → Prop} {S : Mt → Mt → Prop} (hRS : ∀ a b x y, H a = some (.tup (mtV x)) → H b = some (.tup (mtV y)) → S x y → R (.ref a) (.ref b)) :
    ∀ {as : List Addr} {ms : List Mt}, TupsAt H as (ms.map mtV) → ms.Pairwise S → (as.map V.ref).Pairwise R
  | [], [], _, _ => .nil
  | a :: as, m :: ms, h, hp => by
    rw [List.map_cons]
    rw [List.pairwise_cons] at hp
    refine List.Pairwise.cons (fun v hv => ?_) (pw_refs hRS h.2 hp.2)
    obtain ⟨b, hb, rfl⟩ := List.mem_map.mp hv
    obtain ⟨j, hj⟩ := List.getElem?_of_mem hb
    obtain ⟨x, hx, hH⟩ := h.2.geta hj
    rw [List.getElem?_map] at hx
    obtain ⟨y, hy, rfl⟩ := Option.map_eq_some_iff.mp hx
    exact hRS a b m y h.1 hH (hp.1 y (List.mem_of_getElem? hy))
  | [], _ :: _, h, _ => h.elim
  | _ :: _, [], h, _ => h.elim
theorem TupsAt.mem {H : Hp} {as : List Addr} {ms : List Mt} (h : TupsAt H as (ms.map mtV)) {v : V} (hv : v ∈ as.map V.ref) : ∃ t m, v = .ref t ∧ m ∈ ms ∧ H t = some (.tup (mtV m)) := by
  obtain ⟨b, hb, rfl⟩ := List.mem_map.mp hv
  obtain ⟨j, hj⟩ := List.getElem?_of_mem hb
  obtain ⟨x, hx, hH⟩ := h.geta hj
  rw [List.getElem?_map] at hx
  obtain ⟨y, hy, rfl⟩ := Option.map_eq_some_iff.mp hx
  exact ⟨b, y, rfl, List.mem_of_getElem? hy, hH⟩
def sp_madebook (K : PySem.W.Frag) : Sp := fun vs H Q _ => ∃ (a l : Addr) (rs : List Int) (as : List Addr) (ms : List Mt), vs = [.ref a, .ref l] ∧ H a = some (.lst (rs.map V.int)) ∧ 1 ≤ rs.length ∧ rs.length ≤ 12 ∧ (∀ r ∈ rs, 0 ≤ r ∧ r ≤ 99) ∧
  H l = some (.lst (as.map V.ref)) ∧ TupsAt H as (ms.map mtV) ∧ WFm rs.length ms ∧ ∀ b H', Same H H' → BookAt H' b rs ms → Q (.ref b) H'
section
variable {P : Program} {w : World} {K : PySem.W.Frag} {mg : Str → Option Value} {base : Heap} {f fw fi fm fr fb fp : Addr} {fd fdw fdi fdm fdr fdb fdp : FuncData}
theorem ok_madebook (F : Fun K "made_book" "made_book" st_made_book f fd) (B : Bt mg) (G : Gk mg) (c_are_rooms : Cl P w K mg base "are_rooms" 3 ["thing"] (sp_arerooms K) fr fdr) (c_is_meeting : Cl P w K mg base "is_meeting" 3 ["thing", "walkers"] sp_ismeeting fi fdi)
    (c_meets_two_at_once : Cl P w K mg base "meets_two_at_once" 1 ["meetings"] sp_meetstwo fm fdm) (c_put_right : Cl P w K mg base "put_right" 1 ["meeting"] sp_putright fp fdp) (c_by_when : Cl P w K mg base "by_when" 1 ["meeting"] sp_bywhen fb fdb) :
    FnOk P w K mg base CX0 4 f fd ["rooms", "meetings"] (sp_madebook K) := by
  refine F.ok sc_made_book (fun vs H Q E h => ?_) (fun cdv A outer s H vs Q E hr h => ?_)
  · obtain ⟨a, l, rs, as, ms, rfl, _⟩ := h
    rfl
  · obtain ⟨a, l, rs, as, ms, rfl, ha, h1, h12, hb, hl, hT, wf, q⟩ := h
    refine ⟨_, 
      (pss_cons (ps_if (pt_not (pt_val (pe_cl c_are_rooms (hr.mono (by decide)) rfl (pa_cons (pv 0) pa_nil)))) 
        (pss_one ps_never) pss_nil) 
      (pss_cons (ps_if (PW.pt (pw_or (pt_not (pt_val (pe_callB (isi_K K (by rfl)) (by rfl) B.isinstance bo_isinstance (pa_cons (pv 1) (pa_cons (pe_bltn (v := .ty "list") (by rfl) B.list bo_list rfl) pa_nil))))) (pw_or1 (pt_cmpR op_gt (pe_callB (len_K K (by rfl)) (by rfl) B.len bo_len (pa_cons (pv 1) pa_nil)) (pe_gi G.MOST_MEETINGS) (nomark _))))) 
        (pss_one ps_never) pss_nil) 
      (pss_cons (ps_for PassesOwn.never rfl (pl_K K (by rfl) (pv 1)) (pnm 2 sc_made_book.nd) 
        (pss_one (ps_if (pt_not (pt_val (pe_cl c_is_meeting (hr.mono (by decide)) rfl (pa_cons (pv 2) (pa_cons (pe_callB (len_K K (by rfl)) (by rfl) B.len bo_len (pa_cons (pv 0) pa_nil)) pa_nil))))) 
          (pss_one ps_never) pss_nil))) 
      (pss_cons (ps_if (pt_val (pe_cl c_meets_two_at_once (hr.mono (by decide)) rfl (pa_cons (pv 1) pa_nil))) 
        (pss_one ps_never) pss_nil) 
      (pss_one (ps_ret (pe_tup (pa_cons (pe_callTy (tuple_K K (by rfl)) (by rfl) B.tuple bo_tuple (pa_cons (pv 0) pa_nil)) (pa_cons (pe_callTy (tuple_K K (by rfl)) (by rfl) B.tuple bo_tuple (pa_cons (pe_callBK (sortKey_K K (by rfl) c_by_when (hr.mono (by decide))) (by rfl) B.sorted bo_sorted (pa_cons (pe_lc (own := [("meeting", 2)]) (g := (gName 2)) (tt := tYes) (by rfl) sc_made_book.nd (pl_K K (by rfl) (pv 1)) (blkOk_by (N := N_made_book) (sc := defScope st_made_book) (by decide +kernel)) (fun _ _ _ _ _ => (pnm 2 sc_made_book.nd)) (fun _ _ _ _ _ => pts_nil) (fun _ _ _ _ _ => (pe_cl c_put_right (hr.mono (by decide)) rfl (pa_cons (pv 2) pa_nil)))) pa_nil) (pk_cons (pe_glob (v := .ref fb) (by rfl) c_by_when.mg rfl) pk_nil)) pa_nil)) pa_nil))))))))), ?_⟩
    walk_at "rd"
    refine ⟨_, _, rfl, ha, h1, h12, hb, fun H1 s1 => ?_⟩
    have ha1 := s1 _ _ ha
    have hl1 := s1 _ _ hl
    have hT1 := hT.mono (Same.tups s1)
    walk_at "rd"
    refine ⟨_, _, _, _, true, rfl, .ty "list", .base (.lst hl1), kit_ty (by decide +kernel), ?_⟩
    walk_at "rd"
    have hlen := hT.length
    rw [List.length_map] at hlen
    have h60 := wf.len
    refine iteDN (fun e => by rw [List.length_map] at e; omega) ?_
    walk_at "rd"
    refine ⟨⟨_, SqL.of hl1⟩, ?_⟩
    refine for_list (K := K) (a := l) (xs := as.map V.ref) (fun i σ Hx => Hx = H1 ∧ ∃ v2 : Option V, σ = [some (.ref a), some (.ref l), v2]) ⟨rfl, _, rfl⟩ (fun i σ Hx _ h => ?_) ?_ ?_
    · obtain ⟨rfl, _⟩ := h
      exact SqL.of hl1
    · rintro i x σ Hx hi ⟨rfl, v2, rfl⟩
      obtain ⟨t, m, rfl, hm, ht⟩ := hT1.mem (List.mem_of_getElem? hi)
      walk_at "rd"
      refine ⟨_, _, rs.length, (by rw [List.length_map]; rfl), ht, wf.ok m hm, ?_⟩
      walk_at "rd"
      exact ⟨rfl, _, rfl⟩
    · rintro σ Hx ⟨rfl, v2, rfl⟩
      walk_at "rd"
      refine ⟨_, _, _, rfl, hl1, hT1, h60, wf.apart, fun H2 s2 => ?_⟩
      have s12 := s1.trans s2
      have ha2 := s12 _ _ ha
      have hl2 := s12 _ _ hl
      have hT2 := hT.mono (Same.tups s12)
      walk_at "rd"
      refine ⟨_, _, rfl, .inl ⟨SqL.of ha2, fun pr hpr => ?_⟩⟩
      have hpr3 : upd H2 pr (.tup (rs.map V.int)) pr = some (.tup (rs.map V.int)) := upd_same
      have s3 := s12.add (o := .tup (rs.map V.int)) hpr
      generalize upd H2 pr (.tup (rs.map V.int)) = H3 at hpr3 s3
      have hl3 := s3 _ _ hl
      have hT3 := hT.mono (Same.tups s3)
      walk_at "rd"
      refine ⟨⟨_, SqL.of hl3⟩, fun D hD => ?_⟩
      refine lc_list (K := K) (a := l) (xs := as.map V.ref) (fun i Hx => ∃ bs : List Addr, Same H3 Hx ∧ Hx D = some (.lst (bs.map V.ref)) ∧ TupsAt Hx bs ((ms.take i).map mtV))
        ⟨[], Same.new1 hD, upd_same, trivial⟩ (fun i Hx _ h => ?_) ?_ ?_
      · obtain ⟨bs, sx, _⟩ := h
        exact SqL.of (sx _ _ hl3)
      · rintro i x Hx hi ⟨bs, sx, hDx, hTx⟩
        rw [List.getElem?_map] at hi
        obtain ⟨t, ht, rfl⟩ := Option.map_eq_some_iff.mp hi
        obtain ⟨y, hy, hHt⟩ := (hT3.mono (Same.tups sx)).geta ht
        rw [List.getElem?_map] at hy
        obtain ⟨m, hm, rfl⟩ := Option.map_eq_some_iff.mp hy
        have hbl := hTx.length
        rw [List.length_map, List.length_take] at hbl
        refine ⟨rfl, ?_⟩
        walk_at "rd"
        refine ⟨_, _, rfl, hHt, (wf.ok m (List.mem_of_getElem? hm)).ab, fun p hp => ?_⟩
        have hD' := Same.new1 (o := .tup (mtV m)) hp _ _ hDx
        refine ⟨_, hD', by rw [List.length_map]; exact Nat.lt_of_le_of_lt (show bs.length ≤ 60 by omega) (by decide), bs ++ [p], (sx.add hp).mut hD, by rw [upd_same, List.map_append]; rfl, ?_⟩
        rw [List.take_succ, hm, List.map_append]
        refine (TupsAt.snoc ?_ ((hTx.mono (Tups.new (o := .tup (mtV m)) hp)))).mono (Tups.lst hD')
        exact upd_same
      · rintro Hx ⟨bs, sx, hDx, hTx⟩
        rw [List.length_map, hlen, List.take_length] at hTx
        walk_at "rd"
        refine ⟨D, bs.map V.ref, kfM Hx, 2, rfl, rfl, SqL.of hDx, by decide, fun v hv => ?_, fun ys p H5 hp hs s5 hn hp5 => ?_⟩
        · obtain ⟨t, m, rfl, hm, ht⟩ := hTx.mem hv
          refine ⟨⟨t, rfl⟩, by rw [kfM_of ht]; rfl, fun H' sm Q' q' => ⟨t, m, rfl, sm _ _ ht, fun p hp => ?_⟩⟩
          have z := q' p hp
          rw [kfM_of ht] at z
          exact z
        · have e : ys = bs.map V.ref := perm_strict (lt := fun x y => HT.lexLt (kfM Hx x) (kfM Hx y)) hp (pw_refs (fun a b x y h1 h2 h => by
            rw [kfM_of h1, kfM_of h2]
            exact before_lt h) hTx wf.srt) hs
          subst e
          walk_at "rd"
          refine ⟨_, _, rfl, .inl ⟨SqL.of hp5, fun pm hpm => ?_⟩⟩
          walk_at "rd"
          intro b hb
          have s6 := Same.new1 (o := .tup (bs.map V.ref)) hpm
          have s7 := s6.add (o := .tup [.ref pr, .ref pm]) hb
          exact q b _ ((s3.trans sx).trans (s5.trans s7)) ⟨pr, pm, upd_same, s7 _ _ (s5 _ _ (sx _ _ hpr3)), bs, Same.new1 hb _ _ upd_same, (hTx.mono (Same.tups s5)).mono (Same.tups s7)⟩
theorem er_next {ms : List Mt} {i j : Nat} {m : Mt} (h : ms[j]? = some m) : (ms.take (j + 1)).eraseIdx i = if j = i then (ms.take j).eraseIdx i else (ms.take j).eraseIdx i ++ [m] := by
  have hj : j < ms.length := (List.getElem?_eq_some_iff.mp h).1
  have hl : (ms.take j).length = j := by rw [List.length_take]; omega
  have e : ms.take (j + 1) = ms.take j ++ [m] := by rw [List.take_succ, h]; rfl
  rw [e]
  by_cases q : j = i
  · subst q
    have e1 : (ms.take j).eraseIdx j = ms.take j := List.eraseIdx_of_length_le (by omega)
    rw [if_pos rfl, List.eraseIdx_append_of_length_le (by omega), hl, Nat.sub_self, e1]
    exact List.append_nil _
  · rw [if_neg q]
    by_cases q2 : i < j
    · rw [List.eraseIdx_append_of_lt_length (by omega)]
    · rw [List.eraseIdx_of_length_le (by rw [List.length_append, hl]; show j + 1 ≤ i; omega), List.eraseIdx_of_length_le (by omega)]
def sp_without : Sp := fun vs H Q _ => ∃ (b : Addr) (rs : List Int) (ms : List Mt) (i : Nat), vs = [.ref b, .int i] ∧ BookAt H b rs ms ∧ 1 ≤ rs.length ∧ rs.length ≤ 12 ∧ (∀ r ∈ rs, 0 ≤ r ∧ r ≤ 99) ∧ WFm rs.length ms ∧ i < ms.length ∧ ∀ b' H', Same H H' → BookAt H' b' rs (ms.eraseIdx i) → Q (.ref b') H'
theorem ok_without (F : Fun K "without" "without" st_without f fd) (B : Bt mg) (c_need_meeting : Cl P w K mg base "need_meeting" 4 ["book", "meeting"] sp_needmeeting fi fdi) (c_made_book : Cl P w K mg base "made_book" 4 ["rooms", "meetings"] (sp_madebook K) fm fdm) :
    FnOk P w K mg base CX0 5 f fd ["book", "meeting"] sp_without := by
  refine F.ok sc_without (fun vs H Q E h => ?_) (fun cdv A outer s H vs Q E hr h => ?_)
  · obtain ⟨b, rs, ms, i, rfl, _⟩ := h
    rfl
  · obtain ⟨b, rs, ms, i, rfl, hB, h1, h12, hb99, wf, hi, q⟩ := h
    obtain ⟨pr, pm, hb, hpr, as, hpm, hT⟩ := id hB
    refine ⟨_, 
      (pss_cons (ps_expr (pe_cl c_need_meeting (hr.mono (by decide)) rfl (pa_cons (pv 0) (pa_cons (pv 1) pa_nil)))) 
      (pss_one (ps_ret (pe_cl c_made_book (hr.mono (by decide)) rfl (pa_cons (pe_callTy (list_K K (by rfl)) (by rfl) B.list bo_list (pa_cons (pe_ix (ix_tupK K (by rfl)) (pv 0) (pe_int) (fun _ _ => rfl)) pa_nil)) (pa_cons (pe_lc (own := [("at", 2), ("row", 3)]) (g := (gTup K 2 (gCons (gName 2) (gCons (gName 3) gNil)))) (by rfl) sc_without.nd (enumT_K K (by rfl) (by rfl) B.enumerate (pa_cons (pe_ix (ix_tupK K (by rfl)) (pv 0) (pe_int) (fun _ _ => rfl)) pa_nil)) (blkOk_by (N := N_without) (sc := defScope st_without) (by decide +kernel)) (fun _ _ _ _ _ => (tup_K K (by rfl) rfl (pgs_cons (pnm 2 sc_without.nd) (pgs_cons (pnm 3 sc_without.nd) pgs_nil)))) (fun _ _ _ _ _ => pts_one (pt_cmpR op_ne (pv 2) (pv 1) (nomark _))) (fun _ _ _ _ _ => (pv 3))) pa_nil)))))), ?_⟩
    walk_at "rd"
    refine ⟨b, rs, ms, i, rfl, hB, hi, ?_⟩
    walk_at "rd"
    intro l hl
    have s3 : Same H (upd H l (.lst (rs.map V.int))) := Same.new1 hl
    have hl3 : upd H l (.lst (rs.map V.int)) l = some (.lst (rs.map V.int)) := upd_same
    generalize upd H l (.lst (rs.map V.int)) = H3 at s3 hl3
    have hpm3 := s3 _ _ hpm
    have hb3 := s3 _ _ hb
    have hT3 := hT.mono (Same.tups s3)
    walk_at "rd"
    refine ⟨_, _, rfl, SqT.of hpm3, fun D hD => ?_⟩
    refine lc_it (walk_enumT (K := K) (a := pm) (xs := as.map V.ref)) (fun j Hx => ∃ bs : List Addr, Same H3 Hx ∧ Hx D = some (.lst (bs.map V.ref)) ∧ TupsAt Hx bs (((ms.take j).eraseIdx i).map mtV))
      ⟨[], Same.new1 hD, upd_same, trivial⟩ (fun j Hx _ h => ?_) ?_ ?_
    · obtain ⟨bs, sx, _⟩ := h
      exact SqT.of (sx _ _ hpm3)
    · rintro j x Hx H' hj ⟨bs, sx, hDx, hTx⟩ ⟨T, y, z, rfl, hT0, rfl, ey, ez⟩
      cases ey
      have ez' : (as.map V.ref)[j]? = some z := ez
      rw [List.getElem?_map] at ez'
      obtain ⟨t, ht, rfl⟩ := Option.map_eq_some_iff.mp ez'
      obtain ⟨u, hu, hHt⟩ := (hT3.mono (Same.tups sx)).geta ht
      rw [List.getElem?_map] at hu
      obtain ⟨m, hm, rfl⟩ := Option.map_eq_some_iff.mp hu
      have hbl := hTx.length
      rw [List.length_map] at hbl
      have hbl2 : bs.length ≤ 60 := by
        have h2 := List.length_eraseIdx_le (ms.take j) i
        rw [List.length_take] at h2
        have := wf.len
        omega
      have hD' := Same.new1 (o := .tup [.int (j : Nat), .ref t]) hT0 _ _ hDx
      have hTx' := hTx.mono (Tups.new (o := .tup [.int (j : Nat), .ref t]) hT0)
      have sx' := sx.add (o := .tup [.int (j : Nat), .ref t]) hT0
      refine ⟨_, _, rfl, SqT.of upd_same, rfl, _, _, rfl, _, _, rfl, rfl, rfl, ?_⟩
      walk_at "rd"
      refine ite2 (fun h => ?_) (fun h => ?_)
      · walk_at "rd"
        refine ⟨_, hD', by rw [List.length_map]; exact Nat.lt_of_le_of_lt hbl2 (by decide), bs ++ [t], sx'.mut hD, by rw [upd_same, List.map_append]; rfl, ?_⟩
        rw [er_next hm, if_neg (fun e => by rw [e] at h; simp at h), List.map_append]
        exact (TupsAt.snoc (Same.new1 hT0 _ _ hHt) hTx').mono (Tups.lst hD')
      · refine ⟨bs, sx', hD', ?_⟩
        rw [er_next hm, if_pos (by
          by_cases e : j = i
          · exact e
          · refine absurd ?_ h
            simp
            omega)]
        exact hTx'
    · rintro Hx ⟨bs, sx, hDx, hTx⟩
      have hlen := hT.length
      rw [List.length_map] at hlen
      rw [List.length_map, hlen, List.take_length] at hTx
      walk_at "rd"
      refine ⟨l, D, rs, bs, ms.eraseIdx i, rfl, sx _ _ hl3, h1, h12, hb99, hDx, hTx, wf.sub (List.eraseIdx_sublist _ _), fun b' H' s' hB' => ?_⟩
      exact q b' H' ((s3.trans sx).trans s') hB'
end
end Sm
set_option Elab.async false
set_option linter.all false
set_option maxRecDepth 100000
set_option maxHeartbeats 4000000
namespace Sm
open PySem L2
/-! ### rows in the heap -/
def opV : Option Int → V
  | none => .non
  | some i => .int i
def rowV (r : Row) : List V := r.map opV
theorem len_rowV (r : Row) : (rowV r).length = r.length := List.length_map ..
theorem opV_non {x : Option Int} : (opV x = V.non) ↔ x = none := by
  cases x with
  | none => exact ⟨fun _ => rfl, fun _ => rfl⟩
  | some i => exact ⟨fun h => (nomatch h), fun h => (nomatch h)⟩
theorem row_at {r : Row} {i : Nat} (h : i < r.length) : atI (rowV r) (i : Int) = some (opV (ga r i)) := by
  refine atI_nat ?_
  unfold rowV
  rw [List.getElem?_map, ga_at h]
  rfl
theorem row_ix {r : Row} {i : Nat} (h : i < r.length) : ixN (rowV r).length (i : Int) = some i := by
  unfold ixN
  rw [if_pos (by omega), if_pos (by rw [len_rowV]; omega)]
  simp
theorem row_set {r : Row} {i : Nat} (v : Option Int) : (rowV r).set i (opV v) = rowV (r.set i v) := by
  unfold rowV
  rw [List.map_set]
theorem row_rep (n : Nat) : List.replicate n V.non = rowV (List.replicate n none) := by
  unfold rowV
  rw [List.map_replicate]
  rfl
/-! ### the two ways of a meeting -/
def Way (m : Mt) (j g o : Nat) : Prop := (j = 0 ∧ g = m.a ∧ o = m.b) ∨ (j = 1 ∧ g = m.b ∧ o = m.a)
def half (m : Mt) (r : Row) : Nat → Row
  | 0 => r
  | 1 => step1 m.w m.a m.b r
  | _ => stepM r m
theorem half_next {m : Mt} {r : Row} {j g o : Nat} (h : Way m j g o) : half m r (j + 1) = step1 m.w g o (half m r j) := by
  rcases h with ⟨rfl, rfl, rfl⟩ | ⟨rfl, rfl, rfl⟩ <;> rfl
theorem step1_no {w : Int} {g o : Nat} {r : Row} (h : ¬ gives r w g o = true) : step1 w g o r = r := by
  unfold step1
  rw [if_neg h]
theorem step1_yes {w : Int} {g o : Nat} {r : Row} (h : gives r w g o = true) : step1 w g o r = r.set o (some w) := by
  unfold step1
  rw [if_pos h]
theorem filter_range (p : Nat → Bool) (i : Nat) : (List.range (i + 1)).filter p = (List.range i).filter p ++ if p i = true then [i] else [] := by
  rw [List.range_succ, List.filter_append]
  cases h : p i with
  | true => simp [h]
  | false => simp [h]
theorem len_filter_range (p : Nat → Bool) (i : Nat) : ((List.range i).filter p).length ≤ i := by
  have := List.length_filter_le p (List.range i)
  rw [List.length_range] at this
  exact this
theorem len_half (m : Mt) (r : Row) : ∀ j, (half m r j).length = r.length
  | 0 => rfl
  | 1 => len_step1 _ _ _ _
  | _ + 2 => len_stepM _ _
theorem Way.lt {n : Nat} {m : Mt} {j g o : Nat} (h : Way m j g o) (ok : MOk n m) : g < n ∧ o < n ∧ g ≠ o := by
  have h1 := ok.ab
  have h2 := ok.bn
  rcases h with ⟨rfl, rfl, rfl⟩ | ⟨rfl, rfl, rfl⟩ <;> omega
theorem ways_at {H : Hp} {m : Mt} {t1 t2 : Addr} (h1 : H t1 = some (.tup [.int m.a, .int m.b])) (h2 : H t2 = some (.tup [.int m.b, .int m.a])) {j : Nat} {x : V} (e : [V.ref t1, V.ref t2][j]? = some x) :
    ∃ (t : Addr) (g o : Nat), x = .ref t ∧ H t = some (.tup [.int g, .int o]) ∧ Way m j g o := by
  match j, e with
  | 0, e =>
    cases e
    exact ⟨t1, m.a, m.b, rfl, h1, .inl ⟨rfl, rfl, rfl⟩⟩
  | 1, e =>
    cases e
    exact ⟨t2, m.b, m.a, rfl, h2, .inr ⟨rfl, rfl, rfl⟩⟩
/-! ### the meeting by which each one's letter comes -/
structure ByOk (n : Nat) (ms : List Mt) (T B : Row) (i : Nat) : Prop where
  lT : T.length = n
  lB : B.length = n
  ok : ∀ w k, ga B w = some k → ∃ (j : Nat) (m : Mt) (o : Nat), k = j ∧ j < i ∧ ms[j]? = some m ∧ ga T w = some m.w ∧ ((w = m.a ∧ o = m.b) ∨ (w = m.b ∧ o = m.a)) ∧ ga T o ≠ none ∧ ∀ k', ga B o = some k' → k' < j
theorem ByOk.start {n : Nat} {ms : List Mt} {T : Row} (h : T.length = n) : ByOk n ms T (List.replicate n none) 0 := ⟨h, List.length_replicate .., fun w k e => by rw [ga_rep] at e; cases e⟩
theorem ByOk.up {n : Nat} {ms : List Mt} {T B : Row} {i : Nat} (x : ByOk n ms T B i) : ByOk n ms T B (i + 1) := ⟨x.lT, x.lB, fun w k e => by
  obtain ⟨j, m, o, h1, h2, h3⟩ := x.ok w k e
  exact ⟨j, m, o, h1, by omega, h3⟩⟩
theorem ByOk.step {n : Nat} {ms : List Mt} {T B : Row} {i j g o : Nat} {m : Mt} (x : ByOk n ms T B (i + 1)) (hm : ms[i]? = some m) (hw : Way m j g o) (hg : g < n) (ho : o < n) (hgo : g ≠ o) (hx : gives T m.w g o = true) :
    ByOk n ms (T.set o (some m.w)) (B.set o (some (i : Int))) (i + 1) := by
  have hT : o < T.length := by rw [x.lT]; exact ho
  have hB : o < B.length := by rw [x.lB]; exact ho
  obtain ⟨⟨t, ht, htw⟩, hn⟩ := gives_iff.mp hx
  refine ⟨by rw [List.length_set]; exact x.lT, by rw [List.length_set]; exact x.lB, fun w k e => ?_⟩
  rw [ga_set hB] at e
  by_cases q : w = o
  · rw [if_pos q] at e
    cases e
    refine ⟨i, m, g, rfl, Nat.lt_succ_self i, hm, by rw [ga_set hT, if_pos q], ?_, ?_, fun k' e' => ?_⟩
    · rw [q]
      rcases hw with ⟨_, h1, h2⟩ | ⟨_, h1, h2⟩
      · exact .inr ⟨h2, h1⟩
      · exact .inl ⟨h2, h1⟩
    · rw [ga_set hT, if_neg hgo, ht]
      exact fun z => nomatch z
    · rw [ga_set hB, if_neg hgo] at e'
      obtain ⟨j', m', o', h1, h2, h3, h4, h5⟩ := x.ok g k' e'
      by_cases q2 : j' = i
      · rw [q2, hm] at h3
        cases h3
        rw [ht] at h4
        cases h4
        omega
      · omega
  · rw [if_neg q] at e
    obtain ⟨j', m', o', h1, h2, h3, h4, h5, h6, h7⟩ := x.ok w k e
    have q3 : o' ≠ o := fun z => h6 (by rw [z]; exact hn)
    refine ⟨j', m', o', h1, h2, h3, by rw [ga_set hT, if_neg q]; exact h4, h5, by rw [ga_set hT, if_neg q3]; exact h6, fun k' e' => ?_⟩
    rw [ga_set hB, if_neg q3] at e'
    exact h7 k' e'
end Sm
set_option Elab.async false
set_option linter.all false
set_option maxRecDepth 100000
set_option maxHeartbeats 4000000
set_option pp.maxSteps 600
namespace Sm
open PySem L2
open C8 (tCut pss_cut)
local macro_rules | `(tactic| walk_at "rdc") => `(tactic| first
  | with_reducible assumption
  | exact (show flatV _ = true from rfl)
  | exact flat_ints _
  | exact Or.inr ⟨by decide, by decide⟩
  | exact Or.inl ⟨by decide, by decide⟩
  | exact Or.inl (mod_in _)
  | exact Or.inl ⟨by (try dsimp only); omega, by (try dsimp only); omega⟩
  | exact Or.inr ⟨by (try dsimp only); omega, by (try dsimp only); omega⟩
  | exact ⟨by decide, by decide, by decide⟩
  | exact ⟨by decide, by decide⟩
  | exact ⟨by omega, by omega⟩
  | decide
  | omega
  | (show (0 : Int) < _; decide)
  | exact Nat.le_of_ble_eq_true rfl)
local macro_rules | `(tactic| walk_at "rd1") => `(tactic| first
  | (refine ⟨_, rfl, ?_⟩)
  | (refine ⟨_, _, rfl, rfl, ?_⟩)
  | (refine And.intro (by walk_at "rdc") ?_)
  | (refine ⟨_, _, rfl, (by first | exact Or.inl (by assumption) | exact Or.inl (SqL.of (by assumption)) | exact Or.inr (SqT.of (by assumption))), ?_⟩)
  | (refine ⟨_, _, _, _, rfl, rfl, (by first | exact SqL.of (by assumption) | exact SqT.of (by assumption) | exact SqL.of upd_same | assumption), (by rfl), ?_⟩)
  | (refine ⟨_, _, _, _, rfl, rfl, (by first | assumption | exact upd_same), (by rfl), ?_⟩)
  | (refine ⟨rfl, _, rfl, ?_⟩))
local macro_rules | `(tactic| walk_at "rd") => `(tactic| repeat (walk_at "rd1"))
def sp_comings : Sp := fun vs H Q _ => ∃ (b : Addr) (rs : List Int) (ms : List Mt) (s : Nat) (t : Int), vs = [.ref b, .int s, .int t] ∧ BookAt H b rs ms ∧ WFm rs.length ms ∧ s < rs.length ∧ rs.length ≤ 12 ∧
  ∀ p pt pb H' B, Same H H' → H' p = some (.tup [.ref pt, .ref pb]) → H' pt = some (.lst (rowV (times rs.length ms s t))) → H' pb = some (.lst (rowV B)) → ByOk rs.length ms (times rs.length ms s t) B ms.length → Q (.ref p) H'
section
variable {P : Program} {w : World} {K : PySem.W.Frag} {mg : Str → Option Value} {base : Heap} {f fw fi fm fr fb fp : Addr} {fd fdw fdi fdm fdr fdb fdp : FuncData}
theorem ok_comings (F : Fun K "comings" "comings" st_comings f fd) (B : Bt mg) (c_both_ways : Cl P w K mg base "both_ways" 1 ["meeting"] sp_bothways fb fdb) : FnOk P w K mg base CX0 2 f fd ["book", "sender", "since"] sp_comings := by
  refine F.ok sc_comings (fun vs H Q E h => ?_) (fun cdv A outer s H vs Q E hr h => ?_)
  · obtain ⟨b, rs, ms, s, t, rfl, _⟩ := h
    rfl
  · obtain ⟨b, rs, ms, sd, t, rfl, ⟨pr, pm, hb, hpr, as, hpm, hT⟩, wf, hs, h12, q⟩ := h
    have hlen := hT.length
    rw [List.length_map] at hlen
    refine ⟨_, 
      (pss_cons (ps_setLc (i := 4) (own := [("room", 3)]) (g := (gName 3)) (tt := tYes) (by rfl) sc_comings.nd rfl rfl (sw_true rfl rfl rfl (by decide +kernel)) (pt_K K (by rfl) (pe_ix (ix_tupK K (by rfl)) (pv 0) (pe_int) (fun _ _ => rfl))) (blkOk_by (N := N_comings) (sc := defScope st_comings) (by decide +kernel)) (fun _ _ _ _ _ => (pnm 3 sc_comings.nd)) (fun _ _ _ _ _ => pts_nil) (fun _ _ _ _ _ => (pe_non))) 
      (pss_cons (ps_setLc (i := 5) (own := [("room", 3)]) (g := (gName 3)) (tt := tYes) (by rfl) sc_comings.nd rfl rfl (sw_true rfl rfl rfl (by decide +kernel)) (pt_K K (by rfl) (pe_ix (ix_tupK K (by rfl)) (pv 0) (pe_int) (fun _ _ => rfl))) (blkOk_by (N := N_comings) (sc := defScope st_comings) (by decide +kernel)) (fun _ _ _ _ _ => (pnm 3 sc_comings.nd)) (fun _ _ _ _ _ => pts_nil) (fun _ _ _ _ _ => (pe_non))) 
      (pss_cons (ps_asg (pv 2) (pg_sub (pv 4) (pv 1) set_list)) 
      (pss_cons (ps_for PassesOwn.never rfl (enumT_K K (by rfl) (by rfl) B.enumerate (pa_cons (pe_ix (ix_tupK K (by rfl)) (pv 0) (pe_int) (fun _ _ => rfl)) pa_nil)) (tup_K K (by rfl) rfl (pgs_cons (pnm 6 sc_comings.nd) (pgs_cons (pnm 7 sc_comings.nd) pgs_nil))) 
        (pss_one (ps_for PassesOwn.never rfl (pl_K K (by rfl) (pe_cl c_both_ways (hr.mono (by decide)) rfl (pa_cons (pv 7) pa_nil))) (tup_K K (by rfl) rfl (pgs_cons (pnm 8 sc_comings.nd) (pgs_cons (pnm 9 sc_comings.nd) pgs_nil))) 
          (pss_one (ps_if (PW.pt (pw_and (pt_cmpR op_isN (pe_ix (ix_listK K (by rfl)) (pv 4) (pv 9) (fun _ _ => rfl)) (pe_non) (nomark _)) (pw_and (pt_cmpR op_notN (pe_ix (ix_listK K (by rfl)) (pv 4) (pv 8) (fun _ _ => rfl)) (pe_non) (nomark _)) (pw_and1 (pt_cmpR op_lt (pe_ix (ix_listK K (by rfl)) (pv 4) (pv 8) (fun _ _ => rfl)) (pe_ix (ix_tupK K (by rfl)) (pv 7) (pe_int) (fun _ _ => rfl)) (nomark _)))))) 
            (pss_cons (ps_asg (pe_ix (ix_tupK K (by rfl)) (pv 7) (pe_int) (fun _ _ => rfl)) (pg_sub (pv 4) (pv 9) set_list)) 
            (pss_one (ps_asg (pv 6) (pg_sub (pv 5) (pv 9) set_list)))) pss_nil))))) 
      (pss_one (ps_ret (pe_tup (pa_cons (pv 4) (pa_cons (pv 5) pa_nil))))))))), ?_⟩
    walk_at "rd"
    refine ⟨⟨_, SqT.of hpr⟩, fun D hD => ?_⟩
    refine lc_it (walk_tup (K := K) (a := pr) (xs := rs.map V.int)) (fun i Hx => Same H Hx ∧ Hx D = some (.lst (List.replicate i V.non))) ⟨Same.new1 hD, upd_same⟩ (fun i Hx _ h => SqT.of (h.1 _ _ hpr)) ?_ ?_
    · rintro i x Hx H' hi ⟨sx, hDx⟩ ⟨rfl, hx⟩
      refine ⟨rfl, ?_⟩
      walk_at "rd"
      rw [List.length_map] at hi
      refine ⟨_, hDx, by rw [List.length_replicate]; exact Nat.lt_of_le_of_lt (show i ≤ 12 by omega) (by decide), sx.mut hD, by rw [upd_same, List.replicate_succ']⟩
    · rintro H1 ⟨s1, hD1⟩
      rw [List.length_map] at hD1
      have hpr1 := s1 _ _ hpr
      have hb1 := s1 _ _ hb
      walk_at "rd"
      refine ⟨⟨_, SqT.of hpr1⟩, fun C hC => ?_⟩
      refine lc_it (walk_tup (K := K) (a := pr) (xs := rs.map V.int)) (fun i Hx => Same H1 Hx ∧ Hx C = some (.lst (List.replicate i V.non))) ⟨Same.new1 hC, upd_same⟩ (fun i Hx _ h => SqT.of (h.1 _ _ hpr1)) ?_ ?_
      · rintro i x Hx H' hi ⟨sx, hDx⟩ ⟨rfl, hx⟩
        refine ⟨rfl, ?_⟩
        walk_at "rd"
        rw [List.length_map] at hi
        refine ⟨_, hDx, by rw [List.length_replicate]; exact Nat.lt_of_le_of_lt (show i ≤ 12 by omega) (by decide), sx.mut hC, by rw [upd_same, List.replicate_succ']⟩
      · rintro H2 ⟨s2, hC2⟩
        rw [List.length_map, row_rep] at hC2
        have hD2 := s2 _ _ hD1
        rw [row_rep] at hD2
        have hDC : D ≠ C := ne_of_none hD1 hC
        have s12 := s1.trans s2
        have hC0 : H C = none := Same.free s1 hC
        walk_at "rd"
        refine ⟨_, _, _, _, rfl, rfl, hD2, row_ix (by rw [List.length_replicate]; exact hs), ?_⟩
        have e0 : (rowV (List.replicate rs.length none)).set sd (.int t) = rowV (times rs.length (ms.take 0) sd t) := row_set (some t)
        rw [e0]
        have s3 : Same H (upd H2 D (.lst (rowV (times rs.length (ms.take 0) sd t)))) := s12.mut hD
        have hD3 : upd H2 D (.lst (rowV (times rs.length (ms.take 0) sd t))) D = some (.lst (rowV (times rs.length (ms.take 0) sd t))) := upd_same
        have hC3 : upd H2 D (.lst (rowV (times rs.length (ms.take 0) sd t))) C = some (.lst (rowV (List.replicate rs.length none))) := by rw [upd_ne hDC.symm]; exact hC2
        generalize upd H2 D (.lst (rowV (times rs.length (ms.take 0) sd t))) = H3 at s3 hD3 hC3
        have hb3 := s3 _ _ hb
        have hpm3 := s3 _ _ hpm
        walk_at "rd"
        refine ⟨_, _, rfl, SqT.of hpm3, ?_⟩
        refine for_enumT (K := K) (a := pm) (xs := as.map V.ref) (fun i σ Hx => ∃ (Bx : Row) (v6 v7 v8 v9 : Option V), Same H Hx ∧ Hx D = some (.lst (rowV (times rs.length (ms.take i) sd t))) ∧ Hx C = some (.lst (rowV Bx)) ∧ ByOk rs.length ms (times rs.length (ms.take i) sd t) Bx i ∧
          σ = [some (.ref b), some (.int sd), some (.int t), none, some (.ref D), some (.ref C), v6, v7, v8, v9]) ⟨_, _, _, _, _, s3, hD3, hC3, ByOk.start (len_times _ _ _ _), rfl⟩ (fun i σ Hx _ h => ?_) ?_ ?_
        · obtain ⟨_, _, _, _, _, sx, _⟩ := h
          exact SqT.of (sx _ _ hpm)
        · rintro i x σ Hx T hi ⟨Bx, v6, v7, v8, v9, sx, hDx, hCx, by_, rfl⟩ hT0
          rw [List.getElem?_map] at hi
          obtain ⟨tm, ht, rfl⟩ := Option.map_eq_some_iff.mp hi
          obtain ⟨y, hy, hHt⟩ := (hT.mono (Same.tups sx)).geta ht
          rw [List.getElem?_map] at hy
          obtain ⟨m, hm, rfl⟩ := Option.map_eq_some_iff.mp hy
          have ok := wf.ok m (List.mem_of_getElem? hm)
          have sxT := sx.add (o := .tup [.int (i : Nat), .ref tm]) hT0
          have hDT := Same.new1 (o := .tup [.int (i : Nat), .ref tm]) hT0 _ _ hDx
          have hCT := Same.new1 (o := .tup [.int (i : Nat), .ref tm]) hT0 _ _ hCx
          have hHT := Same.new1 (o := .tup [.int (i : Nat), .ref tm]) hT0 _ _ hHt
          refine ⟨_, _, rfl, SqT.of upd_same, rfl, _, _, rfl, _, _, rfl, rfl, ?_⟩
          walk_at "rd"
          refine ⟨_, _, rfl, hHT, fun l t1 t2 H4 s4 hl0 hl4 ht1 ht2 => ?_⟩
          have hD4 := s4 _ _ hDT
          have hC4 := s4 _ _ hCT
          have hH4 := s4 _ _ hHT
          have sx4 := sxT.trans s4
          have hlD : l ≠ D := (ne_of_none hDT hl0).symm
          have hlC : l ≠ C := (ne_of_none hCT hl0).symm
          walk_at "rd"
          refine ⟨⟨_, SqL.of hl4⟩, ?_⟩
          refine for_list (K := K) (a := l) (xs := [.ref t1, .ref t2]) (fun j σ Hy => ∃ (By : Row) (v8 v9 : Option V), Same H Hy ∧ Tups H4 Hy ∧ Hy l = some (.lst [.ref t1, .ref t2]) ∧ Hy D = some (.lst (rowV (half m (times rs.length (ms.take i) sd t) j))) ∧ Hy C = some (.lst (rowV By)) ∧
            ByOk rs.length ms (half m (times rs.length (ms.take i) sd t) j) By (i + 1) ∧ σ = [some (.ref b), some (.int sd), some (.int t), none, some (.ref D), some (.ref C), some (.int i), some (.ref tm), v8, v9])
            ⟨_, _, _, sx4, .refl _, hl4, hD4, hC4, by_.up, rfl⟩ (fun j σ Hy _ h => ?_) ?_ ?_
          · obtain ⟨_, _, _, _, _, h, _⟩ := h
            exact SqL.of h
          · rintro j x σ Hy hj ⟨By, u8, u9, sy, ty, hly, hDy, hCy, by2, rfl⟩
            obtain ⟨tw, g, o, rfl, htw, way⟩ := ways_at (ty _ _ ht1) (ty _ _ ht2) hj
            obtain ⟨hg, ho, hgo⟩ := way.lt ok
            have hmy := ty _ _ hH4
            have hlen2 := by2.lT
            refine ⟨_, _, rfl, SqT.of htw, rfl, _, _, rfl, _, _, rfl, rfl, ?_⟩
            walk_at "rd"
            refine ⟨_, _, _, _, rfl, rfl, SqL.of hDy, row_at (by rw [by2.lT]; exact ho), ?_⟩
            walk_at "rd"
            by_cases hx : gives (half m (times rs.length (ms.take i) sd t) j) m.w g o = true
            · obtain ⟨⟨u, eg, ul⟩, eo⟩ := gives_iff.mp hx
              rw [half_next way, step1_yes hx]
              have by3 := by2.step hm way hg ho hgo hx
              rw [eo]
              refine iteD rfl ?_
              walk_at "rd"
              refine ⟨_, _, _, _, rfl, rfl, SqL.of hDy, row_at (by rw [by2.lT]; exact hg), ?_⟩
              rw [eg]
              walk_at "rd"
              refine ⟨_, _, _, _, rfl, rfl, SqL.of hDy, row_at (by rw [by2.lT]; exact hg), ?_⟩
              rw [eg]
              walk_at "rd"
              refine iteD ul ?_
              walk_at "rd"
              refine ⟨_, _, _, _, rfl, rfl, hDy, row_ix (by rw [by2.lT]; exact ho), ?_⟩
              have e1 : (rowV (half m (times rs.length (ms.take i) sd t) j)).set o (.int m.w) = rowV ((half m (times rs.length (ms.take i) sd t) j).set o (some m.w)) := row_set (some m.w)
              rw [e1]
              walk_at "rd"
              have hCz : upd Hy D (.lst (rowV ((half m (times rs.length (ms.take i) sd t) j).set o (some m.w)))) C = some (.lst (rowV By)) := by rw [upd_ne hDC.symm]; exact hCy
              refine ⟨_, _, _, _, rfl, rfl, hCz, row_ix (by rw [by2.lB]; exact ho), ?_⟩
              have e2 : (rowV By).set o (.int (i : Int)) = rowV (By.set o (some (i : Int))) := row_set (some (i : Int))
              rw [e2]
              refine ⟨_, _, _, (sy.mut hD).mut hC0, (ty.trans (Tups.lst hDy)).trans (Tups.lst hCz), by rw [upd_ne hlC, upd_ne hlD]; exact hly, by rw [upd_ne hDC, upd_same], upd_same, by3, rfl⟩
            · have e1 := step1_no hx
              rw [half_next way, e1]
              cases eo : ga (half m (times rs.length (ms.take i) sd t) j) o with
              | some v =>
                refine iteDN (fun e => nomatch e) ?_
                exact ⟨_, _, _, sy, ty, hly, hDy, hCy, by2, rfl⟩
              | none =>
                refine iteD rfl ?_
                walk_at "rd"
                refine ⟨_, _, _, _, rfl, rfl, SqL.of hDy, row_at (by rw [by2.lT]; exact hg), ?_⟩
                cases eg : ga (half m (times rs.length (ms.take i) sd t) j) g with
                | none =>
                  walk_at "rd"
                  exact ⟨_, _, _, sy, ty, hly, hDy, hCy, by2, rfl⟩
                | some u =>
                  walk_at "rd"
                  refine ⟨_, _, _, _, rfl, rfl, SqL.of hDy, row_at (by rw [by2.lT]; exact hg), ?_⟩
                  rw [eg]
                  walk_at "rd"
                  refine iteDN (fun ul => hx (gives_iff.mpr ⟨⟨u, eg, ul⟩, eo⟩)) ?_
                  exact ⟨_, _, _, sy, ty, hly, hDy, hCy, by2, rfl⟩
          · rintro σ Hy ⟨By, u8, u9, sy, ty, hly, hDy, hCy, by2, rfl⟩
            have e : half m (times rs.length (ms.take i) sd t) 2 = times rs.length (ms.take (i + 1)) sd t := (times_take hm).symm
            have e2 : ([V.ref t1, V.ref t2] : List V).length = 2 := rfl
            rw [e2, e] at hDy by2
            exact ⟨_, _, _, _, _, sy, hDy, hCy, by2, rfl⟩
        · rintro σ Hx ⟨Bx, v6, v7, v8, v9, sx, hDx, hCx, by_, rfl⟩
          rw [List.length_map, hlen, List.take_length] at hDx by_
          walk_at "rd"
          intro p hp
          exact q p D C _ Bx (sx.add hp) upd_same (Same.new1 hp _ _ hDx) (Same.new1 hp _ _ hCx) by_
end
end Sm
set_option Elab.async false
set_option linter.all false
set_option maxRecDepth 100000
set_option maxHeartbeats 4000000
set_option pp.maxSteps 600
namespace Sm
open PySem L2
open C8 (tCut pss_cut)
local macro_rules | `(tactic| walk_at "rdc") => `(tactic| first
  | with_reducible assumption
  | exact (show flatV _ = true from rfl)
  | exact flat_ints _
  | exact Or.inr ⟨by decide, by decide⟩
  | exact Or.inl ⟨by decide, by decide⟩
  | exact Or.inl (mod_in _)
  | exact Or.inl ⟨by (try dsimp only); omega, by (try dsimp only); omega⟩
  | exact Or.inr ⟨by (try dsimp only); omega, by (try dsimp only); omega⟩
  | exact ⟨by decide, by decide, by decide⟩
  | exact ⟨by decide, by decide⟩
  | exact ⟨by omega, by omega⟩
  | decide
  | omega
  | (show (0 : Int) < _; decide)
  | exact Nat.le_of_ble_eq_true rfl)
local macro_rules | `(tactic| walk_at "rd1") => `(tactic| first
  | (refine ⟨_, rfl, ?_⟩)
  | (refine ⟨_, _, rfl, rfl, ?_⟩)
  | (refine And.intro (by walk_at "rdc") ?_)
  | (refine ⟨_, _, rfl, (by first | exact Or.inl (by assumption) | exact Or.inl (SqL.of (by assumption)) | exact Or.inr (SqT.of (by assumption))), ?_⟩)
  | (refine ⟨_, _, _, _, rfl, rfl, (by first | exact SqL.of (by assumption) | exact SqT.of (by assumption) | exact SqL.of upd_same | assumption), (by rfl), ?_⟩)
  | (refine ⟨_, _, _, _, rfl, rfl, (by first | assumption | exact upd_same), (by rfl), ?_⟩)
  | (refine ⟨rfl, _, rfl, ?_⟩))
local macro_rules | `(tactic| walk_at "rd") => `(tactic| repeat (walk_at "rd1"))
/-- how much longer a chain may get -/
def mu (B : Row) (w : Nat) : Nat := match ga B w with
  | none => 0
  | some k => k.toNat + 1
def sp_chain : Sp := fun vs H Q _ => ∃ (b y : Addr) (rs : List Int) (ms : List Mt) (T B : Row) (w : Nat), vs = [.ref b, .ref y, .int w] ∧ BookAt H b rs ms ∧ WFm rs.length ms ∧ H y = some (.lst (rowV B)) ∧ ByOk rs.length ms T B ms.length ∧ w < rs.length ∧
  ∀ p xs H', Same H H' → H' p = some (.lst xs) → Q (.ref p) H'
def sp_earliest : Sp := fun vs H Q _ => ∃ (b t : Addr) (rs : List Int) (ms : List Mt) (l : Lt), vs = [.ref b, .ref t] ∧ BookAt H b rs ms ∧ WFm rs.length ms ∧ rs.length ≤ 12 ∧ H t = some (.tup (ltV l)) ∧ l.s < rs.length ∧ l.d < rs.length ∧
  (comes rs.length ms l = false → ∀ H', Same H H' → Q .non H') ∧ (comes rs.length ms l = true → ∀ p H', Same H H' → Q (.ref p) H')
def sp_lost : Sp := fun vs H Q _ => ∃ (b t : Addr) (rs : List Int) (ms : List Mt) (ls : List Lt) (i : Nat), vs = [.ref b, .ref t, .int i] ∧ BookAt H b rs ms ∧ WFm rs.length ms ∧ 1 ≤ rs.length ∧ rs.length ≤ 12 ∧ (∀ r ∈ rs, 0 ≤ r ∧ r ≤ 99) ∧ LsAt H t ls ∧ ls.length ≤ 40 ∧ (∀ l ∈ ls, l.s < rs.length ∧ l.d < rs.length) ∧ i < ms.length ∧
  ∀ p H', Same H H' → H' p = some (.lst ((lostL rs.length ms (ms.eraseIdx i) ls).map fun k => V.int (k : Nat))) → Q (.ref p) H'
section
variable {P : Program} {w : World} {K : PySem.W.Frag} {mg : Str → Option Value} {base : Heap} {f fw fi fm fr fb fp : Addr} {fd fdw fdi fdm fdr fdb fdp : FuncData}
theorem ok_chain (F : Fun K "chain_by" "chain_by" st_chain_by f fd) : FnOk P w K mg base CX0 1 f fd ["book", "by", "walker"] sp_chain := by
  refine F.ok sc_chain_by (fun vs H Q E h => ?_) (fun cdv A outer s H vs Q E hr h => ?_)
  · obtain ⟨b, y, rs, ms, T, B, w, rfl, _⟩ := h
    rfl
  · obtain ⟨b, y, rs, ms, T, B, wk, rfl, ⟨pr, pm, hb, hpr, as, hpm, hT⟩, wf, hy, by_, hw, q⟩ := h
    have hlen := hT.length
    rw [List.length_map] at hlen
    have hmu : ∀ v, mu B v ≤ 60 := fun v => by
      unfold mu
      cases e : ga B v with
      | none => exact Nat.zero_le _
      | some k =>
        obtain ⟨j, m, o, h1, h2, _⟩ := by_.ok v k e
        have := wf.len
        show k.toNat + 1 ≤ 60
        omega
    refine ⟨_, 
      (pss_cons (pset 3 sc_chain_by.nd (pe_lst pa_nil)) 
      (pss_cons (ps_while PassesOwn.never (pt_cmpR op_notN (pe_ix (ix_listK K (by rfl)) (pv 1) (pv 2) (fun _ _ => rfl)) (pe_non) (nomark _)) 
        (pss_cons (pset 4 sc_chain_by.nd (pe_ix (ix_listK K (by rfl)) (pv 1) (pv 2) (fun _ _ => rfl))) 
        (pss_cons (ps_expr (pe_bm PySem.F.plainAttrs_list PySem.F.slot_list_append PySem.F.type_list_append mt_append (pv 3) (pa_cons (pv 4) pa_nil))) 
        (pss_one (pset 2 sc_chain_by.nd (pe_op op_sub (pe_op op_add (pe_ix (ix_tupK K (by rfl)) (pe_ix (ix_tupK K (by rfl)) (pe_ix (ix_tupK K (by rfl)) (pv 0) (pe_int) (fun _ _ => rfl)) (pv 4) (fun _ _ => rfl)) (pe_int) (fun _ _ => rfl)) (pe_ix (ix_tupK K (by rfl)) (pe_ix (ix_tupK K (by rfl)) (pe_ix (ix_tupK K (by rfl)) (pv 0) (pe_int) (fun _ _ => rfl)) (pv 4) (fun _ _ => rfl)) (pe_int) (fun _ _ => rfl))) (pv 2))))))) 
      (pss_one (ps_ret (pe_revL (pv 3)))))), ?_⟩
    walk_at "rd"
    intro D hD
    walk_at "rd"
    refine ⟨fun n σ Hx => ∃ (v : Nat) (xs : List V) (v4 : Option V), Same H Hx ∧ Hx D = some (.lst xs) ∧ v < rs.length ∧ n = mu B v ∧ xs.length + n ≤ 60 ∧ σ = [some (.ref b), some (.ref y), some (.int v), some (.ref D), v4],
      ⟨_, wk, [], _, Same.new1 hD, upd_same, hw, rfl, by have := hmu wk; show 0 + mu B wk ≤ 60; omega, rfl⟩, ?_⟩
    rintro n σ Hx ⟨v, xs, v4, sx, hDx, hv, rfl, hz, rfl⟩
    have hyx := sx _ _ hy
    have hbx := sx _ _ hb
    have hpmx := sx _ _ hpm
    walk_at "rd"
    refine ⟨_, _, _, _, rfl, rfl, SqL.of hyx, row_at (by rw [by_.lB]; exact hv), ?_⟩
    cases e : ga B v with
    | none =>
      walk_at "rd"
      exact ⟨_, _, rfl, SqL.of hDx, fun p hp => q p _ _ (sx.add hp) upd_same⟩
    | some k =>
      obtain ⟨j, m, o, rfl, h2, hm, h4, h5, h6, h7⟩ := by_.ok v k e
      have ok := wf.ok m (List.mem_of_getElem? hm)
      have h8 := ok.ab
      have h9 := ok.bn
      have emu : mu B v = j + 1 := by unfold mu; rw [e]; rfl
      have omu : mu B o ≤ j := by
        unfold mu
        cases e2 : ga B o with
        | none => exact Nat.zero_le _
        | some k' =>
          obtain ⟨j', _, _, z1, _⟩ := by_.ok o k' e2
          have := h7 k' e2
          show k'.toNat + 1 ≤ j
          omega
      obtain ⟨tm, htm, hmH⟩ := (hT.mono (Same.tups sx)).get (i := j) (x := mtV m) (by rw [List.getElem?_map, hm]; rfl)
      walk_at "rd"
      refine iteT ?_
      refine ⟨_, fun σ' H' h => h, ?_⟩
      walk_at "rd"
      refine ⟨_, _, _, _, rfl, rfl, SqL.of hyx, row_at (by rw [by_.lB]; exact hv), ?_⟩
      rw [e]
      walk_at "rd"
      refine ⟨.inl ⟨rfl, _, SqL.of hDx⟩, ?_⟩
      walk_at "rd"
      have k1 : Tups Hx (upd Hx D (.lst (xs ++ [.int (j : Int)]))) := Tups.lst hDx
      refine ⟨_, _, _, rfl, rfl, hDx, Nat.lt_of_le_of_lt (show xs.length ≤ 60 by omega) (by decide), ?_⟩
      have hb2 := k1 _ _ hbx
      have hpm2 := k1 _ _ hpmx
      have htm2 := k1 _ _ hmH
      walk_at "rd"
      refine ⟨_, _, _, _, rfl, rfl, SqT.of hpm2, atI_nat (by rw [List.getElem?_map, htm]; rfl), ?_⟩
      walk_at "rd"
      refine ⟨_, _, _, _, rfl, rfl, SqT.of hpm2, atI_nat (by rw [List.getElem?_map, htm]; rfl), ?_⟩
      walk_at "rd"
      have ho : (m.a : Int) + m.b - v = (o : Int) := by
        rcases h5 with ⟨z1, z2⟩ | ⟨z1, z2⟩ <;> omega
      refine ⟨mu B o, ?_, o, _, some (.int (j : Int)), sx.mut hD, upd_same, (by rcases h5 with ⟨z1, z2⟩ | ⟨z1, z2⟩ <;> omega), rfl, ?_, ?_⟩
      · omega
      · rw [List.length_append]
        show xs.length + 1 + mu B o ≤ 60
        omega
      · rw [← ho]
        rfl
theorem ok_earliest (F : Fun K "earliest" "earliest" st_earliest f fd) (c_comings : Cl P w K mg base "comings" 2 ["book", "sender", "since"] sp_comings fi fdi) (c_chain_by : Cl P w K mg base "chain_by" 1 ["book", "by", "walker"] sp_chain fb fdb) : FnOk P w K mg base CX0 3 f fd ["book", "letter"] sp_earliest := by
  refine F.ok sc_earliest (fun vs H Q E h => ?_) (fun cdv A outer s H vs Q E hr h => ?_)
  · obtain ⟨b, t, rs, ms, l, rfl, _⟩ := h
    rfl
  · obtain ⟨b, t, rs, ms, l, rfl, hB, wf, h12, ht, ls, ld, q0, q1⟩ := h
    refine ⟨_, 
      (pss_cons (ps_asg (pv 1) (tup_K K (by rfl) rfl (pgs_cons (pnm 2 sc_earliest.nd) (pgs_cons (pnm 3 sc_earliest.nd) (pgs_cons (pnm 4 sc_earliest.nd) (pgs_cons (pnm 5 sc_earliest.nd) pgs_nil)))))) 
      (pss_cons (ps_asg (pe_cl c_comings (hr.mono (by decide)) rfl (pa_cons (pv 0) (pa_cons (pv 2) (pa_cons (pv 3) pa_nil)))) (tup_K K (by rfl) rfl (pgs_cons (pnm 6 sc_earliest.nd) (pgs_cons (pnm 7 sc_earliest.nd) pgs_nil)))) 
      (pss_cons (ps_if (PW.pt (pw_or (pt_cmpR op_isN (pe_ix (ix_listK K (by rfl)) (pv 6) (pv 4) (fun _ _ => rfl)) (pe_non) (nomark _)) (pw_or1 (pt_cmpR op_gt (pe_ix (ix_listK K (by rfl)) (pv 6) (pv 4) (fun _ _ => rfl)) (pv 5) (nomark _))))) 
        (pss_one (ps_ret (pe_non))) pss_nil) 
      (pss_one (ps_ret (pe_cl c_chain_by (hr.mono (by decide)) rfl (pa_cons (pv 0) (pa_cons (pv 7) (pa_cons (pv 4) pa_nil))))))))), ?_⟩
    walk_at "rd"
    refine ⟨_, _, rfl, SqT.of ht, rfl, _, _, rfl, _, _, rfl, _, _, rfl, _, _, rfl, rfl, ?_⟩
    walk_at "rd"
    refine ⟨b, rs, ms, l.s, l.t, rfl, hB, wf, ls, h12, fun p pt pb H1 By s1 hp hpt hpb by_ => ?_⟩
    refine ⟨_, _, rfl, SqT.of hp, rfl, _, _, rfl, _, _, rfl, rfl, ?_⟩
    walk_at "rd"
    have ld' : l.d < (times rs.length ms l.s l.t).length := by rw [len_times]; exact ld
    refine ⟨_, _, _, _, rfl, rfl, SqL.of hpt, row_at ld', ?_⟩
    cases e : ga (times rs.length ms l.s l.t) l.d with
    | none =>
      have c : comes rs.length ms l = false := by unfold comes comesR; rw [e]
      walk_at "rd"
      exact q0 c _ s1
    | some u =>
      walk_at "rd"
      refine ⟨_, _, _, _, rfl, rfl, SqL.of hpt, row_at ld', ?_⟩
      rw [e]
      walk_at "rd"
      refine ite2 (fun h => ?_) (fun h => ?_)
      · have h' := of_decide_eq_true h
        have c : comes rs.length ms l = false := by unfold comes comesR; rw [e]; exact decide_eq_false (by omega)
        walk_at "rd"
        exact q0 c _ s1
      · have h' : ¬ l.e < u := fun z => h (decide_eq_true z)
        have c : comes rs.length ms l = true := by unfold comes comesR; rw [e]; exact decide_eq_true (by omega)
        walk_at "rd"
        exact ⟨b, pb, rs, ms, _, By, l.d, rfl, hB.mono (Same.tups s1), wf, hpb, by_, ld, fun p xs H2 s2 _ => q1 c p _ (s1.trans s2)⟩
theorem ok_lost (F : Fun K "lost" "lost" st_lost f fd) (B : Bt mg) (c_without : Cl P w K mg base "without" 5 ["book", "meeting"] sp_without fw fdw) (c_earliest : Cl P w K mg base "earliest" 3 ["book", "letter"] sp_earliest fi fdi) : FnOk P w K mg base CX0 6 f fd ["book", "letters", "meeting"] sp_lost := by
  refine F.ok sc_lost (fun vs H Q E h => ?_) (fun cdv A outer s H vs Q E hr h => ?_)
  · obtain ⟨b, t, rs, ms, ls, i, rfl, _⟩ := h
    rfl
  · obtain ⟨b, t, rs, ms, ls, at_, rfl, hB, wf, h1, h12, hr99, ⟨as, ht, hT⟩, l40, hls, hi, q⟩ := h
    have hlen := hT.length
    rw [List.length_map] at hlen
    refine ⟨_, 
      (pss_cons (pset 3 sc_lost.nd (pe_cl c_without (hr.mono (by decide)) rfl (pa_cons (pv 0) (pa_cons (pv 2) pa_nil)))) 
      (pss_cons (pset 4 sc_lost.nd (pe_lst pa_nil)) 
      (pss_cons (ps_for PassesOwn.never rfl (enum_K K (by rfl) (by rfl) B.enumerate (pa_cons (pv 1) pa_nil)) (tup_K K (by rfl) rfl (pgs_cons (pnm 5 sc_lost.nd) (pgs_cons (pnm 6 sc_lost.nd) pgs_nil))) 
        (pss_one (ps_if (PW.pt (pw_and (pt_cmpR op_notN (pe_cl c_earliest (hr.mono (by decide)) rfl (pa_cons (pv 0) (pa_cons (pv 6) pa_nil))) (pe_non) (nomark _)) (pw_and1 (pt_cmpR op_isN (pe_cl c_earliest (hr.mono (by decide)) rfl (pa_cons (pv 3) (pa_cons (pv 6) pa_nil))) (pe_non) (nomark _))))) 
          (pss_one (ps_expr (pe_bm PySem.F.plainAttrs_list PySem.F.slot_list_append PySem.F.type_list_append mt_append (pv 4) (pa_cons (pv 5) pa_nil)))) pss_nil))) 
      (pss_one (ps_ret (pv 4)))))), ?_⟩
    walk_at "rd"
    refine ⟨b, rs, ms, at_, rfl, hB, h1, h12, hr99, wf, hi, fun b' H1 s1 hB' => ?_⟩
    walk_at "rd"
    intro D hD
    have s2 : Same H (upd H1 D (.lst [])) := s1.add hD
    have hD2 : upd H1 D (.lst []) D = some (.lst []) := upd_same
    have hB2 := hB'.mono (Same.tups (Same.new1 (o := .lst []) hD))
    have hD0 := Same.free s1 hD
    generalize upd H1 D (.lst []) = H2 at s2 hD2 hB2
    have ht2 := s2 _ _ ht
    walk_at "rd"
    refine ⟨_, _, rfl, SqL.of ht2, ?_⟩
    refine for_it (walk_enum (K := K) (a := t) (xs := as.map V.ref)) (fun i σ Hx => ∃ (v5 v6 : Option V), Same H Hx ∧ Tups H2 Hx ∧ Hx D = some (.lst (((List.range i).filter fun k => (ls[k]?).any fun l => comes rs.length ms l && !comes rs.length (ms.eraseIdx at_) l).map fun k => V.int (k : Nat))) ∧
      σ = [some (.ref b), some (.ref t), some (.int at_), some (.ref b'), some (.ref D), v5, v6]) ⟨_, _, s2, .refl _, hD2, rfl⟩ (fun i σ Hx _ h => ?_) ?_ ?_
    · obtain ⟨_, _, sx, _⟩ := h
      exact SqL.of (sx _ _ ht)
    · rintro i x σ Hx H' hil ⟨v5, v6, sx, tx, hDx, rfl⟩ ⟨T, y, z, rfl, hT0, rfl, ey, ez⟩
      cases ey
      have ez' : (as.map V.ref)[i]? = some z := ez
      rw [List.getElem?_map] at ez'
      obtain ⟨tl, htl, rfl⟩ := Option.map_eq_some_iff.mp ez'
      have sxT := sx.add (o := .tup [.int (i : Nat), .ref tl]) hT0
      have txT := tx.trans (Tups.new (o := .tup [.int (i : Nat), .ref tl]) hT0)
      have hDT := Same.new1 (o := .tup [.int (i : Nat), .ref tl]) hT0 _ _ hDx
      obtain ⟨y, hy, hHt⟩ := (hT.mono (Same.tups sxT)).geta htl
      rw [List.getElem?_map] at hy
      obtain ⟨l, hl, rfl⟩ := Option.map_eq_some_iff.mp hy
      obtain ⟨z1, z2⟩ := hls l (List.mem_of_getElem? hl)
      refine ⟨_, _, rfl, SqT.of upd_same, rfl, _, _, rfl, _, _, rfl, rfl, ?_⟩
      have eR : ((List.range (i + 1)).filter fun k => (ls[k]?).any fun l => comes rs.length ms l && !comes rs.length (ms.eraseIdx at_) l) =
          ((List.range i).filter fun k => (ls[k]?).any fun l => comes rs.length ms l && !comes rs.length (ms.eraseIdx at_) l) ++ (if comes rs.length ms l && !comes rs.length (ms.eraseIdx at_) l then [i] else []) := by
        rw [filter_range, hl]
        rfl
      generalize upd Hx T (.tup [.int (i : Nat), .ref tl]) = H4 at sxT txT hDT hHt
      walk_at "rd"
      have hl40 := len_filter_range (fun k => (ls[k]?).any fun l => comes rs.length ms l && !comes rs.length (ms.eraseIdx at_) l) i
      rw [List.length_map] at hil
      rw [eR]
      generalize ((List.range i).filter fun k => (ls[k]?).any fun l => comes rs.length ms l && !comes rs.length (ms.eraseIdx at_) l) = acc at hDT hl40
      refine ⟨b, tl, rs, ms, l, rfl, hB.mono (Same.tups sxT), wf, h12, hHt, z1, z2, fun c H5 s5 => ?_, fun c p5 H5 s5 => ?_⟩
      · walk_at "rd"
        exact ⟨_, _, sxT.trans s5, txT.trans (Same.tups s5), by rw [c]; simpa using s5 _ _ hDT, rfl⟩
      · have hHt5 := s5 _ _ hHt
        walk_at "rd"
        refine ⟨b', tl, rs, ms.eraseIdx at_, l, rfl, hB2.mono (txT.trans (Same.tups s5)), wf.sub (List.eraseIdx_sublist _ _), h12, hHt5, z1, z2, fun c6 H6 s6 => ?_, fun c6 p6 H6 s6 => ?_⟩
        · have hD6 := s6 _ _ (s5 _ _ hDT)
          walk_at "rd"
          refine ⟨.inl ⟨rfl, _, SqL.of hD6⟩, ?_⟩
          walk_at "rd"
          refine ⟨_, _, _, rfl, rfl, hD6, by rw [List.length_map]; exact Nat.lt_of_le_of_lt (show acc.length ≤ 40 by omega) (by decide), ?_⟩
          refine ⟨_, _, ((sxT.trans s5).trans s6).mut hD0, ((txT.trans (Same.tups s5)).trans (Same.tups s6)).trans (Tups.lst hD6), ?_, rfl⟩
          rw [c, c6, upd_same]
          simp
        · walk_at "rd"
          exact ⟨_, _, (sxT.trans s5).trans s6, (txT.trans (Same.tups s5)).trans (Same.tups s6), by rw [c, c6]; simpa using s6 _ _ (s5 _ _ hDT), rfl⟩
    · rintro σ Hx ⟨v5, v6, sx, tx, hDx, rfl⟩
      rw [List.length_map, hlen] at hDx
      walk_at "rd"
      exact q D Hx sx hDx
end
end Sm
set_option Elab.async false
set_option linter.all false
set_option maxRecDepth 100000
set_option maxHeartbeats 4000000
set_option pp.maxSteps 600
namespace Sm
open PySem L2
open C8 (tCut pss_cut)
local macro_rules | `(tactic| walk_at "rdc") => `(tactic| first
  | with_reducible assumption
  | exact (show flatV _ = true from rfl)
  | exact flat_ints _
  | exact Or.inr ⟨by decide, by decide⟩
  | exact Or.inl ⟨by decide, by decide⟩
  | exact Or.inl (mod_in _)
  | exact Or.inl ⟨by (try dsimp only); omega, by (try dsimp only); omega⟩
  | exact Or.inr ⟨by (try dsimp only); omega, by (try dsimp only); omega⟩
  | exact ⟨by decide, by decide, by decide⟩
  | exact ⟨by decide, by decide⟩
  | exact ⟨by omega, by omega⟩
  | decide
  | omega
  | (show (0 : Int) < _; decide)
  | exact Nat.le_of_ble_eq_true rfl)
local macro_rules | `(tactic| walk_at "rd1") => `(tactic| first
  | (refine ⟨_, rfl, ?_⟩)
  | (refine ⟨_, _, rfl, rfl, ?_⟩)
  | (refine And.intro (by walk_at "rdc") ?_)
  | (refine ⟨_, _, rfl, (by first | exact Or.inl (by assumption) | exact Or.inl (SqL.of (by assumption)) | exact Or.inr (SqT.of (by assumption))), ?_⟩)
  | (refine ⟨_, _, _, _, rfl, rfl, (by first | exact SqL.of (by assumption) | exact SqT.of (by assumption) | exact SqL.of upd_same | assumption), (by rfl), ?_⟩)
  | (refine ⟨_, _, _, _, rfl, rfl, (by first | assumption | exact upd_same), (by rfl), ?_⟩)
  | (refine ⟨rfl, _, rfl, ?_⟩))
local macro_rules | `(tactic| walk_at "rd") => `(tactic| repeat (walk_at "rd1"))
/-- a list of lists of so many ints, as many as these -/
def Met (H : Hp) (pm : Addr) (n : Nat) : Prop := ∃ as : List Addr, H pm = some (.lst (as.map V.ref)) ∧ as.length = n ∧ ∀ a ∈ as, ∃ is : List Int, is.length = n ∧ H a = some (.lst (is.map V.int))
theorem Met.mono {H H' : Hp} {pm : Addr} {n : Nat} (s : Same H H') (h : Met H pm n) : Met H' pm n := by
  obtain ⟨as, h1, h2, h3⟩ := h
  refine ⟨as, s _ _ h1, h2, fun a ha => ?_⟩
  obtain ⟨is, i1, i2⟩ := h3 a ha
  exact ⟨is, i1, s _ _ i2⟩
def NewMet (H Hx : Hp) (as : List Addr) (n : Nat) : Prop := ∀ a ∈ as, H a = none ∧ ∃ is : List Int, is.length = n ∧ Hx a = some (.lst (is.map V.int))
theorem NewMet.upd {H Hx : Hp} {as : List Addr} {n : Nat} (h : NewMet H Hx as n) {a : Addr} {is : List Int} (hi : is.length = n) : NewMet H (L2.upd Hx a (.lst (is.map V.int))) as n := by
  intro b hb
  obtain ⟨h1, js, h2, h3⟩ := h b hb
  refine ⟨h1, ?_⟩
  by_cases e : b = a
  · exact ⟨is, hi, by rw [e, upd_same]⟩
  · exact ⟨js, h2, by rw [upd_ne e]; exact h3⟩
theorem NewMet.mut {H Hx : Hp} {as : List Addr} {n : Nat} (h : NewMet H Hx as n) {c : Addr} {o : HO} (hc : c ∉ as) : NewMet H (L2.upd Hx c o) as n := by
  intro b hb
  obtain ⟨h1, js, h2, h3⟩ := h b hb
  exact ⟨h1, js, h2, by rw [upd_ne (fun e => hc (by rw [← e]; exact hb))]; exact h3⟩
theorem NewMet.same {H Hx Hy : Hp} {as : List Addr} {n : Nat} (h : NewMet H Hx as n) (s : Same Hx Hy) : NewMet H Hy as n := by
  intro b hb
  obtain ⟨h1, js, h2, h3⟩ := h b hb
  exact ⟨h1, js, h2, s _ _ h3⟩
theorem NewMet.snoc {H Hx : Hp} {as : List Addr} {n : Nat} (h : NewMet H Hx as n) {a : Addr} {is : List Int} (h0 : H a = none) (hi : is.length = n) (ha : Hx a = some (.lst (is.map V.int))) : NewMet H Hx (as ++ [a]) n := by
  intro b hb
  rcases List.mem_append.mp hb with q | q
  · exact h b q
  · rw [List.mem_singleton.mp q]
    exact ⟨h0, is, hi, ha⟩
theorem NewMet.at {H Hx : Hp} {as : List Addr} {n : Nat} (h : NewMet H Hx as n) {i : Nat} (hi : i < as.length) : ∃ a is, as[i]? = some a ∧ H a = none ∧ (is : List Int).length = n ∧ Hx a = some (.lst (is.map V.int)) := by
  obtain ⟨h1, is, h2, h3⟩ := h as[i] (List.getElem_mem hi)
  exact ⟨_, is, List.getElem?_eq_getElem hi, h1, h2, h3⟩
theorem int_set (is : List Int) (j : Nat) (v : Int) : (is.map V.int).set j (.int v) = (is.set j v).map V.int := by rw [List.map_set]
theorem int_rep (n : Nat) (v : Int) : List.replicate n (V.int v) = (List.replicate n v).map V.int := by rw [List.map_replicate]
theorem int_at {is : List Int} {j : Nat} (h : j < is.length) : atI (is.map V.int) (j : Int) = some (.int is[j]) := atI_nat (by rw [List.getElem?_map, List.getElem?_eq_getElem h]; rfl)
theorem int_ix {is : List Int} {j : Nat} (h : j < is.length) : ixN (is.map V.int).length (j : Int) = some j := by
  unfold ixN
  rw [if_pos (by omega), if_pos (by rw [List.length_map]; omega)]
  simp
abbrev RAt := Hp → Addr → Rl → Nat → Prop
def raA (C : Addr) : RAt := fun H x R n => R = .all ∧ ∃ dx, H x = some (.ins C dx [])
def raH (C : Addr) : RAt := fun H x R n => ∃ k dx, R = .halves k ∧ 1 ≤ k ∧ k ≤ 64 ∧ H x = some (.ins C dx [("tokens", .int k)])
def raN (C : Addr) : RAt := fun H x R n => R = .nearer ∧ ∃ dx pm, H x = some (.ins C dx [("met", .ref pm)]) ∧ Met H pm n
structure RuleI (RA : RAt) (C : Addr) : Prop where
  mono : ∀ {H H' x R n}, Same H H' → RA H x R n → RA H' x R n
  ins : ∀ {H x R n}, RA H x R n → ∃ dx fs, H x = some (.ins C dx fs) ∧ fs.lookup ("share" : Str) = none ∧ fs.lookup ("at_first" : Str) = none ∧ fs.lookup ("goes_with" : Str) = none
  half : ∀ {H x R n}, RA H x R n → ∀ f, R = .halves f → 1 ≤ f
theorem ri_A (C : Addr) : RuleI (raA C) C where
  mono := fun s ⟨e, dx, h⟩ => ⟨e, dx, s _ _ h⟩
  ins := fun ⟨e, dx, h⟩ => ⟨dx, _, h, rfl, rfl, rfl⟩
  half := fun ⟨e, _⟩ f h => by rw [e] at h; cases h
theorem ri_H (C : Addr) : RuleI (raH C) C where
  mono := fun s ⟨k, dx, e, h1, h2, h⟩ => ⟨k, dx, e, h1, h2, s _ _ h⟩
  ins := fun ⟨k, dx, e, h1, h2, h⟩ => ⟨dx, _, h, rfl, rfl, rfl⟩
  half := fun ⟨k, dx, e, h1, h2, h⟩ f q => by rw [e] at q; cases q; exact h1
theorem ri_N (C : Addr) : RuleI (raN C) C where
  mono := fun s ⟨e, dx, pm, h, m⟩ => ⟨e, dx, pm, s _ _ h, m.mono s⟩
  ins := fun ⟨e, dx, pm, h, m⟩ => ⟨dx, _, h, rfl, rfl, rfl⟩
  half := fun ⟨e, _⟩ f h => by rw [e] at h; cases h
theorem RuleI.first {RA : RAt} {C : Addr} (r : RuleI RA C) {H : Hp} {x : Addr} {R : Rl} {n : Nat} (h : RA H x R n) : 0 ≤ R.first := by
  cases e : R with
  | all => exact Int.le_refl _
  | nearer => exact Int.le_refl _
  | halves k =>
    have := r.half h k e
    show 0 ≤ k
    omega
/-! ### what the methods promise -/
def sp_atfirst (RA : RAt) : Sp := fun vs H Q _ => ∃ x R n, vs = [.ref x] ∧ RA H x R n ∧ Q (.int R.first) H
def sp_share (RA : RAt) : Sp := fun vs H Q _ => ∃ x R n tl l g o u, vs = [.ref x, .ref tl, .int (g : Nat), .int (o : Nat), .int u] ∧ RA H x R n ∧ H tl = some (.tup (ltV l)) ∧ g < n ∧ o < n ∧ l.d < n ∧ (∀ k, R.may l o u k → Q (.int k) H) ∧ (R ≠ .all → Q .non H)
def sp_goes (RA : RAt) : Sp := fun vs H Q _ => ∃ x R b rs ms, vs = [.ref x, .ref b] ∧ RA H x R (List.length rs) ∧ BookAt H b rs ms ∧ Q (.bl true) H
def sp_hinit (C : Addr) : Sp := fun vs H Q _ => ∃ (x dx : Addr) (k : Int), vs = [.ref x, .int k] ∧ H x = some (.ins C dx []) ∧ 1 ≤ k ∧ k ≤ 64 ∧ Q .non (upd H x (.ins C dx [("tokens", .int k)]))
def sp_counts : Sp := fun vs H Q _ => ∃ b rs ms, vs = [.ref b] ∧ BookAt H b rs ms ∧ WFm (List.length rs) ms ∧ 1 ≤ rs.length ∧ rs.length ≤ 12 ∧ ∀ pm H', Same H H' → Met H' pm rs.length → H pm = none → Q (.ref pm) H'
def sp_ninit (C : Addr) : Sp := fun vs H Q _ => ∃ (x dx b : Addr) (rs : List Int) (ms : List Mt), vs = [.ref x, .ref b] ∧ H x = some (.ins C dx []) ∧ BookAt H b rs ms ∧ WFm rs.length ms ∧ 1 ≤ rs.length ∧ rs.length ≤ 12 ∧
  ∀ pm H', Same H H' → Met H' pm rs.length → Q .non (upd H' x (.ins C dx [("met", .ref pm)]))
section
variable {P : Program} {w : World} {K : PySem.W.Frag} {mg : Str → Option Value} {base : Heap} {f fw fi fm fr fb fp C : Addr} {fd fdw fdi fdm fdr fdb fdp : FuncData}
theorem ok_ruleFirst (F : Fun K "at_first" "Rule.at_first" st_Rule_at_first f fd) : FnOk P w K mg base CX0 1 f fd ["self"] (fun vs H Q _ => ∃ x, vs = [.ref x] ∧ Q (.int 0) H) := by
  refine F.ok sc_Rule_at_first (fun vs H Q E h => ?_) (fun cdv A outer s H vs Q E hr h => ?_)
  · obtain ⟨x, rfl, _⟩ := h
    rfl
  · obtain ⟨x, rfl, q⟩ := h
    refine ⟨_, 
      (pss_one (ps_ret (pe_int))), ?_⟩
    walk_at "rd"
    exact q
theorem ok_ruleGoes (F : Fun K "goes_with" "Rule.goes_with" st_Rule_goes_with f fd) : FnOk P w K mg base CX0 1 f fd ["self", "book"] (fun vs H Q _ => ∃ x b, vs = [.ref x, .ref b] ∧ Q (.bl true) H) := by
  refine F.ok sc_Rule_goes_with (fun vs H Q E h => ?_) (fun cdv A outer s H vs Q E hr h => ?_)
  · obtain ⟨x, b, rfl, _⟩ := h
    rfl
  · obtain ⟨x, b, rfl, q⟩ := h
    refine ⟨_, 
      (pss_one (ps_ret (pe_bl))), ?_⟩
    walk_at "rd"
    exact q
theorem ok_allShare (F : Fun K "share" "AllMet.share" st_AllMet_share f fd) : FnOk P w K mg base CX0 1 f fd ["self", "letter", "giver", "other", "tokens"] (sp_share (raA C)) := by
  refine F.ok sc_AllMet_share (fun vs H Q E h => ?_) (fun cdv A outer s H vs Q E hr h => ?_)
  · obtain ⟨x, R, n, tl, l, g, o, u, rfl, _⟩ := h
    rfl
  · obtain ⟨x, R, n, tl, l, g, o, u, rfl, ⟨rfl, hx⟩, hl, hg, ho, hd, q, _⟩ := h
    refine ⟨_, 
      (pss_one (ps_ret (pe_int))), ?_⟩
    walk_at "rd"
    exact q 0 rfl
theorem ok_halfFirst (F : Fun K "at_first" "Halves.at_first" st_Halves_at_first f fd) (hC : Cls K C) (hN : NoAttr K C "tokens") : FnOk P w K mg base CX0 1 f fd ["self"] (sp_atfirst (raH C)) := by
  refine F.ok sc_Halves_at_first (fun vs H Q E h => ?_) (fun cdv A outer s H vs Q E hr h => ?_)
  · obtain ⟨x, R, n, rfl, _⟩ := h
    rfl
  · obtain ⟨x, R, n, rfl, ⟨k, dx, rfl, h1, h2, hx⟩, q⟩ := h
    refine ⟨_, 
      (pss_one (ps_ret (fld_K K (by rfl) (pv 0) rfl))), ?_⟩
    walk_at "rd"
    exact ⟨_, _, _, _, _, rfl, hx, hC, hN, rfl, q⟩
theorem ok_halfShare (F : Fun K "share" "Halves.share" st_Halves_share f fd) : FnOk P w K mg base CX0 1 f fd ["self", "letter", "giver", "other", "tokens"] (sp_share (raH C)) := by
  refine F.ok sc_Halves_share (fun vs H Q E h => ?_) (fun cdv A outer s H vs Q E hr h => ?_)
  · obtain ⟨x, R, n, tl, l, g, o, u, rfl, _⟩ := h
    rfl
  · obtain ⟨x, R, n, tl, l, g, o, u, rfl, ⟨k, dx, rfl, h1, h2, hx⟩, hl, hg, ho, hd, q, q2⟩ := h
    refine ⟨_, 
      (pss_cons (ps_if (pt_cmpR op_eq (pv 3) (pe_ix (ix_tupK K (by rfl)) (pv 1) (pe_int) (fun _ _ => rfl)) (nomark _)) 
        (pss_one (ps_ret (pe_int))) pss_nil) 
      (pss_cons (ps_if (pt_cmpR op_lt (pv 4) (pe_int) (nomark _)) 
        (pss_one (ps_ret (pe_non))) pss_nil) 
      (pss_one (ps_ret (pe_op op_fdiv (pv 4) (pe_int)))))), ?_⟩
    walk_at "rd"
    refine ite2 (fun h => ?_) (fun h => ?_)
    · have e : V.int (o : Int) = V.int (l.d : Int) := of_decide_eq_true h
      have e' := V.int.inj e
      walk_at "rd"
      exact q 0 (.inl ⟨by omega, rfl⟩)
    · have e : ¬ V.int (o : Int) = V.int (l.d : Int) := fun z => h (decide_eq_true z)
      have e' : o ≠ l.d := fun z => e (by rw [z])
      walk_at "rd"
      refine ite2 (fun h => ?_) (fun h => ?_)
      · walk_at "rd"
        exact q2 (fun z => nomatch z)
      · have h' : ¬ u < 2 := fun z => h (decide_eq_true z)
        walk_at "rd"
        exact q _ (.inr ⟨e', by omega, rfl⟩)
theorem ok_halfInit (F : Fun K "__init__" "Halves.__init__" st_Halves_init f fd) (B : Bt mg) (G : Gk mg) (hC : Cls K C) (hN : NoAttr K C "tokens") (c_is_within : Cl P w K mg base "is_within" 2 ["thing", "low", "high"] sp_within fw fdw) :
    FnOk P w K mg base CX0 3 f fd ["self", "tokens"] (sp_hinit C) := by
  refine F.ok sc_Halves_init (fun vs H Q E h => ?_) (fun cdv A outer s H vs Q E hr h => ?_)
  · obtain ⟨x, dx, k, rfl, _⟩ := h
    rfl
  · obtain ⟨x, dx, k, rfl, hx, h1, h2, q⟩ := h
    refine ⟨_, 
      (pss_cons (ps_if (pt_not (pt_val (pe_cl c_is_within (hr.mono (by decide)) rfl (pa_cons (pv 1) (pa_cons (pe_int) (pa_cons (pe_gi G.MOST_TOKENS) pa_nil)))))) 
        (pss_one ps_never) pss_nil) 
      (pss_one (ps_fld (pv 0) (pv 1) rfl))), ?_⟩
    walk_at "rd"
    refine ⟨_, _, _, rfl, h1, h2, ?_⟩
    walk_at "rd"
    exact ⟨_, _, _, _, rfl, hx, hC, hN, by decide, q⟩
theorem ok_nearGoes (F : Fun K "goes_with" "Nearer.goes_with" st_Nearer_goes_with f fd) (B : Bt mg) (hC : Cls K C) (hN : NoAttr K C "met") : FnOk P w K mg base CX0 1 f fd ["self", "book"] (sp_goes (raN C)) := by
  refine F.ok sc_Nearer_goes_with (fun vs H Q E h => ?_) (fun cdv A outer s H vs Q E hr h => ?_)
  · obtain ⟨x, R, b, rs, ms, rfl, _⟩ := h
    rfl
  · obtain ⟨x, R, b, rs, ms, rfl, ⟨rfl, dx, pm, hx, as, hpm, has, _⟩, ⟨pr, pt, hb, hpr, _⟩, q⟩ := h
    refine ⟨_, 
      (pss_one (ps_ret (pe_cmpR op_eq (pe_callB (len_K K (by rfl)) (by rfl) B.len bo_len (pa_cons (fld_K K (by rfl) (pv 0) rfl) pa_nil)) (pe_callB (len_K K (by rfl)) (by rfl) B.len bo_len (pa_cons (pe_ix (ix_tupK K (by rfl)) (pv 1) (pe_int) (fun _ _ => rfl)) pa_nil)) (nomark _)))), ?_⟩
    walk_at "rd"
    refine ⟨_, _, _, _, _, rfl, hx, hC, hN, rfl, ?_⟩
    walk_at "rd"
    have e : decide (V.int ((as.map V.ref).length : Nat) = V.int ((rs.map V.int).length : Nat)) = true := decide_eq_true (by rw [List.length_map, List.length_map, has])
    refine ⟨rfl, ?_⟩
    rw [e]
    exact q
theorem ok_nearShare (F : Fun K "share" "Nearer.share" st_Nearer_share f fd) (hC : Cls K C) (hN : NoAttr K C "met") : FnOk P w K mg base CX0 1 f fd ["self", "letter", "giver", "other", "tokens"] (sp_share (raN C)) := by
  refine F.ok sc_Nearer_share (fun vs H Q E h => ?_) (fun cdv A outer s H vs Q E hr h => ?_)
  · obtain ⟨x, R, n, tl, l, g, o, u, rfl, _⟩ := h
    rfl
  · obtain ⟨x, R, n, tl, l, g, o, u, rfl, ⟨rfl, dx, pm, hx, as, hpm, has, hrows⟩, hl, hg, ho, hd, q, q2⟩ := h
    refine ⟨_, 
      (pss_cons (pset 5 sc_Nearer_share.nd (pe_ix (ix_tupK K (by rfl)) (pv 1) (pe_int) (fun _ _ => rfl))) 
      (pss_cons (ps_if (PW.pt (pw_or (pt_cmpR op_eq (pv 3) (pv 5) (nomark _)) (pw_or1 (pt_cmpR op_gt (pe_ix (ix_listK K (by rfl)) (pe_ix (ix_listK K (by rfl)) (fld_K K (by rfl) (pv 0) rfl) (pv 3) (fun _ _ => rfl)) (pv 5) (fun _ _ => rfl)) (pe_ix (ix_listK K (by rfl)) (pe_ix (ix_listK K (by rfl)) (fld_K K (by rfl) (pv 0) rfl) (pv 2) (fun _ _ => rfl)) (pv 5) (fun _ _ => rfl)) (nomark _))))) 
        (pss_one (ps_ret (pe_int))) pss_nil) 
      (pss_one (ps_ret (pe_non))))), ?_⟩
    walk_at "rd"
    refine ite2 (fun h => ?_) (fun h => ?_)
    · walk_at "rd"
      refine iteT ?_
      walk_at "rd"
      exact q 0 rfl
    · obtain ⟨ro, hro⟩ : ∃ a, as[o]? = some a := ⟨_, List.getElem?_eq_getElem (by omega)⟩
      obtain ⟨rg, hrg⟩ : ∃ a, as[g]? = some a := ⟨_, List.getElem?_eq_getElem (by omega)⟩
      obtain ⟨io, lo, hio⟩ := hrows ro (List.mem_of_getElem? hro)
      obtain ⟨ig, lg, hig⟩ := hrows rg (List.mem_of_getElem? hrg)
      walk_at "rd"
      refine ⟨_, _, _, _, _, rfl, hx, hC, hN, rfl, ?_⟩
      walk_at "rd"
      refine ⟨_, _, _, _, rfl, rfl, SqL.of hpm, atI_nat (by rw [List.getElem?_map, hro]; rfl), ?_⟩
      walk_at "rd"
      refine ⟨_, _, _, _, rfl, rfl, SqL.of hio, atI_nat (by rw [List.getElem?_map, List.getElem?_eq_getElem (show l.d < io.length by omega)]; rfl), ?_⟩
      walk_at "rd"
      refine ⟨_, _, _, _, _, rfl, hx, hC, hN, rfl, ?_⟩
      walk_at "rd"
      refine ⟨_, _, _, _, rfl, rfl, SqL.of hpm, atI_nat (by rw [List.getElem?_map, hrg]; rfl), ?_⟩
      walk_at "rd"
      refine ⟨_, _, _, _, rfl, rfl, SqL.of hig, atI_nat (by rw [List.getElem?_map, List.getElem?_eq_getElem (show l.d < ig.length by omega)]; rfl), ?_⟩
      walk_at "rd"
      refine ite2 (fun h => ?_) (fun h => ?_)
      · walk_at "rd"
        exact q 0 rfl
      · walk_at "rd"
        exact q2 (fun z => nomatch z)
theorem ok_counts (F : Fun K "counts_of" "counts_of" st_counts_of f fd) : FnOk P w K mg base CX0 1 f fd ["book"] sp_counts := by
  refine F.ok sc_counts_of (fun vs H Q E h => ?_) (fun cdv A outer s H vs Q E hr h => ?_)
  · obtain ⟨b, rs, ms, rfl, _⟩ := h
    rfl
  · obtain ⟨b, rs, ms, rfl, ⟨pr, pm, hb, hpr, as, hpm, hT⟩, wf, h1, h12, q⟩ := h
    refine ⟨_, 
      (pss_cons (ps_setLc (i := 2) (own := [("room", 1)]) (g := (gName 1)) (tt := tYes) (by rfl) sc_counts_of.nd rfl rfl (sw_true rfl rfl rfl (by decide +kernel)) (pt_K K (by rfl) (pe_ix (ix_tupK K (by rfl)) (pv 0) (pe_int) (fun _ _ => rfl))) (blkOk_by (N := N_counts_of) (sc := defScope st_counts_of) (by decide +kernel)) (fun _ _ _ _ _ => (pnm 1 sc_counts_of.nd)) (fun _ _ _ _ _ => pts_nil) (fun _ _ _ _ _ => (pe_lc (own := [("room", 1)]) (g := (gName 1)) (tt := tYes) (by rfl) sc_counts_of.nd (pt_K K (by rfl) (pe_ix (ix_tupK K (by rfl)) (pv 0) (pe_int) (fun _ _ => rfl))) (blkOk_by (by rfl)) (fun _ _ _ _ _ => (pnm 1 sc_counts_of.nd)) (fun _ _ _ _ _ => pts_nil) (fun _ _ _ _ _ => (pe_int))))) 
      (pss_cons (ps_for PassesOwn.never rfl (pt_K K (by rfl) (pe_ix (ix_tupK K (by rfl)) (pv 0) (pe_int) (fun _ _ => rfl))) (tup_K K (by rfl) rfl (pgs_cons (pnm 3 sc_counts_of.nd) (pgs_cons (pnm 4 sc_counts_of.nd) (pgs_cons (pnm 5 sc_counts_of.nd) (pgs_cons (pnm 6 sc_counts_of.nd) pgs_nil))))) 
        (pss_cons (ps_augS (pe_ix (ix_listK K (by rfl)) (pv 2) (pv 3) (fun _ _ => rfl)) (pv 4) (get_listK K (by rfl)) (pe_int) ip_add set_list) 
        (pss_one (ps_augS (pe_ix (ix_listK K (by rfl)) (pv 2) (pv 4) (fun _ _ => rfl)) (pv 3) (get_listK K (by rfl)) (pe_int) ip_add set_list)))) 
      (pss_one (ps_ret (pv 2))))), ?_⟩
    walk_at "rd"
    refine ⟨⟨_, SqT.of hpr⟩, fun D hD => ?_⟩
    refine lc_it (walk_tup (K := K) (a := pr) (xs := rs.map V.int)) (fun i Hx => ∃ bs : List Addr, bs.length = i ∧ Same H Hx ∧ Hx D = some (.lst (bs.map V.ref)) ∧ NewMet H Hx bs rs.length ∧ D ∉ bs)
      ⟨[], rfl, Same.new1 hD, upd_same, (fun a ha => by cases ha), (fun ha => by cases ha)⟩ (fun i Hx _ h => ?_) ?_ ?_
    · obtain ⟨_, _, sx, _⟩ := h
      exact SqT.of (sx _ _ hpr)
    · rintro i x Hx H' hi ⟨bs, hbl, sx, hDx, nm, hDn⟩ ⟨rfl, hx⟩
      rw [List.length_map] at hi
      have hbx := sx _ _ hb
      have hprx := sx _ _ hpr
      refine ⟨rfl, ?_⟩
      walk_at "rd"
      refine ⟨⟨_, SqT.of hprx⟩, fun D2 hD2 => ?_⟩
      refine lc_it (walk_tup (K := K) (a := pr) (xs := rs.map V.int)) (fun j Hy => Same H' Hy ∧ Hy D2 = some (.lst (List.replicate j (V.int 0)))) ⟨Same.new1 hD2, upd_same⟩ (fun j Hy _ h => SqT.of (h.1 _ _ hprx)) ?_ ?_
      · rintro j x Hy H'' hj ⟨sy, hDy⟩ ⟨rfl, _⟩
        refine ⟨rfl, ?_⟩
        walk_at "rd"
        rw [List.length_map] at hj
        exact ⟨_, hDy, by rw [List.length_replicate]; exact Nat.lt_of_le_of_lt (show j ≤ 12 by omega) (by decide), sy.mut hD2, by rw [upd_same, List.replicate_succ']⟩
      · rintro Hy ⟨sy, hDy⟩
        rw [List.length_map, int_rep] at hDy
        have hD3 := sy _ _ hDx
        have hne : D ≠ D2 := ne_of_none hDx hD2
        have hne2 : D2 ∉ bs := fun z => by
          obtain ⟨_, js, _, z3⟩ := nm D2 z
          rw [z3] at hD2
          cases hD2
        refine ⟨_, hD3, by rw [List.length_map]; exact Nat.lt_of_le_of_lt (show bs.length ≤ 12 by omega) (by decide), bs ++ [D2], by rw [List.length_append, hbl]; rfl, (sx.trans sy).mut hD, by rw [upd_same, List.map_append]; rfl, ?_, fun z => ?_⟩
        · exact ((nm.same sy).snoc (Same.free sx hD2) (List.length_replicate ..) hDy).mut (fun z => by
            rcases List.mem_append.mp z with z | z
            · exact hDn z
            · exact hne (List.mem_singleton.mp z))
        · rcases List.mem_append.mp z with z | z
          · exact hDn z
          · exact hne (List.mem_singleton.mp z)
    · rintro H1 ⟨bs, hbl, s1, hD1, nm, hDn⟩
      rw [List.length_map] at hbl
      have hb1 := s1 _ _ hb
      have hpm1 := s1 _ _ hpm
      walk_at "rd"
      refine ⟨⟨_, SqT.of hpm1⟩, ?_⟩
      refine for_tup (K := K) (a := pm) (xs := as.map V.ref) (fun i σ Hx => ∃ (v3 v4 v5 v6 : Option V), Same H Hx ∧ Hx D = some (.lst (bs.map V.ref)) ∧ NewMet H Hx bs rs.length ∧ σ = [some (.ref b), none, some (.ref D), v3, v4, v5, v6])
        ⟨_, _, _, _, s1, hD1, nm, rfl⟩ (fun i σ Hx _ h => ?_) ?_ ?_
      · obtain ⟨_, _, _, _, sx, _⟩ := h
        exact SqT.of (sx _ _ hpm)
      · rintro i x σ Hx hi ⟨v3, v4, v5, v6, sx, hDx, nmx, rfl⟩
        obtain ⟨t, m, rfl, hm, ht⟩ := (hT.mono (Same.tups sx)).mem (List.mem_of_getElem? hi)
        have ok := wf.ok m hm
        have o1 := ok.ab
        have o2 := ok.bn
        obtain ⟨ra, ia, ha1, ha2, ha3, ha4⟩ := nmx.at (i := m.a) (by omega)
        refine ⟨_, _, rfl, SqT.of ht, rfl, _, _, rfl, _, _, rfl, _, _, rfl, _, _, rfl, rfl, ?_⟩
        walk_at "rd"
        refine ⟨_, _, _, _, rfl, rfl, SqL.of hDx, atI_nat (by rw [List.getElem?_map, ha1]; rfl), ?_⟩
        walk_at "rd"
        refine ⟨_, _, _, _, rfl, rfl, SqL.of ha4, int_at (show m.b < ia.length by omega), ?_⟩
        walk_at "rd"
        refine ⟨_, _, _, _, rfl, rfl, ha4, int_ix (show m.b < ia.length by omega), ?_⟩
        rw [int_set]
        have hDra : D ≠ ra := fun z => hDn (by rw [z]; exact List.mem_of_getElem? ha1)
        have nm5 := nmx.upd (a := ra) (is := ia.set m.b (ia[m.b]'(by omega) + 1)) (by rw [List.length_set]; exact ha3)
        have s5 : Same H (L2.upd Hx ra (.lst ((ia.set m.b (ia[m.b]'(by omega) + 1)).map V.int))) := sx.mut ha2
        have hD5 : L2.upd Hx ra (.lst ((ia.set m.b (ia[m.b]'(by omega) + 1)).map V.int)) D = some (.lst (bs.map V.ref)) := by rw [upd_ne hDra]; exact hDx
        generalize L2.upd Hx ra (.lst ((ia.set m.b (ia[m.b]'(by omega) + 1)).map V.int)) = H5 at nm5 s5 hD5
        obtain ⟨rb, ib, hb1', hb2', hb3', hb4'⟩ := nm5.at (i := m.b) (by omega)
        have hDrb : D ≠ rb := fun z => hDn (by rw [z]; exact List.mem_of_getElem? hb1')
        walk_at "rd"
        refine ⟨_, _, _, _, rfl, rfl, SqL.of hD5, atI_nat (by rw [List.getElem?_map, hb1']; rfl), ?_⟩
        walk_at "rd"
        refine ⟨_, _, _, _, rfl, rfl, SqL.of hb4', int_at (show m.a < ib.length by omega), ?_⟩
        walk_at "rd"
        refine ⟨_, _, _, _, rfl, rfl, hb4', int_ix (show m.a < ib.length by omega), ?_⟩
        rw [int_set]
        exact ⟨_, _, _, _, s5.mut hb2', by rw [upd_ne hDrb]; exact hD5, nm5.upd (by rw [List.length_set]; exact hb3'), rfl⟩
      · rintro σ Hx ⟨v3, v4, v5, v6, sx, hDx, nmx, rfl⟩
        walk_at "rd"
        exact q D Hx sx ⟨bs, hDx, hbl, fun a ha => (nmx a ha).2⟩ hD
theorem ok_nearInit (F : Fun K "__init__" "Nearer.__init__" st_Nearer_init f fd) (hC : Cls K C) (hN : NoAttr K C "met") (c_counts_of : Cl P w K mg base "counts_of" 1 ["book"] sp_counts fw fdw) :
    FnOk P w K mg base CX0 2 f fd ["self", "past"] (sp_ninit C) := by
  refine F.ok sc_Nearer_init (fun vs H Q E h => ?_) (fun cdv A outer s H vs Q E hr h => ?_)
  · obtain ⟨x, dx, b, rs, ms, rfl, _⟩ := h
    rfl
  · obtain ⟨x, dx, b, rs, ms, rfl, hx, hB, wf, h1, h12, q⟩ := h
    refine ⟨_, 
      (pss_one (ps_fld (pv 0) (pe_cl c_counts_of (hr.mono (by decide)) rfl (pa_cons (pv 1) pa_nil)) rfl)), ?_⟩
    walk_at "rd"
    refine ⟨b, rs, ms, rfl, hB, wf, h1, h12, fun pm H1 s1 mt _ => ?_⟩
    walk_at "rd"
    exact ⟨_, _, _, _, rfl, s1 _ _ hx, hC, hN, by decide, q pm H1 s1 mt⟩
end
end Sm
set_option Elab.async false
set_option linter.all false
set_option maxRecDepth 100000
set_option maxHeartbeats 4000000
namespace Sm
open PySem L2
/-! ### rows as lists in the heap -/
def RowsAt (H : Hp) (as : List Addr) (T : Grid) : Prop := as.length = T.length ∧ ∀ (i : Nat) (a : Addr) (r : Row), as[i]? = some a → T[i]? = some r → H a = some (.lst (rowV r))
theorem RowsAt.same {H H' : Hp} {as : List Addr} {T : Grid} (h : RowsAt H as T) (s : Same H H') : RowsAt H' as T := ⟨h.1, fun i a r h1 h2 => s _ _ (h.2 i a r h1 h2)⟩
theorem RowsAt.mut {H : Hp} {as : List Addr} {T : Grid} (h : RowsAt H as T) {c : Addr} {o : HO} (hc : c ∉ as) : RowsAt (upd H c o) as T :=
  ⟨h.1, fun i a r h1 h2 => by rw [upd_ne (fun e => hc (by rw [← e]; exact List.mem_of_getElem? h1))]; exact h.2 i a r h1 h2⟩
theorem RowsAt.upd {H : Hp} {as : List Addr} {T : Grid} (h : RowsAt H as T) (nd : as.Nodup) {i : Nat} {a : Addr} {r : Row} (ha : as[i]? = some a) : RowsAt (L2.upd H a (.lst (rowV r))) as (T.set i r) := by
  refine ⟨by rw [List.length_set]; exact h.1, fun j b s hb hs => ?_⟩
  obtain ⟨hi, ei⟩ := List.getElem?_eq_some_iff.mp ha
  obtain ⟨hj, ej⟩ := List.getElem?_eq_some_iff.mp hb
  have hiT : i < T.length := by rw [← h.1]; exact hi
  by_cases e : j = i
  · subst e
    rw [ha] at hb
    cases hb
    rw [List.getElem?_set_self hiT] at hs
    cases hs
    exact upd_same
  · rw [List.getElem?_set_ne (Ne.symm e)] at hs
    have hne : b ≠ a := fun z => e ((List.getElem_inj nd).mp (by rw [ej, ei, z]))
    rw [upd_ne hne]
    exact h.2 j b s hb hs
theorem RowsAt.at {H : Hp} {as : List Addr} {T : Grid} (h : RowsAt H as T) {i : Nat} {r : Row} (hr : T[i]? = some r) : ∃ a, as[i]? = some a ∧ H a = some (.lst (rowV r)) := by
  have hi := (List.getElem?_eq_some_iff.mp hr).1
  have hi2 : i < as.length := by rw [h.1]; exact hi
  exact ⟨as[i], List.getElem?_eq_getElem hi2, h.2 i _ r (List.getElem?_eq_getElem hi2) hr⟩
/-! ### the object that runs a rule -/
structure Ct where
  x : Addr
  dx : Addr
  pr : Addr
  tl : Addr
  ru : Addr
  gT : Addr
  gU : Addr
  D : Addr
  ats : List Addr
  aus : List Addr
def Ct.fields (c : Ct) : List (Str × V) := [("rooms", .ref c.pr), ("letters", .ref c.tl), ("rule", .ref c.ru), ("times", .ref c.gT), ("tokens_of", .ref c.gU), ("deeds_made", .ref c.D)]
structure CpC (K : PySem.W.Frag) (C : Addr) : Prop where
  cls : Cls K C
  rooms : NoAttr K C "rooms"
  letters : NoAttr K C "letters"
  rule : NoAttr K C "rule"
  times : NoAttr K C "times"
  tokens_of : NoAttr K C "tokens_of"
  deeds_made : NoAttr K C "deeds_made"
def Ct.own (c : Ct) : List Addr := c.D :: (c.ats ++ c.aus)
structure CpAt (C : Addr) (c : Ct) (H0 H : Hp) (T U : Grid) (d : Nat) : Prop where
  ins : H c.x = some (.ins C c.dx c.fields)
  times : H c.gT = some (.lst (c.ats.map V.ref))
  toks : H c.gU = some (.lst (c.aus.map V.ref))
  rT : RowsAt H c.ats T
  rU : RowsAt H c.aus U
  deeds : ∃ ds, H c.D = some (.lst ds) ∧ ds.length ≤ d
  nd : c.own.Nodup
  gT : c.gT ∉ c.own
  gU : c.gU ∉ c.own
  x : c.x ∉ c.own
  fresh : ∀ a ∈ c.own, H0 a = none
  same : Same H0 H
/-- all but the object's own lists stay -/
def Keep (c : Ct) (H H' : Hp) : Prop := ∀ b o, b ∉ c.own → H b = some o → H' b = some o
theorem Keep.refl (c : Ct) (H : Hp) : Keep c H H := fun _ _ _ h => h
theorem Keep.trans {c : Ct} {H H1 H2 : Hp} (a : Keep c H H1) (b : Keep c H1 H2) : Keep c H H2 := fun x o n h => b x o n (a x o n h)
theorem Same.keep {c : Ct} {H H1 : Hp} (s : Same H H1) : Keep c H H1 := fun x o _ h => s x o h
theorem Keep.upd {c : Ct} {H H1 : Hp} (k : Keep c H H1) {a : Addr} {o : HO} (ha : a ∈ c.own) : Keep c H (L2.upd H1 a o) := fun x u n h => by
  rw [upd_ne (fun e => n (by rw [e]; exact ha))]
  exact k x u n h
section
variable {C : Addr} {c : Ct} {H0 H H' : Hp} {T U : Grid} {d : Nat}
theorem CpAt.ats_own (a : Addr) (h : a ∈ c.ats) : a ∈ c.own := List.mem_cons_of_mem _ (List.mem_append_left _ h)
theorem CpAt.aus_own (a : Addr) (h : a ∈ c.aus) : a ∈ c.own := List.mem_cons_of_mem _ (List.mem_append_right _ h)
theorem CpAt.D_own : c.D ∈ c.own := List.mem_cons_self
theorem CpAt.nd_parts (h : CpAt C c H0 H T U d) : c.D ∉ c.ats ∧ c.D ∉ c.aus ∧ c.ats.Nodup ∧ c.aus.Nodup ∧ ∀ a ∈ c.ats, a ∉ c.aus := by
  have nd := h.nd
  unfold Ct.own at nd
  obtain ⟨h1, h2⟩ := List.nodup_cons.mp nd
  obtain ⟨h3, h4, h5⟩ := List.nodup_append.mp h2
  exact ⟨fun z => h1 (List.mem_append_left _ z), fun z => h1 (List.mem_append_right _ z), h3, h4, fun a ha hb => h5 a ha a hb rfl⟩
theorem CpAt.mono (h : CpAt C c H0 H T U d) (s : Same H H') : CpAt C c H0 H' T U d :=
  ⟨s _ _ h.ins, s _ _ h.times, s _ _ h.toks, h.rT.same s, h.rU.same s, let ⟨ds, h1, h2⟩ := h.deeds; ⟨ds, s _ _ h1, h2⟩, h.nd, h.gT, h.gU, h.x, h.fresh, h.same.trans s⟩
theorem CpAt.more (h : CpAt C c H0 H T U d) {d' : Nat} (hd : d ≤ d') : CpAt C c H0 H T U d' :=
  ⟨h.ins, h.times, h.toks, h.rT, h.rU, let ⟨ds, h1, h2⟩ := h.deeds; ⟨ds, h1, Nat.le_trans h2 hd⟩, h.nd, h.gT, h.gU, h.x, h.fresh, h.same⟩
theorem CpAt.setT (h : CpAt C c H0 H T U d) {i : Nat} {a : Addr} {r : Row} (ha : c.ats[i]? = some a) : CpAt C c H0 (upd H a (.lst (rowV r))) (T.set i r) U d := by
  obtain ⟨n1, n2, n3, n4, n5⟩ := h.nd_parts
  have hm := List.mem_of_getElem? ha
  have ho := CpAt.ats_own (c := c) a hm
  obtain ⟨ds, h1, h2⟩ := h.deeds
  exact ⟨by rw [upd_ne (fun e => h.x (by rw [e]; exact ho))]; exact h.ins, by rw [upd_ne (fun e => h.gT (by rw [e]; exact ho))]; exact h.times, by rw [upd_ne (fun e => h.gU (by rw [e]; exact ho))]; exact h.toks, h.rT.upd n3 ha, h.rU.mut (n5 a hm),
    ⟨ds, by rw [upd_ne (fun e => n1 (by rw [e]; exact hm))]; exact h1, h2⟩, h.nd, h.gT, h.gU, h.x, h.fresh, h.same.mut (h.fresh a ho)⟩
theorem CpAt.setU (h : CpAt C c H0 H T U d) {i : Nat} {a : Addr} {r : Row} (ha : c.aus[i]? = some a) : CpAt C c H0 (upd H a (.lst (rowV r))) T (U.set i r) d := by
  obtain ⟨n1, n2, n3, n4, n5⟩ := h.nd_parts
  have hm := List.mem_of_getElem? ha
  have ho := CpAt.aus_own (c := c) a hm
  obtain ⟨ds, h1, h2⟩ := h.deeds
  exact ⟨by rw [upd_ne (fun e => h.x (by rw [e]; exact ho))]; exact h.ins, by rw [upd_ne (fun e => h.gT (by rw [e]; exact ho))]; exact h.times, by rw [upd_ne (fun e => h.gU (by rw [e]; exact ho))]; exact h.toks, h.rT.mut (fun z => n5 a z hm), h.rU.upd n4 ha,
    ⟨ds, by rw [upd_ne (fun e => n2 (by rw [e]; exact hm))]; exact h1, h2⟩, h.nd, h.gT, h.gU, h.x, h.fresh, h.same.mut (h.fresh a ho)⟩
theorem CpAt.setD (h : CpAt C c H0 H T U d) {ds : List V} (hd : ds.length ≤ d + 1) : CpAt C c H0 (upd H c.D (.lst ds)) T U (d + 1) := by
  obtain ⟨n1, n2, n3, n4, n5⟩ := h.nd_parts
  have ho := CpAt.D_own (c := c)
  exact ⟨by rw [upd_ne (fun e => h.x (by rw [e]; exact ho))]; exact h.ins, by rw [upd_ne (fun e => h.gT (by rw [e]; exact ho))]; exact h.times, by rw [upd_ne (fun e => h.gU (by rw [e]; exact ho))]; exact h.toks, h.rT.mut n1, h.rU.mut n2,
    ⟨ds, upd_same, hd⟩, h.nd, h.gT, h.gU, h.x, h.fresh, h.same.mut (h.fresh _ ho)⟩
end
/-! ### the rows of all letters -/
structure GridG (R : Rl) (n : Nat) (ls : List Lt) (ex : Prop) (W : Nat → Int) (L : Nat → Lt → Row) (T U : Grid) : Prop where
  lT : T.length = ls.length
  lU : U.length = ls.length
  row : ∀ (j : Nat) (l : Lt) (rT rU : Row), ls[j]? = some l → T[j]? = some rT → U[j]? = some rU → RowOk R n l ex (W j) (L j l) rT rU
section
variable {R : Rl} {n : Nat} {ls : List Lt} {ex : Prop} {W W' : Nat → Int} {L L' : Nat → Lt → Row} {T U : Grid}
theorem GridG.at (g : GridG R n ls ex W L T U) {j : Nat} {l : Lt} (h : ls[j]? = some l) : ∃ rT rU, T[j]? = some rT ∧ U[j]? = some rU ∧ RowOk R n l ex (W j) (L j l) rT rU := by
  have hj := (List.getElem?_eq_some_iff.mp h).1
  have h1 : T[j]? = some (T[j]'(by rw [g.lT]; exact hj)) := List.getElem?_eq_getElem _
  have h2 : U[j]? = some (U[j]'(by rw [g.lU]; exact hj)) := List.getElem?_eq_getElem _
  exact ⟨_, _, h1, h2, g.row j l _ _ h h1 h2⟩
theorem GridG.set (g : GridG R n ls ex W L T U) {i : Nat} {l : Lt} (hl : ls[i]? = some l) {rT rU : Row} (x : RowOk R n l ex (W' i) (L' i l) rT rU) (hW : ∀ j, j ≠ i → W' j = W j) (hL : ∀ j l, j ≠ i → L' j l = L j l) :
    GridG R n ls ex W' L' (T.set i rT) (U.set i rU) := by
  have hi := (List.getElem?_eq_some_iff.mp hl).1
  refine ⟨by rw [List.length_set]; exact g.lT, by rw [List.length_set]; exact g.lU, fun j l' sT sU h1 h2 h3 => ?_⟩
  by_cases e : j = i
  · subst e
    rw [List.getElem?_set_self (by rw [g.lT]; exact hi)] at h2
    rw [List.getElem?_set_self (by rw [g.lU]; exact hi)] at h3
    rw [hl] at h1
    cases h1
    cases h2
    cases h3
    exact x
  · rw [List.getElem?_set_ne (Ne.symm e)] at h2 h3
    rw [hW j e, hL j l' e]
    exact g.row j l' sT sU h1 h2 h3
theorem GridG.re (g : GridG R n ls ex W L T U) {i : Nat} {l : Lt} (hl : ls[i]? = some l) {rT rU : Row} (hT : T[i]? = some rT) (hU : U[i]? = some rU) (x : RowOk R n l ex (W' i) (L' i l) rT rU) (hW : ∀ j, j ≠ i → W' j = W j) (hL : ∀ j l, j ≠ i → L' j l = L j l) :
    GridG R n ls ex W' L' T U := by
  refine ⟨g.lT, g.lU, fun j l' sT sU h1 h2 h3 => ?_⟩
  by_cases e : j = i
  · subst e
    rw [hl] at h1
    rw [hT] at h2
    rw [hU] at h3
    cases h1
    cases h2
    cases h3
    exact x
  · rw [hW j e, hL j l' e]
    exact g.row j l' sT sU h1 h2 h3
theorem GridG.ext (g : GridG R n ls ex W L T U) (hW : ∀ j, j < ls.length → W' j = W j) (hL : ∀ j l, j < ls.length → L' j l = L j l) : GridG R n ls ex W' L' T U :=
  ⟨g.lT, g.lU, fun j l rT rU h1 h2 h3 => by
    have hj := (List.getElem?_eq_some_iff.mp h1).1
    rw [hW j hj, hL j l hj]
    exact g.row j l rT rU h1 h2 h3⟩
end
end Sm
set_option Elab.async false
set_option linter.all false
set_option maxRecDepth 100000
set_option maxHeartbeats 4000000
set_option pp.maxSteps 600
namespace Sm
open PySem L2
open C8 (tCut pss_cut)
local macro_rules | `(tactic| walk_at "rdc") => `(tactic| first
  | with_reducible assumption
  | exact (show flatV _ = true from rfl)
  | exact flat_ints _
  | exact Or.inr ⟨by decide, by decide⟩
  | exact Or.inl ⟨by decide, by decide⟩
  | exact Or.inl (mod_in _)
  | exact Or.inl ⟨by (try dsimp only); omega, by (try dsimp only); omega⟩
  | exact Or.inr ⟨by (try dsimp only); omega, by (try dsimp only); omega⟩
  | exact ⟨by decide, by decide, by decide⟩
  | exact ⟨by decide, by decide⟩
  | exact ⟨by omega, by omega⟩
  | decide
  | omega
  | (show (0 : Int) < _; decide)
  | exact Nat.le_of_ble_eq_true rfl)
local macro_rules | `(tactic| walk_at "rd1") => `(tactic| first
  | (refine ⟨_, rfl, ?_⟩)
  | (refine ⟨_, _, rfl, rfl, ?_⟩)
  | (refine And.intro (by walk_at "rdc") ?_)
  | (refine ⟨_, _, rfl, (by first | exact Or.inl (by assumption) | exact Or.inl (SqL.of (by assumption)) | exact Or.inr (SqT.of (by assumption))), ?_⟩)
  | (refine ⟨_, _, _, _, rfl, rfl, (by first | exact SqL.of (by assumption) | exact SqT.of (by assumption) | exact SqL.of upd_same | assumption), (by rfl), ?_⟩)
  | (refine ⟨_, _, _, _, rfl, rfl, (by first | assumption | exact upd_same), (by rfl), ?_⟩)
  | (refine ⟨rfl, _, rfl, ?_⟩))
local macro_rules | `(tactic| walk_at "rd") => `(tactic| repeat (walk_at "rd1"))
def sp_hasroom (C : Addr) : Sp := fun vs H Q _ => ∃ (c : Ct) (H0 : Hp) (T U : Grid) (d : Nat) (rs : List Int) (ls : List Lt) (i w : Nat), vs = [.ref c.x, .int i, .int w] ∧ CpAt C c H0 H T U d ∧ LsAt H0 c.tl ls ∧ H0 c.pr = some (.tup (rs.map V.int)) ∧ ls.length ≤ 40 ∧
  T.length = ls.length ∧ (∀ r ∈ T, List.length r = rs.length) ∧ i < ls.length ∧ w < rs.length ∧ ∀ b H', Same H H' → ((ls.length : Int) < rs.getD w 0 → b = true) → Q (.bl b) H'
section
variable {P : Program} {w : World} {K : PySem.W.Frag} {mg : Str → Option Value} {base : Heap} {f fw fi fm fr fb fp C : Addr} {fd fdw fdi fdm fdr fdb fdp : FuncData}
theorem ok_hasroom (F : Fun K "has_room" "Copying.has_room" st_Copying_has_room f fd) (B : Bt mg) (hC : CpC K C) : FnOk P w K mg base CX0 1 f fd ["self", "number", "walker"] (sp_hasroom C) := by
  refine F.ok sc_Copying_has_room (fun vs H Q E h => ?_) (fun cdv A outer s H vs Q E hr h => ?_)
  · obtain ⟨c, H0, T, U, d, rs, ls, i, w', rfl, _⟩ := h
    rfl
  · obtain ⟨c, H0, T, U, d, rs, ls, i, w', rfl, cp, ⟨as, htl, hTl⟩, hpr, l40, lT, rowT, hi, hw, q⟩ := h
    have hlen := hTl.length
    rw [List.length_map] at hlen
    have htl1 := cp.same _ _ htl
    have hpr1 := cp.same _ _ hpr
    have hTl1 := hTl.mono (Same.tups cp.same)
    obtain ⟨ta, hta, hlt⟩ := hTl1.get (i := i) (x := ltV ls[i]) (by rw [List.getElem?_map, List.getElem?_eq_getElem hi]; rfl)
    refine ⟨_, 
      (pss_cons (ps_if (PW.pt (pw_or (pt_cmpR op_eq (pv 2) (pe_ix (ix_tupK K (by rfl)) (pe_ix (ix_listK K (by rfl)) (fld_K K (by rfl) (pv 0) rfl) (pv 1) (fun _ _ => rfl)) (pe_int) (fun _ _ => rfl)) (nomark _)) (pw_or1 (pt_cmpR op_eq (pv 2) (pe_ix (ix_tupK K (by rfl)) (pe_ix (ix_listK K (by rfl)) (fld_K K (by rfl) (pv 0) rfl) (pv 1) (fun _ _ => rfl)) (pe_int) (fun _ _ => rfl)) (nomark _))))) 
        (pss_one (ps_ret (pe_bl))) pss_nil) 
      (pss_cons (ps_setLc (i := 4) (own := [("one", 3)]) (g := (gName 3)) (by rfl) sc_Copying_has_room.nd rfl rfl (sw_true rfl rfl rfl (by decide +kernel)) (pi_range1 (by rfl) B.range (pa_cons (pe_callB (len_K K (by rfl)) (by rfl) B.len bo_len (pa_cons (fld_K K (by rfl) (pv 0) rfl) pa_nil)) pa_nil)) (blkOk_by (N := N_Copying_has_room) (sc := defScope st_Copying_has_room) (by decide +kernel)) (fun _ _ _ _ _ => (pnm 3 sc_Copying_has_room.nd)) (fun _ _ _ _ _ => pts_one (pt_cmpR op_notN (pe_ix (ix_listK K (by rfl)) (pe_ix (ix_listK K (by rfl)) (fld_K K (by rfl) (pv 0) rfl) (pv 3) (fun _ _ => rfl)) (pv 2) (fun _ _ => rfl)) (pe_non) (nomark _))) (fun _ _ _ _ _ => (pv 3))) 
      (pss_cons (ps_setLc (i := 4) (own := [("one", 3)]) (g := (gName 3)) (by rfl) sc_Copying_has_room.nd rfl rfl (sw_true rfl rfl rfl (by decide +kernel)) (pl_K K (by rfl) (pv 4)) (blkOk_by (N := N_Copying_has_room) (sc := defScope st_Copying_has_room) (by decide +kernel)) (fun _ _ _ _ _ => (pnm 3 sc_Copying_has_room.nd)) (fun _ _ _ _ _ => pts_one (PW.pt (pw_and (pt_cmpR op_ne (pv 2) (pe_ix (ix_tupK K (by rfl)) (pe_ix (ix_listK K (by rfl)) (fld_K K (by rfl) (pv 0) rfl) (pv 3) (fun _ _ => rfl)) (pe_int) (fun _ _ => rfl)) (nomark _)) (pw_and1 (pt_cmpR op_ne (pv 2) (pe_ix (ix_tupK K (by rfl)) (pe_ix (ix_listK K (by rfl)) (fld_K K (by rfl) (pv 0) rfl) (pv 3) (fun _ _ => rfl)) (pe_int) (fun _ _ => rfl)) (nomark _)))))) (fun _ _ _ _ _ => (pv 3))) 
      (pss_one (ps_ret (pe_cmpR op_lt (pe_callB (len_K K (by rfl)) (by rfl) B.len bo_len (pa_cons (pv 4) pa_nil)) (pe_ix (ix_tupK K (by rfl)) (fld_K K (by rfl) (pv 0) rfl) (pv 2) (fun _ _ => rfl)) (nomark _))))))), ?_⟩
    walk_at "rd"
    refine ⟨_, _, _, _, _, rfl, cp.ins, hC.cls, hC.letters, rfl, ?_⟩
    walk_at "rd"
    refine ⟨_, _, _, _, rfl, rfl, SqL.of htl1, atI_nat (by rw [List.getElem?_map, hta]; rfl), ?_⟩
    walk_at "rd"
    refine ite2 (fun h => ?_) (fun h => ?_)
    · walk_at "rd"
      refine iteT ?_
      walk_at "rd"
      exact q true _ (Same.refl _) (fun _ => rfl)
    · walk_at "rd"
      refine ⟨_, _, _, _, _, rfl, cp.ins, hC.cls, hC.letters, rfl, ?_⟩
      walk_at "rd"
      refine ⟨_, _, _, _, rfl, rfl, SqL.of htl1, atI_nat (by rw [List.getElem?_map, hta]; rfl), ?_⟩
      walk_at "rd"
      refine ite2 (fun h => ?_) (fun h => ?_)
      · walk_at "rd"
        exact q true _ (Same.refl _) (fun _ => rfl)
      · walk_at "rd"
        refine ⟨_, _, _, _, _, rfl, cp.ins, hC.cls, hC.letters, rfl, ?_⟩
        refine ⟨_, _, rfl, .inl (SqL.of htl1), ?_⟩
        rw [List.length_map, hlen]
        walk_at "rd"
        intro D hD
        refine lc_range (lo := 0) (n := (ls.length : Int).toNat) (fun j Hx => ∃ xs : List Nat, Same H Hx ∧ Hx D = some (.lst (xs.map fun k => V.int (k : Nat))) ∧ xs.length ≤ j ∧ ∀ k ∈ xs, k < ls.length) ⟨[], Same.new1 hD, upd_same, Nat.le_refl _, fun k hk => by cases hk⟩ ?_ ?_
        · rintro j Hx hj ⟨xs, sx, hDx, hxl, hxs⟩
          have hj' : j < ls.length := hj
          have cpx := cp.mono sx
          obtain ⟨rT, hrT⟩ : ∃ r, T[j]? = some r := ⟨_, List.getElem?_eq_getElem (by omega)⟩
          obtain ⟨ra, hra, hraH⟩ := cpx.rT.at hrT
          have hrl := rowT rT (List.mem_of_getElem? hrT)
          refine ⟨rfl, ?_⟩
          walk_at "rd"
          refine ⟨_, _, _, _, _, rfl, cpx.ins, hC.cls, hC.times, rfl, ?_⟩
          walk_at "rd"
          refine ⟨_, _, _, _, rfl, rfl, SqL.of cpx.times, (show atI (c.ats.map V.ref) (0 + (j : Int)) = _ from by rw [Int.zero_add]; exact atI_nat (by rw [List.getElem?_map, hra]; rfl)), ?_⟩
          walk_at "rd"
          refine ⟨_, _, _, _, rfl, rfl, SqL.of hraH, row_at (by omega), ?_⟩
          walk_at "rd"
          refine ite2 (fun h => ?_) (fun h => ?_)
          · walk_at "rd"
            refine ⟨_, hDx, by rw [List.length_map]; exact Nat.lt_of_le_of_lt (show xs.length ≤ 40 by omega) (by decide), xs ++ [j], sx.mut hD, ?_, by rw [List.length_append]; show xs.length + 1 ≤ j + 1; omega, fun k hk => ?_⟩
            · rw [upd_same, List.map_append, Int.zero_add]
              rfl
            · rcases List.mem_append.mp hk with z | z
              · exact hxs k z
              · rw [List.mem_singleton.mp z]
                exact hj'
          · exact ⟨xs, sx, hDx, by omega, hxs⟩
        · rintro H1 ⟨xs, s1, hD1, hxl, hxs⟩
          have hxl' : xs.length ≤ ls.length := hxl
          walk_at "rd"
          refine ⟨⟨_, SqL.of hD1⟩, fun D2 hD2 => ?_⟩
          have hne : D ≠ D2 := ne_of_none hD1 hD2
          refine lc_list (K := K) (a := D) (xs := xs.map fun k => V.int (k : Nat)) (fun j Hx => ∃ ys : List V, Same H Hx ∧ Hx D = some (.lst (xs.map fun k => V.int (k : Nat))) ∧ Hx D2 = some (.lst ys) ∧ ys.length ≤ j)
            ⟨[], s1.add hD2, by rw [upd_ne hne]; exact hD1, upd_same, Nat.le_refl _⟩ (fun j Hx _ h => ?_) ?_ ?_
          · obtain ⟨_, _, h, _⟩ := h
            exact SqL.of h
          · rintro j x Hx hj ⟨ys, sx, hDx, hD2x, hyl⟩
            rw [List.getElem?_map] at hj
            obtain ⟨k, hk, rfl⟩ := Option.map_eq_some_iff.mp hj
            have hjl := (List.getElem?_eq_some_iff.mp hk).1
            have hk2 := hxs k (List.mem_of_getElem? hk)
            have cpx := cp.mono sx
            have htlx := cpx.same _ _ htl
            obtain ⟨tb, htb, hlb⟩ := (hTl.mono (Same.tups cpx.same)).get (i := k) (x := ltV ls[k]) (by rw [List.getElem?_map, List.getElem?_eq_getElem hk2]; rfl)
            refine ⟨rfl, ?_⟩
            walk_at "rd"
            refine ⟨_, _, _, _, _, rfl, cpx.ins, hC.cls, hC.letters, rfl, ?_⟩
            walk_at "rd"
            refine ⟨_, _, _, _, rfl, rfl, SqL.of htlx, atI_nat (by rw [List.getElem?_map, htb]; rfl), ?_⟩
            walk_at "rd"
            refine ite2 (fun h => ?_) (fun h => ?_)
            · walk_at "rd"
              refine ⟨_, _, _, _, _, rfl, cpx.ins, hC.cls, hC.letters, rfl, ?_⟩
              walk_at "rd"
              refine ⟨_, _, _, _, rfl, rfl, SqL.of htlx, atI_nat (by rw [List.getElem?_map, htb]; rfl), ?_⟩
              walk_at "rd"
              refine ite2 (fun h => ?_) (fun h => ?_)
              · walk_at "rd"
                refine ⟨_, hD2x, Nat.lt_of_le_of_lt (show ys.length ≤ 40 by omega) (by decide), ys ++ [.int k], ?_, by rw [upd_ne hne]; exact hDx, upd_same, by rw [List.length_append]; show ys.length + 1 ≤ j + 1; omega⟩
                exact sx.mut (Same.free s1 hD2)
              · exact ⟨ys, sx, hDx, hD2x, by omega⟩
            · walk_at "rd"
              exact ⟨ys, sx, hDx, hD2x, by omega⟩
          · rintro Hx ⟨ys, sx, hDx, hD2x, hyl⟩
            rw [List.length_map] at hyl
            have cpx := cp.mono sx
            have hprx := cpx.same _ _ hpr
            walk_at "rd"
            refine ⟨_, _, _, _, _, rfl, cpx.ins, hC.cls, hC.rooms, rfl, ?_⟩
            walk_at "rd"
            refine ⟨_, _, _, _, rfl, rfl, SqT.of hprx, int_at hw, ?_⟩
            walk_at "rd"
            refine q _ _ sx (fun e => ?_)
            rw [List.getD_eq_getElem?_getD, List.getElem?_eq_getElem hw] at e
            have e' : (ls.length : Int) < rs[w'] := e
            exact decide_eq_true (by omega)
end
end Sm
set_option Elab.async false
set_option linter.all false
set_option maxRecDepth 100000
set_option maxHeartbeats 4000000
set_option pp.maxSteps 600
namespace L2
open PySem PySem.Spec PyProof.Rows
/-- a method of a class, as a caller sees it -/
structure Mth (P : Program) (w : World) (K : PySem.W.Frag) (mg : Str → Option Value) (base : Heap) (C : Addr) (m : Str) (k : Nat) (ps : List Str) (sp : Sp) (f : Addr) (fd : FuncData) : Prop where
  m : Meth K C m f
  ok : FnOk P w K mg base CX0 k f fd ps sp
  b : Binds K fd ps []
end L2
namespace Sm
open PySem L2
open C8 (tCut pss_cut)
local macro_rules | `(tactic| walk_at "rdc") => `(tactic| first
  | with_reducible assumption
  | exact (show flatV _ = true from rfl)
  | exact flat_ints _
  | exact Or.inr ⟨by decide, by decide⟩
  | exact Or.inl ⟨by decide, by decide⟩
  | exact Or.inl (mod_in _)
  | exact Or.inl ⟨by (try dsimp only); omega, by (try dsimp only); omega⟩
  | exact Or.inr ⟨by (try dsimp only); omega, by (try dsimp only); omega⟩
  | exact ⟨by decide, by decide, by decide⟩
  | exact ⟨by decide, by decide⟩
  | exact ⟨by omega, by omega⟩
  | decide
  | omega
  | (show (0 : Int) < _; decide)
  | exact Nat.le_of_ble_eq_true rfl)
local macro_rules | `(tactic| walk_at "rd1") => `(tactic| first
  | (refine ⟨_, rfl, ?_⟩)
  | (refine ⟨_, _, rfl, rfl, ?_⟩)
  | (refine And.intro (by walk_at "rdc") ?_)
  | (refine ⟨_, _, rfl, (by first | exact Or.inl (by assumption) | exact Or.inl (SqL.of (by assumption)) | exact Or.inr (SqT.of (by assumption))), ?_⟩)
  | (refine ⟨_, _, _, _, rfl, rfl, (by first | exact SqL.of (by assumption) | exact SqT.of (by assumption) | exact SqL.of upd_same | assumption), (by rfl), ?_⟩)
  | (refine ⟨_, _, _, _, rfl, rfl, (by first | assumption | exact upd_same), (by rfl), ?_⟩)
  | (refine ⟨rfl, _, rfl, ?_⟩))
local macro_rules | `(tactic| walk_at "rd") => `(tactic| repeat (walk_at "rd1"))
def sp_copied (RA : RAt) (C : Addr) : Sp := fun vs H Q _ => ∃ (c : Ct) (H0 : Hp) (T U : Grid) (d : Nat) (rs : List Int) (ls : List Lt) (R : Rl) (l : Lt) (rT rU : Row) (km : Nat) (w : Int) (i g o : Nat),
  vs = [.ref c.x, .int km, .int w, .int i, .int g, .int o] ∧ CpAt C c H0 H T U d ∧ d < 10000 ∧ RA H0 c.ru R rs.length ∧ LsAt H0 c.tl ls ∧ H0 c.pr = some (.tup (rs.map V.int)) ∧ ls.length ≤ 40 ∧ T.length = ls.length ∧ (∀ r ∈ T, List.length r = rs.length) ∧
  ls[i]? = some l ∧ T[i]? = some rT ∧ U[i]? = some rU ∧ rU.length = rs.length ∧ (∀ k, ga rT k = none ↔ ga rU k = none) ∧ g < rs.length ∧ o < rs.length ∧ g ≠ o ∧ l.d < rs.length ∧
  (∀ H', CpAt C c H0 H' T U d → Keep c H H' → (gives rT w g o = true → R = .all → ¬ (ls.length : Int) < rs.getD o 0) → Q (.bl false) H') ∧
  (∀ u k H', gives rT w g o = true → ga rU g = some u → R.may l o u k → CpAt C c H0 H' (T.set i (rT.set o (some w))) (U.set i ((rU.set o (some k)).set g (some (u - k)))) (d + 1) → Keep c H H' → Q (.bl true) H')
section
variable {P : Program} {w : World} {K : PySem.W.Frag} {mg : Str → Option Value} {base : Heap} {f fw fi fm fr fb fp C CR : Addr} {fd fdw fdi fdm fdr fdb fdp : FuncData} {RA : RAt}
theorem ok_copied (F : Fun K "copied" "Copying.copied" st_Copying_copied f fd) (hC : CpC K C) (hR : Cls K CR) (ri : RuleI RA CR) (m_share : Mth P w K mg base CR "share" 1 ["self", "letter", "giver", "other", "tokens"] (sp_share RA) fm fdm) (m_room : Mth P w K mg base C "has_room" 1 ["self", "number", "walker"] (sp_hasroom C) fr fdr) :
    FnOk P w K mg base CX0 2 f fd ["self", "meeting", "when", "number", "giver", "other"] (sp_copied RA C) := by
  refine F.ok sc_Copying_copied (fun vs H Q E h => ?_) (fun cdv A outer s H vs Q E hr h => ?_)
  · obtain ⟨c, H0, T, U, d, rs, ls, R, l, rT, rU, km, w, i, g, o, rfl, _⟩ := h
    rfl
  · obtain ⟨c, H0, T, U, d, rs, ls, R, l, rT, rU, km, wh, i, g, o, rfl, cp, hd, ra, ⟨as, htl, hTl⟩, hpr, l40, lT, rowT, hl, hT, hU, lU, both, hg, ho, hgo, hld, q0, q1⟩ := h
    have hil := (List.getElem?_eq_some_iff.mp hl).1
    have lrT := rowT rT (List.mem_of_getElem? hT)
    obtain ⟨at_, hat, hatH⟩ := cp.rT.at hT
    obtain ⟨au, hau, hauH⟩ := cp.rU.at hU
    have htl1 := cp.same _ _ htl
    obtain ⟨ta, hta, hlt⟩ := (hTl.mono (Same.tups cp.same)).get (i := i) (x := ltV l) (by rw [List.getElem?_map, hl]; rfl)
    obtain ⟨dR, fsR, hru, fs1, fs2, fs3⟩ := ri.ins (ri.mono cp.same ra)
    refine ⟨_, 
      (pss_cons (pset 6 sc_Copying_copied.nd (pe_ix (ix_listK K (by rfl)) (fld_K K (by rfl) (pv 0) rfl) (pv 3) (fun _ _ => rfl))) 
      (pss_cons (ps_if (PW.pt (pw_or (pt_cmpR op_isN (pe_ix (ix_listK K (by rfl)) (pv 6) (pv 4) (fun _ _ => rfl)) (pe_non) (nomark _)) (pw_or (pt_cmpR op_notN (pe_ix (ix_listK K (by rfl)) (pv 6) (pv 5) (fun _ _ => rfl)) (pe_non) (nomark _)) (pw_or1 (pt_cmpR op_ge (pe_ix (ix_listK K (by rfl)) (pv 6) (pv 4) (fun _ _ => rfl)) (pv 2) (nomark _)))))) 
        (pss_one (ps_ret (pe_bl))) pss_nil) 
      (pss_cons (pset 7 sc_Copying_copied.nd (pe_meth (fld_K K (by rfl) (pv 0) rfl) hR m_share.m m_share.ok (hr.mono (by decide)) m_share.b .nil pass0 (pa_cons (pe_ix (ix_listK K (by rfl)) (fld_K K (by rfl) (pv 0) rfl) (pv 3) (fun _ _ => rfl)) (pa_cons (pv 4) (pa_cons (pv 5) (pa_cons (pe_ix (ix_listK K (by rfl)) (pe_ix (ix_listK K (by rfl)) (fld_K K (by rfl) (pv 0) rfl) (pv 3) (fun _ _ => rfl)) (pv 4) (fun _ _ => rfl)) pa_nil)))))) 
      (pss_cons (ps_if (PW.pt (pw_or (pt_cmpR op_isN (pv 7) (pe_non) (nomark _)) (pw_or1 (pt_not (pt_val (pe_meth (pv 0) hC.cls m_room.m m_room.ok (hr.mono (by decide)) m_room.b .nil pass0 (pa_cons (pv 3) (pa_cons (pv 5) pa_nil)))))))) 
        (pss_one (ps_ret (pe_bl))) pss_nil) 
      (pss_cons (ps_asg (pv 2) (pg_sub (pv 6) (pv 5) set_list)) 
      (pss_cons (ps_asg (pv 7) (pg_sub (pe_ix (ix_listK K (by rfl)) (fld_K K (by rfl) (pv 0) rfl) (pv 3) (fun _ _ => rfl)) (pv 5) set_list)) 
      (pss_cons (ps_augS (pe_ix (ix_listK K (by rfl)) (fld_K K (by rfl) (pv 0) rfl) (pv 3) (fun _ _ => rfl)) (pv 4) (get_listK K (by rfl)) (pv 7) ip_sub set_list) 
      (pss_cons (ps_expr (pe_bm PySem.F.plainAttrs_list PySem.F.slot_list_append PySem.F.type_list_append mt_append (fld_K K (by rfl) (pv 0) rfl) (pa_cons (pe_tup (pa_cons (pe_str) (pa_cons (pv 1) (pa_cons (pv 3) (pa_cons (pv 4) pa_nil))))) pa_nil))) 
      (pss_one (ps_ret (pe_bl))))))))))), ?_⟩
    walk_at "rd"
    refine ⟨_, _, _, _, _, rfl, cp.ins, hC.cls, hC.times, rfl, ?_⟩
    walk_at "rd"
    refine ⟨_, _, _, _, rfl, rfl, SqL.of cp.times, atI_nat (by rw [List.getElem?_map, hat]; rfl), ?_⟩
    walk_at "rd"
    refine ⟨_, _, _, _, rfl, rfl, SqL.of hatH, row_at (by omega), ?_⟩
    have no : ¬ gives rT wh g o = true → Q (.bl false) H := fun hx => q0 H cp (.refl _ _) (fun h => absurd h hx)
    cases eg : ga rT g with
    | none =>
      have hx : ¬ gives rT wh g o = true := fun z => by
        obtain ⟨⟨t, h1, h2⟩, h3⟩ := gives_iff.mp z
        rw [eg] at h1
        cases h1
      walk_at "rd"
      exact no hx
    | some t =>
      walk_at "rd"
      refine ⟨_, _, _, _, rfl, rfl, SqL.of hatH, row_at (by omega), ?_⟩
      cases eo : ga rT o with
      | some t2 =>
        have hx : ¬ gives rT wh g o = true := fun z => by
          obtain ⟨_, h3⟩ := gives_iff.mp z
          rw [eo] at h3
          cases h3
        walk_at "rd"
        exact no hx
      | none =>
        walk_at "rd"
        refine ⟨_, _, _, _, rfl, rfl, SqL.of hatH, row_at (by omega), ?_⟩
        rw [eg]
        walk_at "rd"
        refine ite2 (fun h => ?_) (fun h => ?_)
        · have h' := of_decide_eq_true h
          have hx : ¬ gives rT wh g o = true := fun z => by
            obtain ⟨⟨t', h1, h2⟩, h3⟩ := gives_iff.mp z
            rw [eg] at h1
            cases h1
            omega
          walk_at "rd"
          exact no hx
        · have h' : ¬ wh ≤ t := fun z => h (decide_eq_true z)
          have hx : gives rT wh g o = true := gives_iff.mpr ⟨⟨t, eg, by omega⟩, eo⟩
          obtain ⟨u, eu⟩ : ∃ u, ga rU g = some u := by
            cases e : ga rU g with
            | none => rw [(both g).mpr e] at eg; cases eg
            | some u => exact ⟨u, rfl⟩
          walk_at "rd"
          refine ⟨_, _, _, _, _, rfl, cp.ins, hC.cls, hC.rule, rfl, ?_⟩
          refine ⟨_, _, _, rfl, hru, fs1, ?_⟩
          walk_at "rd"
          refine ⟨_, _, _, _, _, rfl, cp.ins, hC.cls, hC.letters, rfl, ?_⟩
          walk_at "rd"
          refine ⟨_, _, _, _, rfl, rfl, SqL.of htl1, atI_nat (by rw [List.getElem?_map, hta]; rfl), ?_⟩
          walk_at "rd"
          refine ⟨_, _, _, _, _, rfl, cp.ins, hC.cls, hC.tokens_of, rfl, ?_⟩
          walk_at "rd"
          refine ⟨_, _, _, _, rfl, rfl, SqL.of cp.toks, atI_nat (by rw [List.getElem?_map, hau]; rfl), ?_⟩
          walk_at "rd"
          refine ⟨_, _, _, _, rfl, rfl, SqL.of hauH, row_at (by omega), ?_⟩
          rw [eu]
          refine ⟨c.ru, R, rs.length, ta, l, g, o, u, rfl, ri.mono cp.same ra, hlt, hg, ho, hld, fun k hk => ?_, fun hne => ?_⟩
          · walk_at "rd"
            refine ⟨_, _, _, rfl, cp.ins, rfl, ?_⟩
            walk_at "rd"
            refine ⟨c, H0, T, U, d, rs, ls, i, o, rfl, cp, ⟨as, htl, hTl⟩, hpr, l40, lT, rowT, hil, ho, fun b H1 s1 hb => ?_⟩
            cases b with
            | false =>
              walk_at "rd"
              exact q0 H1 (cp.mono s1) (Same.keep s1) (fun _ _ z => by have := hb z; cases this)
            | true =>
              have cp1 := cp.mono s1
              have k1 : Keep c H H1 := Same.keep s1
              walk_at "rd"
              refine ⟨_, _, _, _, rfl, rfl, cp1.rT.2 i at_ rT hat hT, row_ix (by omega), ?_⟩
              have e1 : (rowV rT).set o (.int wh) = rowV (rT.set o (some wh)) := row_set (some wh)
              rw [e1]
              have cp2 := cp1.setT (r := rT.set o (some wh)) hat
              have k2 := k1.upd (o := .lst (rowV (rT.set o (some wh)))) (CpAt.ats_own _ (List.mem_of_getElem? hat))
              generalize L2.upd H1 at_ (.lst (rowV (rT.set o (some wh)))) = H2 at cp2 k2
              walk_at "rd"
              refine ⟨_, _, _, _, _, rfl, cp2.ins, hC.cls, hC.tokens_of, rfl, ?_⟩
              walk_at "rd"
              refine ⟨_, _, _, _, rfl, rfl, SqL.of cp2.toks, atI_nat (by rw [List.getElem?_map, hau]; rfl), ?_⟩
              walk_at "rd"
              refine ⟨_, _, _, _, rfl, rfl, cp2.rU.2 i au rU hau hU, row_ix (by omega), ?_⟩
              have e2 : (rowV rU).set o (.int k) = rowV (rU.set o (some k)) := row_set (some k)
              rw [e2]
              have cp3 := cp2.setU (r := rU.set o (some k)) hau
              have k3 := k2.upd (o := .lst (rowV (rU.set o (some k)))) (CpAt.aus_own _ (List.mem_of_getElem? hau))
              generalize L2.upd H2 au (.lst (rowV (rU.set o (some k)))) = H3 at cp3 k3
              have hiU : i < U.length := (List.getElem?_eq_some_iff.mp hU).1
              have hU3 : (U.set i (rU.set o (some k)))[i]? = some (rU.set o (some k)) := List.getElem?_set_self hiU
              have hl3 : (rU.set o (some k)).length = rs.length := by rw [List.length_set]; exact lU
              walk_at "rd"
              refine ⟨_, _, _, _, _, rfl, cp3.ins, hC.cls, hC.tokens_of, rfl, ?_⟩
              walk_at "rd"
              refine ⟨_, _, _, _, rfl, rfl, SqL.of cp3.toks, atI_nat (by rw [List.getElem?_map, hau]; rfl), ?_⟩
              walk_at "rd"
              refine ⟨_, _, _, _, rfl, rfl, SqL.of (cp3.rU.2 i au _ hau hU3), row_at (by omega), ?_⟩
              rw [ga_set (show o < rU.length by omega), if_neg hgo, eu]
              walk_at "rd"
              refine ⟨_, _, _, _, rfl, rfl, cp3.rU.2 i au _ hau hU3, row_ix (by omega), ?_⟩
              have e3 : (rowV (rU.set o (some k))).set g (.int (u - k)) = rowV ((rU.set o (some k)).set g (some (u - k))) := row_set (some (u - k))
              rw [e3]
              have cp4 := cp3.setU (r := (rU.set o (some k)).set g (some (u - k))) hau
              rw [List.set_set] at cp4
              have k4 := k3.upd (o := .lst (rowV ((rU.set o (some k)).set g (some (u - k))))) (CpAt.aus_own _ (List.mem_of_getElem? hau))
              generalize L2.upd H3 au (.lst (rowV ((rU.set o (some k)).set g (some (u - k))))) = H4 at cp4 k4
              obtain ⟨ds, hds, hdl⟩ := cp4.deeds
              walk_at "rd"
              refine ⟨_, _, _, _, _, rfl, cp4.ins, hC.cls, hC.deeds_made, rfl, ?_⟩
              walk_at "rd"
              refine ⟨.inl ⟨rfl, _, SqL.of hds⟩, ?_⟩
              walk_at "rd"
              intro p hp
              have s5 := Same.new1 (o := .tup [.str "copy", .int km, .int i, .int g]) hp
              have cp5 := cp4.mono s5
              refine ⟨_, _, _, rfl, rfl, s5 _ _ hds, Nat.lt_of_le_of_lt (show ds.length ≤ 10000 by omega) (by decide), ?_⟩
              walk_at "rd"
              have cp6 := cp5.setD (ds := ds ++ [.ref p]) (by rw [List.length_append]; show ds.length + 1 ≤ d + 1; omega)
              exact q1 u k _ hx eu hk cp6 ((k4.trans (Same.keep s5)).upd CpAt.D_own)
          · walk_at "rd"
            exact q0 H cp (.refl _ _) (fun _ e => absurd e hne)
end
end Sm
set_option Elab.async false
set_option linter.all false
set_option maxRecDepth 100000
set_option maxHeartbeats 4000000
set_option pp.maxSteps 600
namespace Sm
open PySem L2
open C8 (tCut pss_cut)
local macro_rules | `(tactic| walk_at "rdc") => `(tactic| first
  | with_reducible assumption
  | exact (show flatV _ = true from rfl)
  | exact flat_ints _
  | exact Or.inr ⟨by decide, by decide⟩
  | exact Or.inl ⟨by decide, by decide⟩
  | exact Or.inl (mod_in _)
  | exact Or.inl ⟨by (try dsimp only); omega, by (try dsimp only); omega⟩
  | exact Or.inr ⟨by (try dsimp only); omega, by (try dsimp only); omega⟩
  | exact ⟨by decide, by decide, by decide⟩
  | exact ⟨by decide, by decide⟩
  | exact ⟨by omega, by omega⟩
  | decide
  | omega
  | (show (0 : Int) < _; decide)
  | exact Nat.le_of_ble_eq_true rfl)
local macro_rules | `(tactic| walk_at "rd1") => `(tactic| first
  | (refine ⟨_, rfl, ?_⟩)
  | (refine ⟨_, _, rfl, rfl, ?_⟩)
  | (refine And.intro (by walk_at "rdc") ?_)
  | (refine ⟨_, _, rfl, (by first | exact Or.inl (by assumption) | exact Or.inl (SqL.of (by assumption)) | exact Or.inr (SqT.of (by assumption))), ?_⟩)
  | (refine ⟨_, _, _, _, rfl, rfl, (by first | exact SqL.of (by assumption) | exact SqT.of (by assumption) | exact SqL.of upd_same | assumption), (by rfl), ?_⟩)
  | (refine ⟨_, _, _, _, rfl, rfl, (by first | assumption | exact upd_same), (by rfl), ?_⟩)
  | (refine ⟨rfl, _, rfl, ?_⟩))
local macro_rules | `(tactic| walk_at "rd") => `(tactic| repeat (walk_at "rd1"))
section
variable {C : Addr} {c : Ct} {H0 H H' : Hp} {T U : Grid} {d : Nat}
theorem CpAt.own_lst (h : CpAt C c H0 H T U d) {a : Addr} (ha : a ∈ c.own) : ∃ xs, H a = some (.lst xs) := by
  rcases List.mem_cons.mp ha with e | e
  · obtain ⟨ds, h1, _⟩ := h.deeds
    exact ⟨ds, by rw [e]; exact h1⟩
  · rcases List.mem_append.mp e with e | e
    · obtain ⟨i, hi⟩ := List.getElem?_of_mem e
      have hl : i < T.length := by rw [← h.rT.1]; exact (List.getElem?_eq_some_iff.mp hi).1
      exact ⟨_, h.rT.2 i a _ hi (List.getElem?_eq_getElem hl)⟩
    · obtain ⟨i, hi⟩ := List.getElem?_of_mem e
      have hl : i < U.length := by rw [← h.rU.1]; exact (List.getElem?_eq_some_iff.mp hi).1
      exact ⟨_, h.rU.2 i a _ hi (List.getElem?_eq_getElem hl)⟩
theorem CpAt.not_own (h : CpAt C c H0 H T U d) {a : Addr} (ha : H a = none) : a ∉ c.own := fun z => by
  obtain ⟨xs, e⟩ := h.own_lst z
  rw [ha] at e
  cases e
theorem CpAt.tup_own (h : CpAt C c H0 H T U d) {a : Addr} {xs : List V} (ha : H a = some (.tup xs)) : a ∉ c.own := fun z => by
  obtain ⟨ys, e⟩ := h.own_lst z
  rw [ha] at e
  cases e
theorem CpAt.tups (h : CpAt C c H0 H T U d) (k : Keep c H H') : Tups H H' := fun a x e => k a _ (h.tup_own e) e
end
theorem GridG.rowT {R : Rl} {n : Nat} {ls : List Lt} {ex : Prop} {W : Nat → Int} {L : Nat → Lt → Row} {T U : Grid} (g : GridG R n ls ex W L T U) : ∀ r ∈ T, List.length r = n := fun r hr => by
  obtain ⟨j, hj⟩ := List.getElem?_of_mem hr
  have hl : j < ls.length := by rw [← g.lT]; exact (List.getElem?_eq_some_iff.mp hj).1
  obtain ⟨rT, rU, h1, _, x⟩ := g.at (List.getElem?_eq_getElem hl)
  rw [hj] at h1
  cases h1
  exact x.lT
def sp_meet (RA : RAt) (C : Addr) : Sp := fun vs H Q _ => ∃ (c : Ct) (H0 : Hp) (T U : Grid) (d : Nat) (rs : List Int) (ls : List Lt) (R : Rl) (m : Mt) (km : Nat) (tm : Addr) (W : Int) (L : Lt → Row) (ex : Prop),
  vs = [.ref c.x, .int km, .ref tm] ∧ H tm = some (.tup (mtV m)) ∧ MOk rs.length m ∧ CpAt C c H0 H T U d ∧ d + 2 * ls.length < 10000 ∧ RA H0 c.ru R rs.length ∧ LsAt H0 c.tl ls ∧ H0 c.pr = some (.tup (rs.map V.int)) ∧ ls.length ≤ 40 ∧
  (∀ l ∈ ls, l.s < rs.length ∧ l.d < rs.length) ∧ GridG R rs.length ls ex (fun _ => W) (fun _ l => L l) T U ∧ W ≤ m.w ∧ (ex → R = .all ∧ (∀ k, k < rs.length → (ls.length : Int) < rs.getD k 0) ∧ 2 * (ls.length : Int) < m.c) ∧
  ∀ H' T' U', CpAt C c H0 H' T' U' (d + 2 * ls.length) → GridG R rs.length ls ex (fun _ => m.w) (fun _ l => stepM (L l) m) T' U' → Keep c H H' → Q .non H'
/-- between the letters and the ways of a meeting -/
def Wij (i j : Nat) (W w : Int) : Nat → Int := fun q => if q < i then w else if q = i ∧ 0 < j then w else W
def Lij (i j : Nat) (L : Lt → Row) (m : Mt) : Nat → Lt → Row := fun q l => if q < i then stepM (L l) m else if q = i then half m (L l) j else L l
section
variable {P : Program} {w : World} {K : PySem.W.Frag} {mg : Str → Option Value} {base : Heap} {f fw fi fm fr fb fp C CR : Addr} {fd fdw fdi fdm fdr fdb fdp : FuncData} {RA : RAt}
theorem ok_meet (F : Fun K "meet" "Copying.meet" st_Copying_meet f fd) (B : Bt mg) (hC : CpC K C) (c_both_ways : Cl P w K mg base "both_ways" 1 ["meeting"] sp_bothways fb fdb) (m_copied : Mth P w K mg base C "copied" 2 ["self", "meeting", "when", "number", "giver", "other"] (sp_copied RA C) fm fdm) :
    FnOk P w K mg base CX0 3 f fd ["self", "number", "meeting"] (sp_meet RA C) := by
  refine F.ok sc_Copying_meet (fun vs H Q E h => ?_) (fun cdv A outer s H vs Q E hr h => ?_)
  · obtain ⟨c, H0, T, U, d, rs, ls, R, m, km, tm, W, L, ex, rfl, _⟩ := h
    rfl
  · obtain ⟨c, H0, T, U, d, rs, ls, R, m, km, tm, W, L, ex, rfl, htm, ok, cp, hd, ra, hLs, hpr, l40, hls, gr, hW, hex, q⟩ := h
    obtain ⟨as, htl, hTl⟩ := id hLs
    have hlen := hTl.length
    rw [List.length_map] at hlen
    have htl1 := cp.same _ _ htl
    have htO : tm ∉ c.own := cp.tup_own htm
    refine ⟨_, 
      (pss_cons (pset 3 sc_Copying_meet.nd (pe_ix (ix_tupK K (by rfl)) (pv 2) (pe_int) (fun _ _ => rfl))) 
      (pss_one (ps_for PassesOwn.never rfl (pi_range1 (by rfl) B.range (pa_cons (pe_callB (len_K K (by rfl)) (by rfl) B.len bo_len (pa_cons (fld_K K (by rfl) (pv 0) rfl) pa_nil)) pa_nil)) (pnm 4 sc_Copying_meet.nd) 
        (pss_one (ps_for PassesOwn.never rfl (pl_K K (by rfl) (pe_cl c_both_ways (hr.mono (by decide)) rfl (pa_cons (pv 2) pa_nil))) (tup_K K (by rfl) rfl (pgs_cons (pnm 5 sc_Copying_meet.nd) (pgs_cons (pnm 6 sc_Copying_meet.nd) pgs_nil))) 
          (pss_one (ps_if (PW.pt (pw_and (pt_cmpR op_gt (pv 3) (pe_int) (nomark _)) (pw_and1 (pt_val (pe_meth (pv 0) hC.cls m_copied.m m_copied.ok (hr.mono (by decide)) m_copied.b .nil pass0 (pa_cons (pv 1) (pa_cons (pe_ix (ix_tupK K (by rfl)) (pv 2) (pe_int) (fun _ _ => rfl)) (pa_cons (pv 4) (pa_cons (pv 5) (pa_cons (pv 6) pa_nil)))))))))) 
            (pss_one (ps_aug (i := 3) sc_Copying_meet.nd rfl (.inl rfl) (pe_int) ip_sub)) pss_nil))))))), ?_⟩
    walk_at "rd"
    refine ⟨_, _, _, _, _, rfl, cp.ins, hC.cls, hC.letters, rfl, ?_⟩
    refine ⟨_, _, rfl, .inl (SqL.of htl1), ?_⟩
    rw [List.length_map, hlen]
    walk_at "rd"
    refine for_range (lo := 0) (n := (ls.length : Int).toNat) (fun i σ Hx => ∃ (T U : Grid) (lf : Int) (v4 v5 v6 : Option V), CpAt C c H0 Hx T U (d + 2 * i) ∧ GridG R rs.length ls ex (Wij i 0 W m.w) (Lij i 0 L m) T U ∧ Keep c H Hx ∧ (ex → m.c - 2 * i ≤ lf) ∧
      σ = [some (.ref c.x), some (.int km), some (.ref tm), some (.int lf), v4, v5, v6]) ⟨T, U, m.c, _, _, _, cp, gr.ext (fun j hj => ?_) (fun j l hj => ?_), .refl _ _, fun _ => by omega, rfl⟩ ?_ ?_
    · unfold Wij
      rw [if_neg (Nat.not_lt_zero _), if_neg (fun z => absurd z.2 (Nat.lt_irrefl 0))]
    · unfold Lij
      rw [if_neg (Nat.not_lt_zero _)]
      split <;> rfl
    · rintro i σ Hx hi ⟨T, U, lf, v4, v5, v6, cp, gr, k1, hlf, rfl⟩
      have hi' : i < ls.length := hi
      have htmx := k1 tm _ htO htm
      walk_at "rd"
      refine ⟨_, _, rfl, htmx, fun b t1 t2 H4 s4 hb0 hb4 ht1 ht2 => ?_⟩
      have hbO : b ∉ c.own := cp.not_own hb0
      have cp4 := cp.mono s4
      walk_at "rd"
      refine ⟨⟨_, SqL.of hb4⟩, ?_⟩
      refine for_list (K := K) (a := b) (xs := [.ref t1, .ref t2]) (fun j σ Hy => ∃ (T U : Grid) (lf : Int) (v5 v6 : Option V), CpAt C c H0 Hy T U (d + 2 * i + j) ∧ GridG R rs.length ls ex (Wij i j W m.w) (Lij i j L m) T U ∧ Keep c H4 Hy ∧ (ex → m.c - (2 * i + j) ≤ lf) ∧
        σ = [some (.ref c.x), some (.int km), some (.ref tm), some (.int lf), some (.int i), v5, v6]) ⟨T, U, lf, v5, v6, cp4, gr, .refl _ _, (fun e => by have := hlf e; omega), ?_⟩ (fun j σ Hy hj h => ?_) ?_ ?_
      · rw [Int.zero_add]
        rfl
      · obtain ⟨_, _, _, _, _, _, _, k, _⟩ := h
        exact SqL.of (k b _ hbO hb4)
      · rintro j x σ Hy hj ⟨T, U, lf, v5, v6, cpy, gry, ky, hly, rfl⟩
        obtain ⟨tw, g, o, rfl, htw, way⟩ := ways_at (cp4.tups ky _ _ ht1) (cp4.tups ky _ _ ht2) hj
        obtain ⟨hg, ho, hgo⟩ := way.lt ok
        have hl : ls[i]? = some ls[i] := List.getElem?_eq_getElem hi'
        obtain ⟨ls1, ls2⟩ := hls ls[i] (List.getElem_mem hi')
        obtain ⟨rT, rU, hT, hU, ro⟩ := gry.at hl
        have hj2 : j < 2 := (List.getElem?_eq_some_iff.mp hj).1
        have eL : Lij i j L m i ls[i] = half m (L ls[i]) j := by unfold Lij; rw [if_neg (Nat.lt_irrefl i), if_pos rfl]
        have eL2 : Lij i (j + 1) L m i ls[i] = step1 m.w g o (half m (L ls[i]) j) := by unfold Lij; rw [if_neg (Nat.lt_irrefl i), if_pos rfl, half_next way]
        have eW2 : Wij i (j + 1) W m.w i = m.w := by unfold Wij; rw [if_neg (Nat.lt_irrefl i), if_pos ⟨rfl, Nat.succ_pos j⟩]
        have eW : Wij i j W m.w i ≤ m.w := by
          unfold Wij
          rw [if_neg (Nat.lt_irrefl i)]
          split
          · exact Int.le_refl _
          · exact hW
        have oW : ∀ q, q ≠ i → Wij i (j + 1) W m.w q = Wij i j W m.w q := fun q hq => by
          unfold Wij
          by_cases z : q < i
          · rw [if_pos z, if_pos z]
          · rw [if_neg z, if_neg z, if_neg (fun y => hq y.1), if_neg (fun y => hq y.1)]
        have oL : ∀ q l, q ≠ i → Lij i (j + 1) L m q l = Lij i j L m q l := fun q l hq => by
          unfold Lij
          by_cases z : q < i
          · rw [if_pos z, if_pos z]
          · rw [if_neg z, if_neg z, if_neg hq, if_neg hq]
        rw [eL] at ro
        refine ⟨_, _, rfl, SqT.of htw, rfl, _, _, rfl, _, _, rfl, rfl, ?_⟩
        have skip : (ex → gives rT m.w g o = false) → GridG R rs.length ls ex (Wij i (j + 1) W m.w) (Lij i (j + 1) L m) T U := fun hx =>
          gry.re hl hT hU (by rw [eL2, eW2]; exact ro.skip ho eW hx) oW oL
        have htmy := ky tm _ htO (s4 _ _ htmx)
        walk_at "rd"
        refine ite2 (fun h => ?_) (fun h => ?_)
        · have h' := of_decide_eq_true h
          walk_at "rd"
          refine ⟨_, _, _, rfl, cpy.ins, rfl, ?_⟩
          walk_at "rd"
          refine ⟨c, H0, T, U, d + 2 * i + j, rs, ls, R, ls[i], rT, rU, km, m.w, i, g, o, rfl, cpy, by omega, ra, hLs, hpr, l40, gry.lT, gry.rowT, hl, hT, hU, ro.lU, ro.both, hg, ho, hgo, ls2, fun H5 cp5 k5 hno => ?_, fun u k H5 hx eu hk cp5 k5 => ?_⟩
          · walk_at "rd"
            refine ⟨T, U, lf, _, _, cp5.more (by omega), skip (fun e => ?_), ky.trans k5, (fun e => by have := hly e; omega), rfl⟩
            obtain ⟨z1, z2, z3⟩ := hex e
            cases z : gives rT m.w g o with
            | false => rfl
            | true => exact absurd (z2 o ho) (hno z z1)
          · walk_at "rd"
            refine ⟨T.set i (rT.set o (some m.w)), U.set i ((rU.set o (some k)).set g (some (u - k))), lf - 1, _, _, cp5.more (by omega), gry.set hl ?_ oW oL, ky.trans k5, (fun e => by have := hly e; omega), rfl⟩
            rw [eL2, eW2]
            exact ro.copy hg ho hgo eW hx eu hk
        · have h' : ¬ 0 < lf := fun z => h (decide_eq_true z)
          walk_at "rd"
          refine ⟨T, U, lf, _, _, cpy.more (by omega), skip (fun e => ?_), ky, (fun e => by have := hly e; omega), rfl⟩
          obtain ⟨_, _, z⟩ := hex e
          have := hly e
          omega
      · rintro σ Hy ⟨T, U, lf, v5, v6, cpy, gry, ky, hly, rfl⟩
        have hly' : ex → m.c - (2 * i + 2) ≤ lf := hly
        refine ⟨T, U, lf, _, _, _, cpy, gry.ext (fun q hq => ?_) (fun q l hq => ?_), (k1.trans (Same.keep s4)).trans ky, (fun e => by have := hly' e; omega), rfl⟩
        · show Wij (i + 1) 0 W m.w q = Wij i 2 W m.w q
          unfold Wij
          by_cases z : q < i
          · rw [if_pos (by omega), if_pos z]
          · rw [if_neg z]
            by_cases y : q = i
            · rw [if_pos (by omega), if_pos ⟨y, by decide⟩]
            · rw [if_neg (by omega), if_neg (fun v => absurd v.2 (Nat.lt_irrefl 0)), if_neg (fun v => y v.1)]
        · show Lij (i + 1) 0 L m q l = Lij i 2 L m q l
          unfold Lij
          by_cases z : q < i
          · rw [if_pos (by omega), if_pos z]
          · rw [if_neg z]
            by_cases y : q = i
            · rw [if_pos (by omega), if_pos y]
              rfl
            · rw [if_neg (by omega), if_neg y]
              split <;> rfl
    · rintro σ Hx ⟨T, U, lf, v4, v5, v6, cpx, grx, kx, hlx, rfl⟩
      have cpx' : CpAt C c H0 Hx T U (d + 2 * ls.length) := cpx
      refine q Hx T U cpx' (grx.ext (fun j hj => ?_) (fun j l hj => ?_)) kx
      · show m.w = Wij ls.length 0 W m.w j
        unfold Wij
        rw [if_pos hj]
      · show stepM (L l) m = Lij ls.length 0 L m j l
        unfold Lij
        rw [if_pos hj]
end
end Sm
set_option Elab.async false
set_option linter.all false
set_option maxRecDepth 100000
set_option maxHeartbeats 4000000
set_option pp.maxSteps 600
namespace L2
open PySem PySem.Spec PyProof.Rows
/-- a class that is made by its __init__, as a caller sees it -/
structure MkC (P : Program) (w : World) (K : PySem.W.Frag) (mg : Str → Option Value) (base : Heap) (x : Str) (C : Addr) (k : Nat) (ps : List Str) (sp : Sp) (f : Addr) (fd : FuncData) : Prop where
  makes : Mk K C f
  ok : FnOk P w K mg base CX0 k f fd ps sp
  mg : mg x = some (.ref C)
  b : Binds K fd ps []
structure MkC0 (K : PySem.W.Frag) (mg : Str → Option Value) (x : Str) (C : Addr) : Prop where
  makes : MkO K C
  mg : mg x = some (.ref C)
end L2
namespace Sm
open PySem L2
open C8 (tCut pss_cut)
local macro_rules | `(tactic| walk_at "rdc") => `(tactic| first
  | with_reducible assumption
  | exact (show flatV _ = true from rfl)
  | exact flat_ints _
  | exact Or.inr ⟨by decide, by decide⟩
  | exact Or.inl ⟨by decide, by decide⟩
  | exact Or.inl (mod_in _)
  | exact Or.inl ⟨by (try dsimp only); omega, by (try dsimp only); omega⟩
  | exact Or.inr ⟨by (try dsimp only); omega, by (try dsimp only); omega⟩
  | exact ⟨by decide, by decide, by decide⟩
  | exact ⟨by decide, by decide⟩
  | exact ⟨by omega, by omega⟩
  | decide
  | omega
  | (show (0 : Int) < _; decide)
  | exact Nat.le_of_ble_eq_true rfl)
local macro_rules | `(tactic| walk_at "rd1") => `(tactic| first
  | (refine ⟨_, rfl, ?_⟩)
  | (refine ⟨_, _, rfl, rfl, ?_⟩)
  | (refine And.intro (by walk_at "rdc") ?_)
  | (refine ⟨_, _, rfl, (by first | exact Or.inl (by assumption) | exact Or.inl (SqL.of (by assumption)) | exact Or.inr (SqT.of (by assumption))), ?_⟩)
  | (refine ⟨_, _, _, _, rfl, rfl, (by first | exact SqL.of (by assumption) | exact SqT.of (by assumption) | exact SqL.of upd_same | assumption), (by rfl), ?_⟩)
  | (refine ⟨_, _, _, _, rfl, rfl, (by first | assumption | exact upd_same), (by rfl), ?_⟩)
  | (refine ⟨rfl, _, rfl, ?_⟩))
local macro_rules | `(tactic| walk_at "rd") => `(tactic| repeat (walk_at "rd1"))
def NewRows (H Hx : Hp) (as : List Addr) (r : Row) : Prop := ∀ a ∈ as, H a = none ∧ Hx a = some (.lst (rowV r))
theorem NewRows.mut {H Hx : Hp} {as : List Addr} {r : Row} (h : NewRows H Hx as r) {c : Addr} {o : HO} (hc : c ∉ as) : NewRows H (L2.upd Hx c o) as r := fun b hb => by
  obtain ⟨h1, h2⟩ := h b hb
  exact ⟨h1, by rw [upd_ne (fun e => hc (by rw [← e]; exact hb))]; exact h2⟩
theorem NewRows.same {H Hx Hy : Hp} {as : List Addr} {r : Row} (h : NewRows H Hx as r) (s : Same Hx Hy) : NewRows H Hy as r := fun b hb => ⟨(h b hb).1, s _ _ (h b hb).2⟩
theorem NewRows.snoc {H Hx : Hp} {as : List Addr} {r : Row} (h : NewRows H Hx as r) {a : Addr} (h0 : H a = none) (ha : Hx a = some (.lst (rowV r))) : NewRows H Hx (as ++ [a]) r := fun b hb => by
  rcases List.mem_append.mp hb with q | q
  · exact h b q
  · rw [List.mem_singleton.mp q]
    exact ⟨h0, ha⟩
theorem NewRows.rows {H Hx : Hp} {as : List Addr} {r : Row} (h : NewRows H Hx as r) : RowsAt Hx as (List.replicate as.length r) := by
  refine ⟨by rw [List.length_replicate], fun i a s ha hs => ?_⟩
  rw [List.getElem?_replicate] at hs
  split at hs
  · cases hs
    exact (h a (List.mem_of_getElem? ha)).2
  · cases hs
structure InitOk (n : Nat) (ls : List Lt) (v : Int) (i : Nat) (T U : Grid) : Prop where
  lT : T.length = ls.length
  lU : U.length = ls.length
  row : ∀ (j : Nat) (l : Lt) (rT rU : Row), ls[j]? = some l → T[j]? = some rT → U[j]? = some rU → rT = (if j < i then row0 n l.s l.t else List.replicate n none) ∧ rU = (if j < i then row0 n l.s v else List.replicate n none)
theorem InitOk.step {n : Nat} {ls : List Lt} {v : Int} {i : Nat} {T U : Grid} (g : InitOk n ls v i T U) {l : Lt} (hl : ls[i]? = some l) : InitOk n ls v (i + 1) (T.set i (row0 n l.s l.t)) (U.set i (row0 n l.s v)) := by
  have hi := (List.getElem?_eq_some_iff.mp hl).1
  refine ⟨by rw [List.length_set]; exact g.lT, by rw [List.length_set]; exact g.lU, fun j l' sT sU h1 h2 h3 => ?_⟩
  by_cases e : j = i
  · subst e
    rw [List.getElem?_set_self (by rw [g.lT]; exact hi)] at h2
    rw [List.getElem?_set_self (by rw [g.lU]; exact hi)] at h3
    rw [hl] at h1
    cases h1
    cases h2
    cases h3
    rw [if_pos (Nat.lt_succ_self j), if_pos (Nat.lt_succ_self j)]
    exact ⟨rfl, rfl⟩
  · rw [List.getElem?_set_ne (Ne.symm e)] at h2 h3
    have h := g.row j l' sT sU h1 h2 h3
    by_cases z : j < i
    · rw [if_pos z, if_pos z] at h
      rw [if_pos (Nat.lt_succ_of_lt z), if_pos (Nat.lt_succ_of_lt z)]
      exact h
    · rw [if_neg z, if_neg z] at h
      rw [if_neg (by omega), if_neg (by omega)]
      exact h
theorem InitOk.at {n : Nat} {ls : List Lt} {v : Int} {i : Nat} {T U : Grid} (g : InitOk n ls v i T U) {l : Lt} (hl : ls[i]? = some l) : T[i]? = some (List.replicate n none) ∧ U[i]? = some (List.replicate n none) := by
  have hi := (List.getElem?_eq_some_iff.mp hl).1
  have h1 : T[i]? = some (T[i]'(by rw [g.lT]; exact hi)) := List.getElem?_eq_getElem _
  have h2 : U[i]? = some (U[i]'(by rw [g.lU]; exact hi)) := List.getElem?_eq_getElem _
  obtain ⟨e1, e2⟩ := g.row i l _ _ hl h1 h2
  rw [if_neg (Nat.lt_irrefl i)] at e1 e2
  rw [h1, h2, e1, e2]
  exact ⟨rfl, rfl⟩
def sp_cinit (RA : RAt) (C : Addr) : Sp := fun vs H Q _ => ∃ (H0 : Hp) (x dx b tl ru pr : Addr) (rs : List Int) (ls : List Lt) (R : Rl), vs = [.ref x, .ref b, .ref tl, .ref ru] ∧ H x = some (.ins C dx []) ∧ Same H0 H ∧ H0 x = none ∧ (∃ pm, H0 b = some (.tup [.ref pr, .ref pm])) ∧ H0 pr = some (.tup (rs.map V.int)) ∧
  RA H0 ru R rs.length ∧ LsAt H0 tl ls ∧ ls.length ≤ 40 ∧ rs.length ≤ 12 ∧ (∀ l ∈ ls, l.s < rs.length ∧ l.d < rs.length) ∧
  ∀ c H' T U, Ct.x c = x → c.tl = tl → c.ru = ru → c.pr = pr → CpAt C c H0 H' T U 0 → (∀ ex W, GridG R rs.length ls ex (fun _ => W) (fun _ l => row0 rs.length l.s l.t) T U) → Q .non H'
section
variable {P : Program} {w : World} {K : PySem.W.Frag} {mg : Str → Option Value} {base : Heap} {f fw fi fm fr fb fp C CR : Addr} {fd fdw fdi fdm fdr fdb fdp : FuncData} {RA : RAt}
theorem ok_cinit (F : Fun K "__init__" "Copying.__init__" st_Copying_init f fd) (B : Bt mg) (hC : CpC K C) (hR : Cls K CR) (ri : RuleI RA CR) (m_first : Mth P w K mg base CR "at_first" 1 ["self"] (sp_atfirst RA) fm fdm) :
    FnOk P w K mg base CX0 2 f fd ["self", "book", "letters", "rule"] (sp_cinit RA C) := by
  refine F.ok sc_Copying_init (fun vs H Q E h => ?_) (fun cdv A outer s H vs Q E hr h => ?_)
  · obtain ⟨H0, x, dx, b, tl, ru, pr, rs, ls, R, rfl, _⟩ := h
    rfl
  · obtain ⟨H0, x, dx, b, tl, ru, pr, rs, ls, R, rfl, hx, s0, x0, ⟨pm, hb0⟩, hpr0, ra, hLs, l40, h12, hls, q⟩ := h
    obtain ⟨as, htl0, hTl⟩ := id hLs
    have hlen := hTl.length
    rw [List.length_map] at hlen
    have hb1 := s0 _ _ hb0
    refine ⟨_, 
      (pss_cons (ps_fld (pv 0) (pe_ix (ix_tupK K (by rfl)) (pv 1) (pe_int) (fun _ _ => rfl)) rfl) 
      (pss_cons (ps_fld (pv 0) (pv 2) rfl) 
      (pss_cons (ps_fld (pv 0) (pv 3) rfl) 
      (pss_cons (ps_fld (pv 0) (pe_lc (own := [("letter", 5)]) (g := (gName 5)) (tt := tYes) (by rfl) sc_Copying_init.nd (pl_K K (by rfl) (pv 2)) (blkOk_by (N := N_Copying_init) (sc := defScope st_Copying_init) (by decide +kernel)) (fun _ _ _ _ _ => (pnm 5 sc_Copying_init.nd)) (fun _ _ _ _ _ => pts_nil) (fun _ _ _ _ _ => (pe_lc (own := [("room", 4)]) (g := (gName 4)) (tt := tYes) (by rfl) sc_Copying_init.nd (pt_K K (by rfl) (pe_ix (ix_tupK K (by rfl)) (pv 1) (pe_int) (fun _ _ => rfl))) (blkOk_by (by rfl)) (fun _ _ _ _ _ => (pnm 4 sc_Copying_init.nd)) (fun _ _ _ _ _ => pts_nil) (fun _ _ _ _ _ => (pe_non))))) rfl) 
      (pss_cons (ps_fld (pv 0) (pe_lc (own := [("letter", 5)]) (g := (gName 5)) (tt := tYes) (by rfl) sc_Copying_init.nd (pl_K K (by rfl) (pv 2)) (blkOk_by (N := N_Copying_init) (sc := defScope st_Copying_init) (by decide +kernel)) (fun _ _ _ _ _ => (pnm 5 sc_Copying_init.nd)) (fun _ _ _ _ _ => pts_nil) (fun _ _ _ _ _ => (pe_lc (own := [("room", 4)]) (g := (gName 4)) (tt := tYes) (by rfl) sc_Copying_init.nd (pt_K K (by rfl) (pe_ix (ix_tupK K (by rfl)) (pv 1) (pe_int) (fun _ _ => rfl))) (blkOk_by (by rfl)) (fun _ _ _ _ _ => (pnm 4 sc_Copying_init.nd)) (fun _ _ _ _ _ => pts_nil) (fun _ _ _ _ _ => (pe_non))))) rfl) 
      (pss_cons (ps_fld (pv 0) (pe_lst pa_nil) rfl) 
      (pss_one (ps_for PassesOwn.never rfl (enum_K K (by rfl) (by rfl) B.enumerate (pa_cons (pv 2) pa_nil)) (tup_K K (by rfl) rfl (pgs_cons (pnm 6 sc_Copying_init.nd) (pgs_cons (pnm 5 sc_Copying_init.nd) pgs_nil))) 
        (pss_cons (ps_asg (pe_ix (ix_tupK K (by rfl)) (pv 5) (pe_int) (fun _ _ => rfl)) (pg_sub (pe_ix (ix_listK K (by rfl)) (fld_K K (by rfl) (pv 0) rfl) (pv 6) (fun _ _ => rfl)) (pe_ix (ix_tupK K (by rfl)) (pv 5) (pe_int) (fun _ _ => rfl)) set_list)) 
        (pss_one (ps_asg (pe_meth0 (pv 3) hR m_first.m m_first.ok (hr.mono (by decide)) m_first.b .nil pass0) (pg_sub (pe_ix (ix_listK K (by rfl)) (fld_K K (by rfl) (pv 0) rfl) (pv 6) (fun _ _ => rfl)) (pe_ix (ix_tupK K (by rfl)) (pv 5) (pe_int) (fun _ _ => rfl)) set_list)))))))))))), ?_⟩
    walk_at "rd"
    refine ⟨_, _, _, _, rfl, hx, hC.cls, hC.rooms, Nat.le_of_ble_eq_true rfl, ?_⟩
    have s1 : Same H0 (L2.upd H x (.ins C dx (putF "rooms" (.ref pr) []))) := s0.mut x0
    have x1 : L2.upd H x (.ins C dx (putF "rooms" (.ref pr) [])) x = some (.ins C dx [("rooms", .ref pr)]) := upd_same
    generalize L2.upd H x (.ins C dx (putF "rooms" (.ref pr) [])) = H1 at s1 x1
    walk_at "rd"
    refine ⟨_, _, _, _, rfl, x1, hC.cls, hC.letters, Nat.le_of_ble_eq_true rfl, ?_⟩
    have s2 : Same H0 (L2.upd H1 x (.ins C dx (putF "letters" (.ref tl) [("rooms", .ref pr)]))) := s1.mut x0
    have x2 : L2.upd H1 x (.ins C dx (putF "letters" (.ref tl) [("rooms", .ref pr)])) x = some (.ins C dx [("rooms", .ref pr), ("letters", .ref tl)]) := upd_same
    generalize L2.upd H1 x (.ins C dx (putF "letters" (.ref tl) [("rooms", .ref pr)])) = H2 at s2 x2
    walk_at "rd"
    refine ⟨_, _, _, _, rfl, x2, hC.cls, hC.rule, Nat.le_of_ble_eq_true rfl, ?_⟩
    have s3 : Same H0 (L2.upd H2 x (.ins C dx (putF "rule" (.ref ru) [("rooms", .ref pr), ("letters", .ref tl)]))) := s2.mut x0
    have x3 : L2.upd H2 x (.ins C dx (putF "rule" (.ref ru) [("rooms", .ref pr), ("letters", .ref tl)])) x = some (.ins C dx [("rooms", .ref pr), ("letters", .ref tl), ("rule", .ref ru)]) := upd_same
    generalize L2.upd H2 x (.ins C dx (putF "rule" (.ref ru) [("rooms", .ref pr), ("letters", .ref tl)])) = H3 at s3 x3
    have htl3 := s3 _ _ htl0
    walk_at "rd"
    refine ⟨⟨_, SqL.of htl3⟩, fun D1 hD1 => ?_⟩
    refine lc_list (K := K) (a := tl) (xs := as.map V.ref) (fun i Hx => ∃ us : List Addr, us.length = i ∧ Same H3 Hx ∧ Hx D1 = some (.lst (us.map V.ref)) ∧ NewRows H3 Hx us (List.replicate rs.length none) ∧ D1 ∉ us ∧ us.Nodup)
      ⟨[], rfl, Same.new1 hD1, upd_same, (fun a ha => by cases ha), (fun ha => by cases ha), .nil⟩ (fun i Hx _ h => ?_) ?_ ?_
    · obtain ⟨_, _, sx, _⟩ := h
      exact SqL.of (sx _ _ htl3)
    · rintro i xx Hx hi ⟨us, hul, sx, hDx, nr, hDn, und⟩
      have hi2 : i < as.length := by have := (List.getElem?_eq_some_iff.mp hi).1; rw [List.length_map] at this; exact this
      have hbx := sx _ _ (s3 _ _ hb0)
      have hprx := sx _ _ (s3 _ _ hpr0)
      refine ⟨rfl, ?_⟩
      walk_at "rd"
      refine ⟨⟨_, SqT.of hprx⟩, fun D2 hD2 => ?_⟩
      refine lc_it (walk_tup (K := K) (a := pr) (xs := rs.map V.int)) (fun j Hy => Same Hx Hy ∧ Hy D2 = some (.lst (List.replicate j V.non))) ⟨Same.new1 hD2, upd_same⟩ (fun j Hy _ h => SqT.of (h.1 _ _ hprx)) ?_ ?_
      · rintro j xx Hy H'' hj ⟨sy, hDy⟩ ⟨rfl, _⟩
        refine ⟨rfl, ?_⟩
        walk_at "rd"
        rw [List.length_map] at hj
        exact ⟨_, hDy, by rw [List.length_replicate]; exact Nat.lt_of_le_of_lt (show j ≤ 12 by omega) (by decide), sy.mut hD2, by rw [upd_same, List.replicate_succ']⟩
      · rintro Hy ⟨sy, hDy⟩
        rw [List.length_map, row_rep] at hDy
        have hD3 := sy _ _ hDx
        have hne : D1 ≠ D2 := ne_of_none hDx hD2
        have hne2 : D2 ∉ us := fun z => by
          obtain ⟨_, z3⟩ := nr D2 z
          rw [z3] at hD2
          cases hD2
        have hn12 : D1 ∉ us ++ [D2] := fun z => by
          rcases List.mem_append.mp z with z | z
          · exact hDn z
          · exact hne (List.mem_singleton.mp z)
        refine ⟨_, hD3, by rw [List.length_map]; exact Nat.lt_of_le_of_lt (show us.length ≤ 40 by omega) (by decide), us ++ [D2], by rw [List.length_append, hul]; rfl, (sx.trans sy).mut hD1, by rw [upd_same, List.map_append]; rfl, ((nr.same sy).snoc (Same.free sx hD2) hDy).mut hn12, hn12, ?_⟩
        exact List.nodup_append.mpr ⟨und, List.nodup_cons.mpr ⟨(fun z => by cases z), .nil⟩, fun a ha b hb e => hne2 (by rw [← List.mem_singleton.mp hb, ← e]; exact ha)⟩
    · rintro H4 ⟨ats, hal, s34, hD14, nr1, hDn1, nd1⟩
      rw [List.length_map, hlen] at hal
      have s4 := s3.trans s34
      have x4 := s34 _ _ x3
      have xD : D1 ≠ x := fun z => by rw [z] at hD14; rw [hD14] at x4; cases x4
      have xats : x ∉ ats := fun z => by
        obtain ⟨_, z2⟩ := nr1 x z
        rw [z2] at x4
        cases x4
      walk_at "rd"
      refine ⟨_, _, _, _, rfl, x4, hC.cls, hC.times, Nat.le_of_ble_eq_true rfl, ?_⟩
      have s6 : Same H0 (L2.upd H4 x (.ins C dx (putF "times" (.ref D1) [("rooms", .ref pr), ("letters", .ref tl), ("rule", .ref ru)]))) := s4.mut x0
      have x6 : L2.upd H4 x (.ins C dx (putF "times" (.ref D1) [("rooms", .ref pr), ("letters", .ref tl), ("rule", .ref ru)])) x = some (.ins C dx [("rooms", .ref pr), ("letters", .ref tl), ("rule", .ref ru), ("times", .ref D1)]) := upd_same
      have hD6 : L2.upd H4 x (.ins C dx (putF "times" (.ref D1) [("rooms", .ref pr), ("letters", .ref tl), ("rule", .ref ru)])) D1 = some (.lst (ats.map V.ref)) := by rw [upd_ne xD]; exact hD14
      have nr6 : NewRows H3 (L2.upd H4 x (.ins C dx (putF "times" (.ref D1) [("rooms", .ref pr), ("letters", .ref tl), ("rule", .ref ru)]))) ats (List.replicate rs.length none) := nr1.mut xats
      generalize L2.upd H4 x (.ins C dx (putF "times" (.ref D1) [("rooms", .ref pr), ("letters", .ref tl), ("rule", .ref ru)])) = H6 at s6 x6 hD6 nr6
      have htl6 := s6 _ _ htl0
      walk_at "rd"
      refine ⟨⟨_, SqL.of htl6⟩, fun E1 hE1 => ?_⟩
      refine lc_list (K := K) (a := tl) (xs := as.map V.ref) (fun i Hx => ∃ us : List Addr, us.length = i ∧ Same H6 Hx ∧ Hx E1 = some (.lst (us.map V.ref)) ∧ NewRows H6 Hx us (List.replicate rs.length none) ∧ E1 ∉ us ∧ us.Nodup)
        ⟨[], rfl, Same.new1 hE1, upd_same, (fun a ha => by cases ha), (fun ha => by cases ha), .nil⟩ (fun i Hx _ h => ?_) ?_ ?_
      · obtain ⟨_, _, sx, _⟩ := h
        exact SqL.of (sx _ _ htl6)
      · rintro i xx Hx hi ⟨us, hul, sx, hDx, nr, hDn, und⟩
        have hi2 : i < as.length := by have := (List.getElem?_eq_some_iff.mp hi).1; rw [List.length_map] at this; exact this
        have hbx := sx _ _ (s6 _ _ hb0)
        have hprx := sx _ _ (s6 _ _ hpr0)
        refine ⟨rfl, ?_⟩
        walk_at "rd"
        refine ⟨⟨_, SqT.of hprx⟩, fun D2 hD2 => ?_⟩
        refine lc_it (walk_tup (K := K) (a := pr) (xs := rs.map V.int)) (fun j Hy => Same Hx Hy ∧ Hy D2 = some (.lst (List.replicate j V.non))) ⟨Same.new1 hD2, upd_same⟩ (fun j Hy _ h => SqT.of (h.1 _ _ hprx)) ?_ ?_
        · rintro j xx Hy H'' hj ⟨sy, hDy⟩ ⟨rfl, _⟩
          refine ⟨rfl, ?_⟩
          walk_at "rd"
          rw [List.length_map] at hj
          exact ⟨_, hDy, by rw [List.length_replicate]; exact Nat.lt_of_le_of_lt (show j ≤ 12 by omega) (by decide), sy.mut hD2, by rw [upd_same, List.replicate_succ']⟩
        · rintro Hy ⟨sy, hDy⟩
          rw [List.length_map, row_rep] at hDy
          have hD3 := sy _ _ hDx
          have hne : E1 ≠ D2 := ne_of_none hDx hD2
          have hne2 : D2 ∉ us := fun z => by
            obtain ⟨_, z3⟩ := nr D2 z
            rw [z3] at hD2
            cases hD2
          have hm12 : E1 ∉ us ++ [D2] := fun z => by
            rcases List.mem_append.mp z with z | z
            · exact hDn z
            · exact hne (List.mem_singleton.mp z)
          refine ⟨_, hD3, by rw [List.length_map]; exact Nat.lt_of_le_of_lt (show us.length ≤ 40 by omega) (by decide), us ++ [D2], by rw [List.length_append, hul]; rfl, (sx.trans sy).mut hE1, by rw [upd_same, List.map_append]; rfl, ((nr.same sy).snoc (Same.free sx hD2) hDy).mut hm12, hm12, ?_⟩
          exact List.nodup_append.mpr ⟨und, List.nodup_cons.mpr ⟨(fun z => by cases z), .nil⟩, fun a ha b hb e => hne2 (by rw [← List.mem_singleton.mp hb, ← e]; exact ha)⟩
      · rintro H7 ⟨aus, hbl, s67, hE17, nr2, hEn2, nd2⟩
        rw [List.length_map, hlen] at hbl
        have s7 := s6.trans s67
        have x7 := s67 _ _ x6
        have xE : E1 ≠ x := fun z => by rw [z] at hE17; rw [hE17] at x7; cases x7
        have xaus : x ∉ aus := fun z => by
          obtain ⟨_, z2⟩ := nr2 x z
          rw [z2] at x7
          cases x7
        walk_at "rd"
        refine ⟨_, _, _, _, rfl, x7, hC.cls, hC.tokens_of, Nat.le_of_ble_eq_true rfl, ?_⟩
        have hD7 := s67 _ _ hD6
        have nr7 := nr6.same s67
        have E1D1 : E1 ≠ D1 := fun z => by rw [z, hD6] at hE1; cases hE1
        have dis : ∀ a ∈ ats, a ∉ aus := fun a h1 h2 => by
          have z1 := (nr6 a h1).2
          rw [(nr2 a h2).1] at z1
          cases z1
        have D1aus : D1 ∉ aus := fun h => by
          have z1 := (nr2 D1 h).1
          rw [hD6] at z1
          cases z1
        have E1ats : E1 ∉ ats := fun h => by
          have z1 := (nr6 E1 h).2
          rw [hE1] at z1
          cases z1
        have s8 : Same H0 (L2.upd H7 x (.ins C dx (putF "tokens_of" (.ref E1) [("rooms", .ref pr), ("letters", .ref tl), ("rule", .ref ru), ("times", .ref D1)]))) := s7.mut x0
        have x8 : L2.upd H7 x (.ins C dx (putF "tokens_of" (.ref E1) [("rooms", .ref pr), ("letters", .ref tl), ("rule", .ref ru), ("times", .ref D1)])) x = some (.ins C dx [("rooms", .ref pr), ("letters", .ref tl), ("rule", .ref ru), ("times", .ref D1), ("tokens_of", .ref E1)]) := upd_same
        have hD8 : L2.upd H7 x (.ins C dx (putF "tokens_of" (.ref E1) [("rooms", .ref pr), ("letters", .ref tl), ("rule", .ref ru), ("times", .ref D1)])) D1 = some (.lst (ats.map V.ref)) := by rw [upd_ne xD]; exact hD7
        have hE8 : L2.upd H7 x (.ins C dx (putF "tokens_of" (.ref E1) [("rooms", .ref pr), ("letters", .ref tl), ("rule", .ref ru), ("times", .ref D1)])) E1 = some (.lst (aus.map V.ref)) := by rw [upd_ne xE]; exact hE17
        have nr8 : NewRows H3 (L2.upd H7 x (.ins C dx (putF "tokens_of" (.ref E1) [("rooms", .ref pr), ("letters", .ref tl), ("rule", .ref ru), ("times", .ref D1)]))) ats (List.replicate rs.length none) := nr7.mut xats
        have nu8 : NewRows H6 (L2.upd H7 x (.ins C dx (putF "tokens_of" (.ref E1) [("rooms", .ref pr), ("letters", .ref tl), ("rule", .ref ru), ("times", .ref D1)]))) aus (List.replicate rs.length none) := nr2.mut xaus
        generalize L2.upd H7 x (.ins C dx (putF "tokens_of" (.ref E1) [("rooms", .ref pr), ("letters", .ref tl), ("rule", .ref ru), ("times", .ref D1)])) = H8 at s8 x8 hD8 hE8 nr8 nu8
        walk_at "rd"
        intro D hD
        have sD := Same.new1 (o := .lst []) hD
        have hDx : D ≠ x := (ne_of_none x8 hD).symm
        have hDD1 : D1 ≠ D := ne_of_none hD8 hD
        have hDE1 : E1 ≠ D := ne_of_none hE8 hD
        have Dats : D ∉ ats := fun z => by have z2 := (nr8 D z).2; rw [hD] at z2; cases z2
        have Daus : D ∉ aus := fun z => by have z2 := (nu8 D z).2; rw [hD] at z2; cases z2
        walk_at "rd"
        refine ⟨_, _, _, _, rfl, sD _ _ x8, hC.cls, hC.deeds_made, Nat.le_of_ble_eq_true rfl, ?_⟩
        have cp : CpAt C ⟨x, dx, pr, tl, ru, D1, E1, D, ats, aus⟩ H0 (L2.upd (L2.upd H8 D (.lst [])) x (.ins C dx (putF "deeds_made" (.ref D) [("rooms", .ref pr), ("letters", .ref tl), ("rule", .ref ru), ("times", .ref D1), ("tokens_of", .ref E1)])))
            (List.replicate ats.length (List.replicate rs.length none)) (List.replicate aus.length (List.replicate rs.length none)) 0 := by
          refine ⟨upd_same, ?_, ?_, ?_, ?_, ⟨[], ?_, Nat.le_refl _⟩, ?_, ?_, ?_, ?_, ?_, ?_⟩
          · rw [upd_ne xD]
            exact sD _ _ hD8
          · rw [upd_ne xE]
            exact sD _ _ hE8
          · exact ((nr8.same sD).mut xats).rows
          · exact ((nu8.same sD).mut xaus).rows
          · rw [upd_ne hDx]
            exact upd_same
          · show (D :: (ats ++ aus)).Nodup
            refine List.nodup_cons.mpr ⟨fun z => ?_, List.nodup_append.mpr ⟨nd1, nd2, fun a ha b hb e => dis a ha (by rw [e]; exact hb)⟩⟩
            rcases List.mem_append.mp z with z | z
            · exact Dats z
            · exact Daus z
          · show D1 ∉ D :: (ats ++ aus)
            intro z
            rcases List.mem_cons.mp z with z | z
            · exact hDD1 z
            · rcases List.mem_append.mp z with z | z
              · exact hDn1 z
              · exact D1aus z
          · show E1 ∉ D :: (ats ++ aus)
            intro z
            rcases List.mem_cons.mp z with z | z
            · exact hDE1 z
            · rcases List.mem_append.mp z with z | z
              · exact E1ats z
              · exact hEn2 z
          · show x ∉ D :: (ats ++ aus)
            intro z
            rcases List.mem_cons.mp z with z | z
            · exact hDx z.symm
            · rcases List.mem_append.mp z with z | z
              · exact xats z
              · exact xaus z
          · intro a ha
            have ha' : a ∈ D :: (ats ++ aus) := ha
            rcases List.mem_cons.mp ha' with z | z
            · rw [z]
              exact Same.free s8 hD
            · rcases List.mem_append.mp z with z | z
              · exact Same.free s3 (nr8 a z).1
              · exact Same.free s6 (nu8 a z).1
          · exact (s8.add hD).mut x0
        generalize L2.upd (L2.upd H8 D (.lst [])) x (.ins C dx (putF "deeds_made" (.ref D) [("rooms", .ref pr), ("letters", .ref tl), ("rule", .ref ru), ("times", .ref D1), ("tokens_of", .ref E1)])) = H9 at cp
        have io : InitOk rs.length ls R.first 0 (List.replicate ats.length (List.replicate rs.length none)) (List.replicate aus.length (List.replicate rs.length none)) := by
          refine ⟨by rw [List.length_replicate, hal], by rw [List.length_replicate, hbl], fun j l rT rU h1 h2 h3 => ?_⟩
          rw [List.getElem?_replicate] at h2 h3
          rw [if_neg (Nat.not_lt_zero j), if_neg (Nat.not_lt_zero j)]
          split at h2
          · split at h3
            · cases h2
              cases h3
              exact ⟨rfl, rfl⟩
            · cases h3
          · cases h2
        obtain ⟨c, hc⟩ : ∃ c : Ct, c = ⟨x, dx, pr, tl, ru, D1, E1, D, ats, aus⟩ := ⟨_, rfl⟩
        rw [← hc] at cp
        have c1 : c.x = x := by rw [hc]
        have c2 : c.tl = tl := by rw [hc]
        have c3 : c.ru = ru := by rw [hc]
        have c4 : c.pr = pr := by rw [hc]
        have htl9 := cp.same _ _ htl0
        walk_at "rd"
        refine ⟨_, _, rfl, SqL.of htl9, ?_⟩
        refine for_it (walk_enum (K := K) (a := tl) (xs := as.map V.ref)) (fun i σ Hx => ∃ (T U : Grid) (v5 v6 : Option V), CpAt C c H0 Hx T U 0 ∧ InitOk rs.length ls R.first i T U ∧ σ = [some (.ref x), some (.ref b), some (.ref tl), some (.ref ru), none, v5, v6])
          ⟨_, _, _, _, cp, io, rfl⟩ (fun i σ Hx _ h => ?_) ?_ ?_
        · obtain ⟨_, _, _, _, h, _⟩ := h
          exact SqL.of (h.same _ _ htl0)
        · rintro i xx σ Hx H' hil ⟨T, U, v5, v6, cpx, iox, rfl⟩ ⟨Te, y, z, rfl, hT0, rfl, ey, ez⟩
          cases ey
          have ez' : (as.map V.ref)[i]? = some z := ez
          rw [List.getElem?_map] at ez'
          obtain ⟨ta, hta, rfl⟩ := Option.map_eq_some_iff.mp ez'
          have cpy := cpx.mono (Same.new1 (o := .tup [.int (i : Nat), .ref ta]) hT0)
          obtain ⟨y, hy, hHt⟩ := (hTl.mono (Same.tups cpy.same)).geta hta
          rw [List.getElem?_map] at hy
          obtain ⟨l, hl, rfl⟩ := Option.map_eq_some_iff.mp hy
          obtain ⟨l1, l2⟩ := hls l (List.mem_of_getElem? hl)
          obtain ⟨hT, hU⟩ := iox.at hl
          refine ⟨_, _, rfl, SqT.of upd_same, rfl, _, _, rfl, _, _, rfl, rfl, ?_⟩
          generalize L2.upd Hx Te (.tup [.int (i : Nat), .ref ta]) = H10 at cpy hHt
          obtain ⟨at_, hat, hatH⟩ := cpy.rT.at hT
          obtain ⟨au, hau, hauH⟩ := cpy.rU.at hU
          walk_at "rd"
          refine ⟨_, _, _, _, _, rfl, by rw [← c1]; exact cpy.ins, hC.cls, hC.times, rfl, ?_⟩
          walk_at "rd"
          refine ⟨_, _, _, _, rfl, rfl, SqL.of cpy.times, atI_nat (by rw [List.getElem?_map, hat]; rfl), ?_⟩
          walk_at "rd"
          refine ⟨_, _, _, _, rfl, rfl, hatH, row_ix (by rw [List.length_replicate]; exact l1), ?_⟩
          have e1 : (rowV (List.replicate rs.length none)).set l.s (.int l.t) = rowV (row0 rs.length l.s l.t) := row_set (some l.t)
          rw [e1]
          have cp2 := cpy.setT (r := row0 rs.length l.s l.t) hat
          have hlt := cpy.tups ((Keep.refl c H10).upd (o := .lst (rowV (row0 rs.length l.s l.t))) (CpAt.ats_own _ (List.mem_of_getElem? hat))) _ _ hHt
          generalize L2.upd H10 at_ (.lst (rowV (row0 rs.length l.s l.t))) = H11 at cp2 hlt
          obtain ⟨dR, fsR, hru, fs1, fs2, fs3⟩ := ri.ins (ri.mono cp2.same ra)
          walk_at "rd"
          refine ⟨_, _, _, rfl, hru, fs2, ?_⟩
          refine ⟨ru, R, rs.length, rfl, ri.mono cp2.same ra, ?_⟩
          walk_at "rd"
          refine ⟨_, _, _, _, _, rfl, by rw [← c1]; exact cp2.ins, hC.cls, hC.tokens_of, rfl, ?_⟩
          walk_at "rd"
          refine ⟨_, _, _, _, rfl, rfl, SqL.of cp2.toks, atI_nat (by rw [List.getElem?_map, hau]; rfl), ?_⟩
          walk_at "rd"
          refine ⟨_, _, _, _, rfl, rfl, cp2.rU.2 i au _ hau hU, row_ix (by rw [List.length_replicate]; exact l1), ?_⟩
          have e2 : (rowV (List.replicate rs.length none)).set l.s (.int R.first) = rowV (row0 rs.length l.s R.first) := row_set (some R.first)
          rw [e2]
          have cp3 := cp2.setU (r := row0 rs.length l.s R.first) hau
          exact ⟨_, _, _, _, cp3, iox.step hl, rfl⟩
        · rintro σ Hx ⟨T, U, v5, v6, cpx, iox, rfl⟩
          rw [List.length_map, hlen] at iox
          refine q c Hx T U c1 c2 c3 c4 cpx (fun ex W => ⟨iox.lT, iox.lU, fun j l rT rU h1 h2 h3 => ?_⟩)
          obtain ⟨e1, e2⟩ := iox.row j l rT rU h1 h2 h3
          have hj := (List.getElem?_eq_some_iff.mp h1).1
          rw [if_pos hj] at e1 e2
          rw [e1, e2]
          obtain ⟨l1, l2⟩ := hls l (List.mem_of_getElem? h1)
          exact RowOk.start l1 (ri.first ra) (ri.half ra)
end
end Sm
set_option Elab.async false
set_option linter.all false
set_option maxRecDepth 100000
set_option maxHeartbeats 4000000
set_option pp.maxSteps 600
namespace Sm
open PySem L2
open C8 (tCut pss_cut)
local macro_rules | `(tactic| walk_at "rdc") => `(tactic| first
  | with_reducible assumption
  | exact (show flatV _ = true from rfl)
  | exact flat_ints _
  | exact Or.inr ⟨by decide, by decide⟩
  | exact Or.inl ⟨by decide, by decide⟩
  | exact Or.inl (mod_in _)
  | exact Or.inl ⟨by (try dsimp only); omega, by (try dsimp only); omega⟩
  | exact Or.inr ⟨by (try dsimp only); omega, by (try dsimp only); omega⟩
  | exact ⟨by decide, by decide, by decide⟩
  | exact ⟨by decide, by decide⟩
  | exact ⟨by omega, by omega⟩
  | decide
  | omega
  | (show (0 : Int) < _; decide)
  | exact Nat.le_of_ble_eq_true rfl)
local macro_rules | `(tactic| walk_at "rd1") => `(tactic| first
  | (refine ⟨_, rfl, ?_⟩)
  | (refine ⟨_, _, rfl, rfl, ?_⟩)
  | (refine And.intro (by walk_at "rdc") ?_)
  | (refine ⟨_, _, rfl, (by first | exact Or.inl (by assumption) | exact Or.inl (SqL.of (by assumption)) | exact Or.inr (SqT.of (by assumption))), ?_⟩)
  | (refine ⟨_, _, _, _, rfl, rfl, (by first | exact SqL.of (by assumption) | exact SqT.of (by assumption) | exact SqL.of upd_same | assumption), (by rfl), ?_⟩)
  | (refine ⟨_, _, _, _, rfl, rfl, (by first | assumption | exact upd_same), (by rfl), ?_⟩)
  | (refine ⟨rfl, _, rfl, ?_⟩))
local macro_rules | `(tactic| walk_at "rd") => `(tactic| repeat (walk_at "rd1"))
theorem pw_drop {α : Type} {R : α → α → Prop} {ms : List α} (h : ms.Pairwise R) {i : Nat} {m : α} (e : ms[i]? = some m) : ∀ x ∈ ms.drop (i + 1), R m x := by
  intro x hx
  obtain ⟨j, hj, ex⟩ := List.mem_iff_getElem.mp hx
  obtain ⟨hi1, hi2⟩ := List.getElem?_eq_some_iff.mp e
  rw [List.length_drop] at hj
  rw [List.getElem_drop] at ex
  have := List.pairwise_iff_getElem.mp h i (i + 1 + j) hi1 (by omega) (by omega)
  rw [hi2, ex] at this
  exact this
theorem mem_drop {α : Type} {ms : List α} {i : Nat} {m : α} (e : ms[i]? = some m) : m ∈ ms.drop i := by
  obtain ⟨hi1, hi2⟩ := List.getElem?_eq_some_iff.mp e
  refine List.mem_iff_getElem.mpr ⟨0, by rw [List.length_drop]; omega, ?_⟩
  rw [List.getElem_drop]
  exact hi2
/-- whether nothing is ever full -/
def ExOk (ex : Prop) (R : Rl) (rs : List Int) (ms : List Mt) (k : Nat) : Prop := ex → R = .all ∧ (∀ j, j < rs.length → (k : Int) < rs.getD j 0) ∧ ∀ m ∈ ms, 2 * (k : Int) < m.c
def sp_run (RA : RAt) : Sp := fun vs H Q _ => ∃ (b tl ru : Addr) (rs : List Int) (ls : List Lt) (ms : List Mt) (R : Rl) (ex : Prop), vs = [.ref b, .ref tl, .ref ru] ∧ BookAt H b rs ms ∧ WFm rs.length ms ∧ rs.length ≤ 12 ∧ LsAt H tl ls ∧ ls.length ≤ 40 ∧ (∀ l ∈ ls, l.s < rs.length ∧ l.d < rs.length) ∧
  RA H ru R rs.length ∧ ExOk ex R rs ms ls.length ∧
  ∀ p D gT gU ats aus T U H' W, Same H H' → H' p = some (.tup [.ref D, .ref gT, .ref gU]) → H' gT = some (.lst (List.map V.ref ats)) → H' gU = some (.lst (List.map V.ref aus)) → RowsAt H' ats T → RowsAt H' aus U →
    GridG R rs.length ls ex (fun _ => W) (fun _ l => times rs.length ms l.s l.t) T U → Q (.ref p) H'
section
variable {P : Program} {w : World} {K : PySem.W.Frag} {mg : Str → Option Value} {base : Heap} {f fw fi fm fr fb fp fg C CR : Addr} {fd fdw fdi fdm fdr fdb fdp fdg : FuncData} {RA : RAt}
theorem ok_run (F : Fun K "run" "run" st_run f fd) (B : Bt mg) (hC : CpC K C) (hR : Cls K CR) (ri : RuleI RA CR) (m_goes : Mth P w K mg base CR "goes_with" 1 ["self", "book"] (sp_goes RA) fg fdg)
    (c_Copying : MkC P w K mg base "Copying" C 2 ["self", "book", "letters", "rule"] (sp_cinit RA C) fi fdi) (m_meet : Mth P w K mg base C "meet" 3 ["self", "number", "meeting"] (sp_meet RA C) fm fdm) :
    FnOk P w K mg base CX0 4 f fd ["book", "letters", "rule"] (sp_run RA) := by
  refine F.ok sc_run (fun vs H Q E h => ?_) (fun cdv A outer s H vs Q E hr h => ?_)
  · obtain ⟨b, tl, ru, rs, ls, ms, R, ex, rfl, _⟩ := h
    rfl
  · obtain ⟨b, tl, ru, rs, ls, ms, R, ex, rfl, hB, wf, h12, hLs, l40, hls, ra, hex, q⟩ := h
    obtain ⟨pr, pm, hb, hpr, as, hpm, hT⟩ := id hB
    have hlen := hT.length
    rw [List.length_map] at hlen
    obtain ⟨dR, fsR, hru, fs1, fs2, fs3⟩ := ri.ins ra
    refine ⟨_, 
      (pss_cons (ps_if (pt_not (pt_val (pe_meth (pv 2) hR m_goes.m m_goes.ok (hr.mono (by decide)) m_goes.b .nil pass0 (pa_cons (pv 0) pa_nil)))) 
        (pss_one ps_never) pss_nil) 
      (pss_cons (pset 3 sc_run.nd (pe_make c_Copying.makes c_Copying.ok (hr.mono (by decide)) (by rfl) c_Copying.mg c_Copying.b .nil pass0 (pa_cons (pv 0) (pa_cons (pv 1) (pa_cons (pv 2) pa_nil))))) 
      (pss_cons (ps_for PassesOwn.never rfl (enumT_K K (by rfl) (by rfl) B.enumerate (pa_cons (pe_ix (ix_tupK K (by rfl)) (pv 0) (pe_int) (fun _ _ => rfl)) pa_nil)) (tup_K K (by rfl) rfl (pgs_cons (pnm 4 sc_run.nd) (pgs_cons (pnm 5 sc_run.nd) pgs_nil))) 
        (pss_one (ps_expr (pe_meth (pv 3) hC.cls m_meet.m m_meet.ok (hr.mono (by decide)) m_meet.b .nil pass0 (pa_cons (pv 4) (pa_cons (pv 5) pa_nil)))))) 
      (pss_one (ps_ret (pe_tup (pa_cons (fld_K K (by rfl) (pv 3) rfl) (pa_cons (fld_K K (by rfl) (pv 3) rfl) (pa_cons (fld_K K (by rfl) (pv 3) rfl) pa_nil))))))))), ?_⟩
    walk_at "rd"
    refine ⟨_, _, _, rfl, hru, fs3, ?_⟩
    walk_at "rd"
    refine ⟨ru, R, b, rs, ms, rfl, ra, hB, ?_⟩
    walk_at "rd"
    intro x dx hx hdx hne
    have s1 : Same H (L2.upd (L2.upd H dx (.own x)) x (.ins C dx [])) := (Same.new1 hdx).mut hx
    refine ⟨H, x, dx, b, tl, ru, pr, rs, ls, R, rfl, upd_same, s1, hx, ⟨pm, hb⟩, hpr, ra, hLs, l40, h12, hls, fun c H2 T U c1 c2 c3 c4 cp gr => ⟨rfl, ?_⟩⟩
    have hb2 := cp.same _ _ hb
    have hpm2 := cp.same _ _ hpm
    walk_at "rd"
    refine ⟨_, _, rfl, SqT.of hpm2, ?_⟩
    refine for_enumT (K := K) (a := pm) (xs := as.map V.ref) (fun i σ Hx => ∃ (T U : Grid) (W : Int) (v4 v5 : Option V), CpAt C c H Hx T U (80 * i) ∧ GridG R rs.length ls ex (fun _ => W) (fun _ l => times rs.length (ms.take i) l.s l.t) T U ∧ (∀ m ∈ ms.drop i, W ≤ m.w) ∧
      σ = [some (.ref b), some (.ref tl), some (.ref ru), some (.ref x), v4, v5]) ⟨T, U, 0, _, _, cp, gr ex 0, fun m hm => ?_, rfl⟩ (fun i σ Hx _ h => ?_) ?_ ?_
    · have := (wf.ok m (List.mem_of_mem_drop hm)).w1
      omega
    · obtain ⟨_, _, _, _, _, h, _⟩ := h
      exact SqT.of (h.same _ _ hpm)
    · rintro i xx σ Hx Te hi ⟨T, U, W, v4, v5, cpx, grx, hW, rfl⟩ hT0
      rw [List.getElem?_map] at hi
      obtain ⟨tm, htm, rfl⟩ := Option.map_eq_some_iff.mp hi
      have cpy := cpx.mono (Same.new1 (o := .tup [.int (i : Nat), .ref tm]) hT0)
      obtain ⟨y, hy, hHt⟩ := (hT.mono (Same.tups cpy.same)).geta htm
      rw [List.getElem?_map] at hy
      obtain ⟨m, hm, rfl⟩ := Option.map_eq_some_iff.mp hy
      have him := (List.getElem?_eq_some_iff.mp hm).1
      have h60 := wf.len
      have mm := List.mem_of_getElem? hm
      refine ⟨_, _, rfl, SqT.of upd_same, rfl, _, _, rfl, _, _, rfl, rfl, ?_⟩
      generalize L2.upd Hx Te (.tup [.int (i : Nat), .ref tm]) = H10 at cpy hHt
      walk_at "rd"
      refine ⟨_, _, _, rfl, by rw [← c1]; exact cpy.ins, rfl, ?_⟩
      walk_at "rd"
      refine ⟨c, H, T, U, 80 * i, rs, ls, R, m, i, tm, W, fun l => times rs.length (ms.take i) l.s l.t, ex, by rw [c1]; rfl, hHt, wf.ok m mm, cpy, by omega, by rw [c3]; exact ra, by rw [c2]; exact hLs, by rw [c4]; exact hpr, l40, hls, grx, hW m (mem_drop hm), fun e => ?_, fun H' T' U' cp' gr' k' => ?_⟩
      · obtain ⟨z1, z2, z3⟩ := hex e
        exact ⟨z1, z2, z3 m mm⟩
      · walk_at "rd"
        refine ⟨T', U', m.w, _, _, cp'.more (by omega), gr'.ext (fun _ _ => rfl) (fun j l _ => times_take hm), fun m' hm' => ?_, rfl⟩
        have := pw_drop wf.srt hm m' hm'
        unfold Before at this
        omega
    · rintro σ Hx ⟨T, U, W, v4, v5, cpx, grx, hW, rfl⟩
      rw [List.length_map, hlen, List.take_length] at grx
      have hins : Hx x = some (.ins C c.dx c.fields) := by rw [← c1]; exact cpx.ins
      walk_at "rd"
      refine ⟨_, _, _, _, _, rfl, hins, hC.cls, hC.deeds_made, rfl, ?_⟩
      walk_at "rd"
      refine ⟨_, _, _, _, _, rfl, hins, hC.cls, hC.times, rfl, ?_⟩
      walk_at "rd"
      refine ⟨_, _, _, _, _, rfl, hins, hC.cls, hC.tokens_of, rfl, ?_⟩
      walk_at "rd"
      intro p hp
      have s5 := Same.new1 (o := .tup [.ref c.D, .ref c.gT, .ref c.gU]) hp
      have cp5 := cpx.mono s5
      exact q p c.D c.gT c.gU c.ats c.aus T U _ W cp5.same upd_same cp5.times cp5.toks cp5.rT cp5.rU grx
end
end Sm
set_option Elab.async false
set_option linter.all false
set_option maxRecDepth 100000
set_option maxHeartbeats 4000000
set_option pp.maxSteps 600
namespace Sm
open PySem L2
open C8 (tCut pss_cut)
local macro_rules | `(tactic| walk_at "rdc") => `(tactic| first
  | with_reducible assumption
  | exact (show flatV _ = true from rfl)
  | exact flat_ints _
  | exact Or.inr ⟨by decide, by decide⟩
  | exact Or.inl ⟨by decide, by decide⟩
  | exact Or.inl (mod_in _)
  | exact Or.inl ⟨by (try dsimp only); omega, by (try dsimp only); omega⟩
  | exact Or.inr ⟨by (try dsimp only); omega, by (try dsimp only); omega⟩
  | exact ⟨by decide, by decide, by decide⟩
  | exact ⟨by decide, by decide⟩
  | exact ⟨by omega, by omega⟩
  | decide
  | omega
  | (show (0 : Int) < _; decide)
  | exact Nat.le_of_ble_eq_true rfl)
local macro_rules | `(tactic| walk_at "rd1") => `(tactic| first
  | (refine ⟨_, rfl, ?_⟩)
  | (refine ⟨_, _, rfl, rfl, ?_⟩)
  | (refine And.intro (by walk_at "rdc") ?_)
  | (refine ⟨_, _, rfl, (by first | exact Or.inl (by assumption) | exact Or.inl (SqL.of (by assumption)) | exact Or.inr (SqT.of (by assumption))), ?_⟩)
  | (refine ⟨_, _, _, _, rfl, rfl, (by first | exact SqL.of (by assumption) | exact SqT.of (by assumption) | exact SqL.of upd_same | assumption), (by rfl), ?_⟩)
  | (refine ⟨_, _, _, _, rfl, rfl, (by first | assumption | exact upd_same), (by rfl), ?_⟩)
  | (refine ⟨rfl, _, rfl, ?_⟩))
local macro_rules | `(tactic| walk_at "rd") => `(tactic| repeat (walk_at "rd1"))
theorem rep_flat {α : Type} (x : α) : ∀ n : Nat, (List.replicate n [x]).flatten = List.replicate n x
  | 0 => rfl
  | n + 1 => by rw [List.replicate_succ, List.flatten_cons, rep_flat x n, List.replicate_succ]; rfl
theorem shaped_intsL (xs : List Int) : SeqAt.shaped (.list (xs.map PyData.int)) = true := by
  have h1 := PySem.W.depthAll_ints xs
  have h2 : PyData.depth (.list (xs.map PyData.int)) ≤ 64 := by simp only [PyData.depth]; omega
  show (PyData.canLay0 (.list (xs.map PyData.int)) && decide (PyData.depth (.list (xs.map PyData.int)) ≤ 64)) = true
  rw [Bool.and_eq_true]
  exact ⟨by simp only [PyData.canLay0]; exact PySem.W.canLayAll0_ints xs, decide_eq_true h2⟩
theorem eqv_ints : ∀ xs : List Int, PyData.eqvAll (xs.map PyData.int) (xs.map PyData.int) = true
  | [] => by simp [PyData.eqvAll]
  | x :: xs => by
    have h := eqv_ints xs
    simp only [List.map_cons, PyData.eqvAll, h, PyData.eqv]
    simp
def sp_ltimes : Sp := fun vs H Q _ => ∃ (b : Addr) (rs : List Int) (ms : List Mt) (s : Nat) (t : Int), vs = [.ref b, .int s, .int t] ∧ BookAt H b rs ms ∧ WFm rs.length ms ∧ s < rs.length ∧ rs.length ≤ 12 ∧
  ∀ p H', Same H H' → H' p = some (.lst (rowV (times rs.length ms s t))) → Q (.ref p) H'
def sp_numbers : Sp := fun vs H Q _ => ∃ (a b : Addr) (xs : List Int), vs = [.ref a, .ref b] ∧ H a = some (.lst (xs.map V.int)) ∧ H b = some (.lst (xs.map V.int)) ∧ xs.length ≤ 40 ∧ ∀ H', Same H H' → Q (.bl true) H'
section
variable {P : Program} {w : World} {K : PySem.W.Frag} {mg : Str → Option Value} {base : Heap} {f fw fi fm fr fb fp : Addr} {fd fdw fdi fdm fdr fdb fdp : FuncData}
theorem ok_lwhole (F : Fun K "_law_whole" "_law_whole" st_l_whole f fd) (B : Bt mg) : FnOk P w K mg base CX0 1 f fd ["_law_thing"] sp_whole := by
  refine F.ok sc_l_whole (fun vs H Q E h => ?_) (fun cdv A outer s H vs Q E hr h => ?_)
  · obtain ⟨i, rfl, _⟩ := h
    rfl
  · obtain ⟨i, rfl, q⟩ := h
    refine ⟨_, 
      (pss_one (ps_ret (pe_and (pe_callB (isi_K K (by rfl)) (by rfl) B.isinstance bo_isinstance (pa_cons (pv 0) (pa_cons (pe_bltn (v := .ty "int") (by rfl) B.int bo_int rfl) pa_nil))) (pe_one (pe_not (pe_callB (isi_K K (by rfl)) (by rfl) B.isinstance bo_isinstance (pa_cons (pv 0) (pa_cons (pe_bltn (v := .ty "bool") (by rfl) B.bool bo_bool rfl) pa_nil)))))))), ?_⟩
    walk_at "rd"
    refine ⟨_, _, _, _, true, rfl, .ty "int", .base (.int _), kit_ty (by decide +kernel), ?_⟩
    walk_at "rd"
    refine ⟨_, _, _, _, false, rfl, .ty "bool", .base (.int _), kit_ty (by decide +kernel), ?_⟩
    walk_at "rd"
    exact q
theorem ok_lnumbers (F : Fun K "_law_numbers_are" "_law_numbers_are" st_l_numbers_are f fd) (B : Bt mg) (c_l_whole : Cl P w K mg base "_law_whole" 1 ["_law_thing"] sp_whole fw fdw) : FnOk P w K mg base CX0 2 f fd ["_law_found", "_law_due"] sp_numbers := by
  refine F.ok sc_l_numbers_are (fun vs H Q E h => ?_) (fun cdv A outer s H vs Q E hr h => ?_)
  · obtain ⟨a, b, xs, rfl, _⟩ := h
    rfl
  · obtain ⟨a, b, xs, rfl, ha, hb, hxl, q⟩ := h
    refine ⟨_, 
      (pss_cons (ps_if (PW.pt (pw_or (pt_not (pt_val (pe_callB (isi_K K (by rfl)) (by rfl) B.isinstance bo_isinstance (pa_cons (pv 0) (pa_cons (pe_bltn (v := .ty "list") (by rfl) B.list bo_list rfl) pa_nil))))) (pw_or1 (pt_not (pt_val (pe_callB (all_K K (by rfl) rfl) (by rfl) B.all bo_all (pa_cons (pe_lc (own := [("_law_one", 2)]) (g := (gName 2)) (tt := tYes) (by rfl) sc_l_numbers_are.nd (pl_K K (by rfl) (pv 0)) (blkOk_by (N := N_l_numbers_are) (sc := defScope st_l_numbers_are) (by decide +kernel)) (fun _ _ _ _ _ => (pnm 2 sc_l_numbers_are.nd)) (fun _ _ _ _ _ => pts_nil) (fun _ _ _ _ _ => (pe_cl c_l_whole (hr.mono (by decide)) rfl (pa_cons (pv 2) pa_nil)))) pa_nil))))))) 
        (pss_one (ps_ret (pe_bl))) pss_nil) 
      (pss_one (ps_ret (pe_cmpR (eqD_K K (by rfl) hr.units) (pv 0) (pv 1) (nomark _))))), ?_⟩
    walk_at "rd"
    refine ⟨_, _, _, _, true, rfl, .ty "list", .base (.lst ha), kit_ty (by decide +kernel), ?_⟩
    walk_at "rd"
    refine ⟨⟨_, SqL.of ha⟩, fun D hD => ?_⟩
    refine lc_list (K := K) (a := a) (xs := xs.map V.int) (fun i Hx => Same H Hx ∧ Hx D = some (.lst ((List.replicate i true).map V.bl))) ⟨Same.new1 hD, upd_same⟩ (fun i Hx _ h => SqL.of (h.1 _ _ ha)) ?_ ?_
    · rintro i x Hx hi ⟨sx, hDx⟩
      have hil : i < xs.length := by have := (List.getElem?_eq_some_iff.mp hi).1; rw [List.length_map] at this; exact this
      rw [List.getElem?_map] at hi
      obtain ⟨r, hr', rfl⟩ := Option.map_eq_some_iff.mp hi
      refine ⟨rfl, ?_⟩
      walk_at "rd"
      refine ⟨_, hDx, by rw [List.length_map, List.length_replicate]; exact Nat.lt_of_le_of_lt (show i ≤ 40 by omega) (by decide), sx.mut hD, ?_⟩
      rw [upd_same, List.replicate_succ', List.map_append]
      rfl
    · rintro H1 ⟨s1, hD1⟩
      have ha1 := s1 _ _ ha
      have hb1 := s1 _ _ hb
      walk_at "rd"
      refine ⟨_, _, rfl, SqL.of hD1, ?_⟩
      rw [all_true]
      walk_at "rd"
      refine ⟨_, _, .lst (SqL.of ha1) (dp_ints xs), .lst (SqL.of hb1) (dp_ints xs), shaped_intsL xs, shaped_intsL xs, ?_⟩
      have e : PyData.eqv (.list (xs.map PyData.int)) (.list (xs.map PyData.int)) = true := by
        simp only [PyData.eqv]
        exact eqv_ints xs
      rw [e]
      exact q _ s1
theorem ok_ltimes (F : Fun K "_law_times" "_law_times" st_l_times f fd) (B : Bt mg) : FnOk P w K mg base CX0 1 f fd ["_law_book_here", "_law_sender", "_law_since"] sp_ltimes := by
  refine F.ok sc_l_times (fun vs H Q E h => ?_) (fun cdv A outer s H vs Q E hr h => ?_)
  · obtain ⟨b, rs, ms, s, t, rfl, _⟩ := h
    rfl
  · obtain ⟨b, rs, ms, sd, t, rfl, ⟨pr, pm, hb, hpr, as, hpm, hT⟩, wf, hs, h12, q⟩ := h
    have hlen := hT.length
    rw [List.length_map] at hlen
    refine ⟨_, 
      (pss_cons (pset 3 sc_l_times.nd (pe_op op_rep (pe_lst (pa_cons (pe_non) pa_nil)) (pe_callB (len_K K (by rfl)) (by rfl) B.len bo_len (pa_cons (pe_ix (ix_tupK K (by rfl)) (pv 0) (pe_int) (fun _ _ => rfl)) pa_nil)))) 
      (pss_cons (ps_asg (pv 2) (pg_sub (pv 3) (pv 1) set_list)) 
      (pss_cons (ps_for PassesOwn.never rfl (pt_K K (by rfl) (pe_ix (ix_tupK K (by rfl)) (pv 0) (pe_int) (fun _ _ => rfl))) (tup_K K (by rfl) rfl (pgs_cons (pnm 4 sc_l_times.nd) (pgs_cons (pnm 5 sc_l_times.nd) (pgs_cons (pnm 6 sc_l_times.nd) (pgs_cons (pnm 7 sc_l_times.nd) pgs_nil))))) 
        (pss_one (ps_for PassesOwn.never rfl (pl_K K (by rfl) (pe_lst (pa_cons (pe_tup (pa_cons (pv 4) (pa_cons (pv 5) pa_nil))) (pa_cons (pe_tup (pa_cons (pv 5) (pa_cons (pv 4) pa_nil))) pa_nil)))) (tup_K K (by rfl) rfl (pgs_cons (pnm 8 sc_l_times.nd) (pgs_cons (pnm 9 sc_l_times.nd) pgs_nil))) 
          (pss_one (ps_if (PW.pt (pw_and (pt_cmpR op_notN (pe_ix (ix_listK K (by rfl)) (pv 3) (pv 8) (fun _ _ => rfl)) (pe_non) (nomark _)) (pw_and (pt_cmpR op_lt (pe_ix (ix_listK K (by rfl)) (pv 3) (pv 8) (fun _ _ => rfl)) (pv 6) (nomark _)) (pw_and1 (pt_cmpR op_isN (pe_ix (ix_listK K (by rfl)) (pv 3) (pv 9) (fun _ _ => rfl)) (pe_non) (nomark _)))))) 
            (pss_one (ps_asg (pv 6) (pg_sub (pv 3) (pv 9) set_list))) pss_nil))))) 
      (pss_one (ps_ret (pv 3)))))), ?_⟩
    walk_at "rd"
    intro N hN
    have s1 : Same H (upd H N (.lst [.non])) := Same.new1 hN
    have hN1 : upd H N (.lst [.non]) N = some (.lst [.non]) := upd_same
    generalize upd H N (.lst [.non]) = H1 at s1 hN1
    have hb1 := s1 _ _ hb
    have hpr1 := s1 _ _ hpr
    walk_at "rd"
    have e9 : (((rs.map V.int).length : Nat) : Int).toNat = rs.length := by rw [List.length_map]; rfl
    refine ⟨_, _, _, rfl, rfl, hN1, by (try dsimp only); rw [List.length_map]; omega, by (try dsimp only); rw [List.length_map]; omega, ?_, fun D hD => ?_⟩
    · rw [e9]
      exact Nat.le_trans (show 1 * rs.length ≤ 12 by omega) (by decide)
    rw [e9, rep_flat, row_rep]
    have hD0 := Same.free s1 hD
    have s2 : Same H (upd H1 D (.lst (rowV (List.replicate rs.length none)))) := s1.add hD
    have hD2 : upd H1 D (.lst (rowV (List.replicate rs.length none))) D = some (.lst (rowV (List.replicate rs.length none))) := upd_same
    generalize upd H1 D (.lst (rowV (List.replicate rs.length none))) = H2 at s2 hD2
    walk_at "rd"
    refine ⟨_, _, _, _, rfl, rfl, hD2, row_ix (by rw [List.length_replicate]; exact hs), ?_⟩
    have e0 : (rowV (List.replicate rs.length none)).set sd (.int t) = rowV (times rs.length (ms.take 0) sd t) := row_set (some t)
    rw [e0]
    have s3 : Same H (upd H2 D (.lst (rowV (times rs.length (ms.take 0) sd t)))) := s2.mut hD0
    have hD3 : upd H2 D (.lst (rowV (times rs.length (ms.take 0) sd t))) D = some (.lst (rowV (times rs.length (ms.take 0) sd t))) := upd_same
    generalize upd H2 D (.lst (rowV (times rs.length (ms.take 0) sd t))) = H3 at s3 hD3
    have hb3 := s3 _ _ hb
    have hpm3 := s3 _ _ hpm
    walk_at "rd"
    refine ⟨⟨_, SqT.of hpm3⟩, ?_⟩
    refine for_tup (K := K) (a := pm) (xs := as.map V.ref) (fun i σ Hx => ∃ (v4 v5 v6 v7 v8 v9 : Option V), Same H Hx ∧ Hx D = some (.lst (rowV (times rs.length (ms.take i) sd t))) ∧
      σ = [some (.ref b), some (.int sd), some (.int t), some (.ref D), v4, v5, v6, v7, v8, v9]) ⟨_, _, _, _, _, _, s3, hD3, rfl⟩ (fun i σ Hx _ h => ?_) ?_ ?_
    · obtain ⟨_, _, _, _, _, _, sx, _⟩ := h
      exact SqT.of (sx _ _ hpm)
    · rintro i x σ Hx hi ⟨v4, v5, v6, v7, v8, v9, sx, hDx, rfl⟩
      rw [List.getElem?_map] at hi
      obtain ⟨tm, ht, rfl⟩ := Option.map_eq_some_iff.mp hi
      obtain ⟨y, hy, hHt⟩ := (hT.mono (Same.tups sx)).geta ht
      rw [List.getElem?_map] at hy
      obtain ⟨m, hm, rfl⟩ := Option.map_eq_some_iff.mp hy
      have ok := wf.ok m (List.mem_of_getElem? hm)
      refine ⟨_, _, rfl, SqT.of hHt, rfl, _, _, rfl, _, _, rfl, _, _, rfl, _, _, rfl, rfl, ?_⟩
      walk_at "rd"
      intro t1 h1
      have sa := Same.new1 (o := .tup [.int m.a, .int m.b]) h1
      have z1 : upd Hx t1 (.tup [.int m.a, .int m.b]) t1 = some (.tup [.int m.a, .int m.b]) := upd_same
      generalize upd Hx t1 (.tup [.int m.a, .int m.b]) = Ha at sa z1
      walk_at "rd"
      intro t2 h2
      have sb := Same.new1 (o := .tup [.int m.b, .int m.a]) h2
      have z2 : upd Ha t2 (.tup [.int m.b, .int m.a]) t2 = some (.tup [.int m.b, .int m.a]) := upd_same
      generalize upd Ha t2 (.tup [.int m.b, .int m.a]) = Hb at sb z2
      walk_at "rd"
      intro l hl
      have sc := Same.new1 (o := .lst [.ref t1, .ref t2]) hl
      have z3 : upd Hb l (.lst [.ref t1, .ref t2]) l = some (.lst [.ref t1, .ref t2]) := upd_same
      generalize upd Hb l (.lst [.ref t1, .ref t2]) = H4 at sc z3
      have ht1 := sc _ _ (sb _ _ z1)
      have ht2 := sc _ _ z2
      have sx4 := ((sx.trans sa).trans sb).trans sc
      have hD4 := sc _ _ (sb _ _ (sa _ _ hDx))
      have hlD : l ≠ D := fun z => by
        have := sb _ _ (sa _ _ hDx)
        rw [z, this] at hl
        cases hl
      refine ⟨_, rfl, ⟨_, SqL.of z3⟩, ?_⟩
      refine for_list (K := K) (a := l) (xs := [.ref t1, .ref t2]) (fun j σ Hy => ∃ (v8 v9 : Option V), Same H Hy ∧ Tups H4 Hy ∧ Hy l = some (.lst [.ref t1, .ref t2]) ∧ Hy D = some (.lst (rowV (half m (times rs.length (ms.take i) sd t) j))) ∧
        σ = [some (.ref b), some (.int sd), some (.int t), some (.ref D), some (.int m.a), some (.int m.b), some (.int m.w), some (.int m.c), v8, v9])
        ⟨_, _, sx4, .refl _, z3, hD4, rfl⟩ (fun j σ Hy _ h => ?_) ?_ ?_
      · obtain ⟨_, _, _, _, h, _⟩ := h
        exact SqL.of h
      · rintro j x σ Hy hj ⟨u8, u9, sy, ty, hly, hDy, rfl⟩
        obtain ⟨tw, g, o, rfl, htw, way⟩ := ways_at (ty _ _ ht1) (ty _ _ ht2) hj
        obtain ⟨hg, ho, hgo⟩ := way.lt ok
        have hlr : (half m (times rs.length (ms.take i) sd t) j).length = rs.length := by rw [len_half, len_times]
        refine ⟨_, _, rfl, SqT.of htw, rfl, _, _, rfl, _, _, rfl, rfl, ?_⟩
        walk_at "rd"
        refine ⟨_, _, _, _, rfl, rfl, SqL.of hDy, row_at (by rw [hlr]; exact hg), ?_⟩
        by_cases hx : gives (half m (times rs.length (ms.take i) sd t) j) m.w g o = true
        · obtain ⟨⟨u, eg, ul⟩, eo⟩ := gives_iff.mp hx
          rw [half_next way, step1_yes hx, eg]
          walk_at "rd"
          refine ⟨_, _, _, _, rfl, rfl, SqL.of hDy, row_at (by rw [hlr]; exact hg), ?_⟩
          rw [eg]
          walk_at "rd"
          refine iteD ul ?_
          walk_at "rd"
          refine ⟨_, _, _, _, rfl, rfl, SqL.of hDy, row_at (by rw [hlr]; exact ho), ?_⟩
          rw [eo]
          walk_at "rd"
          refine ⟨_, _, _, _, rfl, rfl, hDy, row_ix (by rw [hlr]; exact ho), ?_⟩
          have e1 : (rowV (half m (times rs.length (ms.take i) sd t) j)).set o (.int m.w) = rowV ((half m (times rs.length (ms.take i) sd t) j).set o (some m.w)) := row_set (some m.w)
          rw [e1]
          exact ⟨_, _, sy.mut hD0, ty.trans (Tups.lst hDy), by rw [upd_ne hlD]; exact hly, upd_same, rfl⟩
        · have e1 := step1_no hx
          rw [half_next way, e1]
          cases eg : ga (half m (times rs.length (ms.take i) sd t) j) g with
          | none =>
            walk_at "rd"
            exact ⟨_, _, sy, ty, hly, hDy, rfl⟩
          | some u =>
            walk_at "rd"
            refine ⟨_, _, _, _, rfl, rfl, SqL.of hDy, row_at (by rw [hlr]; exact hg), ?_⟩
            rw [eg]
            walk_at "rd"
            refine ite2 (fun h => ?_) (fun h => ?_)
            · have ul := of_decide_eq_true h
              walk_at "rd"
              refine ⟨_, _, _, _, rfl, rfl, SqL.of hDy, row_at (by rw [hlr]; exact ho), ?_⟩
              cases eo : ga (half m (times rs.length (ms.take i) sd t) j) o with
              | none => exact absurd (gives_iff.mpr ⟨⟨u, eg, ul⟩, eo⟩) hx
              | some v =>
                walk_at "rd"
                exact ⟨_, _, sy, ty, hly, hDy, rfl⟩
            · walk_at "rd"
              exact ⟨_, _, sy, ty, hly, hDy, rfl⟩
      · rintro σ Hy ⟨u8, u9, sy, ty, hly, hDy, rfl⟩
        have e : half m (times rs.length (ms.take i) sd t) 2 = times rs.length (ms.take (i + 1)) sd t := (times_take hm).symm
        have e2 : ([V.ref t1, V.ref t2] : List V).length = 2 := rfl
        rw [e2, e] at hDy
        exact ⟨_, _, _, _, _, _, sy, hDy, rfl⟩
    · rintro σ Hx ⟨v4, v5, v6, v7, v8, v9, sx, hDx, rfl⟩
      rw [List.length_map, hlen, List.take_length] at hDx
      walk_at "rd"
      exact q D Hx sx hDx
end
end Sm
set_option Elab.async false
set_option linter.all false
set_option maxRecDepth 100000
set_option maxHeartbeats 4000000
set_option pp.maxSteps 600
namespace Sm
open PySem L2
open C8 (tCut pss_cut)
local macro_rules | `(tactic| walk_at "rdc") => `(tactic| first
  | with_reducible assumption
  | exact (show flatV _ = true from rfl)
  | exact flat_ints _
  | exact Or.inr ⟨by decide, by decide⟩
  | exact Or.inl ⟨by decide, by decide⟩
  | exact Or.inl (mod_in _)
  | exact Or.inl ⟨by (try dsimp only); omega, by (try dsimp only); omega⟩
  | exact Or.inr ⟨by (try dsimp only); omega, by (try dsimp only); omega⟩
  | exact ⟨by decide, by decide, by decide⟩
  | exact ⟨by decide, by decide⟩
  | exact ⟨by omega, by omega⟩
  | decide
  | omega
  | (show (0 : Int) < _; decide)
  | exact Nat.le_of_ble_eq_true rfl)
local macro_rules | `(tactic| walk_at "rd1") => `(tactic| first
  | (refine ⟨_, rfl, ?_⟩)
  | (refine ⟨_, _, rfl, rfl, ?_⟩)
  | (refine And.intro (by walk_at "rdc") ?_)
  | (refine ⟨_, _, rfl, (by first | exact Or.inl (by assumption) | exact Or.inl (SqL.of (by assumption)) | exact Or.inr (SqT.of (by assumption))), ?_⟩)
  | (refine ⟨_, _, _, _, rfl, rfl, (by first | exact SqL.of (by assumption) | exact SqT.of (by assumption) | exact SqL.of upd_same | assumption), (by rfl), ?_⟩)
  | (refine ⟨_, _, _, _, rfl, rfl, (by first | assumption | exact upd_same), (by rfl), ?_⟩)
  | (refine ⟨rfl, _, rfl, ?_⟩))
local macro_rules | `(tactic| walk_at "rd") => `(tactic| repeat (walk_at "rd1"))
theorem iteNe {c A B : Prop} [Decidable c] (h : c) (b : B) : if (!decide c) = true then A else B := by
  rw [decide_eq_true h]
  exact b
theorem iteNeT {c A B : Prop} [Decidable c] (h : ¬ c) (a : A) : if (!decide c) = true then A else B := by
  rw [decide_eq_false h]
  exact a
theorem sumO_take {r : Row} {i : Nat} (h : i < r.length) : sumO (r.take (i + 1)) = sumO (r.take i) + (ga r i).getD 0 := by
  unfold sumO
  rw [List.take_succ, ga_at h]
  simp
def KindOk (kind tokens : Int) (R : Rl) : Prop := (kind = 1 ∧ R = .halves tokens) ∨ (kind ≠ 1 ∧ R.first = 0 ∧ ∀ f, R ≠ .halves f)
def sp_bounded : Sp := fun vs H Q _ => ∃ (b tl tr ar au tp tc : Addr) (rs : List Int) (ms : List Mt) (l : Lt) (R : Rl) (T U : Row) (W : Int) (ex : Prop) (kind tokens : Int), vs = [.ref b, .ref tl, .ref tr, .ref ar, .ref au] ∧ BookAt H b rs ms ∧ WFm rs.length ms ∧ rs.length ≤ 12 ∧ l.s < rs.length ∧
  H tl = some (.tup (ltV l)) ∧ H tr = some (.tup [.int kind, .int tokens, .ref tp, .ref tc]) ∧ KindOk kind tokens R ∧ H ar = some (.lst (rowV T)) ∧ H au = some (.lst (rowV U)) ∧ RowOk R rs.length l ex W (times rs.length ms l.s l.t) T U ∧ ∀ H', Same H H' → Q (.bl true) H'
section
variable {P : Program} {w : World} {K : PySem.W.Frag} {mg : Str → Option Value} {base : Heap} {f fw fi fm fr fb fp : Addr} {fd fdw fdi fdm fdr fdb fdp : FuncData}
theorem ok_lbounded (F : Fun K "_law_bounded" "_law_bounded" st_l_bounded f fd) (B : Bt mg) (c_l_whole : Cl P w K mg base "_law_whole" 1 ["_law_thing"] sp_whole fw fdw) (c_l_times : Cl P w K mg base "_law_times" 1 ["_law_book_here", "_law_sender", "_law_since"] sp_ltimes fi fdi) :
    FnOk P w K mg base CX0 2 f fd ["_law_book_here", "_law_letter_here", "_law_rule_here", "_law_row", "_law_tokens"] sp_bounded := by
  refine F.ok sc_l_bounded (fun vs H Q E h => ?_) (fun cdv A outer s H vs Q E hr h => ?_)
  · obtain ⟨b, tl, tr, ar, au, tp, tc, rs, ms, l, R, T, U, W, ex, kind, tokens, rfl, _⟩ := h
    rfl
  · obtain ⟨b, tl, tr, ar, au, tp, tc, rs, ms, l, R, T, U, W, ex, kind, tokens, rfl, hB, wf, h12, hls, htl, htr, hk, har, hau, ro, q⟩ := h
    refine ⟨_, 
      (pss_cons (ps_asg (pv 1) (tup_K K (by rfl) rfl (pgs_cons (pnm 5 sc_l_bounded.nd) (pgs_cons (pnm 6 sc_l_bounded.nd) (pgs_cons (pnm 7 sc_l_bounded.nd) (pgs_cons (pnm 8 sc_l_bounded.nd) pgs_nil)))))) 
      (pss_cons (pset 9 sc_l_bounded.nd (pe_cl c_l_times (hr.mono (by decide)) rfl (pa_cons (pv 0) (pa_cons (pv 5) (pa_cons (pv 6) pa_nil))))) 
      (pss_cons (pset 10 sc_l_bounded.nd (pe_int)) 
      (pss_cons (pset 11 sc_l_bounded.nd (pe_int)) 
      (pss_cons (ps_if (PW.pt (pw_or (pt_cmpR op_ne (pe_callB (len_K K (by rfl)) (by rfl) B.len bo_len (pa_cons (pv 3) pa_nil)) (pe_callB (len_K K (by rfl)) (by rfl) B.len bo_len (pa_cons (pv 9) pa_nil)) (nomark _)) (pw_or (pt_cmpR op_ne (pe_callB (len_K K (by rfl)) (by rfl) B.len bo_len (pa_cons (pv 4) pa_nil)) (pe_callB (len_K K (by rfl)) (by rfl) B.len bo_len (pa_cons (pv 9) pa_nil)) (nomark _)) (pw_or1 (pt_cmpR op_ne (pe_ix (ix_listK K (by rfl)) (pv 3) (pv 5) (fun _ _ => rfl)) (pv 6) (nomark _)))))) 
        (pss_one (ps_ret (pe_bl))) pss_nil) 
      (pss_cons (ps_for PassesOwn.never rfl (pi_range1 (by rfl) B.range (pa_cons (pe_callB (len_K K (by rfl)) (by rfl) B.len bo_len (pa_cons (pv 9) pa_nil)) pa_nil)) (pnm 12 sc_l_bounded.nd) 
        (pss_cons (ps_if (pt_cmpR op_ne (pe_cmpR op_isN (pe_ix (ix_listK K (by rfl)) (pv 3) (pv 12) (fun _ _ => rfl)) (pe_non) (nomark _)) (pe_cmpR op_isN (pe_ix (ix_listK K (by rfl)) (pv 4) (pv 12) (fun _ _ => rfl)) (pe_non) (nomark _)) (nomark _)) 
          (pss_one (ps_ret (pe_bl))) pss_nil) 
        (pss_one (ps_if (pt_cmpR op_notN (pe_ix (ix_listK K (by rfl)) (pv 3) (pv 12) (fun _ _ => rfl)) (pe_non) (nomark _)) 
          (pss_cons (ps_if (PW.pt (pw_or (pt_not (pt_val (pe_cl c_l_whole (hr.mono (by decide)) rfl (pa_cons (pe_ix (ix_listK K (by rfl)) (pv 3) (pv 12) (fun _ _ => rfl)) pa_nil)))) (pw_or (pt_not (pt_val (pe_cl c_l_whole (hr.mono (by decide)) rfl (pa_cons (pe_ix (ix_listK K (by rfl)) (pv 4) (pv 12) (fun _ _ => rfl)) pa_nil)))) (pw_or1 (pt_cmpR op_lt (pe_ix (ix_listK K (by rfl)) (pv 4) (pv 12) (fun _ _ => rfl)) (pe_int) (nomark _)))))) 
            (pss_one (ps_ret (pe_bl))) pss_nil) 
          (pss_cons (ps_if (PW.pt (pw_or (pt_cmpR op_isN (pe_ix (ix_listK K (by rfl)) (pv 9) (pv 12) (fun _ _ => rfl)) (pe_non) (nomark _)) (pw_or1 (pt_cmpR op_lt (pe_ix (ix_listK K (by rfl)) (pv 3) (pv 12) (fun _ _ => rfl)) (pe_ix (ix_listK K (by rfl)) (pv 9) (pv 12) (fun _ _ => rfl)) (nomark _))))) 
            (pss_one (ps_ret (pe_bl))) pss_nil) 
          (pss_cons (pset 10 sc_l_bounded.nd (pe_op op_add (pv 10) (pe_ix (ix_listK K (by rfl)) (pv 4) (pv 12) (fun _ _ => rfl)))) 
          (pss_one (pset 11 sc_l_bounded.nd (pe_op op_add (pv 11) (pe_callTy call_int1 (by rfl) B.int bo_int (pa_cons (pe_cmpR op_ne (pv 12) (pv 7) (nomark _)) pa_nil)))))))) pss_nil)))) 
      (pss_cons (pset 13 sc_l_bounded.nd (pe_ix (ix_listK K (by rfl)) (pe_lst (pa_cons (pe_int) (pa_cons (pe_ix (ix_tupK K (by rfl)) (pv 2) (pe_int) (fun _ _ => rfl)) pa_nil))) (pe_callTy call_int1 (by rfl) B.int bo_int (pa_cons (pe_cmpR op_eq (pe_ix (ix_tupK K (by rfl)) (pv 2) (pe_int) (fun _ _ => rfl)) (pe_int) (nomark _)) pa_nil)) (fun _ _ => rfl))) 
      (pss_one (ps_ret (pe_and (pe_cmpR op_eq (pv 10) (pv 13) (nomark _)) (pe_one (pe_or (pe_cmpR op_ne (pe_ix (ix_tupK K (by rfl)) (pv 2) (pe_int) (fun _ _ => rfl)) (pe_int) (nomark _)) (pe_one (pe_cmpR op_le (pv 11) (pv 13) (nomark _))))))))))))))), ?_⟩
    walk_at "rd"
    refine ⟨_, _, rfl, SqT.of htl, rfl, _, _, rfl, _, _, rfl, _, _, rfl, _, _, rfl, rfl, ?_⟩
    walk_at "rd"
    refine ⟨b, rs, ms, l.s, l.t, rfl, hB, wf, hls, h12, fun pl H1 s1 hpl => ?_⟩
    have har1 := s1 _ _ har
    have hau1 := s1 _ _ hau
    have htr1 := s1 _ _ htr
    have l1 : (rowV T).length = rs.length := by rw [len_rowV, ro.lT]
    have l2 : (rowV U).length = rs.length := by rw [len_rowV, ro.lU]
    have l3 : (rowV (times rs.length ms l.s l.t)).length = rs.length := by rw [len_rowV, len_times]
    walk_at "rd"
    refine iteNe (by rw [l1, l3]) ?_
    walk_at "rd"
    refine iteNe (by rw [l2, l3]) ?_
    walk_at "rd"
    refine ⟨_, _, _, _, rfl, rfl, SqL.of har1, row_at (by rw [ro.lT]; exact hls), ?_⟩
    rw [ro.snd]
    walk_at "rd"
    refine iteNe rfl ?_
    walk_at "rd"
    refine for_range (lo := 0) (n := ((rowV (times rs.length ms l.s l.t)).length : Int).toNat) (fun i σ Hx => ∃ (hd : Int) (v12 : Option V), Hx = H1 ∧ (∀ f, R = .halves f → hd ≤ sumO (U.take i)) ∧
      σ = [some (.ref b), some (.ref tl), some (.ref tr), some (.ref ar), some (.ref au), some (.int l.s), some (.int l.t), some (.int l.d), some (.int l.e), some (.ref pl), some (.int (sumO (U.take i))), some (.int hd), v12, none])
      ⟨0, _, rfl, fun f _ => Int.le_refl _, rfl⟩ ?_ ?_
    · rintro i σ Hx hi ⟨hd, v12, rfl, hh, rfl⟩
      have hi1 : i < (rowV (times rs.length ms l.s l.t)).length := hi
      have hi2 : i < rs.length := by omega
      have r1 : atI (rowV T) (0 + (i : Int)) = some (opV (ga T i)) := by rw [Int.zero_add]; exact row_at (by rw [ro.lT]; exact hi2)
      have r2 : atI (rowV U) (0 + (i : Int)) = some (opV (ga U i)) := by rw [Int.zero_add]; exact row_at (by rw [ro.lU]; exact hi2)
      have r3 : atI (rowV (times rs.length ms l.s l.t)) (0 + (i : Int)) = some (opV (ga (times rs.length ms l.s l.t) i)) := by rw [Int.zero_add]; exact row_at (by rw [len_times]; exact hi2)
      have st := sumO_take (r := U) (i := i) (by rw [ro.lU]; exact hi2)
      walk_at "rd"
      refine ⟨_, _, _, _, rfl, rfl, SqL.of har1, r1, ?_⟩
      walk_at "rd"
      refine ⟨_, _, _, _, rfl, rfl, SqL.of hau1, r2, ?_⟩
      cases eT : ga T i with
      | none =>
        have eU : ga U i = none := (ro.both i).mp eT
        rw [eU]
        walk_at "rd"
        refine ⟨_, _, _, _, rfl, rfl, SqL.of har1, r1, ?_⟩
        rw [eT]
        walk_at "rd"
        rw [eU] at st
        have st' : sumO (U.take (i + 1)) = sumO (U.take i) := by rw [st]; exact Int.add_zero _
        rw [st']
        exact ⟨hd, _, rfl, hh, rfl⟩
      | some t =>
        obtain ⟨u, eU⟩ : ∃ u, ga U i = some u := by
          cases e : ga U i with
          | none => rw [(ro.both i).mpr e] at eT; cases eT
          | some u => exact ⟨u, rfl⟩
        have u0 := ro.pos i u eU
        obtain ⟨t0, et0, ht0⟩ := ro.least i t eT
        rw [eU] at st
        have st' : sumO (U.take (i + 1)) = sumO (U.take i) + u := st
        rw [eU]
        walk_at "rd"
        refine ⟨_, _, _, _, rfl, rfl, SqL.of har1, r1, ?_⟩
        rw [eT]
        walk_at "rd"
        refine ⟨_, _, _, _, rfl, rfl, SqL.of har1, r1, ?_⟩
        rw [eT]
        walk_at "rd"
        refine ⟨_, _, _, _, rfl, rfl, SqL.of hau1, r2, ?_⟩
        rw [eU]
        walk_at "rd"
        refine ⟨_, _, _, _, rfl, rfl, SqL.of hau1, r2, ?_⟩
        rw [eU]
        walk_at "rd"
        refine iteDN (show ¬ u < 0 by omega) ?_
        walk_at "rd"
        refine ⟨_, _, _, _, rfl, rfl, SqL.of hpl, r3, ?_⟩
        rw [et0]
        walk_at "rd"
        refine ⟨_, _, _, _, rfl, rfl, SqL.of har1, r1, ?_⟩
        rw [eT]
        walk_at "rd"
        refine ⟨_, _, _, _, rfl, rfl, SqL.of hpl, r3, ?_⟩
        rw [et0]
        walk_at "rd"
        refine iteDN (show ¬ t < t0 by omega) ?_
        walk_at "rd"
        refine ⟨_, _, _, _, rfl, rfl, SqL.of hau1, r2, ?_⟩
        rw [eU]
        walk_at "rd"
        refine ⟨rfl, .inr ⟨_, rfl, ?_⟩⟩
        walk_at "rd"
        rw [st']
        refine ⟨hd + (if (!decide (V.int (0 + (i : Int)) = V.int (l.d : Int))) = true then 1 else 0), _, rfl, fun f hf => ?_, rfl⟩
        have h1 := hh f hf
        by_cases e : V.int (0 + (i : Int)) = V.int (l.d : Int)
        · rw [decide_eq_true e]
          show hd + 0 ≤ _
          omega
        · rw [decide_eq_false e]
          have hne : i ≠ l.d := fun z => e (by rw [z, Int.zero_add])
          have := ro.half f hf i u eU hne
          show hd + 1 ≤ _
          omega
    · rintro σ Hx ⟨hd, v12, rfl, hh, rfl⟩
      have en : ((rowV (times rs.length ms l.s l.t)).length : Int).toNat = U.length := by rw [l3, ro.lU]; rfl
      rw [en, List.take_length, ro.sum] at hh
      rw [en, List.take_length, ro.sum]
      walk_at "rd"
      intro D hD
      have sD := Same.new1 (o := .lst [.int 0, .int tokens]) hD
      have hD1 : upd Hx D (.lst [.int 0, .int tokens]) D = some (.lst [.int 0, .int tokens]) := upd_same
      have htr2 := sD _ _ htr1
      have sF := s1.trans sD
      generalize upd Hx D (.lst [.int 0, .int tokens]) = H2 at sD hD1 htr2 sF
      walk_at "rd"
      refine ⟨rfl, .inr ⟨_, rfl, ?_⟩⟩
      rcases hk with ⟨k1, rfl⟩ | ⟨k1, k2, k3⟩
      · have ek : decide (V.int kind = V.int 1) = true := decide_eq_true (by rw [k1])
        rw [ek]
        walk_at "rd"
        refine iteD rfl ?_
        walk_at "rd"
        refine iteNe (by rw [k1]) ?_
        walk_at "rd"
        have e : decide (hd ≤ tokens) = true := decide_eq_true (hh tokens rfl)
        show Q (.bl (decide (hd ≤ tokens))) H2
        rw [e]
        exact q H2 sF
      · have ek : decide (V.int kind = V.int 1) = false := decide_eq_false (fun e => k1 (V.int.inj e))
        rw [ek]
        walk_at "rd"
        refine iteD (by rw [k2]) ?_
        walk_at "rd"
        refine iteNeT (fun e => k1 (V.int.inj e)) ?_
        exact q H2 sF
end
end Sm
set_option Elab.async false
set_option linter.all false
set_option maxRecDepth 100000
set_option maxHeartbeats 4000000
set_option pp.maxSteps 600
namespace L2
open PySem PySem.Spec PyProof.Rows
/-- either promise -/
theorem FnOk.or {P : Program} {w : World} {K : PySem.W.Frag} {mg : Str → Option Value} {base : Heap} {CX : CXT} {k : Nat} {f : Addr} {fd : FuncData} {ps : List Str} {sp sp' : Sp} (F : FnOk P w K mg base CX k f fd ps sp) (G : FnOk P w K mg base CX k f fd ps sp') :
    FnOk P w K mg base CX k f fd ps (fun vs H Q E => sp vs H Q E ∨ sp' vs H Q E) :=
  ⟨fun vs H Q E q => q.elim (F.len vs H Q E) (G.len vs H Q E), fun A outer s H args us vs Q E hr he hb hv hs => hs.elim (F.run A outer s H args us vs Q E hr he hb hv) (G.run A outer s H args us vs Q E hr he hb hv)⟩
end L2
namespace Sm
open PySem L2
open C8 (tCut pss_cut)
local macro_rules | `(tactic| walk_at "rdc") => `(tactic| first
  | with_reducible assumption
  | exact (show flatV _ = true from rfl)
  | exact flat_ints _
  | exact Or.inr ⟨by decide, by decide⟩
  | exact Or.inl ⟨by decide, by decide⟩
  | exact Or.inl (mod_in _)
  | exact Or.inl ⟨by (try dsimp only); omega, by (try dsimp only); omega⟩
  | exact Or.inr ⟨by (try dsimp only); omega, by (try dsimp only); omega⟩
  | exact ⟨by decide, by decide, by decide⟩
  | exact ⟨by decide, by decide⟩
  | exact ⟨by omega, by omega⟩
  | decide
  | omega
  | (show (0 : Int) < _; decide)
  | exact Nat.le_of_ble_eq_true rfl)
local macro_rules | `(tactic| walk_at "rd1") => `(tactic| first
  | (refine ⟨_, rfl, ?_⟩)
  | (refine ⟨_, _, rfl, rfl, ?_⟩)
  | (refine And.intro (by walk_at "rdc") ?_)
  | (refine ⟨_, _, rfl, (by first | exact Or.inl (by assumption) | exact Or.inl (SqL.of (by assumption)) | exact Or.inr (SqT.of (by assumption))), ?_⟩)
  | (refine ⟨_, _, _, _, rfl, rfl, (by first | exact SqL.of (by assumption) | exact SqT.of (by assumption) | exact SqL.of upd_same | assumption), (by rfl), ?_⟩)
  | (refine ⟨_, _, _, _, rfl, rfl, (by first | assumption | exact upd_same), (by rfl), ?_⟩)
  | (refine ⟨rfl, _, rfl, ?_⟩))
local macro_rules | `(tactic| walk_at "rd") => `(tactic| repeat (walk_at "rd1"))
def RuleAt (Ca Ch Cn : Addr) : RAt := fun H x R n => raA Ca H x R n ∨ raH Ch H x R n ∨ raN Cn H x R n
theorem run_all {P : Program} {w : World} {K : PySem.W.Frag} {mg : Str → Option Value} {base : Heap} {k : Nat} {f Ca Ch Cn : Addr} {fd : FuncData} {ps : List Str} (A : FnOk P w K mg base CX0 k f fd ps (sp_run (raA Ca))) (B : FnOk P w K mg base CX0 k f fd ps (sp_run (raH Ch))) (C : FnOk P w K mg base CX0 k f fd ps (sp_run (raN Cn))) :
    FnOk P w K mg base CX0 k f fd ps (sp_run (RuleAt Ca Ch Cn)) := by
  refine (A.or (B.or C)).imp fun vs H Q E h => ?_
  obtain ⟨b, tl, ru, rs, ls, ms, R, ex, e, hB, wf, h12, hLs, l40, hls, ra, hex, q⟩ := h
  rcases ra with ra | ra | ra
  · exact .inl ⟨b, tl, ru, rs, ls, ms, R, ex, e, hB, wf, h12, hLs, l40, hls, ra, hex, q⟩
  · exact .inr (.inl ⟨b, tl, ru, rs, ls, ms, R, ex, e, hB, wf, h12, hLs, l40, hls, ra, hex, q⟩)
  · exact .inr (.inr ⟨b, tl, ru, rs, ls, ms, R, ex, e, hB, wf, h12, hLs, l40, hls, ra, hex, q⟩)
def sp_lrule : Sp := fun vs H Q _ => ∃ (p : Addr) (n : Nat), vs = [.ref p, .int n] ∧ 1 ≤ n ∧ n ≤ 12 ∧ Purse H p ∧ ∀ t kind tokens tp tc rs ms H', SamB p H H' → H t = none → H' t = some (.tup [.int kind, .int tokens, .ref tp, .ref tc]) → 0 ≤ kind → kind < 3 → 1 ≤ tokens → tokens ≤ 64 →
  BookAt H' tp rs ms → List.length rs = n → WFm n ms → Q (.ref t) H'
def sp_lmade (Ca Ch Cn : Addr) : Sp := fun vs H Q _ => ∃ (t tp tc : Addr) (kind tokens : Int) (rs : List Int) (ms : List Mt), vs = [.ref t] ∧ H t = some (.tup [.int kind, .int tokens, .ref tp, .ref tc]) ∧ 1 ≤ tokens ∧ tokens ≤ 64 ∧ BookAt H tp rs ms ∧ WFm rs.length ms ∧ 1 ≤ rs.length ∧ rs.length ≤ 12 ∧
  ∀ x H' R, Same H H' → RuleAt Ca Ch Cn H' x R rs.length → KindOk kind tokens R → Q (.ref x) H'
section
variable {P : Program} {w : World} {K : PySem.W.Frag} {mg : Str → Option Value} {base : Heap} {f fw fi fm fr fb fp ft fg Ca Ch Cn : Addr} {fd fdw fdi fdm fdr fdb fdp fdt fdg : FuncData}
theorem ok_lmade (F : Fun K "_law_made" "_law_made" st_l_made f fd) (c_AllMet : MkC0 K mg "AllMet" Ca) (c_Halves : MkC P w K mg base "Halves" Ch 3 ["self", "tokens"] (sp_hinit Ch) fi fdi) (c_Nearer : MkC P w K mg base "Nearer" Cn 2 ["self", "past"] (sp_ninit Cn) fm fdm) :
    FnOk P w K mg base CX0 5 f fd ["_law_rule_here"] (sp_lmade Ca Ch Cn) := by
  refine F.ok sc_l_made (fun vs H Q E h => ?_) (fun cdv A outer s H vs Q E hr h => ?_)
  · obtain ⟨t, tp, tc, kind, tokens, rs, ms, rfl, _⟩ := h
    rfl
  · obtain ⟨t, tp, tc, kind, tokens, rs, ms, rfl, ht, t1, t64, hB, wf, h1, h12, q⟩ := h
    refine ⟨_, 
      (pss_cons (ps_if (pt_cmpR op_eq (pe_ix (ix_tupK K (by rfl)) (pv 0) (pe_int) (fun _ _ => rfl)) (pe_int) (nomark _)) 
        (pss_one (ps_ret (pe_make c_Halves.makes c_Halves.ok (hr.mono (by decide)) (by rfl) c_Halves.mg c_Halves.b .nil pass0 (pa_cons (pe_ix (ix_tupK K (by rfl)) (pv 0) (pe_int) (fun _ _ => rfl)) pa_nil)))) pss_nil) 
      (pss_cons (ps_if (pt_cmpR op_eq (pe_ix (ix_tupK K (by rfl)) (pv 0) (pe_int) (fun _ _ => rfl)) (pe_int) (nomark _)) 
        (pss_one (ps_ret (pe_make c_Nearer.makes c_Nearer.ok (hr.mono (by decide)) (by rfl) c_Nearer.mg c_Nearer.b .nil pass0 (pa_cons (pe_ix (ix_tupK K (by rfl)) (pv 0) (pe_int) (fun _ _ => rfl)) pa_nil)))) pss_nil) 
      (pss_one (ps_ret (pe_makeO c_AllMet.makes (by rfl) c_AllMet.mg))))), ?_⟩
    walk_at "rd"
    refine ite2 (fun h => ?_) (fun h => ?_)
    · have k1 : kind = 1 := V.int.inj (of_decide_eq_true h)
      walk_at "rd"
      intro x dx hx hdx hne
      refine ⟨x, dx, tokens, rfl, upd_same, t1, t64, rfl, ?_⟩
      refine q x _ (.halves tokens) (((Same.new1 hdx).mut hx).mut hx) (.inr (.inl ⟨tokens, dx, rfl, t1, t64, upd_same⟩)) (.inl ⟨k1, rfl⟩)
    · have k1 : kind ≠ 1 := fun e => h (decide_eq_true (by rw [e]))
      walk_at "rd"
      refine ite2 (fun h => ?_) (fun h => ?_)
      · walk_at "rd"
        intro x dx hx hdx hne
        have s2 : Same H (upd (upd H dx (.own x)) x (.ins Cn dx [])) := (Same.new1 hdx).mut hx
        refine ⟨x, dx, tp, rs, ms, rfl, upd_same, hB.mono (Same.tups s2), wf, h1, h12, fun pm H' s3 mt => ⟨rfl, ?_⟩⟩
        have hx3 := s3 _ _ (upd_same (H := upd H dx (.own x)) (a := x) (o := .ins Cn dx []))
        refine q x _ .nearer ((s2.trans s3).mut hx) (.inr (.inr ⟨rfl, dx, pm, upd_same, ?_⟩)) (.inr ⟨k1, rfl, fun f e => nomatch e⟩)
        obtain ⟨as, m1, m2, m3⟩ := mt
        refine ⟨as, by rw [upd_ne (ne_of m1 hx3 (fun z => nomatch z))]; exact m1, m2, fun a ha => ?_⟩
        obtain ⟨is, i1, i2⟩ := m3 a ha
        exact ⟨is, i1, by rw [upd_ne (ne_of i2 hx3 (fun z => nomatch z))]; exact i2⟩
      · walk_at "rd"
        intro x dx hx hdx hne
        exact q x _ .all ((Same.new1 hdx).mut hx) (.inl ⟨rfl, dx, upd_same⟩) (.inr ⟨k1, rfl, fun f e => nomatch e⟩)
theorem ok_lrule (F : Fun K "_law_rule" "_law_rule" st_l_rule f fd) (B : Bt mg) (c_l_take : Cl P w K mg base "_law_take" 1 ["_law_purse_here", "_law_many"] sp_take ft fdt) (c_l_past : Cl P w K mg base "_law_past" 4 ["_law_purse_here", "_law_walkers"] sp_past fp fdp) :
    FnOk P w K mg base CX0 5 f fd ["_law_purse_here", "_law_walkers"] sp_lrule := by
  refine F.ok sc_l_rule (fun vs H Q E h => ?_) (fun cdv A outer s H vs Q E hr h => ?_)
  · obtain ⟨p, n, rfl, _⟩ := h
    rfl
  · obtain ⟨p, n, rfl, h1, h12, hP, q⟩ := h
    refine ⟨_, 
      (pss_cons (pset 2 sc_l_rule.nd (pe_cl c_l_take (hr.mono (by decide)) rfl (pa_cons (pv 0) (pa_cons (pe_int) pa_nil)))) 
      (pss_cons (pset 3 sc_l_rule.nd (pe_op op_add (pe_int) (pe_cl c_l_take (hr.mono (by decide)) rfl (pa_cons (pv 0) (pa_cons (pe_ix (ix_listK K (by rfl)) (pe_lst (pa_cons (pe_int) (pa_cons (pe_int) pa_nil))) (pe_cl c_l_take (hr.mono (by decide)) rfl (pa_cons (pv 0) (pa_cons (pe_int) pa_nil))) (fun _ _ => rfl)) pa_nil))))) 
      (pss_cons (pset 4 sc_l_rule.nd (pe_cl c_l_past (hr.mono (by decide)) rfl (pa_cons (pv 0) (pa_cons (pv 1) pa_nil)))) 
      (pss_cons (ps_setLc (i := 6) (own := [("_law_k", 5)]) (g := (gName 5)) (tt := tYes) (by rfl) sc_l_rule.nd rfl rfl (sw_true rfl rfl rfl (by decide +kernel)) (pi_range1 (by rfl) B.range (pa_cons (pv 1) pa_nil)) (blkOk_by (N := N_l_rule) (sc := defScope st_l_rule) (by decide +kernel)) (fun _ _ _ _ _ => (pnm 5 sc_l_rule.nd)) (fun _ _ _ _ _ => pts_nil) (fun _ _ _ _ _ => (pe_op op_rep (pe_lst (pa_cons (pe_int) pa_nil)) (pv 1)))) 
      (pss_cons (ps_for PassesOwn.never rfl (pt_K K (by rfl) (pe_ix (ix_tupK K (by rfl)) (pv 4) (pe_int) (fun _ _ => rfl))) (tup_K K (by rfl) rfl (pgs_cons (pnm 7 sc_l_rule.nd) (pgs_cons (pnm 8 sc_l_rule.nd) (pgs_cons (pnm 9 sc_l_rule.nd) (pgs_cons (pnm 10 sc_l_rule.nd) pgs_nil))))) 
        (pss_cons (ps_augS (pe_ix (ix_listK K (by rfl)) (pv 6) (pv 7) (fun _ _ => rfl)) (pv 8) (get_listK K (by rfl)) (pe_int) ip_add set_list) 
        (pss_one (ps_augS (pe_ix (ix_listK K (by rfl)) (pv 6) (pv 8) (fun _ _ => rfl)) (pv 7) (get_listK K (by rfl)) (pe_int) ip_add set_list)))) 
      (pss_one (ps_ret (pe_tup (pa_cons (pv 2) (pa_cons (pv 3) (pa_cons (pv 4) (pa_cons (pv 6) pa_nil)))))))))))), ?_⟩
    walk_at "rd"
    refine ⟨_, _, rfl, hP, by decide, by decide, fun kind H1 k0 k1 s1 => ?_⟩
    walk_at "rd"
    intro D0 hD0
    have sD := s1.new (o := .lst [.int 9, .int 64]) hD0
    have hD1 : upd H1 D0 (.lst [.int 9, .int 64]) D0 = some (.lst [.int 9, .int 64]) := upd_same
    have hDp : D0 ≠ p := fun e => by
      obtain ⟨x, y, z, hp⟩ := s1.is_
      rw [e, hp] at hD0
      cases hD0
    generalize upd H1 D0 (.lst [.int 9, .int 64]) = H2 at sD hD1
    walk_at "rd"
    refine ⟨_, _, rfl, sD.is_, by decide, by decide, fun r H3 r0 r1 s3 => ?_⟩
    have hD3 := s3.keep D0 _ hDp hD1
    have s03 := sD.trans s3
    obtain ⟨m, hm, m0, m64⟩ : ∃ m : Int, atI [V.int 9, V.int 64] r = some (.int m) ∧ 0 < m ∧ m ≤ 64 := by
      have r1' : r < 2 := r1
      have c : r = 0 ∨ r = 1 := by omega
      rcases c with rfl | rfl
      · exact ⟨9, rfl, by decide, by decide⟩
      · exact ⟨64, rfl, by decide, by decide⟩
    refine ⟨_, _, _, _, rfl, rfl, SqL.of hD3, hm, ?_⟩
    walk_at "rd"
    refine ⟨_, _, rfl, s03.is_, m0, by omega, fun tk H4 tk0 tk1 s4 => ?_⟩
    walk_at "rd"
    refine ⟨p, n, rfl, h1, h12, s4.is_, fun tp rs ms H5 hB5 hl5 wf5 s5 => ?_⟩
    have s05 := (s03.trans s4).trans s5
    obtain ⟨pr, pm, hb5, hpr5, as, hpm5, hT5⟩ := id hB5
    walk_at "rd"
    intro D hD
    refine lc_range (lo := 0) (n := (n : Int).toNat) (fun i Hx => ∃ bs : List Addr, bs.length = i ∧ Same H5 Hx ∧ Hx D = some (.lst (bs.map V.ref)) ∧ NewMet H5 Hx bs n ∧ D ∉ bs)
      ⟨[], rfl, Same.new1 hD, upd_same, (fun a ha => by cases ha), (fun ha => by cases ha)⟩ ?_ ?_
    · rintro i Hx hi ⟨bs, hbl, sx, hDx, nm, hDn⟩
      have hi' : i < n := hi
      refine ⟨rfl, ?_⟩
      walk_at "rd"
      intro Z hZ
      have sz := Same.new1 (o := .lst [.int 0]) hZ
      have hZ1 : upd Hx Z (.lst [.int 0]) Z = some (.lst [.int 0]) := upd_same
      generalize upd Hx Z (.lst [.int 0]) = Hz at sz hZ1
      walk_at "rd"
      refine ⟨_, _, _, rfl, rfl, hZ1, by omega, by omega, ?_, fun D2 hD2 => ?_⟩
      · exact Nat.le_trans (show 1 * n ≤ 12 by omega) (by decide)
      have e9 : ((n : Nat) : Int).toNat = n := rfl
      rw [e9, rep_flat, int_rep]
      have sy : Same Hx (upd Hz D2 (.lst ((List.replicate n 0).map V.int))) := sz.add hD2
      have hDy : upd Hz D2 (.lst ((List.replicate n 0).map V.int)) D2 = some (.lst ((List.replicate n 0).map V.int)) := upd_same
      have hD2x : Hx D2 = none := Same.free sz hD2
      generalize upd Hz D2 (.lst ((List.replicate n 0).map V.int)) = Hy at sy hDy
      have hD3' := sy _ _ hDx
      have hne : D ≠ D2 := ne_of_none hDx hD2x
      have hn12 : D ∉ bs ++ [D2] := fun z => by
        rcases List.mem_append.mp z with z | z
        · exact hDn z
        · exact hne (List.mem_singleton.mp z)
      exact ⟨_, hD3', by rw [List.length_map]; exact Nat.lt_of_le_of_lt (show bs.length ≤ 12 by omega) (by decide), bs ++ [D2], by rw [List.length_append, hbl]; rfl, (sx.trans sy).mut hD, by rw [upd_same, List.map_append]; rfl,
        ((nm.same sy).snoc (Same.free sx hD2x) (List.length_replicate ..) hDy).mut hn12, hn12⟩
    · rintro H6 ⟨bs, hbl, s6, hD6, nm, hDn⟩
      have hbl' : bs.length = n := hbl
      have hb6 := s6 _ _ hb5
      have hpm6 := s6 _ _ hpm5
      walk_at "rd"
      refine ⟨⟨_, SqT.of hpm6⟩, ?_⟩
      refine for_tup (K := K) (a := pm) (xs := as.map V.ref) (fun i σ Hx => ∃ (v7 v8 v9 v10 : Option V), Same H5 Hx ∧ Hx D = some (.lst (bs.map V.ref)) ∧ NewMet H5 Hx bs n ∧ σ = [some (.ref p), some (.int n), some (.int kind), some (.int (1 + tk)), some (.ref tp), none, some (.ref D), v7, v8, v9, v10])
        ⟨_, _, _, _, s6, hD6, nm, rfl⟩ (fun i σ Hx _ h => ?_) ?_ ?_
      · obtain ⟨_, _, _, _, sx, _⟩ := h
        exact SqT.of (sx _ _ hpm5)
      · rintro i x σ Hx hi ⟨v3, v4, v5, v6, sx, hDx, nmx, rfl⟩
        obtain ⟨t, m, rfl, hm, ht⟩ := (hT5.mono (Same.tups sx)).mem (List.mem_of_getElem? hi)
        have ok := wf5.ok m hm
        have o1 := ok.ab
        have o2 := ok.bn
        obtain ⟨ra, ia, ha1, ha2, ha3, ha4⟩ := nmx.at (i := m.a) (by omega)
        refine ⟨_, _, rfl, SqT.of ht, rfl, _, _, rfl, _, _, rfl, _, _, rfl, _, _, rfl, rfl, ?_⟩
        walk_at "rd"
        refine ⟨_, _, _, _, rfl, rfl, SqL.of hDx, atI_nat (by rw [List.getElem?_map, ha1]; rfl), ?_⟩
        walk_at "rd"
        refine ⟨_, _, _, _, rfl, rfl, SqL.of ha4, int_at (show m.b < ia.length by omega), ?_⟩
        walk_at "rd"
        refine ⟨_, _, _, _, rfl, rfl, ha4, int_ix (show m.b < ia.length by omega), ?_⟩
        rw [int_set]
        have hDra : D ≠ ra := fun z => hDn (by rw [z]; exact List.mem_of_getElem? ha1)
        have nm5 := nmx.upd (a := ra) (is := ia.set m.b (ia[m.b]'(by omega) + 1)) (by rw [List.length_set]; exact ha3)
        have s5 : Same H5 (L2.upd Hx ra (.lst ((ia.set m.b (ia[m.b]'(by omega) + 1)).map V.int))) := sx.mut ha2
        have hD5 : L2.upd Hx ra (.lst ((ia.set m.b (ia[m.b]'(by omega) + 1)).map V.int)) D = some (.lst (bs.map V.ref)) := by rw [upd_ne hDra]; exact hDx
        generalize L2.upd Hx ra (.lst ((ia.set m.b (ia[m.b]'(by omega) + 1)).map V.int)) = H5' at nm5 s5 hD5
        obtain ⟨rb, ib, hb1', hb2', hb3', hb4'⟩ := nm5.at (i := m.b) (by omega)
        have hDrb : D ≠ rb := fun z => hDn (by rw [z]; exact List.mem_of_getElem? hb1')
        walk_at "rd"
        refine ⟨_, _, _, _, rfl, rfl, SqL.of hD5, atI_nat (by rw [List.getElem?_map, hb1']; rfl), ?_⟩
        walk_at "rd"
        refine ⟨_, _, _, _, rfl, rfl, SqL.of hb4', int_at (show m.a < ib.length by omega), ?_⟩
        walk_at "rd"
        refine ⟨_, _, _, _, rfl, rfl, hb4', int_ix (show m.a < ib.length by omega), ?_⟩
        rw [int_set]
        exact ⟨_, _, _, _, s5.mut hb2', by rw [upd_ne hDrb]; exact hD5, nm5.upd (by rw [List.length_set]; exact hb3'), rfl⟩
      · rintro σ Hx ⟨v3, v4, v5, v6, sx, hDx, nmx, rfl⟩
        walk_at "rd"
        intro t ht
        have sF : SamB p H5 Hx := ⟨s5.is_, ⟨_, _, _, sx _ _ s5.is_.choose_spec.choose_spec.choose_spec⟩, fun b o _ e => sx b o e⟩
        have sG := s05.trans sF
        exact q t kind (1 + tk) tp D rs ms _ (sG.new ht) (sG.free ht) upd_same k0 k1 (by omega) (by omega) ((hB5.mono (Same.tups sx)).mono (Tups.new ht)) hl5 wf5
end
end Sm
set_option Elab.async false
set_option linter.all false
set_option maxRecDepth 100000
set_option maxHeartbeats 4000000
set_option pp.maxSteps 600
namespace Sm
open PySem L2
open C8 (tCut pss_cut)
local macro_rules | `(tactic| walk_at "rdc") => `(tactic| first
  | with_reducible assumption
  | exact (show flatV _ = true from rfl)
  | exact flat_ints _
  | exact Or.inr ⟨by decide, by decide⟩
  | exact Or.inl ⟨by decide, by decide⟩
  | exact Or.inl (mod_in _)
  | exact Or.inl ⟨by (try dsimp only); omega, by (try dsimp only); omega⟩
  | exact Or.inr ⟨by (try dsimp only); omega, by (try dsimp only); omega⟩
  | exact ⟨by decide, by decide, by decide⟩
  | exact ⟨by decide, by decide⟩
  | exact ⟨by omega, by omega⟩
  | decide
  | omega
  | (show (0 : Int) < _; decide)
  | exact Nat.le_of_ble_eq_true rfl)
local macro_rules | `(tactic| walk_at "rd1") => `(tactic| first
  | (refine ⟨_, rfl, ?_⟩)
  | (refine ⟨_, _, rfl, rfl, ?_⟩)
  | (refine And.intro (by walk_at "rdc") ?_)
  | (refine ⟨_, _, rfl, (by first | exact Or.inl (by assumption) | exact Or.inl (SqL.of (by assumption)) | exact Or.inr (SqT.of (by assumption))), ?_⟩)
  | (refine ⟨_, _, _, _, rfl, rfl, (by first | exact SqL.of (by assumption) | exact SqT.of (by assumption) | exact SqL.of upd_same | assumption), (by rfl), ?_⟩)
  | (refine ⟨_, _, _, _, rfl, rfl, (by first | assumption | exact upd_same), (by rfl), ?_⟩)
  | (refine ⟨rfl, _, rfl, ?_⟩))
local macro_rules | `(tactic| walk_at "rd") => `(tactic| repeat (walk_at "rd1"))
def sp_lright : Sp := fun vs H Q _ => ∃ (b tl tr tp tc : Addr) (rs rs' : List Int) (ms ms' : List Mt) (ls : List Lt) (kind tokens : Int), vs = [.ref b, .ref tl, .ref tr] ∧ BookAt H b rs ms ∧ WFm rs.length ms ∧ 1 ≤ rs.length ∧ rs.length ≤ 12 ∧ LsAt H tl ls ∧ ls.length ≤ 40 ∧ (∀ l ∈ ls, l.s < rs.length ∧ l.d < rs.length) ∧
  H tr = some (.tup [.int kind, .int tokens, .ref tp, .ref tc]) ∧ 1 ≤ tokens ∧ tokens ≤ 64 ∧ BookAt H tp rs' ms' ∧ rs'.length = rs.length ∧ WFm rs.length ms' ∧ ∀ H', Same H H' → Q (.bl true) H'
def Wide (rs : List Int) (ms : List Mt) : Prop := (∀ r ∈ rs, r = 99) ∧ ∀ m ∈ ms, m.c = 99
theorem Wide.ex {rs : List Int} {ms : List Mt} (h : Wide rs ms) {k : Nat} (hk : k ≤ 40) : ExOk True .all rs ms k := fun _ => ⟨rfl, fun j hj => by
    have := h.1 rs[j] (List.getElem_mem hj)
    rw [List.getD_eq_getElem?_getD, List.getElem?_eq_getElem hj]
    show (k : Int) < rs[j]
    omega, fun m hm => by have := h.2 m hm; omega⟩
theorem Wide.sub {rs : List Int} {ms ms' : List Mt} (h : Wide rs ms) (s : ms'.Sublist ms) : Wide rs ms' := ⟨h.1, fun m hm => h.2 m (s.subset hm)⟩
def sp_lcome : Sp := fun vs H Q _ => ∃ (b tl : Addr) (rs : List Int) (ms : List Mt) (ls : List Lt), vs = [.ref b, .ref tl] ∧ BookAt H b rs ms ∧ WFm rs.length ms ∧ rs.length ≤ 12 ∧ Wide rs ms ∧ LsAt H tl ls ∧ ls.length ≤ 40 ∧ (∀ l ∈ ls, l.s < rs.length ∧ l.d < rs.length) ∧
  ∀ p H', Same H H' → H' p = some (.lst ((comeL rs.length ms ls).map fun k => V.int (k : Nat))) → Q (.ref p) H'
section
variable {P : Program} {w : World} {K : PySem.W.Frag} {mg : Str → Option Value} {base : Heap} {f fw fi fm fr fb fp ft fg Ca Ch Cn : Addr} {fd fdw fdi fdm fdr fdb fdp fdt fdg : FuncData}
theorem ok_lright (F : Fun K "_law_run_right" "_law_run_right" st_l_run_right f fd) (B : Bt mg) (c_run : Cl P w K mg base "run" 4 ["book", "letters", "rule"] (sp_run (RuleAt Ca Ch Cn)) fr fdr) (c_l_made : Cl P w K mg base "_law_made" 5 ["_law_rule_here"] (sp_lmade Ca Ch Cn) fm fdm)
    (c_l_bounded : Cl P w K mg base "_law_bounded" 2 ["_law_book_here", "_law_letter_here", "_law_rule_here", "_law_row", "_law_tokens"] sp_bounded fb fdb) : FnOk P w K mg base CX0 6 f fd ["_law_book_here", "_law_letters_here", "_law_rule_here"] sp_lright := by
  refine F.ok sc_l_run_right (fun vs H Q E h => ?_) (fun cdv A outer s H vs Q E hr h => ?_)
  · obtain ⟨b, tl, tr, tp, tc, rs, rs', ms, ms', ls, kind, tokens, rfl, _⟩ := h
    rfl
  · obtain ⟨b, tl, tr, tp, tc, rs, rs', ms, ms', ls, kind, tokens, rfl, hB, wf, h1, h12, ⟨as, htl, hTl⟩, l40, hls, htr, t1, t64, hBp, hrs, wf', q⟩ := h
    have hlen := hTl.length
    rw [List.length_map] at hlen
    refine ⟨_, 
      (pss_cons (pset 3 sc_l_run_right.nd (pe_cl c_run (hr.mono (by decide)) rfl (pa_cons (pv 0) (pa_cons (pe_callTy (list_K K (by rfl)) (by rfl) B.list bo_list (pa_cons (pv 1) pa_nil)) (pa_cons (pe_cl c_l_made (hr.mono (by decide)) rfl (pa_cons (pv 2) pa_nil)) pa_nil))))) 
      (pss_cons (ps_if (PW.pt (pw_or (pt_not (pt_val (pe_callB (isi_K K (by rfl)) (by rfl) B.isinstance bo_isinstance (pa_cons (pv 3) (pa_cons (pe_bltn (v := .ty "tuple") (by rfl) B.tuple bo_tuple rfl) pa_nil))))) (pw_or1 (pt_cmpR op_ne (pe_callB (len_K K (by rfl)) (by rfl) B.len bo_len (pa_cons (pv 3) pa_nil)) (pe_int) (nomark _))))) 
        (pss_one (ps_ret (pe_bl))) pss_nil) 
      (pss_cons (pset 4 sc_l_run_right.nd (pe_callB (len_K K (by rfl)) (by rfl) B.len bo_len (pa_cons (pv 1) pa_nil))) 
      (pss_cons (ps_if (PW.pt (pw_or (pt_not (pt_val (pe_callB (isi_K K (by rfl)) (by rfl) B.isinstance bo_isinstance (pa_cons (pe_ix (ix_tupK K (by rfl)) (pv 3) (pe_int) (fun _ _ => rfl)) (pa_cons (pe_bltn (v := .ty "list") (by rfl) B.list bo_list rfl) pa_nil))))) (pw_or1 (pt_not (pt_val (pe_callB (isi_K K (by rfl)) (by rfl) B.isinstance bo_isinstance (pa_cons (pe_ix (ix_tupK K (by rfl)) (pv 3) (pe_int) (fun _ _ => rfl)) (pa_cons (pe_bltn (v := .ty "list") (by rfl) B.list bo_list rfl) pa_nil)))))))) 
        (pss_one (ps_ret (pe_bl))) pss_nil) 
      (pss_cons (ps_if (PW.pt (pw_or (pt_cmpR op_ne (pe_callB (len_K K (by rfl)) (by rfl) B.len bo_len (pa_cons (pe_ix (ix_tupK K (by rfl)) (pv 3) (pe_int) (fun _ _ => rfl)) pa_nil)) (pv 4) (nomark _)) (pw_or1 (pt_cmpR op_ne (pe_callB (len_K K (by rfl)) (by rfl) B.len bo_len (pa_cons (pe_ix (ix_tupK K (by rfl)) (pv 3) (pe_int) (fun _ _ => rfl)) pa_nil)) (pv 4) (nomark _))))) 
        (pss_one (ps_ret (pe_bl))) pss_nil) 
      (pss_one (ps_ret (pe_callB (all_K K (by rfl) rfl) (by rfl) B.all bo_all (pa_cons (pe_lc (own := [("_law_k", 5)]) (g := (gName 5)) (tt := tYes) (by rfl) sc_l_run_right.nd (pi_range1 (by rfl) B.range (pa_cons (pv 4) pa_nil)) (blkOk_by (N := N_l_run_right) (sc := defScope st_l_run_right) (by decide +kernel)) (fun _ _ _ _ _ => (pnm 5 sc_l_run_right.nd)) (fun _ _ _ _ _ => pts_nil) (fun _ _ _ _ _ => (pe_cl c_l_bounded (hr.mono (by decide)) rfl (pa_cons (pv 0) (pa_cons (pe_ix (ix_listK K (by rfl)) (pv 1) (pv 5) (fun _ _ => rfl)) (pa_cons (pv 2) (pa_cons (pe_ix (ix_listK K (by rfl)) (pe_ix (ix_tupK K (by rfl)) (pv 3) (pe_int) (fun _ _ => rfl)) (pv 5) (fun _ _ => rfl)) (pa_cons (pe_ix (ix_listK K (by rfl)) (pe_ix (ix_tupK K (by rfl)) (pv 3) (pe_int) (fun _ _ => rfl)) (pv 5) (fun _ _ => rfl)) pa_nil)))))))) pa_nil))))))))), ?_⟩
    walk_at "rd"
    intro l hl
    have s1 : Same H (upd H l (.lst (as.map V.ref))) := Same.new1 hl
    have hl1 : upd H l (.lst (as.map V.ref)) l = some (.lst (as.map V.ref)) := upd_same
    generalize upd H l (.lst (as.map V.ref)) = H1 at s1 hl1
    have htl1 := s1 _ _ htl
    have hTl1 := hTl.mono (Same.tups s1)
    walk_at "rd"
    refine ⟨tr, tp, tc, kind, tokens, rs', ms', rfl, s1 _ _ htr, t1, t64, hBp.mono (Same.tups s1), by rw [hrs]; exact wf', by omega, by omega, fun x H2 R s2 ra hk => ?_⟩
    walk_at "rd"
    have s12 := s1.trans s2
    rw [hrs] at ra
    refine ⟨b, l, x, rs, ls, ms, R, False, rfl, hB.mono (Same.tups s12), wf, h12, ⟨as, s2 _ _ hl1, hTl1.mono (Same.tups s2)⟩, l40, hls, ra, (fun e => e.elim), fun p D gT gU ats aus T U H3 W s3 hp hgT hgU rT rU gr => ?_⟩
    have s03 := s12.trans s3
    have htl3 := s03 _ _ htl
    walk_at "rd"
    refine ⟨_, _, _, _, true, rfl, .ty "tuple", .base (.tup hp), kit_ty (by decide +kernel), ?_⟩
    walk_at "rd"
    rw [List.length_map, hlen]
    refine ⟨_, _, _, _, true, rfl, .ty "list", .base (.lst hgT), kit_ty (by decide +kernel), ?_⟩
    walk_at "rd"
    refine ⟨_, _, _, _, true, rfl, .ty "list", .base (.lst hgU), kit_ty (by decide +kernel), ?_⟩
    walk_at "rd"
    refine iteNe (by rw [List.length_map, rT.1, gr.lT]) ?_
    walk_at "rd"
    refine iteNe (by rw [List.length_map, rU.1, gr.lU]) ?_
    walk_at "rd"
    intro C hC
    refine lc_range (lo := 0) (n := (ls.length : Int).toNat) (fun i Hx => Same H3 Hx ∧ Hx C = some (.lst ((List.replicate i true).map V.bl))) ⟨Same.new1 hC, upd_same⟩ ?_ ?_
    · rintro i Hx hi ⟨sx, hCx⟩
      have hi' : i < ls.length := hi
      obtain ⟨tr_, tu_, hT, hU, ro⟩ := gr.at (List.getElem?_eq_getElem hi')
      obtain ⟨at_, hat, hatH⟩ := (rT.same sx).at hT
      obtain ⟨au, hau, hauH⟩ := (rU.same sx).at hU
      have s0x := s03.trans sx
      have htlx := s0x _ _ htl
      have hpx := sx _ _ hp
      have hgTx := sx _ _ hgT
      have hgUx := sx _ _ hgU
      obtain ⟨ta, hta, hlt⟩ := (hTl.mono (Same.tups s0x)).get (i := i) (x := ltV ls[i]) (by rw [List.getElem?_map, List.getElem?_eq_getElem hi']; rfl)
      obtain ⟨l1, l2⟩ := hls ls[i] (List.getElem_mem hi')
      refine ⟨rfl, ?_⟩
      walk_at "rd"
      refine ⟨_, _, _, _, rfl, rfl, SqL.of htlx, (show atI (as.map V.ref) (0 + (i : Int)) = _ from by rw [Int.zero_add]; exact atI_nat (by rw [List.getElem?_map, hta]; rfl)), ?_⟩
      walk_at "rd"
      refine ⟨_, _, _, _, rfl, rfl, SqL.of hgTx, (show atI (ats.map V.ref) (0 + (i : Int)) = _ from by rw [Int.zero_add]; exact atI_nat (by rw [List.getElem?_map, hat]; rfl)), ?_⟩
      walk_at "rd"
      refine ⟨_, _, _, _, rfl, rfl, SqL.of hgUx, (show atI (aus.map V.ref) (0 + (i : Int)) = _ from by rw [Int.zero_add]; exact atI_nat (by rw [List.getElem?_map, hau]; rfl)), ?_⟩
      walk_at "rd"
      refine ⟨b, ta, tr, at_, au, tp, tc, rs, ms, ls[i], R, tr_, tu_, W, False, kind, tokens, rfl, hB.mono (Same.tups s0x), wf, h12, l1, hlt, s0x _ _ htr, hk, hatH, hauH, ro, fun H4 s4 => ?_⟩
      have hC4 := s4 _ _ hCx
      refine ⟨_, hC4, by rw [List.length_map, List.length_replicate]; exact Nat.lt_of_le_of_lt (show i ≤ 40 by omega) (by decide), (sx.trans s4).mut hC, ?_⟩
      rw [upd_same, List.replicate_succ', List.map_append]
      rfl
    · rintro H4 ⟨s4, hC4⟩
      walk_at "rd"
      refine ⟨_, _, rfl, SqL.of hC4, ?_⟩
      rw [all_true]
      exact q _ (s03.trans s4)
theorem ok_lcome (F : Fun K "_law_come" "_law_come" st_l_come f fd) (B : Bt mg) (c_run : Cl P w K mg base "run" 4 ["book", "letters", "rule"] (sp_run (RuleAt Ca Ch Cn)) fr fdr) (c_AllMet : MkC0 K mg "AllMet" Ca) :
    FnOk P w K mg base CX0 5 f fd ["_law_book_here", "_law_letters_here"] sp_lcome := by
  refine F.ok sc_l_come (fun vs H Q E h => ?_) (fun cdv A outer s H vs Q E hr h => ?_)
  · obtain ⟨b, tl, rs, ms, ls, rfl, _⟩ := h
    rfl
  · obtain ⟨b, tl, rs, ms, ls, rfl, hB, wf, h12, hw, ⟨as, htl, hTl⟩, l40, hls, q⟩ := h
    have hlen := hTl.length
    rw [List.length_map] at hlen
    refine ⟨_, 
      (pss_cons (pset 2 sc_l_come.nd (pe_ix (ix_tupK K (by rfl)) (pe_cl c_run (hr.mono (by decide)) rfl (pa_cons (pv 0) (pa_cons (pe_callTy (list_K K (by rfl)) (by rfl) B.list bo_list (pa_cons (pv 1) pa_nil)) (pa_cons (pe_makeO c_AllMet.makes (by rfl) c_AllMet.mg) pa_nil)))) (pe_int) (fun _ _ => rfl))) 
      (pss_cons (pset 3 sc_l_come.nd (pe_lst pa_nil)) 
      (pss_cons (ps_for PassesOwn.never rfl (pi_range1 (by rfl) B.range (pa_cons (pe_callB (len_K K (by rfl)) (by rfl) B.len bo_len (pa_cons (pv 1) pa_nil)) pa_nil)) (pnm 4 sc_l_come.nd) 
        (pss_cons (pset 5 sc_l_come.nd (pe_ix (ix_listK K (by rfl)) (pe_ix (ix_listK K (by rfl)) (pv 2) (pv 4) (fun _ _ => rfl)) (pe_ix (ix_tupK K (by rfl)) (pe_ix (ix_listK K (by rfl)) (pv 1) (pv 4) (fun _ _ => rfl)) (pe_int) (fun _ _ => rfl)) (fun _ _ => rfl))) 
        (pss_one (ps_if (PW.pt (pw_and (pt_cmpR op_notN (pv 5) (pe_non) (nomark _)) (pw_and1 (pt_cmpR op_le (pv 5) (pe_ix (ix_tupK K (by rfl)) (pe_ix (ix_listK K (by rfl)) (pv 1) (pv 4) (fun _ _ => rfl)) (pe_int) (fun _ _ => rfl)) (nomark _))))) 
          (pss_one (ps_expr (pe_bm PySem.F.plainAttrs_list PySem.F.slot_list_append PySem.F.type_list_append mt_append (pv 3) (pa_cons (pv 4) pa_nil)))) pss_nil)))) 
      (pss_one (ps_ret (pv 3)))))), ?_⟩
    walk_at "rd"
    intro l hl
    have s1 : Same H (upd H l (.lst (as.map V.ref))) := Same.new1 hl
    have hl1 : upd H l (.lst (as.map V.ref)) l = some (.lst (as.map V.ref)) := upd_same
    generalize upd H l (.lst (as.map V.ref)) = H1 at s1 hl1
    walk_at "rd"
    intro x dx hx hdx hne
    have s2 : Same H1 (upd (upd H1 dx (.own x)) x (.ins Ca dx [])) := (Same.new1 hdx).mut hx
    have hx2 : upd (upd H1 dx (.own x)) x (.ins Ca dx []) x = some (.ins Ca dx []) := upd_same
    generalize upd (upd H1 dx (.own x)) x (.ins Ca dx []) = H2 at s2 hx2
    have s12 := s1.trans s2
    walk_at "rd"
    refine ⟨b, l, x, rs, ls, ms, .all, True, rfl, hB.mono (Same.tups s12), wf, h12, ⟨as, s2 _ _ hl1, hTl.mono (Same.tups s12)⟩, l40, hls, .inl ⟨rfl, dx, hx2⟩, hw.ex l40, fun p D gT gU ats aus T U H3 W s3 hp hgT hgU rT rU gr => ?_⟩
    have s03 := s12.trans s3
    have htl3 := s03 _ _ htl
    walk_at "rd"
    intro N hN
    have hN3 : Same H3 (upd H3 N (.lst [])) := Same.new1 hN
    have hNN : upd H3 N (.lst []) N = some (.lst []) := upd_same
    generalize upd H3 N (.lst []) = H4 at hN3 hNN
    have s04 := s03.trans hN3
    walk_at "rd"
    refine ⟨_, _, rfl, .inl (SqL.of (s04 _ _ htl)), ?_⟩
    rw [List.length_map, hlen]
    walk_at "rd"
    refine for_range (lo := 0) (n := (ls.length : Int).toNat) (fun i σ Hx => ∃ (v4 v5 : Option V), Same H Hx ∧ Same H3 Hx ∧ Hx N = some (.lst (((List.range i).filter fun k => (ls[k]?).any (comes rs.length ms)).map fun k => V.int (k : Nat))) ∧
      σ = [some (.ref b), some (.ref tl), some (.ref gT), some (.ref N), v4, v5]) ⟨_, _, s04, hN3, hNN, rfl⟩ ?_ ?_
    · rintro i σ Hx hi ⟨v4, v5, sx, s3x, hNx, rfl⟩
      have hi' : i < ls.length := hi
      have hl := List.getElem?_eq_getElem hi'
      obtain ⟨tr_, tu_, hT, hU, ro⟩ := gr.at hl
      obtain ⟨at_, hat, hatH⟩ := (rT.same s3x).at hT
      have hgTx := s3x _ _ hgT
      have htlx := sx _ _ htl
      obtain ⟨ta, hta, hlt⟩ := (hTl.mono (Same.tups sx)).get (i := i) (x := ltV ls[i]) (by rw [List.getElem?_map, hl]; rfl)
      obtain ⟨l1, l2⟩ := hls ls[i] (List.getElem_mem hi')
      have eR : ((List.range (i + 1)).filter fun k => (ls[k]?).any (comes rs.length ms)) = ((List.range i).filter fun k => (ls[k]?).any (comes rs.length ms)) ++ (if comes rs.length ms ls[i] = true then [i] else []) := by
        rw [filter_range, hl]
        rfl
      have hl40 := len_filter_range (fun k => (ls[k]?).any (comes rs.length ms)) i
      rw [eR]
      generalize ((List.range i).filter fun k => (ls[k]?).any (comes rs.length ms)) = acc at hNx hl40
      have esame := ro.same trivial
      have r0 : atI (rowV tr_) ((ls[i].d : Nat) : Int) = some (opV (ga (times rs.length ms ls[i].s ls[i].t) ls[i].d)) := by rw [← esame]; exact row_at (by rw [ro.lT]; exact l2)
      have rl : atI (as.map V.ref) (0 + (i : Int)) = some (.ref ta) := by rw [Int.zero_add]; exact atI_nat (by rw [List.getElem?_map, hta]; rfl)
      walk_at "rd"
      refine ⟨_, _, _, _, rfl, rfl, SqL.of hgTx, (show atI (ats.map V.ref) (0 + (i : Int)) = _ from by rw [Int.zero_add]; exact atI_nat (by rw [List.getElem?_map, hat]; rfl)), ?_⟩
      walk_at "rd"
      refine ⟨_, _, _, _, rfl, rfl, SqL.of htlx, rl, ?_⟩
      walk_at "rd"
      refine ⟨_, _, _, _, rfl, rfl, SqL.of hatH, r0, ?_⟩
      cases e : ga (times rs.length ms ls[i].s ls[i].t) ls[i].d with
      | none =>
        have c : comes rs.length ms ls[i] = false := by unfold comes comesR; rw [e]
        walk_at "rd"
        rw [c]
        exact ⟨_, _, sx, s3x, by simpa using hNx, rfl⟩
      | some u =>
        walk_at "rd"
        refine ⟨_, _, _, _, rfl, rfl, SqL.of htlx, rl, ?_⟩
        walk_at "rd"
        refine ite2 (fun h => ?_) (fun h => ?_)
        · have h' := of_decide_eq_true h
          have c : comes rs.length ms ls[i] = true := by unfold comes comesR; rw [e]; exact decide_eq_true h'
          walk_at "rd"
          refine ⟨.inl ⟨rfl, _, SqL.of hNx⟩, ?_⟩
          walk_at "rd"
          refine ⟨_, _, _, rfl, rfl, hNx, by rw [List.length_map]; exact Nat.lt_of_le_of_lt (show acc.length ≤ 40 by omega) (by decide), ?_⟩
          refine ⟨_, _, sx.mut (Same.free s03 hN), s3x.mut hN, ?_, rfl⟩
          rw [c, upd_same]
          simp
        · have h' : ¬ u ≤ ls[i].e := fun z => h (decide_eq_true z)
          have c : comes rs.length ms ls[i] = false := by unfold comes comesR; rw [e]; exact decide_eq_false h'
          walk_at "rd"
          rw [c]
          exact ⟨_, _, sx, s3x, by simpa using hNx, rfl⟩
    · rintro σ Hx ⟨v4, v5, sx, s3x, hNx, rfl⟩
      walk_at "rd"
      exact q N Hx sx hNx
end
end Sm
set_option Elab.async false
set_option linter.all false
set_option maxRecDepth 100000
set_option maxHeartbeats 4000000
set_option pp.maxSteps 600
namespace L2
open PySem PySem.Spec PyProof.Rows
def rCatU : R2 := fun x y H Q => ∃ a b xs ys, x = .ref a ∧ y = .ref b ∧ H a = some (.tup xs) ∧ H b = some (.tup ys) ∧ xs.length + ys.length ≤ sizeLine ∧ ∀ p H', Same H H' → H' p = some (.tup (xs ++ ys)) → Q (.ref p) H'
theorem op_catU {X : Cx} : OpR X (binaryOp .Add) rCatU := by
  intro pins s σ H x y v u Q I rx ry h
  obtain ⟨a, b, xs, ys, rfl, rfl, ha, hb, hz, q⟩ := h
  refine op_catA pins s σ H _ _ v u Q I rx ry ⟨a, b, xs, ys, rfl, rfl, SqT.of ha, SqT.of hb, hz, fun e => ?_, fun _ e => ?_, fun _ _ p hp => ?_⟩
  · subst e
    exact q b H (Same.refl H) hb
  · subst e
    exact q a H (Same.refl H) (by rw [List.append_nil]; exact ha)
  · exact q p _ (Same.new1 hp) upd_same
end L2
namespace Sm
open PySem L2
open C8 (tCut pss_cut)
local macro_rules | `(tactic| walk_at "rdc") => `(tactic| first
  | with_reducible assumption
  | exact (show flatV _ = true from rfl)
  | exact flat_ints _
  | exact Or.inr ⟨by decide, by decide⟩
  | exact Or.inl ⟨by decide, by decide⟩
  | exact Or.inl (mod_in _)
  | exact Or.inl ⟨by (try dsimp only); omega, by (try dsimp only); omega⟩
  | exact Or.inr ⟨by (try dsimp only); omega, by (try dsimp only); omega⟩
  | exact ⟨by decide, by decide, by decide⟩
  | exact ⟨by decide, by decide⟩
  | exact ⟨by omega, by omega⟩
  | decide
  | omega
  | (show (0 : Int) < _; decide)
  | exact Nat.le_of_ble_eq_true rfl)
local macro_rules | `(tactic| walk_at "rd1") => `(tactic| first
  | (refine ⟨_, rfl, ?_⟩)
  | (refine ⟨_, _, rfl, rfl, ?_⟩)
  | (refine And.intro (by walk_at "rdc") ?_)
  | (refine ⟨_, _, rfl, (by first | exact Or.inl (by assumption) | exact Or.inl (SqL.of (by assumption)) | exact Or.inr (SqT.of (by assumption))), ?_⟩)
  | (refine ⟨_, _, _, _, rfl, rfl, (by first | exact SqL.of (by assumption) | exact SqT.of (by assumption) | exact SqL.of upd_same | assumption), (by rfl), ?_⟩)
  | (refine ⟨_, _, _, _, rfl, rfl, (by first | assumption | exact upd_same), (by rfl), ?_⟩)
  | (refine ⟨rfl, _, rfl, ?_⟩))
local macro_rules | `(tactic| walk_at "rd") => `(tactic| repeat (walk_at "rd1"))
theorem cut_take (xs : List V) {k : Nat} (h : k ≤ xs.length) : cutV xs none (some (k : Int)) = xs.take k := by
  unfold cutV
  rw [HT.sIx_none, HT.sIx_nat, List.drop_zero, Nat.sub_zero, Nat.min_eq_left h]
theorem cut_drop (xs : List V) {k : Nat} (h : k ≤ xs.length) : cutV xs (some (k : Int)) none = xs.drop k := by
  unfold cutV
  rw [HT.sIx_none, HT.sIx_nat, Nat.min_eq_left h, ← List.length_drop, List.take_length]
def natI (B : List Nat) : List Int := B.map fun k : Nat => (k : Int)
theorem natI_V (B : List Nat) : (B.map fun k => V.int (k : Nat)) = (natI B).map V.int := by
  unfold natI
  rw [List.map_map]
  rfl
theorem in_natI (B : List Nat) (k : Nat) : inV (.int (k : Int)) ((natI B).map V.int) = B.contains k := by
  rw [inV_ints, Bool.eq_iff_iff, decide_eq_true_eq, List.contains_iff_mem]
  unfold natI
  rw [List.mem_map]
  exact ⟨fun ⟨j, hj, e⟩ => by rw [← Int.ofNat.inj e]; exact hj, fun h => ⟨k, h, rfl⟩⟩
theorem filter_take {α : Type} (p : α → Bool) {xs : List α} {i : Nat} {x : α} (h : xs[i]? = some x) : (xs.take (i + 1)).filter p = (xs.take i).filter p ++ if p x = true then [x] else [] := by
  rw [List.take_succ, h, List.filter_append]
  cases e : p x with
  | true => simp [e]
  | false => simp [e]
def sp_lmissed : Sp := fun vs H Q _ => ∃ (b tl : Addr) (rs : List Int) (ms : List Mt) (ls : List Lt) (at_ : Nat), vs = [.ref b, .ref tl, .int at_] ∧ BookAt H b rs ms ∧ WFm rs.length ms ∧ 1 ≤ rs.length ∧ rs.length ≤ 12 ∧ Wide rs ms ∧ LsAt H tl ls ∧ ls.length ≤ 40 ∧ (∀ l ∈ ls, l.s < rs.length ∧ l.d < rs.length) ∧
  at_ < ms.length ∧ ∀ H', Same H H' → Q (.bl true) H'
section
variable {P : Program} {w : World} {K : PySem.W.Frag} {mg : Str → Option Value} {base : Heap} {f fw fi fm fr fb fp ft fg Ca Ch Cn : Addr} {fd fdw fdi fdm fdr fdb fdp fdt fdg : FuncData}
theorem ok_lmissed (F : Fun K "_law_missed_right" "_law_missed_right" st_l_missed_right f fd) (B : Bt mg) (c_l_come : Cl P w K mg base "_law_come" 5 ["_law_book_here", "_law_letters_here"] sp_lcome fi fdi) (c_lost : Cl P w K mg base "lost" 6 ["book", "letters", "meeting"] sp_lost fm fdm) (c_l_numbers_are : Cl P w K mg base "_law_numbers_are" 2 ["_law_found", "_law_due"] sp_numbers fb fdb) :
    FnOk P w K mg base CX0 7 f fd ["_law_book_here", "_law_letters_here", "_law_at"] sp_lmissed := by
  refine F.ok sc_l_missed_right (fun vs H Q E h => ?_) (fun cdv A outer s H vs Q E hr h => ?_)
  · obtain ⟨b, tl, rs, ms, ls, at_, rfl, _⟩ := h
    rfl
  · obtain ⟨b, tl, rs, ms, ls, at_, rfl, hB, wf, h1, h12, hw, hLs, l40, hls, hat, q⟩ := h
    obtain ⟨pr, pm, hb, hpr, as, hpm, hT⟩ := id hB
    have hlen := hT.length
    rw [List.length_map] at hlen
    refine ⟨_, 
      (pss_cons (pset 3 sc_l_missed_right.nd (pe_tup (pa_cons (pe_ix (ix_tupK K (by rfl)) (pv 0) (pe_int) (fun _ _ => rfl)) (pa_cons (pe_op op_catU (pe_slice (slA_K K (by rfl)) (pe_ix (ix_tupK K (by rfl)) (pv 0) (pe_int) (fun _ _ => rfl)) po_none (po_some (pv 2))) (pe_slice (slA_K K (by rfl)) (pe_ix (ix_tupK K (by rfl)) (pv 0) (pe_int) (fun _ _ => rfl)) (po_some (pe_op op_add (pv 2) (pe_int))) po_none)) pa_nil)))) 
      (pss_cons (pset 4 sc_l_missed_right.nd (pe_cl c_l_come (hr.mono (by decide)) rfl (pa_cons (pv 3) (pa_cons (pv 1) pa_nil)))) 
      (pss_cons (ps_setLc (i := 6) (own := [("_law_k", 5)]) (g := (gName 5)) (by rfl) sc_l_missed_right.nd rfl rfl (sw_true rfl rfl rfl (by decide +kernel)) (pl_K K (by rfl) (pe_cl c_l_come (hr.mono (by decide)) rfl (pa_cons (pv 0) (pa_cons (pv 1) pa_nil)))) (blkOk_by (N := N_l_missed_right) (sc := defScope st_l_missed_right) (by decide +kernel)) (fun _ _ _ _ _ => (pnm 5 sc_l_missed_right.nd)) (fun _ _ _ _ _ => pts_one (pt_cmpR (notIn_K K (by rfl)) (pv 5) (pv 4) rfl)) (fun _ _ _ _ _ => (pv 5))) 
      (pss_one (ps_ret (pe_cl c_l_numbers_are (hr.mono (by decide)) rfl (pa_cons (pe_cl c_lost (hr.mono (by decide)) rfl (pa_cons (pv 0) (pa_cons (pe_callTy (list_K K (by rfl)) (by rfl) B.list bo_list (pa_cons (pv 1) pa_nil)) (pa_cons (pv 2) pa_nil)))) (pa_cons (pv 6) pa_nil)))))))), ?_⟩
    walk_at "rd"
    have hal : (as.map V.ref).length = ms.length := by rw [List.length_map, hlen]
    refine ⟨_, _, rfl, SqT.of hpm, fun hc => ?_, fun _ p1 hp1 => ?_⟩
    · exfalso
      have h2 := hc.2
      rw [HT.sIx_nat, hal] at h2
      omega
    rw [cut_take _ (by omega)]
    have s1 : Same H (upd H p1 (.tup ((as.map V.ref).take at_))) := Same.new1 hp1
    have hp11 : upd H p1 (.tup ((as.map V.ref).take at_)) p1 = some (.tup ((as.map V.ref).take at_)) := upd_same
    generalize upd H p1 (.tup ((as.map V.ref).take at_)) = H1 at s1 hp11
    have hb1 := s1 _ _ hb
    have hpm1 := s1 _ _ hpm
    walk_at "rd"
    have ec : cutV (as.map V.ref) (some ((at_ : Int) + 1)) none = (as.map V.ref).drop (at_ + 1) := cut_drop _ (k := at_ + 1) (by omega)
    refine ⟨_, _, rfl, SqT.of hpm1, fun hc => ?_, fun _ p2 hp2 => ?_⟩
    · exfalso
      have h2 : HT.sIx (as.map V.ref).length 0 (some (((at_ + 1 : Nat)) : Int)) = 0 := hc.1
      rw [HT.sIx_nat, hal] at h2
      omega
    have s2 : Same H1 (upd H1 p2 (.tup (cutV (as.map V.ref) (some ((fun i j : Int => i + j) (at_ : Int) 1)) none))) := Same.new1 hp2
    have hp22 : upd H1 p2 (.tup (cutV (as.map V.ref) (some ((fun i j : Int => i + j) (at_ : Int) 1)) none)) p2 = some (.tup ((as.map V.ref).drop (at_ + 1))) := by rw [upd_same]; exact congrArg (fun z => some (HO.tup z)) ec
    generalize upd H1 p2 (.tup (cutV (as.map V.ref) (some ((fun i j : Int => i + j) (at_ : Int) 1)) none)) = H2 at s2 hp22
    refine ⟨p1, p2, _, _, rfl, rfl, s2 _ _ hp11, hp22, ?_, fun pm' H3 s3 hpm' => ?_⟩
    · have l1 := List.length_take_le at_ (as.map V.ref)
      rw [List.length_drop]
      have := wf.len
      exact Nat.le_trans (show _ ≤ 120 by omega) (by decide)
    rw [← List.map_take, ← List.map_drop, ← List.map_append] at hpm'
    have s03 := (s1.trans s2).trans s3
    walk_at "rd"
    intro bl hbl
    have s4 := Same.new1 (o := .tup [.ref pr, .ref pm']) hbl
    have s04 := s03.trans s4
    have hT4 := hT.mono (Same.tups s04)
    have hB4 : BookAt (upd H3 bl (.tup [.ref pr, .ref pm'])) bl rs (ms.eraseIdx at_) := by
      refine ⟨pr, pm', upd_same, s04 _ _ hpr, as.take at_ ++ as.drop (at_ + 1), s4 _ _ hpm', ?_⟩
      rw [List.eraseIdx_eq_take_drop_succ, List.map_append, List.map_take, List.map_drop]
      exact TupsAt.app (hT4.drop _) (hT4.take _)
    generalize upd H3 bl (.tup [.ref pr, .ref pm']) = H4 at s4 s04 hT4 hB4
    have ms' := List.eraseIdx_sublist ms at_
    obtain ⟨als, htl, hTl⟩ := id hLs
    have hLm : ∀ {H'}, Same H H' → LsAt H' tl ls := fun s => ⟨als, s _ _ htl, hTl.mono (Same.tups s)⟩
    walk_at "rd"
    refine ⟨bl, tl, rs, _, ls, rfl, hB4, wf.sub ms', h12, hw.sub ms', hLm s04, l40, hls, fun pl H5 s5 hpl => ?_⟩
    have s05 := s04.trans s5
    walk_at "rd"
    refine ⟨b, tl, rs, _, ls, rfl, hB.mono (Same.tups s05), wf, h12, hw, hLm s05, l40, hls, fun pc H6 s6 hpc => ?_⟩
    have s06 := s05.trans s6
    have hpl6 := s6 _ _ hpl
    walk_at "rd"
    refine ⟨⟨_, SqL.of hpc⟩, fun D hD => ?_⟩
    rw [natI_V] at hpl6 hpc
    have hlA : (comeL rs.length ms ls).length ≤ 40 := by
      have := List.length_filter_le (fun k => (ls[k]?).any (comes rs.length ms)) (List.range ls.length)
      rw [List.length_range] at this
      exact Nat.le_trans this l40
    have eD : lostL rs.length ms (ms.eraseIdx at_) ls = (comeL rs.length ms ls).filter (fun k => !(comeL rs.length (ms.eraseIdx at_) ls).contains k) := (lost_eq _ _ _ _).symm
    have hlD : (lostL rs.length ms (ms.eraseIdx at_) ls).length ≤ 40 := by
      rw [eD]
      exact Nat.le_trans (List.length_filter_le _ _) hlA
    generalize comeL rs.length (ms.eraseIdx at_) ls = Bs at hpl6 eD
    generalize comeL rs.length ms ls = As at hpc hlA eD
    refine lc_list (K := K) (a := pc) (xs := (natI As).map V.int) (fun i Hx => Same H6 Hx ∧ Hx D = some (.lst ((natI ((As.take i).filter fun k => !Bs.contains k)).map V.int))) ⟨Same.new1 hD, upd_same⟩ (fun i Hx _ h => SqL.of (h.1 _ _ hpc)) ?_ ?_
    · rintro i x Hx hi ⟨sx, hDx⟩
      have hi2 : ∃ k : Nat, As[i]? = some k ∧ x = V.int (k : Int) := by
        rw [← natI_V, List.getElem?_map] at hi
        obtain ⟨k, hk, rfl⟩ := Option.map_eq_some_iff.mp hi
        exact ⟨k, hk, rfl⟩
      obtain ⟨k, hk, rfl⟩ := hi2
      have hil := (List.getElem?_eq_some_iff.mp hk).1
      have hplx := sx _ _ hpl6
      have hacc : (natI ((As.take i).filter fun k => !Bs.contains k)).length ≤ 40 := by
        unfold natI
        rw [List.length_map]
        have h1 := List.length_filter_le (fun k => !Bs.contains k) (As.take i)
        rw [List.length_take] at h1
        omega
      rw [filter_take _ hk]
      refine ⟨rfl, ?_⟩
      walk_at "rd"
      rw [in_natI]
      cases e : Bs.contains k with
      | true =>
        walk_at "rd"
        simpa using hDx
      | false =>
        walk_at "rd"
        refine ⟨_, hDx, by rw [List.length_map]; exact Nat.lt_of_le_of_lt hacc (by decide), sx.mut hD, ?_⟩
        rw [upd_same]
        unfold natI
        simp
    · rintro H7 ⟨s7, hD7⟩
      have el : ((natI As).map V.int).length = As.length := by unfold natI; rw [List.length_map, List.length_map]
      rw [el, List.take_length, ← eD] at hD7
      have s07 := s06.trans s7
      have htl7 := s07 _ _ htl
      walk_at "rd"
      intro l hl
      have s8 := Same.new1 (o := .lst (als.map V.ref)) hl
      have hl8 : upd H7 l (.lst (als.map V.ref)) l = some (.lst (als.map V.ref)) := upd_same
      generalize upd H7 l (.lst (als.map V.ref)) = H8 at s8 hl8
      have s08 := s07.trans s8
      walk_at "rd"
      refine ⟨b, l, rs, ms, ls, at_, rfl, hB.mono (Same.tups s08), wf, h1, h12, fun r hr' => by rw [hw.1 r hr']; decide, ⟨als, hl8, hTl.mono (Same.tups s08)⟩, l40, hls, hat, fun pz H9 s9 hpz => ?_⟩
      rw [natI_V] at hpz
      walk_at "rd"
      exact ⟨pz, D, _, rfl, hpz, s9 _ _ (s8 _ _ hD7), by unfold natI; rw [List.length_map]; exact hlD, fun H10 s10 => q _ ((s08.trans s9).trans s10)⟩
end
end Sm
set_option Elab.async false
set_option linter.all false
set_option maxRecDepth 100000
set_option maxHeartbeats 4000000
set_option pp.maxSteps 600
namespace L2
open PySem PySem.Spec PyProof.Rows
def rRepU : R2 := fun x y H Q => ∃ l k xs, x = .ref l ∧ y = .int k ∧ H l = some (.tup xs) ∧ xs ≠ [] ∧ 1 ≤ k ∧ k ≤ 1000 ∧ xs.length ≤ 1000 ∧ ∀ p H', Same H H' → H' p = some (.tup (List.replicate k.toNat xs).flatten) → Q (.ref p) H'
theorem op_repU {X : Cx} : OpR X (binaryOp .Mult) rRepU := by
  intro pins s σ H x y v u Q I rx ry h
  obtain ⟨l, k, xs, rfl, rfl, hl, hne, k1, k2, hz, q⟩ := h
  refine op_repT1 pins s σ H _ _ v u Q I rx ry ⟨l, k, xs, rfl, rfl, SqT.of hl, hne, k1, k2, hz, fun e => ?_, fun _ p hp => ?_⟩
  · subst e
    refine q l H (Same.refl H) ?_
    rw [hl]
    show some (HO.tup xs) = some (HO.tup ([xs].flatten))
    rw [List.flatten_cons, List.flatten_nil, List.append_nil]
  · exact q p _ (Same.new1 hp) upd_same
end L2
namespace Sm
open PySem L2
open C8 (tCut pss_cut)
local macro_rules | `(tactic| walk_at "rdc") => `(tactic| first
  | with_reducible assumption
  | exact (show flatV _ = true from rfl)
  | exact flat_ints _
  | exact Or.inr ⟨by decide, by decide⟩
  | exact Or.inl ⟨by decide, by decide⟩
  | exact Or.inl (mod_in _)
  | exact Or.inl ⟨by (try dsimp only); omega, by (try dsimp only); omega⟩
  | exact Or.inr ⟨by (try dsimp only); omega, by (try dsimp only); omega⟩
  | exact ⟨by decide, by decide, by decide⟩
  | exact ⟨by decide, by decide⟩
  | exact ⟨by omega, by omega⟩
  | decide
  | omega
  | (show (0 : Int) < _; decide)
  | exact Nat.le_of_ble_eq_true rfl)
local macro_rules | `(tactic| walk_at "rd1") => `(tactic| first
  | (refine ⟨_, rfl, ?_⟩)
  | (refine ⟨_, _, rfl, rfl, ?_⟩)
  | (refine And.intro (by walk_at "rdc") ?_)
  | (refine ⟨_, _, rfl, (by first | exact Or.inl (by assumption) | exact Or.inl (SqL.of (by assumption)) | exact Or.inr (SqT.of (by assumption))), ?_⟩)
  | (refine ⟨_, _, _, _, rfl, rfl, (by first | exact SqL.of (by assumption) | exact SqT.of (by assumption) | exact SqL.of upd_same | assumption), (by rfl), ?_⟩)
  | (refine ⟨_, _, _, _, rfl, rfl, (by first | assumption | exact upd_same), (by rfl), ?_⟩)
  | (refine ⟨rfl, _, rfl, ?_⟩))
local macro_rules | `(tactic| walk_at "rd") => `(tactic| repeat (walk_at "rd1"))
theorem rg3 {j : Int} (h1 : 1 ≤ j) (h6 : j ≤ 6) : ∃ n, RgC 0 j 3 n := by
  have c : j = 1 ∨ j = 2 ∨ j = 3 ∨ j = 4 ∨ j = 5 ∨ j = 6 := by omega
  rcases c with rfl | rfl | rfl | rfl | rfl | rfl <;> exact ⟨_, by decide, by decide, by decide, rfl⟩
theorem SamB.same {p : Addr} {H A B : Hp} (s : SamB p A B) (h : Same H A) (hp : H p = none) : Same H B := fun b o e => s.keep b o (ne_of_none e hp) (h b o e)
theorem SamB.of {p : Addr} {A B : Hp} (s : Same A B) (h : Purse A p) : SamB p A B := by
  obtain ⟨x, y, z, e⟩ := id h
  exact ⟨h, ⟨x, y, z, s _ _ e⟩, fun b o _ q => s b o q⟩
theorem wide_rs (n : Nat) : (List.replicate n [V.int 99]).flatten = (List.replicate n (99 : Int)).map V.int := by rw [rep_flat, List.map_replicate]
def sp_law (K : PySem.W.Frag) : Sp := fun vs H Q _ => ∃ (a : Addr) (ns : List Int), vs = [.ref a] ∧ SqL K H a (ns.map V.int) ∧ ns.length ≤ 63 ∧ ∀ H', Q (.bl true) H'
section
variable {P : Program} {w : World} {K : PySem.W.Frag} {mg : Str → Option Value} {base : Heap} {f f1 f2 f3 f4 f5 f6 f7 f8 : Addr} {fd fd1 fd2 fd3 fd4 fd5 fd6 fd7 fd8 : FuncData}
theorem ok_law (F : Fun K "law" "law" st_law f fd) (B : Bt mg) (c_l_purse : Cl P w K mg base "_law_purse" 1 ["_law_script", "_law_k"] (sp_purse K) f1 fd1) (c_l_book : Cl P w K mg base "_law_book" 4 ["_law_purse_here", "_law_most_walkers", "_law_most_meetings"] sp_book f2 fd2)
    (c_l_letters : Cl P w K mg base "_law_letters" 5 ["_law_purse_here", "_law_book_here"] sp_letters f3 fd3) (c_l_rule : Cl P w K mg base "_law_rule" 5 ["_law_purse_here", "_law_walkers"] sp_lrule f4 fd4) (c_l_run_right : Cl P w K mg base "_law_run_right" 6 ["_law_book_here", "_law_letters_here", "_law_rule_here"] sp_lright f5 fd5)
    (c_l_missed_right : Cl P w K mg base "_law_missed_right" 7 ["_law_book_here", "_law_letters_here", "_law_at"] sp_lmissed f6 fd6) (c_l_take : Cl P w K mg base "_law_take" 1 ["_law_purse_here", "_law_many"] sp_take f7 fd7) : FnOk P w K mg base CX0 8 f fd ["_law_script_here"] (sp_law K) := by
  refine F.ok sc_law (fun vs H Q E h => ?_) (fun cdv A outer s H vs Q E hr h => ?_)
  · obtain ⟨a, ns, rfl, _⟩ := h
    rfl
  · obtain ⟨a, ns, rfl, ha, hn, q⟩ := h
    refine ⟨_, 
      (pss_cons (ps_for PassesOwn.never rfl (pi_range3 (by rfl) B.range (pa_cons (pe_int) (pa_cons (pe_callB (call_max2 rfl) (by rfl) B.max bo_max (pa_cons (pe_int) (pa_cons (pe_callB (call_min2 rfl) (by rfl) B.min bo_min (pa_cons (pe_callB (len_K K (by rfl)) (by rfl) B.len bo_len (pa_cons (pv 0) pa_nil)) (pa_cons (pe_int) pa_nil))) pa_nil))) (pa_cons (pe_int) pa_nil)))) (pnm 1 sc_law.nd) 
        (pss_cons (pset 2 sc_law.nd (pe_cl c_l_book (hr.mono (by decide)) rfl (pa_cons (pe_cl c_l_purse (hr.mono (by decide)) rfl (pa_cons (pv 0) (pa_cons (pv 1) pa_nil))) (pa_cons (pe_int) (pa_cons (pe_int) pa_nil))))) 
        (pss_cons (pset 3 sc_law.nd (pe_cl c_l_letters (hr.mono (by decide)) rfl (pa_cons (pe_cl c_l_purse (hr.mono (by decide)) rfl (pa_cons (pv 0) (pa_cons (pe_op op_add (pv 1) (pe_int)) pa_nil))) (pa_cons (pv 2) pa_nil)))) 
        (pss_cons (pset 4 sc_law.nd (pe_cl c_l_purse (hr.mono (by decide)) rfl (pa_cons (pv 0) (pa_cons (pe_op op_add (pv 1) (pe_int)) pa_nil)))) 
        (pss_cons (pset 5 sc_law.nd (pe_cl c_l_rule (hr.mono (by decide)) rfl (pa_cons (pv 4) (pa_cons (pe_callB (len_K K (by rfl)) (by rfl) B.len bo_len (pa_cons (pe_ix (ix_tupK K (by rfl)) (pv 2) (pe_int) (fun _ _ => rfl)) pa_nil)) pa_nil)))) 
        (pss_cons (ps_if (pt_not (pt_val (pe_cl c_l_run_right (hr.mono (by decide)) rfl (pa_cons (pv 2) (pa_cons (pv 3) (pa_cons (pv 5) pa_nil)))))) 
          (pss_one (ps_ret (pe_bl))) pss_nil) 
        (pss_cons (pset 7 sc_law.nd (pe_tup (pa_cons (pe_op op_repU (pe_tup (pa_cons (pe_int) pa_nil)) (pe_callB (len_K K (by rfl)) (by rfl) B.len bo_len (pa_cons (pe_ix (ix_tupK K (by rfl)) (pv 2) (pe_int) (fun _ _ => rfl)) pa_nil))) (pa_cons (pe_callTy (tuple_K K (by rfl)) (by rfl) B.tuple bo_tuple (pa_cons (pe_lc (own := [("_law_one", 6)]) (g := (gName 6)) (tt := tYes) (by rfl) sc_law.nd (pt_K K (by rfl) (pe_ix (ix_tupK K (by rfl)) (pv 2) (pe_int) (fun _ _ => rfl))) (blkOk_by (N := N_law) (sc := defScope st_law) (by decide +kernel)) (fun _ _ _ _ _ => (pnm 6 sc_law.nd)) (fun _ _ _ _ _ => pts_nil) (fun _ _ _ _ _ => (pe_op op_catU (pe_slice (slA_K K (by rfl)) (pv 6) po_none (po_some (pe_int))) (pe_tup (pa_cons (pe_int) pa_nil))))) pa_nil)) pa_nil)))) 
        (pss_cons (pset 8 sc_law.nd (pe_op op_add (pe_int) (pe_op op_mul (pe_int) (pe_callTy call_int1 (by rfl) B.int bo_int (pa_cons (pe_cmpR op_lt (pe_callB (len_K K (by rfl)) (by rfl) B.len bo_len (pa_cons (pv 3) pa_nil)) (pe_int) (nomark _)) pa_nil))))) 
        (pss_one (ps_for PassesOwn.never rfl (pi_range1 (by rfl) B.range (pa_cons (pe_op op_mul (pv 8) (pe_callTy call_int1 (by rfl) B.int bo_int (pa_cons (pe_cmpR (neD_K K (by rfl) hr.units) (pe_ix (ix_tupK K (by rfl)) (pv 2) (pe_int) (fun _ _ => rfl)) (pe_tup pa_nil) (nomark _)) pa_nil))) pa_nil)) (pnm 9 sc_law.nd) 
          (pss_one (ps_if (pt_not (pt_val (pe_cl c_l_missed_right (hr.mono (by decide)) rfl (pa_cons (pv 7) (pa_cons (pv 3) (pa_cons (pe_cl c_l_take (hr.mono (by decide)) rfl (pa_cons (pv 4) (pa_cons (pe_callB (len_K K (by rfl)) (by rfl) B.len bo_len (pa_cons (pe_ix (ix_tupK K (by rfl)) (pv 2) (pe_int) (fun _ _ => rfl)) pa_nil)) pa_nil))) pa_nil)))))) 
            (pss_one (ps_ret (pe_bl))) pss_nil)))))))))))) 
      (pss_one (ps_ret (pe_bl)))), ?_⟩
    walk_at "rd"
    refine ⟨_, _, rfl, ?_⟩
    walk_at "rd"
    refine ⟨_, _, rfl, ?_⟩
    walk_at "rd"
    refine ⟨_, _, _, _, rfl, (rg3 (by split <;> (try split) <;> omega) (by split <;> (try split) <;> omega)).choose_spec, ?_⟩
    refine for_rangeC (lo := 0) (c := 3) (fun i σ Hx => ∃ (v1 v2 v3 v4 v5 v7 v8 v9 : Option V), Same H Hx ∧ σ = [some (.ref a), v1, v2, v3, v4, v5, none, v7, v8, v9]) ⟨_, _, _, _, _, _, _, _, Same.refl H, rfl⟩ ?_ ?_
    · rintro i σ Hx hi ⟨v1, v2, v3, v4, v5, v7, v8, v9, sx, rfl⟩
      have hax := Same.seq sx ha
      walk_at "rd"
      refine ⟨a, ns, _, rfl, by omega, hax, fun p1 x1 y1 z1 hp1 => ?_⟩
      have s1 := Same.new1 (o := .lst [.int x1, .int y1, .int z1]) hp1
      have w1 : Purse (upd Hx p1 (.lst [.int x1, .int y1, .int z1])) p1 := ⟨x1, y1, z1, upd_same⟩
      generalize upd Hx p1 (.lst [.int x1, .int y1, .int z1]) = H1 at s1 w1
      walk_at "rd"
      intro b rs ms H2 hB2 h1 h12 wf s2
      have t2 : Same Hx H2 := s2.same s1 hp1
      have ha2 := Same.seq (sx.trans t2) ha
      walk_at "rd"
      refine ⟨a, ns, _, rfl, by omega, ha2, fun p2 x2 y2 z2 hp2 => ?_⟩
      have s3 := Same.new1 (o := .lst [.int x2, .int y2, .int z2]) hp2
      have w3 : Purse (upd H2 p2 (.lst [.int x2, .int y2, .int z2])) p2 := ⟨x2, y2, z2, upd_same⟩
      generalize upd H2 p2 (.lst [.int x2, .int y2, .int z2]) = H3 at s3 w3
      have hB3 := hB2.mono (Same.tups s3)
      walk_at "rd"
      refine ⟨p2, b, rs, ms, rfl, h1, h12, wf.len, hB3, w3, fun tl ls H4 htl0 hLs4 l40 hls s4 => ?_⟩
      have t4 : Same H2 H4 := s4.same s3 hp2
      have ha4 := Same.seq ((sx.trans t2).trans t4) ha
      walk_at "rd"
      refine ⟨a, ns, _, rfl, by omega, ha4, fun p3 x3 y3 z3 hp3 => ?_⟩
      have s5 := Same.new1 (o := .lst [.int x3, .int y3, .int z3]) hp3
      have w5 : Purse (upd H4 p3 (.lst [.int x3, .int y3, .int z3])) p3 := ⟨x3, y3, z3, upd_same⟩
      generalize upd H4 p3 (.lst [.int x3, .int y3, .int z3]) = H5 at s5 w5
      have hB5 := (hB2.mono (Same.tups t4)).mono (Same.tups s5)
      obtain ⟨als, htl4, hTl4⟩ := id hLs4
      obtain ⟨pr, pm, hb5, hpr5, as, hpm5, hT5⟩ := id hB5
      walk_at "rd"
      refine ⟨p3, rs.length, (by rw [List.length_map]; rfl), h1, h12, w5, fun tr kind tokens tp tc rs' ms' H6 s6 htr0 htr k0 k3 to1 to64 hBp hrs' wf' => ?_⟩
      have t6 : Same H4 H6 := s6.same s5 hp3
      have hB6 := (hB2.mono (Same.tups t4)).mono (Same.tups t6)
      have hLs6 : LsAt H6 tl ls := ⟨als, t6 _ _ htl4, hTl4.mono (Same.tups t6)⟩
      walk_at "rd"
      refine ⟨b, tl, tr, tp, tc, rs, rs', ms, ms', ls, kind, tokens, rfl, hB6, wf, h1, h12, hLs6, l40, hls, htr, to1, to64, hBp, hrs', wf', fun H7 s7 => ?_⟩
      walk_at "rd"
      intro N hN
      have s8 := Same.new1 (o := .tup [.int 99]) hN
      have hN8 : upd H7 N (.tup [.int 99]) N = some (.tup [.int 99]) := upd_same
      generalize upd H7 N (.tup [.int 99]) = H8 at s8 hN8
      have t8 : Same H6 H8 := s7.trans s8
      obtain ⟨pr, pm, hb6, hpr6, as, hpm6, hT6⟩ := id hB6
      have hlen := hT6.length
      rw [List.length_map] at hlen
      have hb8 := t8 _ _ hb6
      have hpr8 := t8 _ _ hpr6
      walk_at "rd"
      refine ⟨_, _, _, rfl, rfl, hN8, (fun e => nomatch e), by (try dsimp only); rw [List.length_map]; omega, by (try dsimp only); rw [List.length_map]; omega, by decide, fun pw H9 s9 hpw => ?_⟩
      have e99 : ((((rs.map V.int).length : Nat) : Int)).toNat = rs.length := by rw [List.length_map]; rfl
      rw [e99, wide_rs] at hpw
      have t9 := t8.trans s9
      have hb9 := t9 _ _ hb6
      have hpm9 := t9 _ _ hpm6
      walk_at "rd"
      refine ⟨⟨_, SqT.of hpm9⟩, fun D hD => ?_⟩
      refine lc_it (walk_tup (K := K) (a := pm) (xs := as.map V.ref)) (fun j Hy => ∃ bs : List Addr, Same H9 Hy ∧ Hy D = some (.lst (bs.map V.ref)) ∧ TupsAt Hy bs ((widen (ms.take j)).map mtV)) ⟨[], Same.new1 hD, upd_same, trivial⟩ (fun j Hy _ h => ?_) ?_ ?_
      · obtain ⟨_, sy, _⟩ := h
        exact SqT.of (sy _ _ hpm9)
      · rintro j x Hy H' hj ⟨bs, sy, hDy, hTy⟩ ⟨rfl, hx⟩
        obtain ⟨t, ht, rfl⟩ : ∃ t, as[j]? = some t ∧ x = V.ref t := by
          have hx' : (as.map V.ref)[j]? = some x := hx
          rw [List.getElem?_map] at hx'
          obtain ⟨t, ht, rfl⟩ := Option.map_eq_some_iff.mp hx'
          exact ⟨t, ht, rfl⟩
        obtain ⟨u, hu, hHt⟩ := ((hT6.mono (Same.tups t9)).mono (Same.tups sy)).geta ht
        rw [List.getElem?_map] at hu
        obtain ⟨m, hm, rfl⟩ := Option.map_eq_some_iff.mp hu
        have hbl := hTy.length
        unfold widen at hbl
        rw [List.length_map, List.length_map, List.length_take] at hbl
        have h60 := wf.len
        refine ⟨rfl, ?_⟩
        walk_at "rd"
        refine ⟨_, _, rfl, SqT.of hHt, fun hc => absurd hc.2 (by show ¬ HT.sIx 4 4 (some 3) = 4; decide), fun _ q1 hq1 => ?_⟩
        have ec : cutV (mtV m) none (some 3) = [.int m.a, .int m.b, .int m.w] := rfl
        rw [ec]
        have sa := Same.new1 (o := .tup [.int m.a, .int m.b, .int m.w]) hq1
        have z1 : upd H' q1 (.tup [.int m.a, .int m.b, .int m.w]) q1 = some (.tup [.int m.a, .int m.b, .int m.w]) := upd_same
        generalize upd H' q1 (.tup [.int m.a, .int m.b, .int m.w]) = Ha at sa z1
        walk_at "rd"
        intro q2 hq2
        have sb := Same.new1 (o := .tup [.int 99]) hq2
        have z2 : upd Ha q2 (.tup [.int 99]) q2 = some (.tup [.int 99]) := upd_same
        generalize upd Ha q2 (.tup [.int 99]) = Hb at sb z2
        refine ⟨q1, q2, _, _, rfl, rfl, sb _ _ z1, z2, (by show 3 + 1 ≤ sizeLine; decide), fun p Hc sc hp => ?_⟩
        have sabc := (sa.trans sb).trans sc
        have hDc := sabc _ _ hDy
        refine ⟨_, hDc, by rw [List.length_map]; exact Nat.lt_of_le_of_lt (show bs.length ≤ 60 by omega) (by decide), bs ++ [p], (sy.trans sabc).mut hD, by rw [upd_same, List.map_append]; rfl, ?_⟩
        have ew : widen (ms.take (j + 1)) = widen (ms.take j) ++ [{ m with c := 99 }] := by
          unfold widen
          rw [List.take_succ, hm, List.map_append]
          rfl
        rw [ew, List.map_append]
        exact (TupsAt.snoc (x := mtV { m with c := 99 }) hp (hTy.mono (Same.tups sabc))).mono (Tups.lst hDc)
      · rintro Hy ⟨bs, sy, hDy, hTy⟩
        rw [List.length_map, hlen, List.take_length] at hTy
        walk_at "rd"
        refine ⟨_, _, rfl, .inl ⟨SqL.of hDy, fun pt hpt => ?_⟩⟩
        have sa := Same.new1 (o := .tup (bs.map V.ref)) hpt
        have z1 : upd Hy pt (.tup (bs.map V.ref)) pt = some (.tup (bs.map V.ref)) := upd_same
        generalize upd Hy pt (.tup (bs.map V.ref)) = Ha at sa z1
        walk_at "rd"
        intro bw hbw
        have sb := Same.new1 (o := .tup [.ref pw, .ref pt]) hbw
        have s9b := (sy.trans sa).trans sb
        have hlr : (List.replicate rs.length (99 : Int)).length = rs.length := List.length_replicate ..
        have hBw : BookAt (upd Ha bw (.tup [.ref pw, .ref pt])) bw (List.replicate rs.length 99) (widen ms) :=
          ⟨pw, pt, upd_same, s9b _ _ hpw, bs, sb _ _ z1, (hTy.mono (Same.tups sa)).mono (Same.tups sb)⟩
        have tw := t9.trans s9b
        generalize upd Ha bw (.tup [.ref pw, .ref pt]) = Hw at sb s9b hBw tw
        have hBx := hB6.mono (Same.tups tw)
        have hLw : LsAt Hw tl ls := ⟨als, tw _ _ (t6 _ _ htl4), (hTl4.mono (Same.tups t6)).mono (Same.tups tw)⟩
        have htlw := tw _ _ (t6 _ _ htl4)
        have hbw' := tw _ _ hb6
        have hpmw := tw _ _ hpm6
        walk_at "rd"
        refine .inr ⟨_, rfl, ?_⟩
        obtain ⟨z9, hz0, hz1, ez⟩ : ∃ z : Int, 0 ≤ z ∧ z ≤ 1 ∧ (if decide ((((als.map V.ref).length : Nat) : Int) < 9) = true then (1 : Int) else 0) = z := ⟨_, by split <;> omega, by split <;> omega, rfl⟩
        rw [ez]
        walk_at "rd"
        intro U hU
        have su := Same.new1 (o := .tup []) hU
        have hUU : upd Hw U (.tup []) U = some (.tup []) := upd_same
        generalize upd Hw U (.tup []) = Hu at su hUU
        have hTu := ((hT6.mono (Same.tups tw)).mono (Same.tups su))
        refine ⟨_, _, .tup (SqT.of (su _ _ hpmw)) (dp_rows (MsAt.rows hTu)), .tup (SqT.of hUU) .nil, shaped_rowsT _, by decide +kernel, ?_⟩
        walk_at "rd"
        refine .inr ⟨_, rfl, ?_⟩
        obtain ⟨y9, hy0, hy1, hyne, ey⟩ : ∃ z : Int, 0 ≤ z ∧ z ≤ 1 ∧ (z = 1 → ms ≠ []) ∧ (if (!PyData.eqv (.tuple ((ms.map mtI).map fun r => PyData.tuple (r.map PyData.int))) (.tuple [])) = true then (1 : Int) else 0) = z := by
          refine ⟨_, by split <;> omega, by split <;> omega, fun h e => ?_, rfl⟩
          subst e
          rw [eqv_nilT] at h
          cases h
        rw [ey]
        walk_at "rd"
        have hj : 0 ≤ (1 + 2 * z9) * y9 ∧ (1 + 2 * z9) * y9 ≤ 3 := by
          have c : y9 = 0 ∨ y9 = 1 := by omega
          rcases c with rfl | rfl <;> omega
        refine ⟨by omega, by omega, ?_⟩
        have tlp : tl ≠ p3 := ne_of_none htl4 hp3
        have twu := tw.trans su
        have su3 : SamB p3 H6 Hu := SamB.of twu s6.is_
        have t4u : Same H4 Hu := t6.trans twu
        have hBw' := hBw.mono (Same.tups su)
        refine for_range (lo := 0) (n := ((1 + 2 * z9) * y9).toNat) (fun k σ Hy => ∃ v9 : Option V, SamB p3 Hu Hy ∧ σ = [some (.ref a), some (.int (0 + (i : Int) * 3)), some (.ref b), some (.ref tl), some (.ref p3), some (.ref tr), none, some (.ref bw), some (.int (1 + 2 * z9)), v9])
          ⟨v9, SamB.refl su3.is_, rfl⟩ ?_ ?_
        · rintro k σ Hy hk ⟨v9', sy', rfl⟩
          have hne : ms ≠ [] := hyne (by
            have c : y9 = 0 ∨ y9 = 1 := by omega
            rcases c with rfl | rfl
            · rw [Int.mul_zero] at hk
              exact absurd hk (Nat.not_lt_zero k)
            · rfl)
          have h0 : 0 < ms.length := List.length_pos_iff.mpr hne
          have h60 := wf.len
          have hby := sy'.tups _ _ (twu _ _ hb6)
          have hpmy := sy'.tups _ _ (twu _ _ hpm6)
          walk_at "rd"
          refine ⟨p3, (ms.length : Int), (by rw [List.length_map, hlen]; rfl), sy'.is_, by omega, by omega, fun r H10 r0 r1 s10 => ?_⟩
          obtain ⟨at_, rfl⟩ := Int.eq_ofNat_of_zero_le r0
          have sA := sy'.trans s10
          have hL10 : LsAt H10 tl ls := ⟨als, sA.keep tl _ tlp (twu _ _ (t6 _ _ htl4)), ((hTl4.mono (Same.tups t6)).mono (Same.tups twu)).mono sA.tups⟩
          walk_at "rd"
          refine ⟨bw, tl, List.replicate rs.length 99, widen ms, ls, at_, rfl, hBw'.mono sA.tups, by rw [hlr]; exact wf.wide, by rw [hlr]; exact h1, by rw [hlr]; exact h12, ⟨fun r hr' => List.eq_of_mem_replicate hr', fun m hm => ?_⟩, hL10, l40, by rw [hlr]; exact hls, by unfold widen; rw [List.length_map]; omega, fun H11 s11 => ?_⟩
          · unfold widen at hm
            obtain ⟨m0, _, rfl⟩ := List.mem_map.mp hm
            rfl
          · walk_at "rd"
            exact ⟨_, sA.trans (SamB.of s11 sA.is_), rfl⟩
        · rintro σ Hy ⟨v9', sy', rfl⟩
          exact ⟨_, _, _, _, _, _, _, _, ((sx.trans t2).trans t4).trans (sy'.same t4u hp3), rfl⟩
    · rintro σ Hx ⟨v1, v2, v3, v4, v5, v7, v8, v9, sx, rfl⟩
      walk_at "rd"
      exact q _
end
end Sm
set_option Elab.async false
set_option linter.all false
set_option maxRecDepth 100000
set_option maxHeartbeats 0
namespace Sm
open PySem PySem.Spec PyProof.Rows L2
/-! ### the head: facts by names, the run -/
def d_is_whole : He.FnD := ⟨("is_whole", none), "is_whole", "is_whole", defArgs st_is_whole, defBody st_is_whole, defScope st_is_whole⟩
def d_is_within : He.FnD := ⟨("is_within", none), "is_within", "is_within", defArgs st_is_within, defBody st_is_within, defScope st_is_within⟩
def d_are_rooms : He.FnD := ⟨("are_rooms", none), "are_rooms", "are_rooms", defArgs st_are_rooms, defBody st_are_rooms, defScope st_are_rooms⟩
def d_is_meeting : He.FnD := ⟨("is_meeting", none), "is_meeting", "is_meeting", defArgs st_is_meeting, defBody st_is_meeting, defScope st_is_meeting⟩
def d_put_right : He.FnD := ⟨("put_right", none), "put_right", "put_right", defArgs st_put_right, defBody st_put_right, defScope st_put_right⟩
def d_meets_two_at_once : He.FnD := ⟨("meets_two_at_once", none), "meets_two_at_once", "meets_two_at_once", defArgs st_meets_two_at_once, defBody st_meets_two_at_once, defScope st_meets_two_at_once⟩
def d_by_when : He.FnD := ⟨("by_when", none), "by_when", "by_when", defArgs st_by_when, defBody st_by_when, defScope st_by_when⟩
def d_made_book : He.FnD := ⟨("made_book", none), "made_book", "made_book", defArgs st_made_book, defBody st_made_book, defScope st_made_book⟩
def d_is_number_of : He.FnD := ⟨("is_number_of", none), "is_number_of", "is_number_of", defArgs st_is_number_of, defBody st_is_number_of, defScope st_is_number_of⟩
def d_both_ways : He.FnD := ⟨("both_ways", none), "both_ways", "both_ways", defArgs st_both_ways, defBody st_both_ways, defScope st_both_ways⟩
def d_run : He.FnD := ⟨("run", none), "run", "run", defArgs st_run, defBody st_run, defScope st_run⟩
def d_need_meeting : He.FnD := ⟨("need_meeting", none), "need_meeting", "need_meeting", defArgs st_need_meeting, defBody st_need_meeting, defScope st_need_meeting⟩
def d_without : He.FnD := ⟨("without", none), "without", "without", defArgs st_without, defBody st_without, defScope st_without⟩
def d_comings : He.FnD := ⟨("comings", none), "comings", "comings", defArgs st_comings, defBody st_comings, defScope st_comings⟩
def d_chain_by : He.FnD := ⟨("chain_by", none), "chain_by", "chain_by", defArgs st_chain_by, defBody st_chain_by, defScope st_chain_by⟩
def d_earliest : He.FnD := ⟨("earliest", none), "earliest", "earliest", defArgs st_earliest, defBody st_earliest, defScope st_earliest⟩
def d_lost : He.FnD := ⟨("lost", none), "lost", "lost", defArgs st_lost, defBody st_lost, defScope st_lost⟩
def d_counts_of : He.FnD := ⟨("counts_of", none), "counts_of", "counts_of", defArgs st_counts_of, defBody st_counts_of, defScope st_counts_of⟩
def d_l_purse : He.FnD := ⟨("_law_purse", none), "_law_purse", "_law_purse", defArgs st_l_purse, defBody st_l_purse, defScope st_l_purse⟩
def d_l_take : He.FnD := ⟨("_law_take", none), "_law_take", "_law_take", defArgs st_l_take, defBody st_l_take, defScope st_l_take⟩
def d_l_far : He.FnD := ⟨("_law_far", none), "_law_far", "_law_far", defArgs st_l_far, defBody st_l_far, defScope st_l_far⟩
def d_l_rooms : He.FnD := ⟨("_law_rooms", none), "_law_rooms", "_law_rooms", defArgs st_l_rooms, defBody st_l_rooms, defScope st_l_rooms⟩
def d_l_step : He.FnD := ⟨("_law_step", none), "_law_step", "_law_step", defArgs st_l_step, defBody st_l_step, defScope st_l_step⟩
def d_l_meetings : He.FnD := ⟨("_law_meetings", none), "_law_meetings", "_law_meetings", defArgs st_l_meetings, defBody st_l_meetings, defScope st_l_meetings⟩
def d_l_book : He.FnD := ⟨("_law_book", none), "_law_book", "_law_book", defArgs st_l_book, defBody st_l_book, defScope st_l_book⟩
def d_l_time : He.FnD := ⟨("_law_time", none), "_law_time", "_law_time", defArgs st_l_time, defBody st_l_time, defScope st_l_time⟩
def d_l_letter : He.FnD := ⟨("_law_letter", none), "_law_letter", "_law_letter", defArgs st_l_letter, defBody st_l_letter, defScope st_l_letter⟩
def d_l_whole : He.FnD := ⟨("_law_whole", none), "_law_whole", "_law_whole", defArgs st_l_whole, defBody st_l_whole, defScope st_l_whole⟩
def d_l_times : He.FnD := ⟨("_law_times", none), "_law_times", "_law_times", defArgs st_l_times, defBody st_l_times, defScope st_l_times⟩
def d_l_letters : He.FnD := ⟨("_law_letters", none), "_law_letters", "_law_letters", defArgs st_l_letters, defBody st_l_letters, defScope st_l_letters⟩
def d_l_past : He.FnD := ⟨("_law_past", none), "_law_past", "_law_past", defArgs st_l_past, defBody st_l_past, defScope st_l_past⟩
def d_l_rule : He.FnD := ⟨("_law_rule", none), "_law_rule", "_law_rule", defArgs st_l_rule, defBody st_l_rule, defScope st_l_rule⟩
def d_l_made : He.FnD := ⟨("_law_made", none), "_law_made", "_law_made", defArgs st_l_made, defBody st_l_made, defScope st_l_made⟩
def d_l_numbers_are : He.FnD := ⟨("_law_numbers_are", none), "_law_numbers_are", "_law_numbers_are", defArgs st_l_numbers_are, defBody st_l_numbers_are, defScope st_l_numbers_are⟩
def d_l_bounded : He.FnD := ⟨("_law_bounded", none), "_law_bounded", "_law_bounded", defArgs st_l_bounded, defBody st_l_bounded, defScope st_l_bounded⟩
def d_l_run_right : He.FnD := ⟨("_law_run_right", none), "_law_run_right", "_law_run_right", defArgs st_l_run_right, defBody st_l_run_right, defScope st_l_run_right⟩
def d_l_come : He.FnD := ⟨("_law_come", none), "_law_come", "_law_come", defArgs st_l_come, defBody st_l_come, defScope st_l_come⟩
def d_l_missed_right : He.FnD := ⟨("_law_missed_right", none), "_law_missed_right", "_law_missed_right", defArgs st_l_missed_right, defBody st_l_missed_right, defScope st_l_missed_right⟩
def d_law : He.FnD := ⟨("law", none), "law", "law", defArgs st_law, defBody st_law, defScope st_law⟩
def d_Copying_has_room : He.FnD := ⟨("Copying", some "has_room"), "has_room", "Copying.has_room", defArgs st_Copying_has_room, defBody st_Copying_has_room, defScope st_Copying_has_room⟩
def d_Copying_copied : He.FnD := ⟨("Copying", some "copied"), "copied", "Copying.copied", defArgs st_Copying_copied, defBody st_Copying_copied, defScope st_Copying_copied⟩
def d_Copying_meet : He.FnD := ⟨("Copying", some "meet"), "meet", "Copying.meet", defArgs st_Copying_meet, defBody st_Copying_meet, defScope st_Copying_meet⟩
def d_AllMet_at_first : He.FnD := ⟨("AllMet", some "at_first"), "at_first", "Rule.at_first", defArgs st_Rule_at_first, defBody st_Rule_at_first, defScope st_Rule_at_first⟩
def d_AllMet_share : He.FnD := ⟨("AllMet", some "share"), "share", "AllMet.share", defArgs st_AllMet_share, defBody st_AllMet_share, defScope st_AllMet_share⟩
def d_AllMet_goes_with : He.FnD := ⟨("AllMet", some "goes_with"), "goes_with", "Rule.goes_with", defArgs st_Rule_goes_with, defBody st_Rule_goes_with, defScope st_Rule_goes_with⟩
def d_Halves_at_first : He.FnD := ⟨("Halves", some "at_first"), "at_first", "Halves.at_first", defArgs st_Halves_at_first, defBody st_Halves_at_first, defScope st_Halves_at_first⟩
def d_Halves_share : He.FnD := ⟨("Halves", some "share"), "share", "Halves.share", defArgs st_Halves_share, defBody st_Halves_share, defScope st_Halves_share⟩
def d_Halves_goes_with : He.FnD := ⟨("Halves", some "goes_with"), "goes_with", "Rule.goes_with", defArgs st_Rule_goes_with, defBody st_Rule_goes_with, defScope st_Rule_goes_with⟩
def d_Nearer_at_first : He.FnD := ⟨("Nearer", some "at_first"), "at_first", "Rule.at_first", defArgs st_Rule_at_first, defBody st_Rule_at_first, defScope st_Rule_at_first⟩
def d_Nearer_share : He.FnD := ⟨("Nearer", some "share"), "share", "Nearer.share", defArgs st_Nearer_share, defBody st_Nearer_share, defScope st_Nearer_share⟩
def d_Nearer_goes_with : He.FnD := ⟨("Nearer", some "goes_with"), "goes_with", "Nearer.goes_with", defArgs st_Nearer_goes_with, defBody st_Nearer_goes_with, defScope st_Nearer_goes_with⟩
def d_Copying_init : He.FnD := ⟨("Copying", some "__init__"), "__init__", "Copying.__init__", defArgs st_Copying_init, defBody st_Copying_init, defScope st_Copying_init⟩
def d_Halves_init : He.FnD := ⟨("Halves", some "__init__"), "__init__", "Halves.__init__", defArgs st_Halves_init, defBody st_Halves_init, defScope st_Halves_init⟩
def d_Nearer_init : He.FnD := ⟨("Nearer", some "__init__"), "__init__", "Nearer.__init__", defArgs st_Nearer_init, defBody st_Nearer_init, defScope st_Nearer_init⟩
def fn0 : List He.FnD := [d_is_whole, d_is_within, d_are_rooms, d_is_meeting, d_put_right, d_meets_two_at_once, d_by_when, d_made_book, d_is_number_of, d_both_ways, d_run, d_need_meeting, d_without, d_comings, d_chain_by, d_earliest, d_lost, d_counts_of, d_l_purse, d_l_take, d_l_far, d_l_rooms, d_l_step, d_l_meetings, d_l_book, d_l_time, d_l_letter, d_l_whole, d_l_times, d_l_letters]
def fn1 : List He.FnD := [d_l_past, d_l_rule, d_l_made, d_l_numbers_are, d_l_bounded, d_l_run_right, d_l_come, d_l_missed_right, d_law, d_Copying_has_room, d_Copying_copied, d_Copying_meet, d_AllMet_at_first, d_AllMet_share, d_AllMet_goes_with, d_Halves_at_first, d_Halves_share, d_Halves_goes_with, d_Nearer_at_first, d_Nearer_share, d_Nearer_goes_with, d_Copying_init, d_Halves_init, d_Nearer_init]
def fnL : List He.FnD := fn0 ++ fn1
def fa0 : List He.Fa := [.glo "is_whole", .keep "is_whole", .glo "is_within", .keep "is_within", .glo "are_rooms", .keep "are_rooms", .glo "is_meeting", .keep "is_meeting", .glo "put_right", .keep "put_right", .glo "meets_two_at_once", .keep "meets_two_at_once", .glo "by_when", .keep "by_when", .glo "made_book", .keep "made_book", .glo "is_number_of", .keep "is_number_of", .glo "both_ways", .keep "both_ways", .glo "run", .keep "run", .glo "need_meeting", .keep "need_meeting", .glo "without", .keep "without", .glo "comings", .keep "comings", .glo "chain_by", .keep "chain_by"]
def fa1 : List He.Fa := [.glo "earliest", .keep "earliest", .glo "lost", .keep "lost", .glo "counts_of", .keep "counts_of", .glo "_law_purse", .keep "_law_purse", .glo "_law_take", .keep "_law_take", .glo "_law_far", .keep "_law_far", .glo "_law_rooms", .keep "_law_rooms", .glo "_law_step", .keep "_law_step", .glo "_law_meetings", .keep "_law_meetings", .glo "_law_book", .keep "_law_book", .glo "_law_time", .keep "_law_time", .glo "_law_letter", .keep "_law_letter", .glo "_law_whole", .keep "_law_whole", .glo "_law_times", .keep "_law_times", .glo "_law_letters", .keep "_law_letters"]
def fa2 : List He.Fa := [.glo "_law_past", .keep "_law_past", .glo "_law_rule", .keep "_law_rule", .glo "_law_made", .keep "_law_made", .glo "_law_numbers_are", .keep "_law_numbers_are", .glo "_law_bounded", .keep "_law_bounded", .glo "_law_run_right", .keep "_law_run_right", .glo "_law_come", .keep "_law_come", .glo "_law_missed_right", .keep "_law_missed_right", .glo "law", .keep "law", .glo "Copying", .glo "AllMet", .glo "Halves", .glo "Nearer", .free "len", .free "isinstance", .free "all", .free "min", .free "max", .free "sorted", .free "tuple", .free "list"]
def fa3 : List He.Fa := [.free "int", .free "bool", .free "range", .free "enumerate", .int "MOST_TIME" 1000000000, .int "MOST_WALKERS" 12, .int "MOST_ROOM" 99, .int "MOST_MEETINGS" 60, .int "MOST_MANY" 99, .int "MOST_TOKENS" 64, .cls "Copying", .cls "AllMet", .cls "Halves", .cls "Nearer", .noat "Copying" "rooms", .noat "Copying" "letters", .noat "Copying" "rule", .noat "Copying" "times", .noat "Copying" "tokens_of", .noat "Copying" "deeds_made", .noat "Halves" "tokens", .noat "Nearer" "met", .meth "Copying" "has_room", .meth "Copying" "copied", .meth "Copying" "meet", .meth "AllMet" "at_first", .meth "AllMet" "share", .meth "AllMet" "goes_with", .meth "Halves" "at_first", .meth "Halves" "share"]
def fa4 : List He.Fa := [.meth "Halves" "goes_with", .meth "Nearer" "at_first", .meth "Nearer" "share", .meth "Nearer" "goes_with", .meth "Copying" "__init__", .meth "Halves" "__init__", .meth "Nearer" "__init__", .mkr "Copying", .mkr "Halves", .mkr "Nearer"]
def faL : List He.Fa := fa0 ++ fa1 ++ fa2 ++ fa3 ++ fa4
/-- and AllMet is made by object's own -/
def mkoB (K : PySem.W.Frag) : Bool := PySem.W.makesIn K (He.ga K "AllMet") && (He.eqO (PySem.W.findIn K (.ref (He.ga K "AllMet")) "__init__") (some (some (.builtin "object.__init__"))) && PySem.W.keepIn K (.ref (He.ga K "AllMet")))
theorem mkoB_ok {K : PySem.W.Frag} (c : mkoB K = true) : MkO K (He.ga K "AllMet") := by
  obtain ⟨c1, c⟩ := He.ba c
  obtain ⟨c2, c3⟩ := He.ba c
  exact ⟨c1, He.eqO_ok c2, c3⟩
def obX (n : Nat) (g : Addr → Option Obj) : Bool × He.Al := (mkoB (He.frG g (He.asG g n)), He.obsE faL fnL (He.frG g (He.asG g n)))
def hk : PySem.W.Hook where
  α := Bool × He.Al
  obs := fun s => obX 5 s.heap.get?
  val := fun _ => (true, He.valE fnL)
  says := fun _ h => ∃ K : PySem.W.Frag, K.In h ∧ mkoB K = true ∧ He.SaysE faL fnL K
  of := fun _ _ e => ⟨_, He.frG_in, congrArg (fun z : Bool × He.Al => z.1) e, congrArg (fun z : Bool × He.Al => z.2) e⟩
  keeps := fun _ _ _ ⟨K, hK, c⟩ k => ⟨K, PySem.W.Frag.In.keeps hK k, c⟩
abbrev Rw : PySem.W.OpenRow := PySem.W.OpenLaw.row PySem.Challenge.rw_satchelmeet_k93_whole_rules_and_missed
def ob (s : PySem.W.SharedT) : Bool × He.Al := obX 5 (HandSHeadRun.getT s)
theorem ob_eq (s : PySem.W.SharedT) : ob s = hk.obs s.abs := by
  have e : HandSHeadRun.getT s = s.abs.heap.get? := funext (HandSHeadRun.getT_eq s)
  show obX 5 (HandSHeadRun.getT s) = obX 5 s.abs.heap.get?
  rw [e]
def nm0 : List Str := ["MeetError", "NoBook", "NoMeeting", "NoRule", "MOST_TIME", "is_whole", "is_within", "MOST_WALKERS", "MOST_ROOM", "MOST_MEETINGS", "MOST_MANY", "are_rooms", "is_meeting", "put_right", "meets_two_at_once", "by_when", "made_book", "is_number_of", "both_ways", "Copying", "run", "need_meeting", "without", "comings", "chain_by", "earliest", "lost", "MOST_TOKENS", "counts_of", "Rule"]
def nm1 : List Str := ["AllMet", "Halves", "Nearer", "_law_purse", "_law_take", "_law_far", "_law_rooms", "_law_step", "_law_meetings", "_law_book", "_law_time", "_law_letter", "_law_whole", "_law_times", "_law_letters", "_law_past", "_law_rule", "_law_made", "_law_numbers_are", "_law_bounded", "_law_run_right", "_law_come", "_law_missed_right"]
def nmL : List Str := nm0 ++ nm1
theorem run (w : World) : HandSHeadRun.RunEq Rw (PySem.W.view Rw.prog [62]) hk ob 4000 nmL w := by
  intro os
  kernel_rfl
end Sm
set_option Elab.async false
set_option linter.all false
set_option maxRecDepth 100000
set_option maxHeartbeats 0
namespace Sm
open PySem PySem.Spec PyProof.Rows L2
/-! ### rules that keep what Rule says -/
theorem first_A {C : Addr} (vs : List V) (H : Hp) (Q : VK) (E : XK) (h : sp_atfirst (raA C) vs H Q E) : ∃ x, vs = [.ref x] ∧ Q (.int 0) H := by
  obtain ⟨x, R, n, e, ⟨rfl, _⟩, q⟩ := h
  exact ⟨x, e, q⟩
theorem first_N {C : Addr} (vs : List V) (H : Hp) (Q : VK) (E : XK) (h : sp_atfirst (raN C) vs H Q E) : ∃ x, vs = [.ref x] ∧ Q (.int 0) H := by
  obtain ⟨x, R, n, e, ⟨rfl, _⟩, q⟩ := h
  exact ⟨x, e, q⟩
theorem goes_A {C : Addr} (vs : List V) (H : Hp) (Q : VK) (E : XK) (h : sp_goes (raA C) vs H Q E) : ∃ x b, vs = [.ref x, .ref b] ∧ Q (.bl true) H := by
  obtain ⟨x, R, b, rs, ms, e, _, _, q⟩ := h
  exact ⟨x, b, e, q⟩
theorem goes_H {C : Addr} (vs : List V) (H : Hp) (Q : VK) (E : XK) (h : sp_goes (raH C) vs H Q E) : ∃ x b, vs = [.ref x, .ref b] ∧ Q (.bl true) H := by
  obtain ⟨x, R, b, rs, ms, e, _, _, q⟩ := h
  exact ⟨x, b, e, q⟩
/-! ### all together -/
theorem facts {P : Program} {w : World} {K : PySem.W.Frag} {h : Heap} {mg : Str → Option Value} {f : Addr} (X : K.In h) (G : h.Ns mainGlobals mg) (hfa : mg ("law" : Str) = some (.ref f)) (mk0 : mkoB K = true) (c : He.SaysE faL fnL K) :
    ∃ fd : FuncData, (∀ (s : Shared) (v : Value), BindsTo s fd ⟨[v], []⟩ [("_law_script_here", v)]) ∧ ∀ base : Heap, K.In base → base.Ns mainGlobals mg → FnOk P w K mg base CX0 8 f fd ["_law_script_here"] (sp_law K) := by
  obtain ⟨_, _, _, _, _, _, _, _, _, l_is_whole, e_is_whole⟩ := c.def_ 0 (d := d_is_whole) rfl
  have F_is_whole : Fun K "is_whole" "is_whole" st_is_whole (He.ga K "is_whole") _ := fun_mk (st := st_is_whole) l_is_whole e_is_whole (He.keep_ok (x := "is_whole") (c.fact 1 rfl))
  have b_is_whole := F_is_whole.binds (ps := ["thing"]) (fun _ _ _ _ _ _ us hl => match us, hl with | [_], _ => rfl)
  obtain ⟨_, _, _, _, _, _, _, _, _, l_is_within, e_is_within⟩ := c.def_ 1 (d := d_is_within) rfl
  have F_is_within : Fun K "is_within" "is_within" st_is_within (He.ga K "is_within") _ := fun_mk (st := st_is_within) l_is_within e_is_within (He.keep_ok (x := "is_within") (c.fact 3 rfl))
  have b_is_within := F_is_within.binds (ps := ["thing", "low", "high"]) (fun _ _ _ _ _ _ us hl => match us, hl with | [_, _, _], _ => rfl)
  obtain ⟨_, _, _, _, _, _, _, _, _, l_are_rooms, e_are_rooms⟩ := c.def_ 2 (d := d_are_rooms) rfl
  have F_are_rooms : Fun K "are_rooms" "are_rooms" st_are_rooms (He.ga K "are_rooms") _ := fun_mk (st := st_are_rooms) l_are_rooms e_are_rooms (He.keep_ok (x := "are_rooms") (c.fact 5 rfl))
  have b_are_rooms := F_are_rooms.binds (ps := ["thing"]) (fun _ _ _ _ _ _ us hl => match us, hl with | [_], _ => rfl)
  obtain ⟨_, _, _, _, _, _, _, _, _, l_is_meeting, e_is_meeting⟩ := c.def_ 3 (d := d_is_meeting) rfl
  have F_is_meeting : Fun K "is_meeting" "is_meeting" st_is_meeting (He.ga K "is_meeting") _ := fun_mk (st := st_is_meeting) l_is_meeting e_is_meeting (He.keep_ok (x := "is_meeting") (c.fact 7 rfl))
  have b_is_meeting := F_is_meeting.binds (ps := ["thing", "walkers"]) (fun _ _ _ _ _ _ us hl => match us, hl with | [_, _], _ => rfl)
  obtain ⟨_, _, _, _, _, _, _, _, _, l_put_right, e_put_right⟩ := c.def_ 4 (d := d_put_right) rfl
  have F_put_right : Fun K "put_right" "put_right" st_put_right (He.ga K "put_right") _ := fun_mk (st := st_put_right) l_put_right e_put_right (He.keep_ok (x := "put_right") (c.fact 9 rfl))
  have b_put_right := F_put_right.binds (ps := ["meeting"]) (fun _ _ _ _ _ _ us hl => match us, hl with | [_], _ => rfl)
  obtain ⟨_, _, _, _, _, _, _, _, _, l_meets_two_at_once, e_meets_two_at_once⟩ := c.def_ 5 (d := d_meets_two_at_once) rfl
  have F_meets_two_at_once : Fun K "meets_two_at_once" "meets_two_at_once" st_meets_two_at_once (He.ga K "meets_two_at_once") _ := fun_mk (st := st_meets_two_at_once) l_meets_two_at_once e_meets_two_at_once (He.keep_ok (x := "meets_two_at_once") (c.fact 11 rfl))
  have b_meets_two_at_once := F_meets_two_at_once.binds (ps := ["meetings"]) (fun _ _ _ _ _ _ us hl => match us, hl with | [_], _ => rfl)
  obtain ⟨_, _, _, _, _, _, _, _, _, l_by_when, e_by_when⟩ := c.def_ 6 (d := d_by_when) rfl
  have F_by_when : Fun K "by_when" "by_when" st_by_when (He.ga K "by_when") _ := fun_mk (st := st_by_when) l_by_when e_by_when (He.keep_ok (x := "by_when") (c.fact 13 rfl))
  have b_by_when := F_by_when.binds (ps := ["meeting"]) (fun _ _ _ _ _ _ us hl => match us, hl with | [_], _ => rfl)
  obtain ⟨_, _, _, _, _, _, _, _, _, l_made_book, e_made_book⟩ := c.def_ 7 (d := d_made_book) rfl
  have F_made_book : Fun K "made_book" "made_book" st_made_book (He.ga K "made_book") _ := fun_mk (st := st_made_book) l_made_book e_made_book (He.keep_ok (x := "made_book") (c.fact 15 rfl))
  have b_made_book := F_made_book.binds (ps := ["rooms", "meetings"]) (fun _ _ _ _ _ _ us hl => match us, hl with | [_, _], _ => rfl)
  obtain ⟨_, _, _, _, _, _, _, _, _, l_is_number_of, e_is_number_of⟩ := c.def_ 8 (d := d_is_number_of) rfl
  have F_is_number_of : Fun K "is_number_of" "is_number_of" st_is_number_of (He.ga K "is_number_of") _ := fun_mk (st := st_is_number_of) l_is_number_of e_is_number_of (He.keep_ok (x := "is_number_of") (c.fact 17 rfl))
  have b_is_number_of := F_is_number_of.binds (ps := ["book", "thing"]) (fun _ _ _ _ _ _ us hl => match us, hl with | [_, _], _ => rfl)
  obtain ⟨_, _, _, _, _, _, _, _, _, l_both_ways, e_both_ways⟩ := c.def_ 9 (d := d_both_ways) rfl
  have F_both_ways : Fun K "both_ways" "both_ways" st_both_ways (He.ga K "both_ways") _ := fun_mk (st := st_both_ways) l_both_ways e_both_ways (He.keep_ok (x := "both_ways") (c.fact 19 rfl))
  have b_both_ways := F_both_ways.binds (ps := ["meeting"]) (fun _ _ _ _ _ _ us hl => match us, hl with | [_], _ => rfl)
  obtain ⟨_, _, _, _, _, _, _, _, _, l_run, e_run⟩ := c.def_ 10 (d := d_run) rfl
  have F_run : Fun K "run" "run" st_run (He.ga K "run") _ := fun_mk (st := st_run) l_run e_run (He.keep_ok (x := "run") (c.fact 21 rfl))
  have b_run := F_run.binds (ps := ["book", "letters", "rule"]) (fun _ _ _ _ _ _ us hl => match us, hl with | [_, _, _], _ => rfl)
  obtain ⟨_, _, _, _, _, _, _, _, _, l_need_meeting, e_need_meeting⟩ := c.def_ 11 (d := d_need_meeting) rfl
  have F_need_meeting : Fun K "need_meeting" "need_meeting" st_need_meeting (He.ga K "need_meeting") _ := fun_mk (st := st_need_meeting) l_need_meeting e_need_meeting (He.keep_ok (x := "need_meeting") (c.fact 23 rfl))
  have b_need_meeting := F_need_meeting.binds (ps := ["book", "meeting"]) (fun _ _ _ _ _ _ us hl => match us, hl with | [_, _], _ => rfl)
  obtain ⟨_, _, _, _, _, _, _, _, _, l_without, e_without⟩ := c.def_ 12 (d := d_without) rfl
  have F_without : Fun K "without" "without" st_without (He.ga K "without") _ := fun_mk (st := st_without) l_without e_without (He.keep_ok (x := "without") (c.fact 25 rfl))
  have b_without := F_without.binds (ps := ["book", "meeting"]) (fun _ _ _ _ _ _ us hl => match us, hl with | [_, _], _ => rfl)
  obtain ⟨_, _, _, _, _, _, _, _, _, l_comings, e_comings⟩ := c.def_ 13 (d := d_comings) rfl
  have F_comings : Fun K "comings" "comings" st_comings (He.ga K "comings") _ := fun_mk (st := st_comings) l_comings e_comings (He.keep_ok (x := "comings") (c.fact 27 rfl))
  have b_comings := F_comings.binds (ps := ["book", "sender", "since"]) (fun _ _ _ _ _ _ us hl => match us, hl with | [_, _, _], _ => rfl)
  obtain ⟨_, _, _, _, _, _, _, _, _, l_chain_by, e_chain_by⟩ := c.def_ 14 (d := d_chain_by) rfl
  have F_chain_by : Fun K "chain_by" "chain_by" st_chain_by (He.ga K "chain_by") _ := fun_mk (st := st_chain_by) l_chain_by e_chain_by (He.keep_ok (x := "chain_by") (c.fact 29 rfl))
  have b_chain_by := F_chain_by.binds (ps := ["book", "by", "walker"]) (fun _ _ _ _ _ _ us hl => match us, hl with | [_, _, _], _ => rfl)
  obtain ⟨_, _, _, _, _, _, _, _, _, l_earliest, e_earliest⟩ := c.def_ 15 (d := d_earliest) rfl
  have F_earliest : Fun K "earliest" "earliest" st_earliest (He.ga K "earliest") _ := fun_mk (st := st_earliest) l_earliest e_earliest (He.keep_ok (x := "earliest") (c.fact 31 rfl))
  have b_earliest := F_earliest.binds (ps := ["book", "letter"]) (fun _ _ _ _ _ _ us hl => match us, hl with | [_, _], _ => rfl)
  obtain ⟨_, _, _, _, _, _, _, _, _, l_lost, e_lost⟩ := c.def_ 16 (d := d_lost) rfl
  have F_lost : Fun K "lost" "lost" st_lost (He.ga K "lost") _ := fun_mk (st := st_lost) l_lost e_lost (He.keep_ok (x := "lost") (c.fact 33 rfl))
  have b_lost := F_lost.binds (ps := ["book", "letters", "meeting"]) (fun _ _ _ _ _ _ us hl => match us, hl with | [_, _, _], _ => rfl)
  obtain ⟨_, _, _, _, _, _, _, _, _, l_counts_of, e_counts_of⟩ := c.def_ 17 (d := d_counts_of) rfl
  have F_counts_of : Fun K "counts_of" "counts_of" st_counts_of (He.ga K "counts_of") _ := fun_mk (st := st_counts_of) l_counts_of e_counts_of (He.keep_ok (x := "counts_of") (c.fact 35 rfl))
  have b_counts_of := F_counts_of.binds (ps := ["book"]) (fun _ _ _ _ _ _ us hl => match us, hl with | [_], _ => rfl)
  obtain ⟨_, _, _, _, _, _, _, _, _, l_l_purse, e_l_purse⟩ := c.def_ 18 (d := d_l_purse) rfl
  have F_l_purse : Fun K "_law_purse" "_law_purse" st_l_purse (He.ga K "_law_purse") _ := fun_mk (st := st_l_purse) l_l_purse e_l_purse (He.keep_ok (x := "_law_purse") (c.fact 37 rfl))
  have b_l_purse := F_l_purse.binds (ps := ["_law_script", "_law_k"]) (fun _ _ _ _ _ _ us hl => match us, hl with | [_, _], _ => rfl)
  obtain ⟨_, _, _, _, _, _, _, _, _, l_l_take, e_l_take⟩ := c.def_ 19 (d := d_l_take) rfl
  have F_l_take : Fun K "_law_take" "_law_take" st_l_take (He.ga K "_law_take") _ := fun_mk (st := st_l_take) l_l_take e_l_take (He.keep_ok (x := "_law_take") (c.fact 39 rfl))
  have b_l_take := F_l_take.binds (ps := ["_law_purse_here", "_law_many"]) (fun _ _ _ _ _ _ us hl => match us, hl with | [_, _], _ => rfl)
  obtain ⟨_, _, _, _, _, _, _, _, _, l_l_far, e_l_far⟩ := c.def_ 20 (d := d_l_far) rfl
  have F_l_far : Fun K "_law_far" "_law_far" st_l_far (He.ga K "_law_far") _ := fun_mk (st := st_l_far) l_l_far e_l_far (He.keep_ok (x := "_law_far") (c.fact 41 rfl))
  have b_l_far := F_l_far.binds (ps := ["_law_purse_here"]) (fun _ _ _ _ _ _ us hl => match us, hl with | [_], _ => rfl)
  obtain ⟨_, _, _, _, _, _, _, _, _, l_l_rooms, e_l_rooms⟩ := c.def_ 21 (d := d_l_rooms) rfl
  have F_l_rooms : Fun K "_law_rooms" "_law_rooms" st_l_rooms (He.ga K "_law_rooms") _ := fun_mk (st := st_l_rooms) l_l_rooms e_l_rooms (He.keep_ok (x := "_law_rooms") (c.fact 43 rfl))
  have b_l_rooms := F_l_rooms.binds (ps := ["_law_purse_here", "_law_walkers"]) (fun _ _ _ _ _ _ us hl => match us, hl with | [_, _], _ => rfl)
  obtain ⟨_, _, _, _, _, _, _, _, _, l_l_step, e_l_step⟩ := c.def_ 22 (d := d_l_step) rfl
  have F_l_step : Fun K "_law_step" "_law_step" st_l_step (He.ga K "_law_step") _ := fun_mk (st := st_l_step) l_l_step e_l_step (He.keep_ok (x := "_law_step") (c.fact 45 rfl))
  have b_l_step := F_l_step.binds (ps := ["_law_purse_here"]) (fun _ _ _ _ _ _ us hl => match us, hl with | [_], _ => rfl)
  obtain ⟨_, _, _, _, _, _, _, _, _, l_l_meetings, e_l_meetings⟩ := c.def_ 23 (d := d_l_meetings) rfl
  have F_l_meetings : Fun K "_law_meetings" "_law_meetings" st_l_meetings (He.ga K "_law_meetings") _ := fun_mk (st := st_l_meetings) l_l_meetings e_l_meetings (He.keep_ok (x := "_law_meetings") (c.fact 47 rfl))
  have b_l_meetings := F_l_meetings.binds (ps := ["_law_purse_here", "_law_walkers", "_law_most"]) (fun _ _ _ _ _ _ us hl => match us, hl with | [_, _, _], _ => rfl)
  obtain ⟨_, _, _, _, _, _, _, _, _, l_l_book, e_l_book⟩ := c.def_ 24 (d := d_l_book) rfl
  have F_l_book : Fun K "_law_book" "_law_book" st_l_book (He.ga K "_law_book") _ := fun_mk (st := st_l_book) l_l_book e_l_book (He.keep_ok (x := "_law_book") (c.fact 49 rfl))
  have b_l_book := F_l_book.binds (ps := ["_law_purse_here", "_law_most_walkers", "_law_most_meetings"]) (fun _ _ _ _ _ _ us hl => match us, hl with | [_, _, _], _ => rfl)
  obtain ⟨_, _, _, _, _, _, _, _, _, l_l_time, e_l_time⟩ := c.def_ 25 (d := d_l_time) rfl
  have F_l_time : Fun K "_law_time" "_law_time" st_l_time (He.ga K "_law_time") _ := fun_mk (st := st_l_time) l_l_time e_l_time (He.keep_ok (x := "_law_time") (c.fact 51 rfl))
  have b_l_time := F_l_time.binds (ps := ["_law_purse_here", "_law_book_here", "_law_later"]) (fun _ _ _ _ _ _ us hl => match us, hl with | [_, _, _], _ => rfl)
  obtain ⟨_, _, _, _, _, _, _, _, _, l_l_letter, e_l_letter⟩ := c.def_ 26 (d := d_l_letter) rfl
  have F_l_letter : Fun K "_law_letter" "_law_letter" st_l_letter (He.ga K "_law_letter") _ := fun_mk (st := st_l_letter) l_l_letter e_l_letter (He.keep_ok (x := "_law_letter") (c.fact 53 rfl))
  have b_l_letter := F_l_letter.binds (ps := ["_law_purse_here", "_law_book_here"]) (fun _ _ _ _ _ _ us hl => match us, hl with | [_, _], _ => rfl)
  obtain ⟨_, _, _, _, _, _, _, _, _, l_l_whole, e_l_whole⟩ := c.def_ 27 (d := d_l_whole) rfl
  have F_l_whole : Fun K "_law_whole" "_law_whole" st_l_whole (He.ga K "_law_whole") _ := fun_mk (st := st_l_whole) l_l_whole e_l_whole (He.keep_ok (x := "_law_whole") (c.fact 55 rfl))
  have b_l_whole := F_l_whole.binds (ps := ["_law_thing"]) (fun _ _ _ _ _ _ us hl => match us, hl with | [_], _ => rfl)
  obtain ⟨_, _, _, _, _, _, _, _, _, l_l_times, e_l_times⟩ := c.def_ 28 (d := d_l_times) rfl
  have F_l_times : Fun K "_law_times" "_law_times" st_l_times (He.ga K "_law_times") _ := fun_mk (st := st_l_times) l_l_times e_l_times (He.keep_ok (x := "_law_times") (c.fact 57 rfl))
  have b_l_times := F_l_times.binds (ps := ["_law_book_here", "_law_sender", "_law_since"]) (fun _ _ _ _ _ _ us hl => match us, hl with | [_, _, _], _ => rfl)
  obtain ⟨_, _, _, _, _, _, _, _, _, l_l_letters, e_l_letters⟩ := c.def_ 29 (d := d_l_letters) rfl
  have F_l_letters : Fun K "_law_letters" "_law_letters" st_l_letters (He.ga K "_law_letters") _ := fun_mk (st := st_l_letters) l_l_letters e_l_letters (He.keep_ok (x := "_law_letters") (c.fact 59 rfl))
  have b_l_letters := F_l_letters.binds (ps := ["_law_purse_here", "_law_book_here"]) (fun _ _ _ _ _ _ us hl => match us, hl with | [_, _], _ => rfl)
  obtain ⟨_, _, _, _, _, _, _, _, _, l_l_past, e_l_past⟩ := c.def_ 30 (d := d_l_past) rfl
  have F_l_past : Fun K "_law_past" "_law_past" st_l_past (He.ga K "_law_past") _ := fun_mk (st := st_l_past) l_l_past e_l_past (He.keep_ok (x := "_law_past") (c.fact 61 rfl))
  have b_l_past := F_l_past.binds (ps := ["_law_purse_here", "_law_walkers"]) (fun _ _ _ _ _ _ us hl => match us, hl with | [_, _], _ => rfl)
  obtain ⟨_, _, _, _, _, _, _, _, _, l_l_rule, e_l_rule⟩ := c.def_ 31 (d := d_l_rule) rfl
  have F_l_rule : Fun K "_law_rule" "_law_rule" st_l_rule (He.ga K "_law_rule") _ := fun_mk (st := st_l_rule) l_l_rule e_l_rule (He.keep_ok (x := "_law_rule") (c.fact 63 rfl))
  have b_l_rule := F_l_rule.binds (ps := ["_law_purse_here", "_law_walkers"]) (fun _ _ _ _ _ _ us hl => match us, hl with | [_, _], _ => rfl)
  obtain ⟨_, _, _, _, _, _, _, _, _, l_l_made, e_l_made⟩ := c.def_ 32 (d := d_l_made) rfl
  have F_l_made : Fun K "_law_made" "_law_made" st_l_made (He.ga K "_law_made") _ := fun_mk (st := st_l_made) l_l_made e_l_made (He.keep_ok (x := "_law_made") (c.fact 65 rfl))
  have b_l_made := F_l_made.binds (ps := ["_law_rule_here"]) (fun _ _ _ _ _ _ us hl => match us, hl with | [_], _ => rfl)
  obtain ⟨_, _, _, _, _, _, _, _, _, l_l_numbers_are, e_l_numbers_are⟩ := c.def_ 33 (d := d_l_numbers_are) rfl
  have F_l_numbers_are : Fun K "_law_numbers_are" "_law_numbers_are" st_l_numbers_are (He.ga K "_law_numbers_are") _ := fun_mk (st := st_l_numbers_are) l_l_numbers_are e_l_numbers_are (He.keep_ok (x := "_law_numbers_are") (c.fact 67 rfl))
  have b_l_numbers_are := F_l_numbers_are.binds (ps := ["_law_found", "_law_due"]) (fun _ _ _ _ _ _ us hl => match us, hl with | [_, _], _ => rfl)
  obtain ⟨_, _, _, _, _, _, _, _, _, l_l_bounded, e_l_bounded⟩ := c.def_ 34 (d := d_l_bounded) rfl
  have F_l_bounded : Fun K "_law_bounded" "_law_bounded" st_l_bounded (He.ga K "_law_bounded") _ := fun_mk (st := st_l_bounded) l_l_bounded e_l_bounded (He.keep_ok (x := "_law_bounded") (c.fact 69 rfl))
  have b_l_bounded := F_l_bounded.binds (ps := ["_law_book_here", "_law_letter_here", "_law_rule_here", "_law_row", "_law_tokens"]) (fun _ _ _ _ _ _ us hl => match us, hl with | [_, _, _, _, _], _ => rfl)
  obtain ⟨_, _, _, _, _, _, _, _, _, l_l_run_right, e_l_run_right⟩ := c.def_ 35 (d := d_l_run_right) rfl
  have F_l_run_right : Fun K "_law_run_right" "_law_run_right" st_l_run_right (He.ga K "_law_run_right") _ := fun_mk (st := st_l_run_right) l_l_run_right e_l_run_right (He.keep_ok (x := "_law_run_right") (c.fact 71 rfl))
  have b_l_run_right := F_l_run_right.binds (ps := ["_law_book_here", "_law_letters_here", "_law_rule_here"]) (fun _ _ _ _ _ _ us hl => match us, hl with | [_, _, _], _ => rfl)
  obtain ⟨_, _, _, _, _, _, _, _, _, l_l_come, e_l_come⟩ := c.def_ 36 (d := d_l_come) rfl
  have F_l_come : Fun K "_law_come" "_law_come" st_l_come (He.ga K "_law_come") _ := fun_mk (st := st_l_come) l_l_come e_l_come (He.keep_ok (x := "_law_come") (c.fact 73 rfl))
  have b_l_come := F_l_come.binds (ps := ["_law_book_here", "_law_letters_here"]) (fun _ _ _ _ _ _ us hl => match us, hl with | [_, _], _ => rfl)
  obtain ⟨_, _, _, _, _, _, _, _, _, l_l_missed_right, e_l_missed_right⟩ := c.def_ 37 (d := d_l_missed_right) rfl
  have F_l_missed_right : Fun K "_law_missed_right" "_law_missed_right" st_l_missed_right (He.ga K "_law_missed_right") _ := fun_mk (st := st_l_missed_right) l_l_missed_right e_l_missed_right (He.keep_ok (x := "_law_missed_right") (c.fact 75 rfl))
  have b_l_missed_right := F_l_missed_right.binds (ps := ["_law_book_here", "_law_letters_here", "_law_at"]) (fun _ _ _ _ _ _ us hl => match us, hl with | [_, _, _], _ => rfl)
  obtain ⟨_, _, _, kV, doc, pm, an, cdv, ct, l_law, e_law⟩ := c.def_ 38 (d := d_law) rfl
  have F_law : Fun K "law" "law" st_law (He.ga K "law") _ := fun_mk (st := st_law) l_law e_law (He.keep_ok (x := "law") (c.fact 77 rfl))
  have b_law := F_law.binds (ps := ["_law_script_here"]) (fun _ _ _ _ _ _ us hl => match us, hl with | [_], _ => rfl)
  obtain ⟨_, _, _, _, _, _, _, _, _, l_Copying_has_room, e_Copying_has_room⟩ := c.def_ 39 (d := d_Copying_has_room) rfl
  have M_Copying_has_room : Meth K (He.ga K "Copying") "has_room" (He.ma K (He.ga K "Copying") "has_room") := He.meth_ok (c.fact 112 rfl)
  have F_Copying_has_room : Fun K "has_room" "Copying.has_room" st_Copying_has_room (He.ma K (He.ga K "Copying") "has_room") _ := fun_mk (st := st_Copying_has_room) l_Copying_has_room e_Copying_has_room (He.meth_ok (x := "Copying") (m := "has_room") (c.fact 112 rfl)).kp
  have b_Copying_has_room := F_Copying_has_room.binds (ps := ["self", "number", "walker"]) (fun _ _ _ _ _ _ us hl => match us, hl with | [_, _, _], _ => rfl)
  obtain ⟨_, _, _, _, _, _, _, _, _, l_Copying_copied, e_Copying_copied⟩ := c.def_ 40 (d := d_Copying_copied) rfl
  have M_Copying_copied : Meth K (He.ga K "Copying") "copied" (He.ma K (He.ga K "Copying") "copied") := He.meth_ok (c.fact 113 rfl)
  have F_Copying_copied : Fun K "copied" "Copying.copied" st_Copying_copied (He.ma K (He.ga K "Copying") "copied") _ := fun_mk (st := st_Copying_copied) l_Copying_copied e_Copying_copied (He.meth_ok (x := "Copying") (m := "copied") (c.fact 113 rfl)).kp
  have b_Copying_copied := F_Copying_copied.binds (ps := ["self", "meeting", "when", "number", "giver", "other"]) (fun _ _ _ _ _ _ us hl => match us, hl with | [_, _, _, _, _, _], _ => rfl)
  obtain ⟨_, _, _, _, _, _, _, _, _, l_Copying_meet, e_Copying_meet⟩ := c.def_ 41 (d := d_Copying_meet) rfl
  have M_Copying_meet : Meth K (He.ga K "Copying") "meet" (He.ma K (He.ga K "Copying") "meet") := He.meth_ok (c.fact 114 rfl)
  have F_Copying_meet : Fun K "meet" "Copying.meet" st_Copying_meet (He.ma K (He.ga K "Copying") "meet") _ := fun_mk (st := st_Copying_meet) l_Copying_meet e_Copying_meet (He.meth_ok (x := "Copying") (m := "meet") (c.fact 114 rfl)).kp
  have b_Copying_meet := F_Copying_meet.binds (ps := ["self", "number", "meeting"]) (fun _ _ _ _ _ _ us hl => match us, hl with | [_, _, _], _ => rfl)
  obtain ⟨_, _, _, _, _, _, _, _, _, l_AllMet_at_first, e_AllMet_at_first⟩ := c.def_ 42 (d := d_AllMet_at_first) rfl
  have M_AllMet_at_first : Meth K (He.ga K "AllMet") "at_first" (He.ma K (He.ga K "AllMet") "at_first") := He.meth_ok (c.fact 115 rfl)
  have F_AllMet_at_first : Fun K "at_first" "Rule.at_first" st_Rule_at_first (He.ma K (He.ga K "AllMet") "at_first") _ := fun_mk (st := st_Rule_at_first) l_AllMet_at_first e_AllMet_at_first (He.meth_ok (x := "AllMet") (m := "at_first") (c.fact 115 rfl)).kp
  have b_AllMet_at_first := F_AllMet_at_first.binds (ps := ["self"]) (fun _ _ _ _ _ _ us hl => match us, hl with | [_], _ => rfl)
  obtain ⟨_, _, _, _, _, _, _, _, _, l_AllMet_share, e_AllMet_share⟩ := c.def_ 43 (d := d_AllMet_share) rfl
  have M_AllMet_share : Meth K (He.ga K "AllMet") "share" (He.ma K (He.ga K "AllMet") "share") := He.meth_ok (c.fact 116 rfl)
  have F_AllMet_share : Fun K "share" "AllMet.share" st_AllMet_share (He.ma K (He.ga K "AllMet") "share") _ := fun_mk (st := st_AllMet_share) l_AllMet_share e_AllMet_share (He.meth_ok (x := "AllMet") (m := "share") (c.fact 116 rfl)).kp
  have b_AllMet_share := F_AllMet_share.binds (ps := ["self", "letter", "giver", "other", "tokens"]) (fun _ _ _ _ _ _ us hl => match us, hl with | [_, _, _, _, _], _ => rfl)
  obtain ⟨_, _, _, _, _, _, _, _, _, l_AllMet_goes_with, e_AllMet_goes_with⟩ := c.def_ 44 (d := d_AllMet_goes_with) rfl
  have M_AllMet_goes_with : Meth K (He.ga K "AllMet") "goes_with" (He.ma K (He.ga K "AllMet") "goes_with") := He.meth_ok (c.fact 117 rfl)
  have F_AllMet_goes_with : Fun K "goes_with" "Rule.goes_with" st_Rule_goes_with (He.ma K (He.ga K "AllMet") "goes_with") _ := fun_mk (st := st_Rule_goes_with) l_AllMet_goes_with e_AllMet_goes_with (He.meth_ok (x := "AllMet") (m := "goes_with") (c.fact 117 rfl)).kp
  have b_AllMet_goes_with := F_AllMet_goes_with.binds (ps := ["self", "book"]) (fun _ _ _ _ _ _ us hl => match us, hl with | [_, _], _ => rfl)
  obtain ⟨_, _, _, _, _, _, _, _, _, l_Halves_at_first, e_Halves_at_first⟩ := c.def_ 45 (d := d_Halves_at_first) rfl
  have M_Halves_at_first : Meth K (He.ga K "Halves") "at_first" (He.ma K (He.ga K "Halves") "at_first") := He.meth_ok (c.fact 118 rfl)
  have F_Halves_at_first : Fun K "at_first" "Halves.at_first" st_Halves_at_first (He.ma K (He.ga K "Halves") "at_first") _ := fun_mk (st := st_Halves_at_first) l_Halves_at_first e_Halves_at_first (He.meth_ok (x := "Halves") (m := "at_first") (c.fact 118 rfl)).kp
  have b_Halves_at_first := F_Halves_at_first.binds (ps := ["self"]) (fun _ _ _ _ _ _ us hl => match us, hl with | [_], _ => rfl)
  obtain ⟨_, _, _, _, _, _, _, _, _, l_Halves_share, e_Halves_share⟩ := c.def_ 46 (d := d_Halves_share) rfl
  have M_Halves_share : Meth K (He.ga K "Halves") "share" (He.ma K (He.ga K "Halves") "share") := He.meth_ok (c.fact 119 rfl)
  have F_Halves_share : Fun K "share" "Halves.share" st_Halves_share (He.ma K (He.ga K "Halves") "share") _ := fun_mk (st := st_Halves_share) l_Halves_share e_Halves_share (He.meth_ok (x := "Halves") (m := "share") (c.fact 119 rfl)).kp
  have b_Halves_share := F_Halves_share.binds (ps := ["self", "letter", "giver", "other", "tokens"]) (fun _ _ _ _ _ _ us hl => match us, hl with | [_, _, _, _, _], _ => rfl)
  obtain ⟨_, _, _, _, _, _, _, _, _, l_Halves_goes_with, e_Halves_goes_with⟩ := c.def_ 47 (d := d_Halves_goes_with) rfl
  have M_Halves_goes_with : Meth K (He.ga K "Halves") "goes_with" (He.ma K (He.ga K "Halves") "goes_with") := He.meth_ok (c.fact 120 rfl)
  have F_Halves_goes_with : Fun K "goes_with" "Rule.goes_with" st_Rule_goes_with (He.ma K (He.ga K "Halves") "goes_with") _ := fun_mk (st := st_Rule_goes_with) l_Halves_goes_with e_Halves_goes_with (He.meth_ok (x := "Halves") (m := "goes_with") (c.fact 120 rfl)).kp
  have b_Halves_goes_with := F_Halves_goes_with.binds (ps := ["self", "book"]) (fun _ _ _ _ _ _ us hl => match us, hl with | [_, _], _ => rfl)
  obtain ⟨_, _, _, _, _, _, _, _, _, l_Nearer_at_first, e_Nearer_at_first⟩ := c.def_ 48 (d := d_Nearer_at_first) rfl
  have M_Nearer_at_first : Meth K (He.ga K "Nearer") "at_first" (He.ma K (He.ga K "Nearer") "at_first") := He.meth_ok (c.fact 121 rfl)
  have F_Nearer_at_first : Fun K "at_first" "Rule.at_first" st_Rule_at_first (He.ma K (He.ga K "Nearer") "at_first") _ := fun_mk (st := st_Rule_at_first) l_Nearer_at_first e_Nearer_at_first (He.meth_ok (x := "Nearer") (m := "at_first") (c.fact 121 rfl)).kp
  have b_Nearer_at_first := F_Nearer_at_first.binds (ps := ["self"]) (fun _ _ _ _ _ _ us hl => match us, hl with | [_], _ => rfl)
  obtain ⟨_, _, _, _, _, _, _, _, _, l_Nearer_share, e_Nearer_share⟩ := c.def_ 49 (d := d_Nearer_share) rfl
  have M_Nearer_share : Meth K (He.ga K "Nearer") "share" (He.ma K (He.ga K "Nearer") "share") := He.meth_ok (c.fact 122 rfl)
  have F_Nearer_share : Fun K "share" "Nearer.share" st_Nearer_share (He.ma K (He.ga K "Nearer") "share") _ := fun_mk (st := st_Nearer_share) l_Nearer_share e_Nearer_share (He.meth_ok (x := "Nearer") (m := "share") (c.fact 122 rfl)).kp
  have b_Nearer_share := F_Nearer_share.binds (ps := ["self", "letter", "giver", "other", "tokens"]) (fun _ _ _ _ _ _ us hl => match us, hl with | [_, _, _, _, _], _ => rfl)
  obtain ⟨_, _, _, _, _, _, _, _, _, l_Nearer_goes_with, e_Nearer_goes_with⟩ := c.def_ 50 (d := d_Nearer_goes_with) rfl
  have M_Nearer_goes_with : Meth K (He.ga K "Nearer") "goes_with" (He.ma K (He.ga K "Nearer") "goes_with") := He.meth_ok (c.fact 123 rfl)
  have F_Nearer_goes_with : Fun K "goes_with" "Nearer.goes_with" st_Nearer_goes_with (He.ma K (He.ga K "Nearer") "goes_with") _ := fun_mk (st := st_Nearer_goes_with) l_Nearer_goes_with e_Nearer_goes_with (He.meth_ok (x := "Nearer") (m := "goes_with") (c.fact 123 rfl)).kp
  have b_Nearer_goes_with := F_Nearer_goes_with.binds (ps := ["self", "book"]) (fun _ _ _ _ _ _ us hl => match us, hl with | [_, _], _ => rfl)
  obtain ⟨_, _, _, _, _, _, _, _, _, l_Copying_init, e_Copying_init⟩ := c.def_ 51 (d := d_Copying_init) rfl
  have M_Copying_init : Meth K (He.ga K "Copying") "__init__" (He.ma K (He.ga K "Copying") "__init__") := He.meth_ok (c.fact 124 rfl)
  have F_Copying_init : Fun K "__init__" "Copying.__init__" st_Copying_init (He.ma K (He.ga K "Copying") "__init__") _ := fun_mk (st := st_Copying_init) l_Copying_init e_Copying_init (He.meth_ok (x := "Copying") (m := "__init__") (c.fact 124 rfl)).kp
  have b_Copying_init := F_Copying_init.binds (ps := ["self", "book", "letters", "rule"]) (fun _ _ _ _ _ _ us hl => match us, hl with | [_, _, _, _], _ => rfl)
  obtain ⟨_, _, _, _, _, _, _, _, _, l_Halves_init, e_Halves_init⟩ := c.def_ 52 (d := d_Halves_init) rfl
  have M_Halves_init : Meth K (He.ga K "Halves") "__init__" (He.ma K (He.ga K "Halves") "__init__") := He.meth_ok (c.fact 125 rfl)
  have F_Halves_init : Fun K "__init__" "Halves.__init__" st_Halves_init (He.ma K (He.ga K "Halves") "__init__") _ := fun_mk (st := st_Halves_init) l_Halves_init e_Halves_init (He.meth_ok (x := "Halves") (m := "__init__") (c.fact 125 rfl)).kp
  have b_Halves_init := F_Halves_init.binds (ps := ["self", "tokens"]) (fun _ _ _ _ _ _ us hl => match us, hl with | [_, _], _ => rfl)
  obtain ⟨_, _, _, _, _, _, _, _, _, l_Nearer_init, e_Nearer_init⟩ := c.def_ 53 (d := d_Nearer_init) rfl
  have M_Nearer_init : Meth K (He.ga K "Nearer") "__init__" (He.ma K (He.ga K "Nearer") "__init__") := He.meth_ok (c.fact 126 rfl)
  have F_Nearer_init : Fun K "__init__" "Nearer.__init__" st_Nearer_init (He.ma K (He.ga K "Nearer") "__init__") _ := fun_mk (st := st_Nearer_init) l_Nearer_init e_Nearer_init (He.meth_ok (x := "Nearer") (m := "__init__") (c.fact 126 rfl)).kp
  have b_Nearer_init := F_Nearer_init.binds (ps := ["self", "past"]) (fun _ _ _ _ _ _ us hl => match us, hl with | [_, _], _ => rfl)
  have e := hfa.symm.trans (He.glo_ok X G (c.fact 76 (f := .glo "law") rfl))
  cases e
  refine ⟨PySem.W.fnOf "law" "law" (defArgs st_law) (defBody st_law) (defScope st_law) .none kV doc pm an cdv ct, fun s v => .of_eq rfl, fun base Xb Gb => ?_⟩
  have B : Bt mg := ⟨He.free_ok X G (x := "len") (c.fact 82 rfl), He.free_ok X G (x := "isinstance") (c.fact 83 rfl), He.free_ok X G (x := "all") (c.fact 84 rfl), He.free_ok X G (x := "min") (c.fact 85 rfl), He.free_ok X G (x := "max") (c.fact 86 rfl), He.free_ok X G (x := "sorted") (c.fact 87 rfl), He.free_ok X G (x := "tuple") (c.fact 88 rfl), He.free_ok X G (x := "list") (c.fact 89 rfl), He.free_ok X G (x := "int") (c.fact 90 rfl), He.free_ok X G (x := "bool") (c.fact 91 rfl), He.free_ok X G (x := "range") (c.fact 92 rfl), He.free_ok X G (x := "enumerate") (c.fact 93 rfl)⟩
  have G0 : Gk mg := ⟨He.int_ok X G (x := "MOST_TIME") (i := 1000000000) (c.fact 94 rfl), He.int_ok X G (x := "MOST_WALKERS") (i := 12) (c.fact 95 rfl), He.int_ok X G (x := "MOST_ROOM") (i := 99) (c.fact 96 rfl), He.int_ok X G (x := "MOST_MEETINGS") (i := 60) (c.fact 97 rfl), He.int_ok X G (x := "MOST_MANY") (i := 99) (c.fact 98 rfl), He.int_ok X G (x := "MOST_TOKENS") (i := 64) (c.fact 99 rfl)⟩
  have C_Copying : Cls K (He.ga K "Copying") := He.cls_ok (c.fact 100 rfl)
  have C_AllMet : Cls K (He.ga K "AllMet") := He.cls_ok (c.fact 101 rfl)
  have C_Halves : Cls K (He.ga K "Halves") := He.cls_ok (c.fact 102 rfl)
  have C_Nearer : Cls K (He.ga K "Nearer") := He.cls_ok (c.fact 103 rfl)
  have N_tokens : NoAttr K (He.ga K "Halves") "tokens" := He.noat_ok (c.fact 110 rfl)
  have N_met : NoAttr K (He.ga K "Nearer") "met" := He.noat_ok (c.fact 111 rfl)
  have hC : CpC K (He.ga K "Copying") := ⟨C_Copying, He.noat_ok (c.fact 104 rfl), He.noat_ok (c.fact 105 rfl), He.noat_ok (c.fact 106 rfl), He.noat_ok (c.fact 107 rfl), He.noat_ok (c.fact 108 rfl), He.noat_ok (c.fact 109 rfl)⟩
  have K_Copying : Mk K (He.ga K "Copying") (He.ma K (He.ga K "Copying") "__init__") := He.mkr_ok (c.fact 127 rfl)
  have K_Halves : Mk K (He.ga K "Halves") (He.ma K (He.ga K "Halves") "__init__") := He.mkr_ok (c.fact 128 rfl)
  have K_Nearer : Mk K (He.ga K "Nearer") (He.ma K (He.ga K "Nearer") "__init__") := He.mkr_ok (c.fact 129 rfl)
  have c_AllMet : MkC0 K mg "AllMet" (He.ga K "AllMet") := ⟨mkoB_ok mk0, He.glo_ok X G (c.fact 79 rfl)⟩
  have c_l_purse : Cl P w K mg base "_law_purse" 1 ["_law_script", "_law_k"] (sp_purse K) (He.ga K "_law_purse") _ := ⟨ok_purse F_l_purse B, He.glo_ok X G (c.fact 36 rfl), F_l_purse.kp, b_l_purse⟩
  have c_l_take : Cl P w K mg base "_law_take" 1 ["_law_purse_here", "_law_many"] sp_take (He.ga K "_law_take") _ := ⟨ok_take F_l_take B, He.glo_ok X G (c.fact 38 rfl), F_l_take.kp, b_l_take⟩
  have c_l_far : Cl P w K mg base "_law_far" 2 ["_law_purse_here"] sp_far (He.ga K "_law_far") _ := ⟨ok_far F_l_far B c_l_take, He.glo_ok X G (c.fact 40 rfl), F_l_far.kp, b_l_far⟩
  have c_l_step : Cl P w K mg base "_law_step" 2 ["_law_purse_here"] sp_step (He.ga K "_law_step") _ := ⟨ok_step F_l_step B c_l_take, He.glo_ok X G (c.fact 44 rfl), F_l_step.kp, b_l_step⟩
  have c_l_rooms : Cl P w K mg base "_law_rooms" 2 ["_law_purse_here", "_law_walkers"] sp_rooms (He.ga K "_law_rooms") _ := ⟨ok_rooms F_l_rooms B c_l_take, He.glo_ok X G (c.fact 42 rfl), F_l_rooms.kp, b_l_rooms⟩
  have c_l_meetings : Cl P w K mg base "_law_meetings" 3 ["_law_purse_here", "_law_walkers", "_law_most"] sp_meetings (He.ga K "_law_meetings") _ := ⟨ok_meetings F_l_meetings B c_l_take c_l_step, He.glo_ok X G (c.fact 46 rfl), F_l_meetings.kp, b_l_meetings⟩
  have c_l_book : Cl P w K mg base "_law_book" 4 ["_law_purse_here", "_law_most_walkers", "_law_most_meetings"] sp_book (He.ga K "_law_book") _ := ⟨ok_book F_l_book B c_l_take c_l_rooms c_l_meetings, He.glo_ok X G (c.fact 48 rfl), F_l_book.kp, b_l_book⟩
  have c_l_past : Cl P w K mg base "_law_past" 4 ["_law_purse_here", "_law_walkers"] sp_past (He.ga K "_law_past") _ := ⟨ok_past F_l_past B c_l_take c_l_rooms c_l_meetings, He.glo_ok X G (c.fact 60 rfl), F_l_past.kp, b_l_past⟩
  have c_l_time : Cl P w K mg base "_law_time" 3 ["_law_purse_here", "_law_book_here", "_law_later"] sp_time (He.ga K "_law_time") _ := ⟨ok_time F_l_time B c_l_take c_l_far, He.glo_ok X G (c.fact 50 rfl), F_l_time.kp, b_l_time⟩
  have c_l_letter : Cl P w K mg base "_law_letter" 4 ["_law_purse_here", "_law_book_here"] sp_letter (He.ga K "_law_letter") _ := ⟨ok_letter F_l_letter B c_l_take c_l_time, He.glo_ok X G (c.fact 52 rfl), F_l_letter.kp, b_l_letter⟩
  have c_l_letters : Cl P w K mg base "_law_letters" 5 ["_law_purse_here", "_law_book_here"] sp_letters (He.ga K "_law_letters") _ := ⟨ok_letters F_l_letters B c_l_take c_l_letter, He.glo_ok X G (c.fact 58 rfl), F_l_letters.kp, b_l_letters⟩
  have c_is_whole : Cl P w K mg base "is_whole" 1 ["thing"] sp_whole (He.ga K "is_whole") _ := ⟨ok_iswhole F_is_whole B, He.glo_ok X G (c.fact 0 rfl), F_is_whole.kp, b_is_whole⟩
  have c_is_within : Cl P w K mg base "is_within" 2 ["thing", "low", "high"] sp_within (He.ga K "is_within") _ := ⟨ok_within F_is_within B c_is_whole, He.glo_ok X G (c.fact 2 rfl), F_is_within.kp, b_is_within⟩
  have c_are_rooms : Cl P w K mg base "are_rooms" 3 ["thing"] (sp_arerooms K) (He.ga K "are_rooms") _ := ⟨ok_arerooms F_are_rooms B G0 c_is_within, He.glo_ok X G (c.fact 4 rfl), F_are_rooms.kp, b_are_rooms⟩
  have c_is_meeting : Cl P w K mg base "is_meeting" 3 ["thing", "walkers"] sp_ismeeting (He.ga K "is_meeting") _ := ⟨ok_ismeeting F_is_meeting B G0 c_is_within, He.glo_ok X G (c.fact 6 rfl), F_is_meeting.kp, b_is_meeting⟩
  have c_put_right : Cl P w K mg base "put_right" 1 ["meeting"] sp_putright (He.ga K "put_right") _ := ⟨ok_putright F_put_right B, He.glo_ok X G (c.fact 8 rfl), F_put_right.kp, b_put_right⟩
  have c_by_when : Cl P w K mg base "by_when" 1 ["meeting"] sp_bywhen (He.ga K "by_when") _ := ⟨ok_bywhen F_by_when, He.glo_ok X G (c.fact 12 rfl), F_by_when.kp, b_by_when⟩
  have c_both_ways : Cl P w K mg base "both_ways" 1 ["meeting"] sp_bothways (He.ga K "both_ways") _ := ⟨ok_bothways F_both_ways, He.glo_ok X G (c.fact 18 rfl), F_both_ways.kp, b_both_ways⟩
  have c_is_number_of : Cl P w K mg base "is_number_of" 3 ["book", "thing"] sp_isnumber (He.ga K "is_number_of") _ := ⟨ok_isnumber F_is_number_of B c_is_within, He.glo_ok X G (c.fact 16 rfl), F_is_number_of.kp, b_is_number_of⟩
  have c_need_meeting : Cl P w K mg base "need_meeting" 4 ["book", "meeting"] sp_needmeeting (He.ga K "need_meeting") _ := ⟨ok_needmeeting F_need_meeting c_is_number_of, He.glo_ok X G (c.fact 22 rfl), F_need_meeting.kp, b_need_meeting⟩
  have c_meets_two_at_once : Cl P w K mg base "meets_two_at_once" 1 ["meetings"] sp_meetstwo (He.ga K "meets_two_at_once") _ := ⟨ok_meetstwo F_meets_two_at_once, He.glo_ok X G (c.fact 10 rfl), F_meets_two_at_once.kp, b_meets_two_at_once⟩
  have c_made_book : Cl P w K mg base "made_book" 4 ["rooms", "meetings"] (sp_madebook K) (He.ga K "made_book") _ := ⟨ok_madebook F_made_book B G0 c_are_rooms c_is_meeting c_meets_two_at_once c_put_right c_by_when, He.glo_ok X G (c.fact 14 rfl), F_made_book.kp, b_made_book⟩
  have c_without : Cl P w K mg base "without" 5 ["book", "meeting"] sp_without (He.ga K "without") _ := ⟨ok_without F_without B c_need_meeting c_made_book, He.glo_ok X G (c.fact 24 rfl), F_without.kp, b_without⟩
  have c_comings : Cl P w K mg base "comings" 2 ["book", "sender", "since"] sp_comings (He.ga K "comings") _ := ⟨ok_comings F_comings B c_both_ways, He.glo_ok X G (c.fact 26 rfl), F_comings.kp, b_comings⟩
  have c_chain_by : Cl P w K mg base "chain_by" 1 ["book", "by", "walker"] sp_chain (He.ga K "chain_by") _ := ⟨ok_chain F_chain_by, He.glo_ok X G (c.fact 28 rfl), F_chain_by.kp, b_chain_by⟩
  have c_earliest : Cl P w K mg base "earliest" 3 ["book", "letter"] sp_earliest (He.ga K "earliest") _ := ⟨ok_earliest F_earliest c_comings c_chain_by, He.glo_ok X G (c.fact 30 rfl), F_earliest.kp, b_earliest⟩
  have c_lost : Cl P w K mg base "lost" 6 ["book", "letters", "meeting"] sp_lost (He.ga K "lost") _ := ⟨ok_lost F_lost B c_without c_earliest, He.glo_ok X G (c.fact 32 rfl), F_lost.kp, b_lost⟩
  have c_l_whole : Cl P w K mg base "_law_whole" 1 ["_law_thing"] sp_whole (He.ga K "_law_whole") _ := ⟨ok_lwhole F_l_whole B, He.glo_ok X G (c.fact 54 rfl), F_l_whole.kp, b_l_whole⟩
  have c_l_numbers_are : Cl P w K mg base "_law_numbers_are" 2 ["_law_found", "_law_due"] sp_numbers (He.ga K "_law_numbers_are") _ := ⟨ok_lnumbers F_l_numbers_are B c_l_whole, He.glo_ok X G (c.fact 66 rfl), F_l_numbers_are.kp, b_l_numbers_are⟩
  have c_l_times : Cl P w K mg base "_law_times" 1 ["_law_book_here", "_law_sender", "_law_since"] sp_ltimes (He.ga K "_law_times") _ := ⟨ok_ltimes F_l_times B, He.glo_ok X G (c.fact 56 rfl), F_l_times.kp, b_l_times⟩
  have c_l_bounded : Cl P w K mg base "_law_bounded" 2 ["_law_book_here", "_law_letter_here", "_law_rule_here", "_law_row", "_law_tokens"] sp_bounded (He.ga K "_law_bounded") _ := ⟨ok_lbounded F_l_bounded B c_l_whole c_l_times, He.glo_ok X G (c.fact 68 rfl), F_l_bounded.kp, b_l_bounded⟩
  have c_counts_of : Cl P w K mg base "counts_of" 1 ["book"] sp_counts (He.ga K "counts_of") _ := ⟨ok_counts F_counts_of, He.glo_ok X G (c.fact 34 rfl), F_counts_of.kp, b_counts_of⟩
  have m_room : Mth P w K mg base (He.ga K "Copying") "has_room" 1 ["self", "number", "walker"] (sp_hasroom (He.ga K "Copying")) (He.ma K (He.ga K "Copying") "has_room") _ := ⟨M_Copying_has_room, ok_hasroom F_Copying_has_room B hC, b_Copying_has_room⟩
  have r_AllMet := ri_A (He.ga K "AllMet")
  have m_AllMet_at_first : Mth P w K mg base (He.ga K "AllMet") "at_first" 1 ["self"] (sp_atfirst (raA (He.ga K "AllMet"))) (He.ma K (He.ga K "AllMet") "at_first") _ := ⟨M_AllMet_at_first, (ok_ruleFirst F_AllMet_at_first).imp first_A, b_AllMet_at_first⟩
  have m_AllMet_share : Mth P w K mg base (He.ga K "AllMet") "share" 1 ["self", "letter", "giver", "other", "tokens"] (sp_share (raA (He.ga K "AllMet"))) (He.ma K (He.ga K "AllMet") "share") _ := ⟨M_AllMet_share, ok_allShare F_AllMet_share, b_AllMet_share⟩
  have m_AllMet_goes_with : Mth P w K mg base (He.ga K "AllMet") "goes_with" 1 ["self", "book"] (sp_goes (raA (He.ga K "AllMet"))) (He.ma K (He.ga K "AllMet") "goes_with") _ := ⟨M_AllMet_goes_with, (ok_ruleGoes F_AllMet_goes_with).imp goes_A, b_AllMet_goes_with⟩
  have m_copied_AllMet : Mth P w K mg base (He.ga K "Copying") "copied" 2 ["self", "meeting", "when", "number", "giver", "other"] (sp_copied (raA (He.ga K "AllMet")) (He.ga K "Copying")) (He.ma K (He.ga K "Copying") "copied") _ := ⟨M_Copying_copied, ok_copied F_Copying_copied hC C_AllMet r_AllMet m_AllMet_share m_room, b_Copying_copied⟩
  have m_meet_AllMet : Mth P w K mg base (He.ga K "Copying") "meet" 3 ["self", "number", "meeting"] (sp_meet (raA (He.ga K "AllMet")) (He.ga K "Copying")) (He.ma K (He.ga K "Copying") "meet") _ := ⟨M_Copying_meet, ok_meet F_Copying_meet B hC c_both_ways m_copied_AllMet, b_Copying_meet⟩
  have c_Copying_AllMet : MkC P w K mg base "Copying" (He.ga K "Copying") 2 ["self", "book", "letters", "rule"] (sp_cinit (raA (He.ga K "AllMet")) (He.ga K "Copying")) (He.ma K (He.ga K "Copying") "__init__") _ := ⟨K_Copying, ok_cinit F_Copying_init B hC C_AllMet r_AllMet m_AllMet_at_first, He.glo_ok X G (c.fact 78 rfl), b_Copying_init⟩
  have run_AllMet := ok_run (P := P) (w := w) (mg := mg) (base := base) F_run B hC C_AllMet r_AllMet m_AllMet_goes_with c_Copying_AllMet m_meet_AllMet
  have r_Halves := ri_H (He.ga K "Halves")
  have m_Halves_at_first : Mth P w K mg base (He.ga K "Halves") "at_first" 1 ["self"] (sp_atfirst (raH (He.ga K "Halves"))) (He.ma K (He.ga K "Halves") "at_first") _ := ⟨M_Halves_at_first, ok_halfFirst F_Halves_at_first C_Halves N_tokens, b_Halves_at_first⟩
  have m_Halves_share : Mth P w K mg base (He.ga K "Halves") "share" 1 ["self", "letter", "giver", "other", "tokens"] (sp_share (raH (He.ga K "Halves"))) (He.ma K (He.ga K "Halves") "share") _ := ⟨M_Halves_share, ok_halfShare F_Halves_share, b_Halves_share⟩
  have m_Halves_goes_with : Mth P w K mg base (He.ga K "Halves") "goes_with" 1 ["self", "book"] (sp_goes (raH (He.ga K "Halves"))) (He.ma K (He.ga K "Halves") "goes_with") _ := ⟨M_Halves_goes_with, (ok_ruleGoes F_Halves_goes_with).imp goes_H, b_Halves_goes_with⟩
  have m_copied_Halves : Mth P w K mg base (He.ga K "Copying") "copied" 2 ["self", "meeting", "when", "number", "giver", "other"] (sp_copied (raH (He.ga K "Halves")) (He.ga K "Copying")) (He.ma K (He.ga K "Copying") "copied") _ := ⟨M_Copying_copied, ok_copied F_Copying_copied hC C_Halves r_Halves m_Halves_share m_room, b_Copying_copied⟩
  have m_meet_Halves : Mth P w K mg base (He.ga K "Copying") "meet" 3 ["self", "number", "meeting"] (sp_meet (raH (He.ga K "Halves")) (He.ga K "Copying")) (He.ma K (He.ga K "Copying") "meet") _ := ⟨M_Copying_meet, ok_meet F_Copying_meet B hC c_both_ways m_copied_Halves, b_Copying_meet⟩
  have c_Copying_Halves : MkC P w K mg base "Copying" (He.ga K "Copying") 2 ["self", "book", "letters", "rule"] (sp_cinit (raH (He.ga K "Halves")) (He.ga K "Copying")) (He.ma K (He.ga K "Copying") "__init__") _ := ⟨K_Copying, ok_cinit F_Copying_init B hC C_Halves r_Halves m_Halves_at_first, He.glo_ok X G (c.fact 78 rfl), b_Copying_init⟩
  have run_Halves := ok_run (P := P) (w := w) (mg := mg) (base := base) F_run B hC C_Halves r_Halves m_Halves_goes_with c_Copying_Halves m_meet_Halves
  have r_Nearer := ri_N (He.ga K "Nearer")
  have m_Nearer_at_first : Mth P w K mg base (He.ga K "Nearer") "at_first" 1 ["self"] (sp_atfirst (raN (He.ga K "Nearer"))) (He.ma K (He.ga K "Nearer") "at_first") _ := ⟨M_Nearer_at_first, (ok_ruleFirst F_Nearer_at_first).imp first_N, b_Nearer_at_first⟩
  have m_Nearer_share : Mth P w K mg base (He.ga K "Nearer") "share" 1 ["self", "letter", "giver", "other", "tokens"] (sp_share (raN (He.ga K "Nearer"))) (He.ma K (He.ga K "Nearer") "share") _ := ⟨M_Nearer_share, ok_nearShare F_Nearer_share C_Nearer N_met, b_Nearer_share⟩
  have m_Nearer_goes_with : Mth P w K mg base (He.ga K "Nearer") "goes_with" 1 ["self", "book"] (sp_goes (raN (He.ga K "Nearer"))) (He.ma K (He.ga K "Nearer") "goes_with") _ := ⟨M_Nearer_goes_with, ok_nearGoes F_Nearer_goes_with B C_Nearer N_met, b_Nearer_goes_with⟩
  have m_copied_Nearer : Mth P w K mg base (He.ga K "Copying") "copied" 2 ["self", "meeting", "when", "number", "giver", "other"] (sp_copied (raN (He.ga K "Nearer")) (He.ga K "Copying")) (He.ma K (He.ga K "Copying") "copied") _ := ⟨M_Copying_copied, ok_copied F_Copying_copied hC C_Nearer r_Nearer m_Nearer_share m_room, b_Copying_copied⟩
  have m_meet_Nearer : Mth P w K mg base (He.ga K "Copying") "meet" 3 ["self", "number", "meeting"] (sp_meet (raN (He.ga K "Nearer")) (He.ga K "Copying")) (He.ma K (He.ga K "Copying") "meet") _ := ⟨M_Copying_meet, ok_meet F_Copying_meet B hC c_both_ways m_copied_Nearer, b_Copying_meet⟩
  have c_Copying_Nearer : MkC P w K mg base "Copying" (He.ga K "Copying") 2 ["self", "book", "letters", "rule"] (sp_cinit (raN (He.ga K "Nearer")) (He.ga K "Copying")) (He.ma K (He.ga K "Copying") "__init__") _ := ⟨K_Copying, ok_cinit F_Copying_init B hC C_Nearer r_Nearer m_Nearer_at_first, He.glo_ok X G (c.fact 78 rfl), b_Copying_init⟩
  have run_Nearer := ok_run (P := P) (w := w) (mg := mg) (base := base) F_run B hC C_Nearer r_Nearer m_Nearer_goes_with c_Copying_Nearer m_meet_Nearer
  have c_run : Cl P w K mg base "run" 4 ["book", "letters", "rule"] (sp_run (RuleAt (He.ga K "AllMet") (He.ga K "Halves") (He.ga K "Nearer"))) (He.ga K "run") _ := ⟨run_all run_AllMet run_Halves run_Nearer, He.glo_ok X G (c.fact 20 rfl), F_run.kp, b_run⟩
  have c_Halves : MkC P w K mg base "Halves" (He.ga K "Halves") 3 ["self", "tokens"] (sp_hinit (He.ga K "Halves")) (He.ma K (He.ga K "Halves") "__init__") _ := ⟨K_Halves, ok_halfInit F_Halves_init B G0 C_Halves N_tokens c_is_within, He.glo_ok X G (c.fact 80 rfl), b_Halves_init⟩
  have c_Nearer : MkC P w K mg base "Nearer" (He.ga K "Nearer") 2 ["self", "past"] (sp_ninit (He.ga K "Nearer")) (He.ma K (He.ga K "Nearer") "__init__") _ := ⟨K_Nearer, ok_nearInit F_Nearer_init C_Nearer N_met c_counts_of, He.glo_ok X G (c.fact 81 rfl), b_Nearer_init⟩
  have c_l_rule : Cl P w K mg base "_law_rule" 5 ["_law_purse_here", "_law_walkers"] sp_lrule (He.ga K "_law_rule") _ := ⟨ok_lrule F_l_rule B c_l_take c_l_past, He.glo_ok X G (c.fact 62 rfl), F_l_rule.kp, b_l_rule⟩
  have c_l_made : Cl P w K mg base "_law_made" 5 ["_law_rule_here"] (sp_lmade (He.ga K "AllMet") (He.ga K "Halves") (He.ga K "Nearer")) (He.ga K "_law_made") _ := ⟨ok_lmade F_l_made c_AllMet c_Halves c_Nearer, He.glo_ok X G (c.fact 64 rfl), F_l_made.kp, b_l_made⟩
  have c_l_run_right : Cl P w K mg base "_law_run_right" 6 ["_law_book_here", "_law_letters_here", "_law_rule_here"] sp_lright (He.ga K "_law_run_right") _ := ⟨ok_lright F_l_run_right B c_run c_l_made c_l_bounded, He.glo_ok X G (c.fact 70 rfl), F_l_run_right.kp, b_l_run_right⟩
  have c_l_come : Cl P w K mg base "_law_come" 5 ["_law_book_here", "_law_letters_here"] sp_lcome (He.ga K "_law_come") _ := ⟨ok_lcome F_l_come B c_run c_AllMet, He.glo_ok X G (c.fact 72 rfl), F_l_come.kp, b_l_come⟩
  have c_l_missed_right : Cl P w K mg base "_law_missed_right" 7 ["_law_book_here", "_law_letters_here", "_law_at"] sp_lmissed (He.ga K "_law_missed_right") _ := ⟨ok_lmissed F_l_missed_right B c_l_come c_lost c_l_numbers_are, He.glo_ok X G (c.fact 74 rfl), F_l_missed_right.kp, b_l_missed_right⟩
  exact ok_law F_law B c_l_purse c_l_book c_l_letters c_l_rule c_l_run_right c_l_missed_right c_l_take
end Sm
open PySem PySem.W PySem.Calls PyProof.Rows
theorem PySem.Challenge.cw_satchelmeet_k93_whole_rules_and_missed_holds : PySem.Challenge.rw_satchelmeet_k93_whole_rules_and_missed.Holds := by
  w_on; o_law
  refine HandSHeadRun.head_any (r := OpenLaw.row PySem.Challenge.rw_satchelmeet_k93_whole_rules_and_missed) (q := view (OpenLaw.row PySem.Challenge.rw_satchelmeet_k93_whole_rules_and_missed).prog [62]) (H := Sm.hk) (ob := Sm.ob) (M := 4000) (loose := Sm.nmL) (d := HandSHeadRun.topDef (OpenLaw.row PySem.Challenge.rw_satchelmeet_k93_whole_rules_and_missed).prog 62) (kwd := []) Sm.ob_eq
    (by kernel_rfl) (fun s => by kernel_rfl) Sm.run (by kernel_rfl) (by kernel_rfl) (by kernel_rfl) (by rfl) (by first | assumption | decide +kernel) (by decide +kernel) ⟨rfl, rfl, rfl, rfl, rfl, by decide +kernel⟩ ?hw ?hc
  case hw => w_witness2
  case hc =>
    refine L2.walk_ofE (l := PySem.Challenge.rw_satchelmeet_k93_whole_rules_and_missed) (n := 63) (k := 8) (x := "_law_script_here") (CX := L2.CX0) rfl (by decide) (by kernel_rfl) ⟨rfl, by decide, by decide⟩ ?F (fun _ _ _ _ z => z)
    intro w mg fa h Y G hmg0
    obtain ⟨K, KX, m0, c⟩ := Y
    have hmg : mg ("law" : PySem.Str) = some (.ref fa) := by
      have e : (HandSHeadRun.topDef (OpenLaw.row PySem.Challenge.rw_satchelmeet_k93_whole_rules_and_missed).prog 62).name = ("law" : PySem.Str) := by kernel_rfl
      rw [← e]
      exact hmg0
    obtain ⟨fd, hb, hF⟩ := Sm.facts (P := (PySem.Challenge.rw_satchelmeet_k93_whole_rules_and_missed).prog) (w := w) KX G hmg m0 c
    exact ⟨K, fd, Sm.sp_law K, KX, hb, fun H a ns hl _ hS => ⟨a, ns, rfl, hS, hl, fun _ => rfl⟩, hF⟩
