import PyProof.Rows.All
import Wide.All
import OpenK.AllK
import Wide.FinOn
import HandS.ForMost
import HandS.TupMul
import KE.GoesMore
import HandS.IsInst
import HandS.Zip
import HandS.TupAny
import HandS.Style
import HandS.Codes
import HandS.Conv
import PySem.Challenge.RW_bymiddles_k09_whole_served_or_late
set_option Elab.async false
set_option linter.all false
set_option maxRecDepth 100000
set_option maxHeartbeats 8000000
/-! Wm: the plain mathematics of runs, hours and lateness. No program in sight. -/
namespace K9

def lotAt (lot : List (Option Int)) (w : Nat) : Option Int := (lot[w]?).getD none
def fsW (ws : List (Int × Int)) (w : Nat) : Int := (ws.getD w (0, 0)).1
def lsW (ws : List (Int × Int)) (w : Nat) : Int := (ws.getD w (0, 0)).2
def mx (a b : Int) : Int := if b > a then b else a

theorem mx_ge_l (a b : Int) : a ≤ mx a b := by unfold mx; split <;> omega
theorem mx_ge_r (a b : Int) : b ≤ mx a b := by unfold mx; split <;> omega
theorem mx_self (f : Int) : mx f f = f := by unfold mx; exact if_neg (by omega)
theorem mx_lt {c f : Int} (h : c < f) : mx c f = f := by unfold mx; exact if_pos h
theorem mx_nlt {c f : Int} (h : ¬ c < f) : mx c f = c := by unfold mx; exact if_neg h
theorem mx_mono {a b : Int} (f : Int) (h : a ≤ b) : mx a f ≤ mx b f := by unfold mx; split <;> split <;> omega

def ranFrom (ws : List (Int × Int)) (lot : List (Option Int)) : Int → List Nat → List (Nat × Int × Int)
  | _, [] => []
  | c, w :: r => match lotAt lot w with
    | none => ranFrom ws lot c r
    | some d => (w, mx c (fsW ws w), mx c (fsW ws w) + d) :: ranFrom ws lot (mx c (fsW ws w) + d) r

theorem ranFrom_none {ws : List (Int × Int)} {lot : List (Option Int)} {c : Int} {w : Nat} {r : List Nat} (h : lotAt lot w = none) :
    ranFrom ws lot c (w :: r) = ranFrom ws lot c r := by
  rw [ranFrom, h]
theorem ranFrom_some {ws : List (Int × Int)} {lot : List (Option Int)} {c d : Int} {w : Nat} {r : List Nat} (h : lotAt lot w = some d) :
    ranFrom ws lot c (w :: r) = (w, mx c (fsW ws w), mx c (fsW ws w) + d) :: ranFrom ws lot (mx c (fsW ws w) + d) r := by
  rw [ranFrom, h]
theorem ranFrom_len {ws : List (Int × Int)} {lot : List (Option Int)} : ∀ (r : List Nat) (c : Int), (ranFrom ws lot c r).length ≤ r.length
  | [], _ => Nat.le_refl _
  | w :: r, c => by
    cases h : lotAt lot w with
    | none =>
      rw [ranFrom_none h, List.length_cons]
      exact Nat.le_succ_of_le (ranFrom_len r c)
    | some d =>
      rw [ranFrom_some h, List.length_cons, List.length_cons]
      exact Nat.succ_le_succ (ranFrom_len r _)
/-- whoever stands in a run stands in the row -/
theorem ranFrom_mem {ws : List (Int × Int)} {lot : List (Option Int)} {t : Nat × Int × Int} : ∀ (r : List Nat) (c : Int), t ∈ ranFrom ws lot c r → t.1 ∈ r
  | [], _, h => by rw [ranFrom] at h; cases h
  | w :: r, c, h => by
    cases e : lotAt lot w with
    | none =>
      rw [ranFrom_none e] at h
      exact List.mem_cons_of_mem _ (ranFrom_mem r c h)
    | some d =>
      rw [ranFrom_some e] at h
      rcases List.mem_cons.mp h with q | q
      · rw [q]
        exact List.mem_cons_self
      · exact List.mem_cons_of_mem _ (ranFrom_mem r _ q)

/-- by how much each one ends behind its last hour -/
def hoursOf (ws : List (Int × Int)) (run : List (Nat × Int × Int)) : List Int := run.map fun t => t.2.2 - lsW ws t.1
def hrs (ws : List (Int × Int)) (lot : List (Option Int)) (c : Int) (r : List Nat) : List Int := hoursOf ws (ranFrom ws lot c r)
theorem hrs_nil (ws : List (Int × Int)) (lot : List (Option Int)) (c : Int) : hrs ws lot c [] = [] := rfl
theorem hrs_none {ws : List (Int × Int)} {lot : List (Option Int)} {c : Int} {w : Nat} {r : List Nat} (h : lotAt lot w = none) :
    hrs ws lot c (w :: r) = hrs ws lot c r := by
  unfold hrs
  rw [ranFrom_none h]
theorem hrs_some {ws : List (Int × Int)} {lot : List (Option Int)} {c d : Int} {w : Nat} {r : List Nat} (h : lotAt lot w = some d) :
    hrs ws lot c (w :: r) = (mx c (fsW ws w) + d - lsW ws w) :: hrs ws lot (mx c (fsW ws w) + d) r := by
  unfold hrs hoursOf
  rw [ranFrom_some h]
  rfl

/-- shorter or away: never later -/
theorem hrs_mono {ws : List (Int × Int)} {lot' lot : List (Option Int)} : ∀ (row : List Nat) (c' c : Int), c' ≤ c →
    (∀ w, w ∈ row → ∀ a', lotAt lot' w = some a' → ∃ a, lotAt lot w = some a ∧ a' ≤ a) → (∀ w, w ∈ row → ∀ a, lotAt lot w = some a → 0 ≤ a) →
    ∀ h', h' ∈ hrs ws lot' c' row → ∃ h, h ∈ hrs ws lot c row ∧ h' ≤ h
  | [], _, _, _, _, _, h', hm => by rw [hrs_nil] at hm; cases hm
  | w :: r, c', c, hc, hl, hp, h', hm => by
    have hl' := fun v hv => hl v (List.mem_cons_of_mem _ hv)
    have hp' := fun v hv => hp v (List.mem_cons_of_mem _ hv)
    cases e' : lotAt lot' w with
    | none =>
      rw [hrs_none e'] at hm
      cases e : lotAt lot w with
      | none =>
        rw [hrs_none e]
        exact hrs_mono r c' c hc hl' hp' h' hm
      | some d =>
        have d0 := hp w List.mem_cons_self d e
        have m1 := mx_ge_l c (fsW ws w)
        obtain ⟨h, h1, h2⟩ := hrs_mono r c' (mx c (fsW ws w) + d) (by omega) hl' hp' h' hm
        rw [hrs_some e]
        exact ⟨h, List.mem_cons_of_mem _ h1, h2⟩
    | some d' =>
      obtain ⟨d, e, hd⟩ := hl w List.mem_cons_self d' e'
      have m1 := mx_mono (fsW ws w) hc
      rw [hrs_some e'] at hm
      rw [hrs_some e]
      rcases List.mem_cons.mp hm with q | q
      · exact ⟨_, List.mem_cons_self, by omega⟩
      · obtain ⟨h, h1, h2⟩ := hrs_mono r _ (mx c (fsW ws w) + d) (by omega) hl' hp' h' q
        exact ⟨h, List.mem_cons_of_mem _ h1, h2⟩
/-- longer by one: later by one -/
theorem hrs_more {ws : List (Int × Int)} {lot' lot : List (Option Int)} : ∀ (row : List Nat) (c' c : Int), c ≤ c' →
    (∀ w, w ∈ row → ∀ a, lotAt lot w = some a → lotAt lot' w = some (a + 1)) → (∀ w, w ∈ row → lotAt lot w = none → lotAt lot' w = none) →
    ∀ h, h ∈ hrs ws lot c row → ∃ h', h' ∈ hrs ws lot' c' row ∧ h + 1 ≤ h'
  | [], _, _, _, _, _, h, hm => by rw [hrs_nil] at hm; cases hm
  | w :: r, c', c, hc, hl, hn, h, hm => by
    have hl' := fun v hv => hl v (List.mem_cons_of_mem _ hv)
    have hn' := fun v hv => hn v (List.mem_cons_of_mem _ hv)
    cases e : lotAt lot w with
    | none =>
      rw [hrs_none e] at hm
      rw [hrs_none (hn w List.mem_cons_self e)]
      exact hrs_more r c' c hc hl' hn' h hm
    | some d =>
      have e' := hl w List.mem_cons_self d e
      have m1 := mx_mono (fsW ws w) hc
      rw [hrs_some e] at hm
      rw [hrs_some e']
      rcases List.mem_cons.mp hm with q | q
      · exact ⟨_, List.mem_cons_self, by omega⟩
      · obtain ⟨h', h1, h2⟩ := hrs_more r (mx c' (fsW ws w) + (d + 1)) _ (by omega) hl' hn' h q
        exact ⟨h', List.mem_cons_of_mem _ h1, h2⟩
/-- the same works there: as many hours -/
theorem hrs_len {ws : List (Int × Int)} {lot' lot : List (Option Int)} : ∀ (row : List Nat) (c' c : Int),
    (∀ w, w ∈ row → (lotAt lot' w = none ↔ lotAt lot w = none)) → (hrs ws lot' c' row).length = (hrs ws lot c row).length
  | [], _, _, _ => rfl
  | w :: r, c', c, hl => by
    have hl' := fun v hv => hl v (List.mem_cons_of_mem _ hv)
    cases e : lotAt lot w with
    | none =>
      rw [hrs_none e, hrs_none ((hl w List.mem_cons_self).mpr e)]
      exact hrs_len r c' c hl'
    | some d =>
      cases e' : lotAt lot' w with
      | none =>
        rw [(hl w List.mem_cons_self).mp e'] at e
        cases e
      | some d' =>
        rw [hrs_some e, hrs_some e', List.length_cons, List.length_cons, hrs_len r _ _ hl']
theorem hrs_away {ws : List (Int × Int)} {lot : List (Option Int)} : ∀ (row : List Nat) (c : Int), (∀ w, w ∈ row → lotAt lot w = none) → hrs ws lot c row = []
  | [], _, _ => rfl
  | w :: r, c, h => by
    rw [hrs_none (h w List.mem_cons_self)]
    exact hrs_away r c fun v hv => h v (List.mem_cons_of_mem _ hv)

/-- what lateness is: none for nobody, else the greatest -/
def IsLate (hs : List Int) : Option Int → Prop
  | none => hs = []
  | some m => m ∈ hs ∧ ∀ y, y ∈ hs → y ≤ m
theorem IsLate.uniq {hs : List Int} : ∀ {r r' : Option Int}, IsLate hs r → IsLate hs r' → r = r'
  | none, none, _, _ => rfl
  | none, some m, h, h' => by
    have e : hs = [] := h
    rw [e] at h'
    cases h'.1
  | some m, none, h, h' => by
    have e : hs = [] := h'
    rw [e] at h
    cases h.1
  | some m, some n, h, h' => by
    have h1 := h.2 n h'.1
    have h2 := h'.2 m h.1
    rw [show m = n by omega]
theorem IsLate.nil_iff {hs : List Int} {r : Option Int} (h : IsLate hs r) : r = none ↔ hs = [] := by
  constructor
  · rintro rfl
    exact h
  · intro e
    exact h.uniq (r' := none) e
/-- served exactly if nobody is behind -/
def servesB (ws : List (Int × Int)) (run : List (Nat × Int × Int)) : Bool := run.all fun t => decide (t.2.2 ≤ lsW ws t.1)
def dueB : Option Int → Bool
  | none => true
  | some m => decide (m ≤ 0)
theorem serves_due {ws : List (Int × Int)} {run : List (Nat × Int × Int)} {r : Option Int} (h : IsLate (hoursOf ws run) r) : servesB ws run = dueB r := by
  cases r with
  | none =>
    have e : run = [] := List.map_eq_nil_iff.mp h
    rw [e]
    rfl
  | some m =>
    obtain ⟨h1, h2⟩ := h
    show servesB ws run = decide (m ≤ 0)
    by_cases hm : m ≤ 0
    · rw [decide_eq_true hm]
      refine List.all_eq_true.mpr fun t ht => decide_eq_true ?_
      have q := h2 (t.2.2 - lsW ws t.1) (List.mem_map.mpr ⟨t, ht, rfl⟩)
      omega
    · rw [decide_eq_false hm]
      obtain ⟨t, ht, et⟩ := List.mem_map.mp h1
      refine List.all_eq_false.mpr ⟨t, ht, ?_⟩
      simp only [decide_eq_true_eq]
      omega
/-- never later -/
theorem late_mono {ws : List (Int × Int)} {lot' lot : List (Option Int)} {row : List Nat} {m' : Int} {r : Option Int}
    (hl : ∀ w, w ∈ row → ∀ a', lotAt lot' w = some a' → ∃ a, lotAt lot w = some a ∧ a' ≤ a) (hp : ∀ w, w ∈ row → ∀ a, lotAt lot w = some a → 0 ≤ a)
    (h' : IsLate (hrs ws lot' 0 row) (some m')) (h : IsLate (hrs ws lot 0 row) r) : ∃ m, r = some m ∧ m' ≤ m := by
  obtain ⟨k, hk, hle⟩ := hrs_mono row 0 0 (Int.le_refl 0) hl hp m' h'.1
  cases r with
  | none =>
    have e : hrs ws lot 0 row = [] := h
    rw [e] at hk
    cases hk
  | some m => exact ⟨m, rfl, Int.le_trans hle (h.2 k hk)⟩
theorem late_more {ws : List (Int × Int)} {lot' lot : List (Option Int)} {row : List Nat} {m : Int} {r' : Option Int}
    (hl : ∀ w, w ∈ row → ∀ a, lotAt lot w = some a → lotAt lot' w = some (a + 1)) (hn : ∀ w, w ∈ row → lotAt lot w = none → lotAt lot' w = none)
    (h : IsLate (hrs ws lot 0 row) (some m)) (h' : IsLate (hrs ws lot' 0 row) r') : ∃ m', r' = some m' ∧ m + 1 ≤ m' := by
  obtain ⟨k, hk, hle⟩ := hrs_more row 0 0 (Int.le_refl 0) hl hn m h.1
  cases r' with
  | none =>
    have e : hrs ws lot' 0 row = [] := h'
    rw [e] at hk
    cases hk
  | some m' => exact ⟨m', rfl, Int.le_trans hle (h'.2 k hk)⟩

/-! ### lots changed -/
theorem lotAt_map (f : Int → Int) (lot : List (Option Int)) (w : Nat) : lotAt (lot.map (Option.map f)) w = (lotAt lot w).map f := by
  unfold lotAt
  rw [List.getElem?_map]
  cases lot[w]? <;> rfl
theorem lotAt_gone (lot : List (Option Int)) (s w : Nat) : lotAt (lot.set s none) w = if w = s then none else lotAt lot w := by
  unfold lotAt
  by_cases e : w = s
  · subst e
    rw [if_pos rfl]
    by_cases h : w < lot.length
    · rw [List.getElem?_set_self h]
      rfl
    · rw [List.getElem?_eq_none (by rw [List.length_set]; omega)]
      rfl
  · rw [if_neg e, List.getElem?_set_ne (Ne.symm e)]
theorem lotAt_away (n w : Nat) : lotAt (List.replicate n none) w = none := by
  unfold lotAt
  by_cases h : w < n
  · rw [List.getElem?_replicate, if_pos h]
    rfl
  · rw [List.getElem?_replicate, if_neg h]
    rfl
end K9

/-! Wr: two rules that the layer lacks: enumerate over a tuple; a tuple taken once. -/
namespace K9
open PySem PySem.Spec PyProof.Rows L2
open AutoSeq1 (wpAny_loadPart')

/-! ### enumerate(tuple) -/
theorem enum_newT {l : Addr} {items : Array Value} :
    Meets (Builtin.«enumerate.__new__» ⟨[.type "enumerate", .ref l], []⟩) (fun _ R s => s.heap.IsTuple l items ∧
      R (.ok (.ret (.ref (s.heap.push { cls := .type "tuple_iterator", data := .fields #[.ref l, .int 0 0] }).objs.size)))
        { s with heap := (s.heap.push { cls := .type "tuple_iterator", data := .fields #[.ref l, .int 0 0] }).push { cls := .type "enumerate", data := .fields #[.none, .bool false, .ref s.heap.objs.size, rawInt 0, .none, .none] } }) :=
  .of_wp fun prog w A R s h => by
    obtain ⟨hp, g, d, tk, os⟩ := s
    obtain ⟨h1, h⟩ := h
    have k_sub := sub_enumerate
    have k_it : ∀ {A' : Around} {E : Value → Shared → Prop} {Q : Value → Shared → Prop}, Q (.ref hp.objs.size) ⟨hp.push { cls := .type "tuple_iterator", data := .fields #[.ref l, .int 0 0] }, g, d, tk, os⟩ →
        wpAny (model prog w) A' (pyIter (.ref l)) Q E ⟨hp, g, d, tk, os⟩ :=
      fun q => wpAny_pyIter_tuple (s := ⟨hp, g, d, tk, os⟩) h1 q
    obtain ⟨ot, hot, hct, nt, hdt⟩ := id h1
    obtain ⟨oc, od, odt, osl⟩ := ot
    simp only at hct hdt
    subst hct hdt
    wp_walk using wpAny_loadPart' hot, k_it
    refine wpAny_stack_any fun st => wpAny_pure ?_
    split
    · rename_i c _ _ _ _ _
      cases (c == Value.type "enumerate")
      · wp_walk using wpAny_loadPart' hot, k_it
        exact ⟨_, rfl, h⟩
      · wp_walk using wpAny_loadPart' hot, k_it
        exact ⟨_, rfl, h⟩
    · wp_walk using wpAny_loadPart' hot, k_it
      exact ⟨_, rfl, h⟩

section
variable {prog : Program} {w : World} {A : Around} {E : Value → Shared → Prop} {s : Shared}
theorem call_enumT {l : Addr} {items : Array Value} {Q : Value → Shared → Prop} (hL : s.heap.IsTuple l items)
    (h : ∀ h', IsEnum h' (s.heap.objs.size + 1) s.heap.objs.size 0 .none → h'.IsTupleIter s.heap.objs.size l 0 →
      (∀ b o, s.heap.get? b = some o → h'.get? b = some o) → Q (.ref (s.heap.objs.size + 1)) { s with heap := h' }) :
    wpAny (model prog w) A (call (.type "enumerate") [.ref l]) Q E s := by
  refine callType_new F.called_enumerate (by decide) (F.typeCall_enumerate_1 _) (F.newCall_enumerate_1 _) (fun obj => F.args_object_init_2 obj _) F.entry_enumerate_new
    (enum_newT (items := items)) ⟨hL, ?_⟩
  have hz : (s.heap.push { cls := .type "tuple_iterator", data := .fields #[.ref l, .int 0 0] }).objs.size = s.heap.objs.size + 1 := Heap.size_push ..
  show _ ∧ _
  rw [hz]
  have he : IsEnum ((s.heap.push { cls := .type "tuple_iterator", data := .fields #[.ref l, .int 0 0] }).push
      { cls := .type "enumerate", data := .fields #[.none, .bool false, .ref s.heap.objs.size, rawInt 0, .none, .none] }) (s.heap.objs.size + 1) s.heap.objs.size 0 .none := by
    have q := Heap.get?_push_size (s.heap.push { cls := .type "tuple_iterator", data := .fields #[.ref l, .int 0 0] })
      (o := { cls := .type "enumerate", data := .fields #[.none, .bool false, .ref s.heap.objs.size, rawInt 0, .none, .none] }) rfl
    rw [hz] at q
    exact q
  exact ⟨⟨_, he, rfl⟩, h _ he ⟨_, Heap.get?_push_of_some _ (Heap.get?_push_size _ rfl), rfl, rfl⟩ fun b o x => Heap.get?_push_of_some _ (Heap.get?_push_of_some _ x)⟩
end

/-- the tuple at a, each item in a new pair -/
def IteT (K : PySem.W.Frag) (a : Addr) : It :=
  ⟨fun i H => ∃ (xs : List V) (x : V), SqT K H a xs ∧ xs[i]? = some x,
   fun i H v H' => ∃ T x, v = .ref T ∧ H T = none ∧ H' = upd H T (.tup [.int (i : Nat), x]) ∧ ∀ xs, SqT K H a xs → xs[i]? = some x,
   fun i H => ∃ xs : List V, SqT K H a xs ∧ xs.length = i⟩
theorem turn_enumT {P : Program} {w : World} {K : PySem.W.Frag} {elts : List Expr} {kk : Nat} {tpos : Pos} (a e it : Addr) :
    Turn P w K (.Tuple elts kk tpos) (IteT K a) [e, it] e (fun i h => (∃ old, IsEnum h e it ((i : Nat) : Int) old) ∧ h.IsTupleIter it a i ∧ e ≠ it) where
  mem := by simp
  obj := fun i h st b hb => by
    obtain ⟨⟨old, he⟩, ⟨o, ho, hc, hd⟩, _⟩ := st
    have e' : b = e ∨ b = it := by simpa using hb
    rcases e' with z | z
    · rw [z]
      exact ⟨_, he, fun v q => nomatch q⟩
    · rw [z]
      exact ⟨o, ho, fun v q => by rw [hd] at q; cases q⟩
  keep := fun i h h' st k => let ⟨⟨old, he⟩, hi, hne⟩ := st; ⟨⟨old, k e (by simp) _ he⟩, hi.at fun o q => k it (by simp) o q, hne⟩
  item := by
    intro X hP hw hK hc i pins s σ H E I hf st hg
    subst hP hw hK
    obtain ⟨⟨old, he⟩, hit, hne⟩ := st
    obtain ⟨xs, x, hq, hx⟩ := hg
    obtain ⟨its, rv, p, hz⟩ := I.tuple hq
    obtain ⟨u, hu, ru⟩ := rv.get hx
    have hel : e < s.heap.objs.size := Heap.lt_size he
    have hil : it < s.heap.objs.size := by
      obtain ⟨_, q, _⟩ := hit
      exact Heap.lt_size q
    have hea : e ≠ a := by
      intro z
      obtain ⟨o, e1, c1, _⟩ := p
      rw [← z] at e1
      have e2 := he.symm.trans e1
      rw [← Option.some.inj e2] at c1
      exact absurd (show Value.type "enumerate" = Value.type "tuple" from c1) (by decide)
    have hta : a ≠ it := by
      intro z
      obtain ⟨o, e1, c1, _⟩ := p
      obtain ⟨o2, e2, c2, _⟩ := hit
      rw [z, e2] at e1
      rw [← Option.some.inj e1, c2] at c1
      exact absurd c1 (by decide)
    have hlt : i < its.toArray.size := by
      have q := (List.getElem?_eq_some_iff.mp hu).1
      simpa using q
    have D : Draws X.prog X.w X.A.in1 it [it, a] its.toArray.size (fun i v => its.toArray[i]? = some v) (fun i h => h.IsTupleIter it a i ∧ h.IsTuple a its.toArray) :=
      Draws.tuple (A := X.A.in1) (I.ok.hd hc) it a hta its.toArray
    refine wpAny_pyNext_enum_itemD D he ⟨hit, p⟩ hlt hne (by simp [hne, hea]) fun y h' tk hy ho hst' hT hsz hk => ?_
    have ey : y = u := by
      have q : its.toArray[i]? = some u := by simpa using hu
      exact Option.some.inj (hy.symm.trans q)
    subst ey
    refine ⟨_, rfl, wpAny_letOwnedTupleGo_enum (s := { s with heap := h', toks := tk + 1 }) ho fun h'' he' sb => ?_⟩
    have hT2 : h''.get? s.heap.objs.size = some { cls := .type "tuple", data := .seq #[.int i tk, y] } := (sb.2 _ (Nat.ne_of_gt hel)).trans hT
    have new : ObjOk X.prog X.w (upd H s.heap.objs.size (.tup [.int (i : Nat), x])) h'' s.heap.objs.size (.tup [.int (i : Nat), x]) :=
      ⟨by show 2 ≤ sizeLine; decide, [.int i tk, y], .cons ⟨_, rfl⟩ (.cons ru .nil), ⟨_, hT2, rfl, _, rfl⟩⟩
    have I1 : Inv X pins σ (upd H s.heap.objs.size (.tup [.int (i : Nat), x])) { s with heap := h'', toks := tk + 1 } :=
      I.turnedNew (ch := [e, it]) (fun b ob hb q => (sb.2 b (fun z => hb (by simp [z]))).trans (hk b ob (fun z => hb (by simp [z])) (fun z => hb (by simp [z])) q)) hf (Nat.le_refl _) new
    refine ⟨.ref s.heap.objs.size, _, I1, rfl, ⟨_, x, rfl, I.hok.fresh (Nat.le_refl _), rfl, fun ys hy => by rw [I.tuple_inj hy hq]; exact hx⟩, ⟨⟨y, ?_⟩, hst'.1.at fun o q => (sb.2 it (Ne.symm hne)).trans q, hne⟩, fun b hb => ?_⟩
    · have e1 : ((i + 1 : Nat) : Int) = (i : Int) + 1 := by omega
      rw [e1]
      exact he'
    · have hb' : b < s.heap.objs.size := by
        have e' : b = e ∨ b = it := by simpa using hb
        rcases e' with z | z
        · rw [z]; exact hel
        · rw [z]; exact hil
      rw [upd_ne (Nat.ne_of_lt hb')]
      exact (hf b hb).1
  done := by
    intro X hP hw hK hc i pins s σ H E I hf st hg
    subst hP hw hK
    obtain ⟨⟨old, he⟩, hit, hne⟩ := st
    obtain ⟨xs, hq, hx⟩ := hg
    obtain ⟨its, rv, p, hz⟩ := I.tuple hq
    obtain ⟨f0, f1, f2, f3, f4, f5⟩ := hf it (by simp)
    have hl := rv.length
    have hta : a ≠ it := by
      intro z
      obtain ⟨o, e1, c1, _⟩ := p
      obtain ⟨o2, e2, c2, _⟩ := hit
      rw [z, e2] at e1
      rw [← Option.some.inj e1, c2] at c1
      exact absurd c1 (by decide)
    have D : Draws X.prog X.w X.A.in1 it [it, a] its.toArray.size (fun i v => its.toArray[i]? = some v) (fun i h => h.IsTupleIter it a i ∧ h.IsTuple a its.toArray) :=
      Draws.tuple (A := X.A.in1) (I.ok.hd hc) it a hta its.toArray
    have en : i = its.toArray.size := by
      rw [List.size_toArray]
      omega
    subst en
    exact wpAny_pyNext_enum_endD D he ⟨hit, p⟩ fun h' eb => ⟨rfl, I.turned (t' := s.toks) (fun b o hb q => eb b o hb q) f0 f1 f3 f4 f5⟩
  self := fun A i s Q E st h => let ⟨⟨_, he⟩, _⟩ := st; wpAny_pyIter_enum he h
def iEnumT (K : PySem.W.Frag) (ta : TA) : TI := fun σ H R => ta σ H fun vs H1 => ∃ a xs, vs = [.ref a] ∧ SqT K H1 a xs ∧ R (IteT K a) H1
theorem pi_enumT {X : Cx} {e : Expr} {ta : TA} {p pos tpos : Pos} {elts : List Expr} {kk : Nat} (hg : Gl X "enumerate") (hm : X.mg "enumerate" = none) (ha : PA X [e] ta) (hs : starEach [e] X.env = [(false, eval e X.env)] := by rfl) :
    PI X (.Tuple elts kk tpos) (.Call (.Name "enumerate" p) [e] [] pos) (iEnumT X.K ta) := by
  refine ⟨fun pins s σ H R I h => ?_⟩
  refine Call_ (ld_blt I hg hm boot_enumerate (PyProof.Rows.callWith_type1 (thn (ha.run pos pins s σ H _ I h) fun us s1 ⟨vs, H1, I1, r1, q1⟩ => ?_) hs rfl))
  obtain ⟨a, xs, ex, hq, q⟩ := q1
  subst ex
  cases r1 with
  | cons r rr =>
    cases rr
    cases r
    obtain ⟨its, rv, p', hz⟩ := I1.tuple hq
    refine call_enumT (items := its.toArray) p' fun h' he hit hk => wpAny_pyIter_enum he ?_
    have I2 : Inv X pins σ H1 { s1 with heap := h' } := I1.kept (t' := s1.toks) hk
    refine ⟨s1.heap.objs.size + 1, [s1.heap.objs.size + 1, s1.heap.objs.size], _, _, H1, rfl, I2, turn_enumT a (s1.heap.objs.size + 1) s1.heap.objs.size, ⟨⟨.none, he⟩, hit, Nat.succ_ne_self _⟩, fun b hb => ?_, q⟩
    have e' : b = s1.heap.objs.size + 1 ∨ b = s1.heap.objs.size := by simpa using hb
    have hle : s1.heap.objs.size ≤ b := by
      rcases e' with z | z
      · rw [z]; exact Nat.le_add_right _ _
      · rw [z]; exact Nat.le_refl _
    exact I1.fpOk hle (I1.hok.fresh hle)
/-- a comprehension over enumerate(tuple) -/
theorem lc_enumT {K : PySem.W.Frag} {a : Addr} {xs : List V} {g : TG} {tt : TT} {te : TE} {vs : List Nat} {σ : L2.St} {H1 : Hp} {D : Addr} {Qd : Hp → Prop} (Pv : Nat → Hp → Prop) (h0 : Pv 0 (upd H1 D (.lst []))) (hl : ∀ i H, i ≤ xs.length → Pv i H → SqT K H a xs)
    (hs : ∀ i x T H, xs[i]? = some x → Pv i H → H T = none → g (.ref T) (wipe σ vs) (upd H T (.tup [.int (i : Nat), x])) fun σ2 H2 => wipe σ2 vs = wipe σ vs ∧ tt σ2 H2 fun b H3 =>
      if b = true then te σ2 H3 fun y H4 => ∃ acc, H4 D = some (.lst acc) ∧ acc.length < sizeLine ∧ Pv (i + 1) (upd H4 D (.lst (acc ++ [y]))) else Pv (i + 1) H3) (hd : ∀ H, Pv xs.length H → Qd H) :
    ∃ W : Nat → Nat → Hp → Prop, (∃ m, W 0 m (upd H1 D (.lst []))) ∧ ∀ i m H, W i m H →
      ((IteT K a).stop i H ∧ Qd H) ∨ ((IteT K a).go i H ∧ ∃ Nx : Hp → Prop, (∀ H', Nx H' → ∃ m', m' < m ∧ W (i + 1) m' H') ∧ ∀ x H', (IteT K a).yld i H x H' → g x (wipe σ vs) H' fun σ2 H2 => wipe σ2 vs = wipe σ vs ∧ tt σ2 H2 fun b H3 =>
        if b = true then te σ2 H3 fun y H4 => ∃ acc, H4 D = some (.lst acc) ∧ acc.length < sizeLine ∧ Nx (upd H4 D (.lst (acc ++ [y]))) else Nx H3) := by
  refine ⟨fun i m H => m = xs.length - i ∧ i ≤ xs.length ∧ Pv i H, ⟨xs.length, by simp, Nat.zero_le _, h0⟩, ?_⟩
  rintro i m H ⟨rfl, hi, p⟩
  have q := hl i H hi p
  by_cases hlt : i < xs.length
  · refine .inr ⟨⟨xs, xs[i], q, by simp [hlt]⟩, Pv (i + 1), fun H' p' => ⟨xs.length - (i + 1), by omega, rfl, hlt, p'⟩, fun x H' y => ?_⟩
    obtain ⟨T, z, rfl, nT, rfl, f⟩ := y
    exact hs i z T H (f xs q) p nT
  · have e : i = xs.length := by omega
    subst e
    exact .inl ⟨⟨xs, q, rfl⟩, hd H p⟩

/-! ### tuple * 1 -/
theorem tuple_once {l : Addr} {items : Array Value} {n : Nat} {dd : Option Addr} {sl : Array (Option Value)} {u : Tok} :
    Meets (Builtin.«tuple.__mul__» ⟨[.ref l, .int 1 u], []⟩) (fun _ R s => s.heap.get? l = some { cls := .type "tuple", dict := dd, data := .seq items n, slots := sl } ∧ R (.ok (.ret (Value.ref l))) s) :=
  .of_wp fun prog w A R s h => by
    obtain ⟨hp, g, d, tk, os⟩ := s
    obtain ⟨hl, h⟩ := h
    have f1 := AutoSeq1.idx_int
    wp_walk using wpAny_loadPart' hl
    exact ⟨_, rfl, h⟩
def rRepT1 (K : PySem.W.Frag) : R2 := fun x y H Q => ∃ l xs, x = .ref l ∧ y = .int 1 ∧ SqT K H l xs ∧ Q (.ref l) H
theorem op_repT1 {X : Cx} : OpR X (binaryOp .Mult) (rRepT1 X.K) := by
  intro pins s σ H x y v u Q I rx ry h
  obtain ⟨l, xs, rfl, rfl, hT, q⟩ := h
  cases rx
  obtain ⟨t, rfl⟩ := ry
  obtain ⟨its, r, ⟨⟨cls, dd, data, sl⟩, ho, hc, n, hd⟩, hs⟩ := I.tuple hT
  simp only at hc hd
  subst hc hd
  refine wpAny_binaryOp_repeat_ref (T := "tuple") (U := "int") (by decide) ⟨_, ho, rfl⟩ (fun s' => typeIs_int s' 1 t) noFill_tuple_mul F.fills_int_mul F.slot_int_rmul repeat_tuple F.slot_int_index.lookup
    (call_meets F.slot_int_rmul (typeIs_int s 1 t) F.entry_int_rmul (F.args_int_rmul_2 _ _) (int_rmul_tuple 1 t l its.toArray n dd sl)
      ⟨ho, rfl, ⟨_, ho, rfl⟩, call_meets F.slot_tuple_mul ⟨_, ho, rfl⟩ F.entry_tuple_mul (F.args_tuple_mul_2 _ _) (tuple_once (items := its.toArray)) ⟨ho, ?_⟩⟩)
  exact ⟨.ref l, H, I, rfl, q⟩
end K9

/-! Wt: the text by places; what stands in the heap; each def's promise. -/
namespace K9
open PySem PySem.Spec PyProof.Rows L2

/-! ### the text -/
def topS (i : Nat) : Stmt := PySem.Challenge.pw_bymiddles_k09_whole_served_or_late.main.body.getD i (.Pass ⟨0, 0, 0, 0⟩)

/-! ### values -/
def optV : Option Int → V
  | none => .non
  | some i => .int i
def rowV (row : List Nat) : List V := row.map fun n => V.int ((n : Nat) : Int)
def lotV (lot : List (Option Int)) : List V := lot.map optV
theorem rowV_len (row : List Nat) : (rowV row).length = row.length := List.length_map ..
theorem lotV_len (lot : List (Option Int)) : (lotV lot).length = lot.length := List.length_map ..
theorem rowV_get {row : List Nat} {i : Nat} {x : V} (h : (rowV row)[i]? = some x) : ∃ w, row[i]? = some w ∧ x = .int ((w : Nat) : Int) := by
  unfold rowV at h
  rw [List.getElem?_map] at h
  cases e : row[i]? with
  | none =>
    rw [e] at h
    cases h
  | some w =>
    rw [e] at h
    exact ⟨w, rfl, (Option.some.inj h).symm⟩
theorem rowV_at {row : List Nat} {i w : Nat} (h : row[i]? = some w) : (rowV row)[i]? = some (.int ((w : Nat) : Int)) := by
  unfold rowV
  rw [List.getElem?_map, h]
  rfl
theorem lotV_get {lot : List (Option Int)} {i : Nat} {x : V} (h : (lotV lot)[i]? = some x) : i < lot.length ∧ x = optV (lotAt lot i) := by
  unfold lotV at h
  rw [List.getElem?_map] at h
  unfold lotAt
  cases e : lot[i]? with
  | none =>
    rw [e] at h
    cases h
  | some w =>
    rw [e] at h
    exact ⟨(List.getElem?_eq_some_iff.mp e).1, (Option.some.inj h).symm⟩
theorem lotV_at {lot : List (Option Int)} {i : Nat} (h : i < lot.length) : (lotV lot)[i]? = some (optV (lotAt lot i)) := by
  unfold lotV lotAt
  rw [List.getElem?_map, List.getElem?_eq_getElem h]
  rfl
theorem flat_opt (x : Option Int) : flatV (optV x) = true := by cases x <;> rfl
theorem flat_row (row : List Nat) : (rowV row).all flatV = true := by
  unfold rowV
  refine List.all_eq_true.mpr fun x hx => ?_
  obtain ⟨n, _, rfl⟩ := List.mem_map.mp hx
  rfl
theorem opt_non {x : Option Int} : optV x = .non ↔ x = none := by
  cases x with
  | none => exact ⟨fun _ => rfl, fun _ => rfl⟩
  | some i => exact ⟨fun h => V.noConfusion h, fun h => Option.noConfusion rfl (heq_of_eq h)⟩
theorem inV_row {row : List Nat} {w : Nat} : inV (.int ((w : Nat) : Int)) (rowV row) = decide (w ∈ row) := by
  unfold inV rowV
  rw [List.any_map]
  by_cases h : w ∈ row
  · rw [decide_eq_true h]
    refine List.any_eq_true.mpr ⟨w, h, ?_⟩
    show eqV (.int ((w : Nat) : Int)) (.int ((w : Nat) : Int)) = true
    simp [eqV]
  · rw [decide_eq_false h]
    refine List.any_eq_false.mpr fun x hx => ?_
    show ¬ eqV (.int ((x : Nat) : Int)) (.int ((w : Nat) : Int)) = true
    intro q
    refine h ?_
    have e : ((x : Nat) : Int) = ((w : Nat) : Int) := by simpa [eqV] using q
    have e2 : x = w := by omega
    rw [← e2]
    exact hx

/-! ### heaps -/
/-- lists may have changed; all else stands -/
def Kp (H H' : Hp) : Prop := ∀ b o, H b = some o → (∃ o', H' b = some o') ∧ ((∀ xs, o ≠ .lst xs) → H' b = some o)
theorem Kp.refl (H : Hp) : Kp H H := fun b o e => ⟨⟨o, e⟩, fun _ => e⟩
theorem Kp.of_same {H H' : Hp} (h : Same H H') : Kp H H' := fun b o e => ⟨⟨o, h b o e⟩, fun _ => h b o e⟩
theorem Kp.trans {H H1 H2 : Hp} (a : Kp H H1) (b : Kp H1 H2) : Kp H H2 := fun c o e => by
  obtain ⟨⟨o1, e1⟩, k1⟩ := a c o e
  obtain ⟨⟨o2, e2⟩, _⟩ := b c o1 e1
  exact ⟨⟨o2, e2⟩, fun h => (b c o (k1 h)).2 h⟩
theorem Kp.free {H H' : Hp} (a : Kp H H') {l : Addr} (h : H' l = none) : H l = none := by
  cases q : H l with
  | none => rfl
  | some o =>
    obtain ⟨⟨o', e⟩, _⟩ := a l o q
    rw [e] at h
    cases h
theorem Kp.new {H : Hp} {p : Addr} {o : HO} (h : H p = none) : Kp H (upd H p o) := fun b u e => by
  have n : b ≠ p := ne_of_none e h
  rw [upd_ne n]
  exact ⟨⟨u, e⟩, fun _ => e⟩
theorem Kp.lst {H : Hp} {p : Addr} {xs ys : List V} (h : H p = some (.lst xs)) : Kp H (upd H p (.lst ys)) := fun b u e => by
  by_cases n : b = p
  · subst n
    rw [upd_same]
    rw [h] at e
    have e2 := Option.some.inj e
    exact ⟨⟨_, rfl⟩, fun k => absurd e2.symm (k xs)⟩
  · rw [upd_ne n]
    exact ⟨⟨u, e⟩, fun _ => e⟩
theorem same_upd {H : Hp} {p : Addr} {o : HO} (h : H p = none) : Same H (upd H p o) := fun b x e => by
  rw [upd_ne (ne_of_none e h)]
  exact e

def IsWin (H : Hp) (t : Addr) (fl : Int × Int) : Prop := H t = some (.tup [.int fl.1, .int fl.2])
def IsWins (H : Hp) (a : Addr) (ws : List (Int × Int)) : Prop := ∃ ts : List Addr, H a = some (.tup (ts.map V.ref)) ∧ ts.length = ws.length ∧
  ∀ (i : Nat) (t : Addr) (fl : Int × Int), ts[i]? = some t → ws[i]? = some fl → IsWin H t fl
def bf (a : Addr) : List (Str × V) := putF "kept_windows" (.ref a) (putF "windows" (.ref a) [])
def IsBook (C : Addr) (H : Hp) (b : Addr) (ws : List (Int × Int)) : Prop := ∃ dx a, H b = some (.ins C dx (bf a)) ∧ IsWins H a ws
def IsRow (H : Hp) (r : Addr) (row : List Nat) : Prop := H r = some (.tup (rowV row))
def IsLot (H : Hp) (l : Addr) (lot : List (Option Int)) : Prop := H l = some (.tup (lotV lot))
def IsTrip (H : Hp) (t : Addr) (x : Nat × Int × Int) : Prop := H t = some (.tup [.int ((x.1 : Nat) : Int), .int x.2.1, .int x.2.2])
def IsRun (H : Hp) (p : Addr) (run : List (Nat × Int × Int)) : Prop := ∃ ts : List Addr, H p = some (.lst (ts.map V.ref)) ∧ ts.length = run.length ∧
  ∀ (i : Nat) (t : Addr) (x : Nat × Int × Int), ts[i]? = some t → run[i]? = some x → IsTrip H t x
def WinOk (fl : Int × Int) : Prop := 0 ≤ fl.1 ∧ fl.1 ≤ fl.2 ∧ fl.2 ≤ 1000000
theorem wk : ¬ (("windows" : Str) = "kept_windows") := by decide +kernel
theorem bf_eq (a : Addr) : bf a = ([("windows", V.ref a), ("kept_windows", V.ref a)] : List (Str × V)) := by
  show (if ("windows" : Str) = "kept_windows" then [(("windows" : Str), V.ref a)] else (("windows" : Str), V.ref a) :: putF "kept_windows" (V.ref a) []) = ([("windows", V.ref a), ("kept_windows", V.ref a)] : List (Str × V))
  rw [if_neg wk]
  all_goals rfl
theorem bf_kept (a : Addr) : (bf a).lookup ("kept_windows" : Str) = some (.ref a) := by
  unfold bf
  rw [lookup_putF, if_pos rfl]

theorem notLst_tup {xs : List V} : ∀ ys, HO.tup xs ≠ .lst ys := fun ys h => HO.noConfusion h
theorem Kp.tup {H H' : Hp} (k : Kp H H') {a : Addr} {xs : List V} (h : H a = some (.tup xs)) : H' a = some (.tup xs) := (k a _ h).2 notLst_tup
theorem Kp.wins {H H' : Hp} (k : Kp H H') {a : Addr} {ws : List (Int × Int)} (h : IsWins H a ws) : IsWins H' a ws := by
  obtain ⟨ts, h1, h2, h3⟩ := h
  exact ⟨ts, k.tup h1, h2, fun i t fl e1 e2 => k.tup (h3 i t fl e1 e2)⟩
theorem Kp.book {C : Addr} {H H' : Hp} (k : Kp H H') {b : Addr} {ws : List (Int × Int)} (h : IsBook C H b ws) : IsBook C H' b ws := by
  obtain ⟨dx, a, h1, h2⟩ := h
  exact ⟨dx, a, (k b _ h1).2 fun ys z => HO.noConfusion z, k.wins h2⟩
theorem Kp.row {H H' : Hp} (k : Kp H H') {a : Addr} {xs : List Nat} (h : IsRow H a xs) : IsRow H' a xs := k.tup h
theorem Kp.lot {H H' : Hp} (k : Kp H H') {a : Addr} {xs : List (Option Int)} (h : IsLot H a xs) : IsLot H' a xs := k.tup h
/-- the n-th window -/
theorem IsWins.get {H : Hp} {a : Addr} {ws : List (Int × Int)} (h : IsWins H a ws) {n : Nat} (hn : n < ws.length) :
    ∃ (ts : List Addr) (t : Addr), H a = some (.tup (ts.map V.ref)) ∧ (ts.map V.ref)[n]? = some (.ref t) ∧ H t = some (.tup [.int (fsW ws n), .int (lsW ws n)]) := by
  obtain ⟨ts, h1, h2, h3⟩ := h
  have hn' : n < ts.length := by omega
  refine ⟨ts, ts[n], h1, by rw [List.getElem?_map, List.getElem?_eq_getElem hn']; rfl, ?_⟩
  have q := h3 n ts[n] ws[n] (List.getElem?_eq_getElem hn') (List.getElem?_eq_getElem hn)
  have e : ws.getD n (0, 0) = ws[n] := by
    rw [List.getD_eq_getElem?_getD, List.getElem?_eq_getElem hn]
    rfl
  unfold fsW lsW
  rw [e]
  exact q
theorem WinOk.at {ws : List (Int × Int)} (h : ∀ fl, fl ∈ ws → WinOk fl) {n : Nat} (hn : n < ws.length) : 0 ≤ fsW ws n ∧ fsW ws n ≤ lsW ws n ∧ lsW ws n ≤ 1000000 := by
  have e : ws.getD n (0, 0) = ws[n] := by
    rw [List.getD_eq_getElem?_getD, List.getElem?_eq_getElem hn]
    rfl
  unfold fsW lsW
  rw [e]
  exact h _ (List.getElem_mem hn)

/-- a book, a row and a lot of works of it -/
structure RunOk (C : Addr) (H : Hp) (b r l : Addr) (ws : List (Int × Int)) (row : List Nat) (lot : List (Option Int)) : Prop where
  bk : IsBook C H b ws
  rw : IsRow H r row
  lt : IsLot H l lot
  nd : row.Nodup
  le : ∀ w, w ∈ row → w < ws.length
  rl : row.length ≤ 40
  wl : ws.length ≤ 40
  ll : lot.length = ws.length
  nn : ∀ w a, lotAt lot w = some a → 0 ≤ a
  inn : ∀ w a, lotAt lot w = some a → w ∈ row
theorem RunOk.kp {C : Addr} {H H' : Hp} {b r l : Addr} {ws : List (Int × Int)} {row : List Nat} {lot : List (Option Int)} (h : RunOk C H b r l ws row lot) (k : Kp H H') : RunOk C H' b r l ws row lot :=
  ⟨k.book h.bk, k.row h.rw, k.lot h.lt, h.nd, h.le, h.rl, h.wl, h.ll, h.nn, h.inn⟩

/-! ### the drawing pool -/
def PoolAt (H : Hp) (p q : Addr) : Prop := ∃ (s c : Int) (xs : List Int), H p = some (.lst [.int s, .int c, .ref q]) ∧ H q = some (.lst (xs.map V.int))
theorem PoolAt.ne {H : Hp} {p q : Addr} (h : PoolAt H p q) : p ≠ q := by
  obtain ⟨s, c, xs, h1, h2⟩ := h
  intro e
  rw [e, h2] at h1
  have h3 : xs.map V.int = [.int s, .int c, .ref q] := by
    have z := Option.some.inj h1
    injection z
  have h4 : (xs.map V.int)[2]? = some (V.ref q) := by
    rw [h3]
    rfl
  rw [List.getElem?_map] at h4
  cases z : xs[2]? with
  | none =>
    rw [z] at h4
    cases h4
  | some y =>
    rw [z] at h4
    have h5 : V.int y = V.ref q := Option.some.inj h4
    cases h5
theorem PoolAt.same {H H' : Hp} {p q : Addr} (h : PoolAt H p q) (k : Same H H') : PoolAt H' p q := by
  obtain ⟨s, c, xs, h1, h2⟩ := h
  exact ⟨s, c, xs, k _ _ h1, k _ _ h2⟩
/-- what a draw changes: the pool's two lists -/
def Drew (p q : Addr) (H H' : Hp) : Prop := ∀ b o, H b = some o → b ≠ p → b ≠ q → H' b = some o
theorem Drew.kp {p q : Addr} {H H' : Hp} (d : Drew p q H H') (h : PoolAt H p q) (h' : PoolAt H' p q) : Kp H H' := fun b o e => by
  obtain ⟨s, c, xs, h1, h2⟩ := h
  obtain ⟨s', c', xs', h1', h2'⟩ := h'
  by_cases e1 : b = p
  · subst e1
    rw [h1] at e
    have e2 := Option.some.inj e
    exact ⟨⟨_, h1'⟩, fun k => absurd e2.symm (k _)⟩
  · by_cases e2 : b = q
    · subst e2
      rw [h2] at e
      have e3 := Option.some.inj e
      exact ⟨⟨_, h2'⟩, fun k => absurd e3.symm (k _)⟩
    · exact ⟨⟨o, d b o e e1 e2⟩, fun _ => d b o e e1 e2⟩

/-- a comprehension without tests -/
theorem yesT {σ : L2.St} {H : Hp} {A B : Hp → Prop} (h : A H) : L2.tYes σ H (fun b H3 => if b = true then A H3 else B H3) := by
  show (if true = true then A H else B H)
  exact iteT h

/-! ### a def that is called by its name -/
structure Def (P : Program) (w : World) (K : PySem.W.Frag) (mg : Str → Option Value) (base : Heap) (x : Str) (k : Nat) (ps : List Str) (sp : Sp) : Prop where
  ex : ∃ (f : Addr) (fd : FuncData), FnOk P w K mg base CX0 k f fd ps sp ∧ PySem.W.keepIn K (.ref f) = true ∧ Binds K fd ps [] ∧ mg x = some (.ref f)
theorem pe_def {X : Cx} {x : Str} {k j : Nat} {ps : List Str} {sp : Sp} {e : Expr} {es : List Expr} {p pos : Pos} {t : TA} (D : Def X.prog X.w X.K X.mg X.base x k ps sp) (hr : Room j X.A) (hk : k ≤ j) (ha : PA X (e :: es) t) (hg : Gl X x := by rfl)
    (hdb : (x == ("__debug__" : Str)) = false := by decide) (he : starEach (e :: es) X.env = (false, eval e X.env) :: starEach es X.env := by rfl) (hpl : (backTo pos (starEach es X.env)).any (·.1) = false := by rfl) :
    PE X (.Call (.Name x p) (e :: es) [] pos) (tCall sp [] E0 t) := by
  obtain ⟨f, fd, F, kp, b, g⟩ := D.ex
  exact pe_call F (hr.mono hk) hg g kp b .nil pass0 ha hdb he hpl

/-- what the top has written besides the defs -/
structure Txt (K : PySem.W.Frag) (mg : Str → Option Value) (C : Addr) : Prop where
  cl : Cls K C
  nW : NoAttr K C "windows"
  nK : NoAttr K C "kept_windows"
  mgC : mg "Book" = some (.ref C)
  mW : ∃ t, mg "MOST_WORKS" = some (.int 40 t)
  mH : ∃ t, mg "MOST_HOUR" = some (.int 1000000 t)
  len : mg "len" = none
  isi : mg "isinstance" = none
  int : mg "int" = none
  bool : mg "bool" = none
  tuple : mg "tuple" = none
  list : mg "list" = none
  set : mg "set" = none
  all : mg "all" = none
  any : mg "any" = none
  enumerate : mg "enumerate" = none
  max : mg "max" = none
  min : mg "min" = none
  range : mg "range" = none
  sum : mg "sum" = none
  abs : mg "abs" = none

/-! ### the promises -/
def spInt : Sp := fun vs H Q _ => ∃ i, vs = [.int i] ∧ Q (.bl true) H
def spWithin : Sp := fun vs H Q _ => ∃ i lo hi : Int, vs = [.int i, .int lo, .int hi] ∧ lo ≤ i ∧ i ≤ hi ∧ Q (.bl true) H
def spFrom : Sp := fun vs H Q _ => ∃ i lo : Int, vs = [.int i, .int lo] ∧ lo ≤ i ∧ Q (.bl true) H
def spPair : Sp := fun vs H Q _ => ∃ (t : Addr) (x y : V), vs = [.ref t] ∧ H t = some (.tup [x, y]) ∧ Q (.bl true) H
def spWindow : Sp := fun vs H Q _ => ∃ (t : Addr) (fl : Int × Int), vs = [.ref t] ∧ IsWin H t fl ∧ WinOk fl ∧ Q (.bl true) H
def spInit (C : Addr) : Sp := fun vs H Q _ => ∃ (b dx a : Addr) (ws : List (Int × Int)), vs = [.ref b, .ref a] ∧ H b = some (.ins C dx []) ∧ IsWins H a ws ∧ 1 ≤ ws.length ∧ ws.length ≤ 40 ∧ (∀ fl, fl ∈ ws → WinOk fl) ∧
  ∀ H' : Hp, H' b = some (.ins C dx (bf a)) → (∀ c o, H c = some o → c ≠ b → H' c = some o) → Q .non H'
def spMany (C : Addr) : Sp := fun vs H Q _ => ∃ (b : Addr) (ws : List (Int × Int)), vs = [.ref b] ∧ IsBook C H b ws ∧ Q (.int ((ws.length : Nat) : Int)) H
def spFirst (C : Addr) : Sp := fun vs H Q _ => ∃ (b : Addr) (n : Nat) (ws : List (Int × Int)), vs = [.ref b, .int ((n : Nat) : Int)] ∧ IsBook C H b ws ∧ n < ws.length ∧ Q (.int (fsW ws n)) H
def spLast (C : Addr) : Sp := fun vs H Q _ => ∃ (b : Addr) (n : Nat) (ws : List (Int × Int)), vs = [.ref b, .int ((n : Nat) : Int)] ∧ IsBook C H b ws ∧ n < ws.length ∧ Q (.int (lsW ws n)) H
def spIsWork (C : Addr) : Sp := fun vs H Q _ => ∃ (b : Addr) (n : Nat) (ws : List (Int × Int)), vs = [.ref b, .int ((n : Nat) : Int)] ∧ IsBook C H b ws ∧ n < ws.length ∧ Q (.bl true) H
/-- a row is judged: v is what is handed back -/
def spRowIs (C : Addr) (v : V) : Sp := fun vs H Q _ => ∃ (b r : Addr) (ws : List (Int × Int)) (row : List Nat), vs = [.ref b, .ref r] ∧ IsBook C H b ws ∧ IsRow H r row ∧ row.Nodup ∧ (∀ w, w ∈ row → w < ws.length) ∧ row.length ≤ 40 ∧ ∀ H', Same H H' → Q v H'
def spLotIs (C : Addr) (v : V) : Sp := fun vs H Q _ => ∃ (b l : Addr) (ws : List (Int × Int)) (lot : List (Option Int)), vs = [.ref b, .ref l] ∧ IsBook C H b ws ∧ IsLot H l lot ∧ lot.length = ws.length ∧ ws.length ≤ 40 ∧ (∀ w a, lotAt lot w = some a → 0 ≤ a) ∧ ∀ H', Same H H' → Q v H'
/-- a book, a row, a lot -/
def spRun (C : Addr) (R : Hp → List (Int × Int) → List Nat → List (Option Int) → VK → Prop) : Sp := fun vs H Q _ => ∃ (b r l : Addr) (ws : List (Int × Int)) (row : List Nat) (lot : List (Option Int)), vs = [.ref b, .ref r, .ref l] ∧ RunOk C H b r l ws row lot ∧ R H ws row lot Q
def rCheck : Hp → List (Int × Int) → List Nat → List (Option Int) → VK → Prop := fun H _ _ _ Q => ∀ H', Same H H' → Q .non H'
def rRan : Hp → List (Int × Int) → List Nat → List (Option Int) → VK → Prop := fun H ws row lot Q => ∀ H' p, Same H H' → H p = none → IsRun H' p (ranFrom ws lot 0 row) → Q (.ref p) H'
def rLate : Hp → List (Int × Int) → List Nat → List (Option Int) → VK → Prop := fun H ws row lot Q => ∀ H' m, Same H H' → IsLate (hrs ws lot 0 row) m → Q (optV m) H'
def rServes : Hp → List (Int × Int) → List Nat → List (Option Int) → VK → Prop := fun H ws row lot Q => ∀ H', Same H H' → Q (.bl (servesB ws (ranFrom ws lot 0 row))) H'
/-- windows, a row, a lot -/
def spRunL (R : Hp → List (Int × Int) → List Nat → List (Option Int) → VK → Prop) : Sp := fun vs H Q _ => ∃ (a r l : Addr) (ws : List (Int × Int)) (row : List Nat) (lot : List (Option Int)), vs = [.ref a, .ref r, .ref l] ∧ IsWins H a ws ∧ IsRow H r row ∧ IsLot H l lot ∧
  (∀ w, w ∈ row → w < ws.length) ∧ row.length ≤ 40 ∧ lot.length = ws.length ∧ R H ws row lot Q
def spFlag : Sp := fun vs H Q _ => ∃ a, vs = [.bl a, .bl a] ∧ Q (.bl true) H
def spPool (K : PySem.W.Frag) : Sp := fun vs H Q _ => ∃ (a : Addr) (ns : List Int), vs = [.ref a] ∧ SqL K H a (ns.map V.int) ∧ ns.length ≤ 63 ∧ ∀ H' p q, Same H H' → PoolAt H' p q → Q (.ref p) H'
def spDraw : Sp := fun vs H Q _ => ∃ (p q : Addr) (m : Int), vs = [.ref p, .int m] ∧ PoolAt H p q ∧ 0 < m ∧ m < 1000000000 ∧
  ∀ (H' : Hp) (d : Int), PoolAt H' p q → Drew p q H H' → 0 ≤ d → d < m → Q (.int d) H'
def spWins : Sp := fun vs H Q _ => ∃ (p q : Addr) (n : Nat) (top : Int), vs = [.ref p, .int ((n : Nat) : Int), .int top] ∧ PoolAt H p q ∧ n ≤ 7 ∧ 1 ≤ top ∧ top ≤ 100000 ∧
  ∀ (H' : Hp) (a : Addr) (ws : List (Int × Int)), PoolAt H' p q → Kp H H' → IsWins H' a ws → ws.length = n → (∀ fl, fl ∈ ws → WinOk fl) → Q (.ref a) H'
def spMix : Sp := fun vs H Q _ => ∃ (p q r : Addr) (works : List Nat), vs = [.ref p, .ref r] ∧ PoolAt H p q ∧ IsRow H r works ∧ works.length ≤ 40 ∧
  ∀ (H' : Hp) (r' : Addr) (row : List Nat), PoolAt H' p q → Kp H H' → IsRow H' r' row → row.Perm works → Q (.ref r') H'
def spLots : Sp := fun vs H Q _ => ∃ (p q a r : Addr) (ws : List (Int × Int)) (row : List Nat), vs = [.ref p, .ref a, .ref r] ∧ PoolAt H p q ∧ IsWins H a ws ∧ (∀ fl, fl ∈ ws → WinOk fl) ∧ ws.length ≤ 40 ∧ IsRow H r row ∧
  ∀ (H' : Hp) (l : Addr) (lot : List (Option Int)), PoolAt H' p q → Kp H H' → IsLot H' l lot → lot.length = ws.length → (∀ w, w < ws.length → w ∈ row → ∃ d, lotAt lot w = some d ∧ 0 ≤ d) → (∀ w, w < ws.length → ¬ w ∈ row → lotAt lot w = none) → Q (.ref l) H'
def spSome : Sp := fun vs H Q _ => ∃ (p q : Addr) (n : Nat), vs = [.ref p, .int ((n : Nat) : Int)] ∧ PoolAt H p q ∧ n ≤ 7 ∧
  ∀ (H' : Hp) (r : Addr) (works : List Nat), PoolAt H' p q → Kp H H' → IsRow H' r works → works.Nodup → (∀ w, w ∈ works → w < n) → works.length ≤ n → Q (.ref r) H'
def spLaw (K : PySem.W.Frag) : Sp := fun vs H Q _ => ∃ (a : Addr) (ns : List Int), vs = [.ref a] ∧ SqL K H a (ns.map V.int) ∧ ns.length ≤ 63 ∧ ∀ H', Q (.bl true) H'
end K9

/-! Wv: tuples put together, cut, repeated: told by their items, whatever object it is. -/
namespace K9
open PySem PySem.Spec PyProof.Rows L2
def rCatV : R2 := fun x y H Q => ∃ a b xs ys, x = .ref a ∧ y = .ref b ∧ H a = some (.tup xs) ∧ H b = some (.tup ys) ∧ xs.length + ys.length ≤ sizeLine ∧ ∀ (p : Addr) (H' : Hp), Same H H' → H' p = some (.tup (xs ++ ys)) → Q (.ref p) H'
theorem op_catV {X : Cx} : OpR X (binaryOp .Add) rCatV := by
  intro pins s σ H x y v u Q I rx ry h
  obtain ⟨a, b, xs, ys, rfl, rfl, ha, hb, hz, q⟩ := h
  refine op_catA pins s σ H _ _ v u Q I rx ry ⟨a, b, xs, ys, rfl, rfl, SqT.of ha, SqT.of hb, hz, fun e => ?_, fun _ e => ?_, fun _ _ p np => ?_⟩
  · refine q b H (Same.refl H) ?_
    rw [e]
    exact hb
  · refine q a H (Same.refl H) ?_
    rw [e, List.append_nil]
    exact ha
  · exact q p _ (same_upd np) upd_same
def rSlV : V → Option Int → Option Int → Hp → VK → Prop := fun x lo hi H Q => ∃ a xs, x = .ref a ∧ H a = some (.tup xs) ∧ ∀ (p : Addr) (H' : Hp), Same H H' → H' p = some (.tup (cutV xs lo hi)) → Q (.ref p) H'
theorem sl_tupV {X : Cx} : SlR X rSlV := by
  intro pins s σ H x v vl vu lo hi sl Q I rx hs pl pu h
  obtain ⟨a, xs, rfl, ha, q⟩ := h
  refine sl_tupA pins s σ H _ v vl vu lo hi sl Q I rx hs pl pu ⟨a, xs, rfl, SqT.of ha, fun e => ?_, fun _ p np => q p _ (same_upd np) upd_same⟩
  refine q a H (Same.refl H) ?_
  unfold cutV
  rw [e.1, e.2, List.drop_zero, Nat.sub_zero, List.take_length]
  exact ha
def rRepV : R2 := fun x y H Q => ∃ l k v, x = .ref l ∧ y = .int k ∧ H l = some (.tup [v]) ∧ 1 ≤ k ∧ k ≤ 1000 ∧ ∀ (p : Addr) (H' : Hp), Same H H' → H' p = some (.tup (List.replicate k.toNat v)) → Q (.ref p) H'
theorem rep_flat {α : Type} (v : α) : ∀ n : Nat, (List.replicate n [v]).flatten = List.replicate n v
  | 0 => rfl
  | n + 1 => by
    rw [List.replicate_succ, List.replicate_succ, List.flatten_cons, rep_flat v n]
    rfl
theorem op_repV {X : Cx} : OpR X (binaryOp .Mult) rRepV := by
  intro pins s σ H x y v u Q I rx ry h
  obtain ⟨l, k, z, rfl, rfl, hl, k1, k2, q⟩ := h
  by_cases e : k = 1
  · subst e
    exact op_repT1 pins s σ H _ _ v u Q I rx ry ⟨l, _, rfl, rfl, SqT.of hl, q l H (Same.refl H) hl⟩
  · refine op_repT pins s σ H _ _ v u Q I rx ry ⟨l, k, _, rfl, rfl, SqT.of hl, List.cons_ne_nil _ _, by omega, k2, by show 1 ≤ 1000; decide, fun p np => ?_⟩
    refine q p _ (same_upd np) ?_
    rw [upd_same, rep_flat]
end K9

/-! Wd1: the checks. -/
namespace K9
open PySem PySem.Spec PyProof.Rows L2
section
variable {P : Program} {w : World} {K : PySem.W.Frag} {mg : Str → Option Value} {base : Heap}
abbrev sInt : Stmt := topS 6
abbrev sWithin : Stmt := topS 7
abbrev sFrom : Stmt := topS 8
abbrev sPair : Stmt := topS 9
theorem scInt : FnScope ["thing"] ["thing"] (defScope sInt) := ⟨rfl, rfl, rfl, by decide +kernel, rfl, by decide +kernel, by decide +kernel⟩
theorem scWithin : FnScope ["thing", "least", "most"] ["thing", "least", "most"] (defScope sWithin) := ⟨rfl, rfl, rfl, by decide +kernel, rfl, by decide +kernel, by decide +kernel⟩
theorem scFrom : FnScope ["thing", "least"] ["thing", "least"] (defScope sFrom) := ⟨rfl, rfl, rfl, by decide +kernel, rfl, by decide +kernel, by decide +kernel⟩
theorem scPair : FnScope ["thing"] ["thing"] (defScope sPair) := ⟨rfl, rfl, rfl, by decide +kernel, rfl, by decide +kernel, by decide +kernel⟩
theorem kit_ii : kitB "int" "int" = some true := by decide +kernel
theorem kit_ib : kitB "int" "bool" = some false := by decide +kernel
theorem kit_bb : kitB "bool" "bool" = some true := by decide +kernel
theorem kit_nb : kitB "NoneType" "bool" = some false := by decide +kernel
theorem kit_tt : kitB "tuple" "tuple" = some true := by decide +kernel

theorem ok_int {C f : Addr} {fd : FuncData} (F : Fun K "is_integer" "is_integer" sInt f fd) (T : Txt K mg C) : FnOk P w K mg base CX0 1 f fd ["thing"] spInt := by
  refine F.ok scInt (fun vs H Q E h => ?_) (fun cdv A outer s H vs Q E hr h => ?_)
  · obtain ⟨i, rfl, _⟩ := h
    rfl
  · obtain ⟨i, rfl, q⟩ := h
    refine ⟨_, pss_one (ps_ret (pe_and (pe_callB call_isi (by rfl) T.isi (by decide +kernel) (pa_cons (pv 0) (pa_cons (pe_bltn (v := .ty "int") (by rfl) T.int (by decide +kernel) rfl) pa_nil)))
      (pe_one (pe_not (pe_callB call_isi (by rfl) T.isi (by decide +kernel) (pa_cons (pv 0) (pa_cons (pe_bltn (v := .ty "bool") (by rfl) T.bool (by decide +kernel) rfl) pa_nil))))))), ?_⟩
    refine ⟨_, rfl, .int i, .ty "int", _, _, true, rfl, .ty "int", .base (.int i), kit_ty kit_ii, true, rfl, iteT ?_⟩
    exact ⟨_, rfl, .int i, .ty "bool", _, _, false, rfl, .ty "bool", .base (.int i), kit_ty kit_ib, false, rfl, q⟩

theorem ok_within {f : Addr} {fd : FuncData} (F : Fun K "is_within" "is_within" sWithin f fd) (D : Def P w K mg base "is_integer" 1 ["thing"] spInt) : FnOk P w K mg base CX0 2 f fd ["thing", "least", "most"] spWithin := by
  refine F.ok scWithin (fun vs H Q E h => ?_) (fun cdv A outer s H vs Q E hr h => ?_)
  · obtain ⟨i, lo, hi, rfl, _⟩ := h
    rfl
  · obtain ⟨i, lo, hi, rfl, h1, h2, q⟩ := h
    refine ⟨_, pss_one (ps_ret (pe_and (pe_def D hr (by decide) (pa_cons (pv 0) pa_nil)) (pe_one (pe_chain op_le op_le (pv 1) (pv 0) (pv 2))))), ?_⟩
    refine ⟨_, rfl, i, rfl, true, rfl, iteT ?_⟩
    refine ⟨_, rfl, _, rfl, lo, i, rfl, rfl, _, rfl, ?_⟩
    rw [decide_eq_true h1]
    refine iteT ⟨_, rfl, i, hi, rfl, rfl, ?_⟩
    show Q (.bl (decide (i ≤ hi))) H
    rw [decide_eq_true h2]
    exact q
theorem ok_from {f : Addr} {fd : FuncData} (F : Fun K "is_from" "is_from" sFrom f fd) (D : Def P w K mg base "is_integer" 1 ["thing"] spInt) : FnOk P w K mg base CX0 2 f fd ["thing", "least"] spFrom := by
  refine F.ok scFrom (fun vs H Q E h => ?_) (fun cdv A outer s H vs Q E hr h => ?_)
  · obtain ⟨i, lo, rfl, _⟩ := h
    rfl
  · obtain ⟨i, lo, rfl, h1, q⟩ := h
    refine ⟨_, pss_one (ps_ret (pe_and (pe_def D hr (by decide) (pa_cons (pv 0) pa_nil)) (pe_one (pe_cmpR op_ge (pv 0) (pv 1) (nomark _))))), ?_⟩
    refine ⟨_, rfl, i, rfl, true, rfl, iteT ?_⟩
    refine ⟨_, rfl, _, rfl, i, lo, rfl, rfl, ?_⟩
    show Q (.bl (decide (lo ≤ i))) H
    rw [decide_eq_true h1]
    exact q
theorem ok_pair {C f : Addr} {fd : FuncData} (F : Fun K "is_pair" "is_pair" sPair f fd) (T : Txt K mg C) : FnOk P w K mg base CX0 1 f fd ["thing"] spPair := by
  refine F.ok scPair (fun vs H Q E h => ?_) (fun cdv A outer s H vs Q E hr h => ?_)
  · obtain ⟨t, x, y, rfl, _⟩ := h
    rfl
  · obtain ⟨t, x, y, rfl, ht, q⟩ := h
    refine ⟨_, pss_one (ps_ret (pe_and (pe_callB call_isi (by rfl) T.isi (by decide +kernel) (pa_cons (pv 0) (pa_cons (pe_bltn (v := .ty "tuple") (by rfl) T.tuple (by decide +kernel) rfl) pa_nil)))
      (pe_one (pe_cmpR op_eq (pe_callB call_len_seq (by rfl) T.len PySem.boot_len (pa_cons (pv 0) pa_nil)) pe_int (nomark _))))), ?_⟩
    refine ⟨_, rfl, .ref t, .ty "tuple", _, _, true, rfl, .ty "tuple", .base (.tup ht), kit_ty kit_tt, true, rfl, iteT ?_⟩
    exact ⟨_, rfl, t, _, rfl, .inr (SqT.of ht), rfl, q⟩
end
end K9

/-! Wd2: books. -/
namespace K9
open PySem PySem.Spec PyProof.Rows L2
theorem kit_tt2 : kitB "tuple" "tuple" = some true := by decide +kernel
/-- i times True -/
def yes (i : Nat) : List V := (List.replicate i true).map V.bl
theorem yes_succ (i : Nat) : yes (i + 1) = yes i ++ [V.bl true] := by
  unfold yes
  rw [List.replicate_succ', List.map_append]
  rfl
theorem yes_len (i : Nat) : (yes i).length = i := by
  unfold yes
  rw [List.length_map, List.length_replicate]
theorem yes_all (i : Nat) : (List.replicate i true).all id = true := by
  rw [List.all_replicate]
  cases i <;> rfl
section
variable {P : Program} {w : World} {K : PySem.W.Frag} {mg : Str → Option Value} {base : Heap}
abbrev sWindow : Stmt := topS 13
abbrev sInit : Stmt := inClass (topS 14) 0
abbrev sMany : Stmt := topS 15
abbrev sFirst : Stmt := topS 16
abbrev sLast : Stmt := topS 17
abbrev sIsWork : Stmt := topS 18
abbrev sIsRow : Stmt := topS 19
abbrev sIsLot : Stmt := topS 20
abbrev sCheckRow : Stmt := topS 21
abbrev sCheckLot : Stmt := topS 22
theorem scWindow : FnScope ["thing"] ["thing"] (defScope sWindow) := ⟨rfl, rfl, rfl, by decide +kernel, rfl, by decide +kernel, by decide +kernel⟩
theorem scInit : FnScope ["self", "windows", "window"] ["self", "windows"] (defScope sInit) := ⟨rfl, rfl, rfl, by decide +kernel, rfl, by decide +kernel, by decide +kernel⟩
theorem scMany : FnScope ["book"] ["book"] (defScope sMany) := ⟨rfl, rfl, rfl, by decide +kernel, rfl, by decide +kernel, by decide +kernel⟩
theorem scFirst : FnScope ["book", "work"] ["book", "work"] (defScope sFirst) := ⟨rfl, rfl, rfl, by decide +kernel, rfl, by decide +kernel, by decide +kernel⟩
theorem scLast : FnScope ["book", "work"] ["book", "work"] (defScope sLast) := ⟨rfl, rfl, rfl, by decide +kernel, rfl, by decide +kernel, by decide +kernel⟩
theorem scIsWork : FnScope ["book", "thing"] ["book", "thing"] (defScope sIsWork) := ⟨rfl, rfl, rfl, by decide +kernel, rfl, by decide +kernel, by decide +kernel⟩
theorem scIsRow : FnScope ["book", "thing", "work"] ["book", "thing"] (defScope sIsRow) := ⟨rfl, rfl, rfl, by decide +kernel, rfl, by decide +kernel, by decide +kernel⟩
theorem scIsLot : FnScope ["book", "thing", "item"] ["book", "thing"] (defScope sIsLot) := ⟨rfl, rfl, rfl, by decide +kernel, rfl, by decide +kernel, by decide +kernel⟩
theorem scCheckRow : FnScope ["book", "thing"] ["book", "thing"] (defScope sCheckRow) := ⟨rfl, rfl, rfl, by decide +kernel, rfl, by decide +kernel, by decide +kernel⟩
theorem scCheckLot : FnScope ["book", "thing"] ["book", "thing"] (defScope sCheckLot) := ⟨rfl, rfl, rfl, by decide +kernel, rfl, by decide +kernel, by decide +kernel⟩

theorem ok_window {C f : Addr} {fd : FuncData} (F : Fun K "is_window" "is_window" sWindow f fd) (T : Txt K mg C) (DP : Def P w K mg base "is_pair" 1 ["thing"] spPair) (DW : Def P w K mg base "is_within" 2 ["thing", "least", "most"] spWithin) :
    FnOk P w K mg base CX0 3 f fd ["thing"] spWindow := by
  refine F.ok scWindow (fun vs H Q E h => ?_) (fun cdv A outer s H vs Q E hr h => ?_)
  · obtain ⟨t, fl, rfl, _⟩ := h
    rfl
  · obtain ⟨t, ⟨a, b⟩, rfl, ht, ⟨h0, h1, h2⟩, q⟩ := h
    obtain ⟨tk, mH⟩ := T.mH
    have ht : H t = some (.tup [.int a, .int b]) := ht
    refine ⟨_, pss_one (ps_ret (pe_and (pe_def DP hr (by decide) (pa_cons (pv 0) pa_nil))
      (pe_and (pe_def DW hr (by decide) (pa_cons (pe_ix ix_tup (pv 0) pe_int (fun _ _ => rfl)) (pa_cons pe_int (pa_cons (pe_glob (v := .int 1000000) (by rfl) mH ⟨_, rfl⟩) pa_nil))))
      (pe_one (pe_def DW hr (by decide) (pa_cons (pe_ix ix_tup (pv 0) pe_int (fun _ _ => rfl)) (pa_cons (pe_ix ix_tup (pv 0) pe_int (fun _ _ => rfl)) (pa_cons (pe_glob (v := .int 1000000) (by rfl) mH ⟨_, rfl⟩) pa_nil)))))))), ?_⟩
    refine ⟨_, rfl, t, _, _, rfl, ht, true, rfl, iteT ?_⟩
    refine ⟨_, rfl, t, _, 0, .int a, rfl, rfl, SqT.of ht, rfl, a, 0, 1000000, rfl, h0, Int.le_trans h1 h2, true, rfl, iteT ?_⟩
    exact ⟨_, rfl, t, _, 1, .int b, rfl, rfl, SqT.of ht, rfl, _, rfl, t, _, 0, .int a, rfl, rfl, SqT.of ht, rfl, b, a, 1000000, rfl, h1, h2, q⟩

theorem ok_init {C f : Addr} {fd : FuncData} (F : Fun K "__init__" "Book.__init__" sInit f fd) (T : Txt K mg C) (DW : Def P w K mg base "is_window" 3 ["thing"] spWindow) :
    FnOk P w K mg base CX0 4 f fd ["self", "windows"] (spInit C) := by
  refine F.ok scInit (fun vs H Q E h => ?_) (fun cdv A outer s H vs Q E hr h => ?_)
  · obtain ⟨b, dx, a, ws, rfl, _⟩ := h
    rfl
  · obtain ⟨b, dx, a, ws, rfl, hb, hw, l1, l40, hok, q⟩ := h
    obtain ⟨tk, mW⟩ := T.mW
    obtain ⟨ts, ha, el, hts⟩ := hw
    refine ⟨_, pss_cons (ps_if (PW.pt (pw_or (pt_not (pt_val (pe_callB call_isi (by rfl) T.isi (by decide +kernel) (pa_cons (pv 1) (pa_cons (pe_bltn (v := .ty "tuple") (by rfl) T.tuple (by decide +kernel) rfl) pa_nil)))))
        (pw_or1 (pt_not (pt_chain op_le op_le pe_int (pe_callB call_len_seq (by rfl) T.len PySem.boot_len (pa_cons (pv 1) pa_nil)) (pe_glob (v := .int 40) (by rfl) mW ⟨_, rfl⟩)))))) pss_never pss_nil)
      (pss_cons (ps_if (pt_not (pt_val (pe_callB (cr_all rfl) (by rfl) T.all (by decide +kernel) (pa_cons (pe_lc (own := [("window", 2)]) (g := gName 2) (tt := tYes) rfl scInit.nd (pi_tup (pv 1)) (blkOk_by (own := [("window", 2)]) (N := ["self", "windows", "window"]) (sc := defScope sInit) (by decide +kernel))
          (fun _ _ _ _ _ => pg_name (i := 2) scInit.nd rfl (Or.inl rfl)) (fun _ _ _ _ _ => pts_nil) (fun _ _ _ _ _ => pe_def DW hr (by decide) (pa_cons (pv 2) pa_nil))) pa_nil)))) pss_never pss_nil)
      (pss_cons (ps_fld (pv 0) (pv 1) rfl) (pss_one (ps_fld (pv 0) (pv 1) rfl)))), ?_⟩
    refine ⟨_, rfl, .ref a, .ty "tuple", _, _, true, rfl, .ty "tuple", .base (.tup ha), kit_ty kit_tt2, true, rfl, iteF ?_⟩
    refine ⟨_, rfl, a, _, rfl, .inr (SqT.of ha), 1, _, rfl, rfl, _, rfl, ?_⟩
    rw [decide_eq_true (by rw [List.length_map]; omega)]
    refine iteT ⟨_, 40, rfl, rfl, ?_⟩
    refine ⟨_, rfl, ?_⟩
    rw [decide_eq_true (by rw [List.length_map]; omega)]
    refine iteF ?_
    refine ⟨_, rfl, a, rfl, ⟨_, SqT.of ha⟩, fun D hD => ?_⟩
    have s1 : ∀ i, Same H (upd H D (.lst (yes i))) := fun i => same_upd hD
    refine lc_tup (K := K) (a := a) (xs := ts.map V.ref) (fun i H' => H' = upd H D (.lst (yes i))) rfl (fun i H' _ e => by rw [e]; exact SqT.of (s1 i _ _ ha)) ?_ ?_
    · rintro i x H' hx rfl
      rw [List.getElem?_map] at hx
      cases et : ts[i]? with
      | none =>
        rw [et] at hx
        cases hx
      | some t =>
        rw [et] at hx
        obtain rfl : V.ref t = x := Option.some.inj hx
        have hi : i < ws.length := by
          have z := (List.getElem?_eq_some_iff.mp et).1
          omega
        have ht := hts i t ws[i] et (List.getElem?_eq_getElem hi)
        refine ⟨rfl, yesT ⟨_, rfl, t, ws[i], rfl, s1 i _ _ ht, hok _ (List.getElem_mem hi), yes i, upd_same, ?_, ?_⟩⟩
        · rw [yes_len]
          exact small1000 (by omega)
        · rw [upd_upd, yes_succ]
    · rintro H' rfl
      refine ⟨D, List.replicate (ts.map V.ref).length true, rfl, SqL.of upd_same, true, ?_, iteF ?_⟩
      · rw [yes_all]
      · have s2 := s1 (ts.map V.ref).length
        have hb2 := s2 _ _ hb
        refine ⟨_, rfl, _, rfl, b, C, dx, [], rfl, hb2, T.cl, T.nW, (by show 0 < 1000; decide), _, rfl, _, rfl, b, C, dx, _, rfl, upd_same, T.cl, T.nK, (by show 1 < 1000; decide), ?_⟩
        refine q _ ?_ fun c o e ne => ?_
        · rw [upd_same]
          rfl
        · rw [upd_ne ne, upd_ne ne]
          exact s2 _ _ e
end
end K9

/-! Wd3: works, rows, lots of a book. -/
namespace K9
open PySem PySem.Spec PyProof.Rows L2
section
variable {P : Program} {w : World} {K : PySem.W.Frag} {mg : Str → Option Value} {base : Heap}
theorem ok_many {C f : Addr} {fd : FuncData} (F : Fun K "many_of" "many_of" sMany f fd) (T : Txt K mg C) : FnOk P w K mg base CX0 1 f fd ["book"] (spMany C) := by
  refine F.ok scMany (fun vs H Q E h => ?_) (fun cdv A outer s H vs Q E hr h => ?_)
  · obtain ⟨b, ws, rfl, _⟩ := h
    rfl
  · obtain ⟨b, ws, rfl, ⟨dx, a, hb, ts, ha, el, _⟩, q⟩ := h
    refine ⟨_, pss_one (ps_ret (pe_callB call_len_seq (by rfl) T.len PySem.boot_len (pa_cons (pe_fld (pv 0) rfl) pa_nil))), ?_⟩
    refine ⟨_, rfl, b, C, dx, _, _, rfl, hb, T.cl, T.nK, bf_kept a, a, _, rfl, .inr (SqT.of ha), ?_⟩
    show Q (.int (((ts.map V.ref).length : Nat) : Int)) H
    rw [List.length_map, el]
    exact q
theorem ok_first {C f : Addr} {fd : FuncData} (F : Fun K "first_of" "first_of" sFirst f fd) (T : Txt K mg C) : FnOk P w K mg base CX0 1 f fd ["book", "work"] (spFirst C) := by
  refine F.ok scFirst (fun vs H Q E h => ?_) (fun cdv A outer s H vs Q E hr h => ?_)
  · obtain ⟨b, n, ws, rfl, _⟩ := h
    rfl
  · obtain ⟨b, n, ws, rfl, ⟨dx, a, hb, hw⟩, hn, q⟩ := h
    obtain ⟨ts, t, ha, ht, hx⟩ := hw.get hn
    refine ⟨_, pss_one (ps_ret (pe_ix ix_tup (pe_ix ix_tup (pe_fld (pv 0) rfl) (pv 1) (fun _ _ => rfl)) pe_int (fun _ _ => rfl))), ?_⟩
    exact ⟨_, rfl, b, C, dx, _, _, rfl, hb, T.cl, T.nK, bf_kept a, _, rfl, a, _, _, .ref t, rfl, rfl, SqT.of ha, atI_nat ht, t, _, 0, _, rfl, rfl, SqT.of hx, rfl, q⟩
theorem ok_last {C f : Addr} {fd : FuncData} (F : Fun K "last_of" "last_of" sLast f fd) (T : Txt K mg C) : FnOk P w K mg base CX0 1 f fd ["book", "work"] (spLast C) := by
  refine F.ok scLast (fun vs H Q E h => ?_) (fun cdv A outer s H vs Q E hr h => ?_)
  · obtain ⟨b, n, ws, rfl, _⟩ := h
    rfl
  · obtain ⟨b, n, ws, rfl, ⟨dx, a, hb, hw⟩, hn, q⟩ := h
    obtain ⟨ts, t, ha, ht, hx⟩ := hw.get hn
    refine ⟨_, pss_one (ps_ret (pe_ix ix_tup (pe_ix ix_tup (pe_fld (pv 0) rfl) (pv 1) (fun _ _ => rfl)) pe_int (fun _ _ => rfl))), ?_⟩
    exact ⟨_, rfl, b, C, dx, _, _, rfl, hb, T.cl, T.nK, bf_kept a, _, rfl, a, _, _, .ref t, rfl, rfl, SqT.of ha, atI_nat ht, t, _, 1, _, rfl, rfl, SqT.of hx, rfl, q⟩
theorem ok_isWork {C f : Addr} {fd : FuncData} (F : Fun K "is_work" "is_work" sIsWork f fd) (DW : Def P w K mg base "is_within" 2 ["thing", "least", "most"] spWithin) (DM : Def P w K mg base "many_of" 1 ["book"] (spMany C)) :
    FnOk P w K mg base CX0 3 f fd ["book", "thing"] (spIsWork C) := by
  refine F.ok scIsWork (fun vs H Q E h => ?_) (fun cdv A outer s H vs Q E hr h => ?_)
  · obtain ⟨b, n, ws, rfl, _⟩ := h
    rfl
  · obtain ⟨b, n, ws, rfl, hb, hn, q⟩ := h
    refine ⟨_, pss_one (ps_ret (pe_def DW hr (by decide) (pa_cons (pv 1) (pa_cons pe_int (pa_cons (pe_op op_sub (pe_def DM hr (by decide) (pa_cons (pv 0) pa_nil)) pe_int) pa_nil))))), ?_⟩
    exact ⟨_, rfl, _, rfl, b, ws, rfl, hb, _, 1, rfl, rfl, ((n : Nat) : Int), 0, ((ws.length : Nat) : Int) - 1, rfl, by omega, by omega, q⟩
theorem ok_isRow {C f : Addr} {fd : FuncData} (F : Fun K "is_row" "is_row" sIsRow f fd) (T : Txt K mg C) (DW : Def P w K mg base "is_work" 3 ["book", "thing"] (spIsWork C)) :
    FnOk P w K mg base CX0 4 f fd ["book", "thing"] (spRowIs C (.bl true)) := by
  refine F.ok scIsRow (fun vs H Q E h => ?_) (fun cdv A outer s H vs Q E hr h => ?_)
  · obtain ⟨b, r, ws, row, rfl, _⟩ := h
    rfl
  · obtain ⟨b, r, ws, row, rfl, hb, hrow, nd, hle, l40, q⟩ := h
    have hrow : H r = some (.tup (rowV row)) := hrow
    refine ⟨_, pss_cons (ps_if (PW.pt (pw_or (pt_not (pt_val (pe_callB call_isi (by rfl) T.isi (by decide +kernel) (pa_cons (pv 1) (pa_cons (pe_bltn (v := .ty "tuple") (by rfl) T.tuple (by decide +kernel) rfl) pa_nil)))))
        (pw_or1 (pt_not (pt_val (pe_callB (cr_all rfl) (by rfl) T.all (by decide +kernel) (pa_cons (pe_lc (own := [("work", 2)]) (g := gName 2) (tt := tYes) rfl scIsRow.nd (pi_tup (pv 1)) (blkOk_by (own := [("work", 2)]) (N := ["book", "thing", "work"]) (sc := defScope sIsRow) (by decide +kernel))
          (fun _ _ _ _ _ => pg_name (i := 2) scIsRow.nd rfl (Or.inl rfl)) (fun _ _ _ _ _ => pts_nil) (fun _ _ _ _ _ => pe_def DW hr (by decide) (pa_cons (pv 0) (pa_cons (pv 2) pa_nil)))) pa_nil))))))) pss_never pss_nil)
      (pss_one (ps_ret (pe_cmpR op_eq (RZ.pe_lenSetI (by rfl) T.len (by rfl) T.set (pe_callTy call_list_of (by rfl) T.list (by decide +kernel) (pa_cons (pv 1) pa_nil)))
        (pe_callB call_len_seq (by rfl) T.len PySem.boot_len (pa_cons (pv 1) pa_nil)) (nomark _)))), ?_⟩
    refine ⟨_, rfl, .ref r, .ty "tuple", _, _, true, rfl, .ty "tuple", .base (.tup hrow), kit_ty kit_tt2, true, rfl, iteF ?_⟩
    refine ⟨_, rfl, r, rfl, ⟨_, SqT.of hrow⟩, fun D hD => ?_⟩
    have s1 : ∀ i, Same H (upd H D (.lst (yes i))) := fun i => same_upd hD
    refine lc_tup (K := K) (a := r) (xs := rowV row) (fun i H' => H' = upd H D (.lst (yes i))) rfl (fun i H' _ e => by rw [e]; exact SqT.of (s1 i _ _ hrow)) ?_ ?_
    · rintro i x H' hx rfl
      obtain ⟨n, hn, rfl⟩ := rowV_get hx
      refine ⟨rfl, yesT ⟨_, rfl, _, rfl, b, n, ws, rfl, (Kp.of_same (s1 i)).book hb, hle n (List.mem_of_getElem? hn), yes i, upd_same, ?_, ?_⟩⟩
      · rw [yes_len]
        have z := (List.getElem?_eq_some_iff.mp hn).1
        exact small1000 (by omega)
      · rw [upd_upd, yes_succ]
    · rintro H' rfl
      refine ⟨D, List.replicate (rowV row).length true, rfl, SqL.of upd_same, true, ?_, iteF ?_⟩
      · rw [yes_all]
      · have s2 := s1 (rowV row).length
        refine ⟨_, rfl, r, _, rfl, .inr (SqT.of (s2 _ _ hrow)), fun l hl => ?_⟩
        have s3 : Same H (upd (upd H D (.lst (yes (rowV row).length))) l (.lst (rowV row))) := s2.trans (same_upd hl)
        refine ⟨l, row.map fun n => ((n : Nat) : Int), rfl, ?_, ?_, ?_, ?_⟩
        · rw [List.map_map]
          exact SqL.of upd_same
        · exact List.Pairwise.map _ (fun a b hab z => hab (by omega)) nd
        · rw [List.length_map]
          omega
        · refine ⟨_, rfl, r, _, rfl, .inr (SqT.of (s3 _ _ hrow)), rfl, ?_⟩
          show Q (.bl (decide (V.int (((row.map fun n => ((n : Nat) : Int)).length : Nat) : Int) = V.int (((rowV row).length : Nat) : Int)))) _
          rw [decide_eq_true (by rw [List.length_map, rowV_len])]
          exact q _ s3
theorem ok_isLot {C f : Addr} {fd : FuncData} (F : Fun K "is_lot" "is_lot" sIsLot f fd) (T : Txt K mg C) (DM : Def P w K mg base "many_of" 1 ["book"] (spMany C)) (DF : Def P w K mg base "is_from" 2 ["thing", "least"] spFrom) :
    FnOk P w K mg base CX0 3 f fd ["book", "thing"] (spLotIs C (.bl true)) := by
  refine F.ok scIsLot (fun vs H Q E h => ?_) (fun cdv A outer s H vs Q E hr h => ?_)
  · obtain ⟨b, l, ws, lot, rfl, _⟩ := h
    rfl
  · obtain ⟨b, l, ws, lot, rfl, hb, hlot, ell, l40, hnn, q⟩ := h
    have hlot : H l = some (.tup (lotV lot)) := hlot
    refine ⟨_, pss_cons (ps_if (PW.pt (pw_or (pt_not (pt_val (pe_callB call_isi (by rfl) T.isi (by decide +kernel) (pa_cons (pv 1) (pa_cons (pe_bltn (v := .ty "tuple") (by rfl) T.tuple (by decide +kernel) rfl) pa_nil)))))
        (pw_or1 (pt_cmpR op_ne (pe_callB call_len_seq (by rfl) T.len PySem.boot_len (pa_cons (pv 1) pa_nil)) (pe_def DM hr (by decide) (pa_cons (pv 0) pa_nil)) (nomark _))))) pss_never pss_nil)
      (pss_one (ps_ret (pe_callB (cr_all rfl) (by rfl) T.all (by decide +kernel) (pa_cons (pe_lc (own := [("item", 2)]) (g := gName 2) (tt := tYes) rfl scIsLot.nd (pi_tup (pv 1)) (blkOk_by (own := [("item", 2)]) (N := ["book", "thing", "item"]) (sc := defScope sIsLot) (by decide +kernel))
          (fun _ _ _ _ _ => pg_name (i := 2) scIsLot.nd rfl (Or.inl rfl)) (fun _ _ _ _ _ => pts_nil) (fun _ _ _ _ _ => pe_or (pe_cmpR op_isN (pv 2) pe_non (nomark _)) (pe_one (pe_def DF hr (by decide) (pa_cons (pv 2) (pa_cons pe_int pa_nil)))))) pa_nil)))), ?_⟩
    refine ⟨_, rfl, .ref l, .ty "tuple", _, _, true, rfl, .ty "tuple", .base (.tup hlot), kit_ty kit_tt2, true, rfl, iteF ?_⟩
    refine ⟨_, rfl, l, _, rfl, .inr (SqT.of hlot), _, rfl, b, ws, rfl, hb, rfl, _, rfl, ?_⟩
    rw [lotV_len, ell, decide_eq_true rfl]
    refine iteF ?_
    refine ⟨_, rfl, l, rfl, ⟨_, SqT.of hlot⟩, fun D hD => ?_⟩
    have s1 : ∀ i, Same H (upd H D (.lst (yes i))) := fun i => same_upd hD
    refine lc_tup (K := K) (a := l) (xs := lotV lot) (fun i H' => H' = upd H D (.lst (yes i))) rfl (fun i H' _ e => by rw [e]; exact SqT.of (s1 i _ _ hlot)) ?_ ?_
    · rintro i x H' hx rfl
      obtain ⟨hi, rfl⟩ := lotV_get hx
      have fin : ∃ acc, (upd H D (.lst (yes i))) D = some (.lst acc) ∧ acc.length < sizeLine ∧ upd (upd H D (.lst (yes i))) D (.lst (acc ++ [V.bl true])) = upd H D (.lst (yes (i + 1))) :=
        ⟨yes i, upd_same, by rw [yes_len]; exact small1000 (by omega), by rw [upd_upd, yes_succ]⟩
      refine ⟨rfl, yesT ?_⟩
      cases e : lotAt lot i with
      | none => exact ⟨_, rfl, rfl, true, rfl, iteT fin⟩
      | some a => exact ⟨_, rfl, rfl, false, rfl, iteF ⟨_, rfl, a, 0, rfl, hnn i a e, fin⟩⟩
    · rintro H' rfl
      refine ⟨D, List.replicate (lotV lot).length true, rfl, SqL.of upd_same, ?_⟩
      show Q (.bl ((List.replicate (lotV lot).length true).all id)) _
      rw [yes_all]
      exact q _ (s1 _)
theorem ok_checkRow {C f : Addr} {fd : FuncData} (F : Fun K "check_row" "check_row" sCheckRow f fd) (D : Def P w K mg base "is_row" 4 ["book", "thing"] (spRowIs C (.bl true))) :
    FnOk P w K mg base CX0 5 f fd ["book", "thing"] (spRowIs C .non) := by
  refine F.ok scCheckRow (fun vs H Q E h => ?_) (fun cdv A outer s H vs Q E hr h => ?_)
  · obtain ⟨b, r, ws, row, rfl, _⟩ := h
    rfl
  · obtain ⟨b, r, ws, row, rfl, h1, h2, h3, h4, h5, q⟩ := h
    refine ⟨_, pss_one (ps_if (pt_not (pt_val (pe_def D hr (by decide) (pa_cons (pv 0) (pa_cons (pv 1) pa_nil))))) pss_never pss_nil), ?_⟩
    exact ⟨_, rfl, _, rfl, b, r, ws, row, rfl, h1, h2, h3, h4, h5, fun H' s1 => ⟨true, rfl, iteF (q H' s1)⟩⟩
theorem ok_checkLot {C f : Addr} {fd : FuncData} (F : Fun K "check_lot" "check_lot" sCheckLot f fd) (D : Def P w K mg base "is_lot" 3 ["book", "thing"] (spLotIs C (.bl true))) :
    FnOk P w K mg base CX0 4 f fd ["book", "thing"] (spLotIs C .non) := by
  refine F.ok scCheckLot (fun vs H Q E h => ?_) (fun cdv A outer s H vs Q E hr h => ?_)
  · obtain ⟨b, r, ws, row, rfl, _⟩ := h
    rfl
  · obtain ⟨b, r, ws, row, rfl, h1, h2, h3, h4, h5, q⟩ := h
    refine ⟨_, pss_one (ps_if (pt_not (pt_val (pe_def D hr (by decide) (pa_cons (pv 0) (pa_cons (pv 1) pa_nil))))) pss_never pss_nil), ?_⟩
    exact ⟨_, rfl, _, rfl, b, r, ws, row, rfl, h1, h2, h3, h4, h5, fun H' s1 => ⟨true, rfl, iteF (q H' s1)⟩⟩
end
end K9

/-! Wd4: runs: the check, the run itself. -/
namespace K9
open PySem PySem.Spec PyProof.Rows L2
/-- i times False -/
def noL (i : Nat) : List V := (List.replicate i false).map V.bl
theorem noL_succ (i : Nat) : noL (i + 1) = noL i ++ [V.bl false] := by
  unfold noL
  rw [List.replicate_succ', List.map_append]
  rfl
theorem noL_len (i : Nat) : (noL i).length = i := by
  unfold noL
  rw [List.length_map, List.length_replicate]
theorem noL_any (i : Nat) : (List.replicate i false).any id = false := by
  rw [List.any_replicate]
  cases i <;> rfl
theorem run_snoc {H : Hp} {o T : Addr} {ts : List Addr} {acc : List (Nat × Int × Int)} {x : Nat × Int × Int} (h1 : H o = some (.lst (ts.map V.ref))) (h2 : ts.length = acc.length)
    (h3 : ∀ (i : Nat) (t : Addr) (y : Nat × Int × Int), ts[i]? = some t → acc[i]? = some y → IsTrip H t y) (hT : H T = none) :
    IsRun (upd (upd H T (.tup [.int ((x.1 : Nat) : Int), .int x.2.1, .int x.2.2])) o (.lst (ts.map V.ref ++ [.ref T]))) o (acc ++ [x]) := by
  have hoT : o ≠ T := ne_of_none h1 hT
  refine ⟨ts ++ [T], ?_, ?_, fun i t y e1 e2 => ?_⟩
  · rw [upd_same, List.map_append]
    rfl
  · rw [List.length_append, List.length_append, h2]
    rfl
  · by_cases hi : i < ts.length
    · rw [List.getElem?_append_left hi] at e1
      rw [List.getElem?_append_left (by omega)] at e2
      have q : H t = some _ := h3 i t y e1 e2
      have n1 : t ≠ o := ne_of q h1 (by intro z; cases z)
      have n2 : t ≠ T := ne_of_none q hT
      show upd _ o _ t = _
      rw [upd_ne n1, upd_ne n2]
      exact q
    · have hi2 : i = ts.length := by
        have z := (List.getElem?_eq_some_iff.mp e1).1
        rw [List.length_append] at z
        simp only [List.length_cons, List.length_nil] at z
        omega
      subst hi2
      rw [List.getElem?_append_right (Nat.le_refl _), Nat.sub_self] at e1
      rw [h2, List.getElem?_append_right (Nat.le_refl _), Nat.sub_self] at e2
      obtain rfl : T = t := Option.some.inj e1
      obtain rfl : x = y := Option.some.inj e2
      show upd _ o _ T = _
      rw [upd_ne hoT.symm, upd_same]
theorem drop_at {α : Type} {l : List α} {i : Nat} {x : α} (h : l[i]? = some x) : l.drop i = x :: l.drop (i + 1) := by
  obtain ⟨h1, h2⟩ := List.getElem?_eq_some_iff.mp h
  rw [List.drop_eq_getElem_cons h1, h2]
theorem take_at {α : Type} {l : List α} {i : Nat} {x : α} (h : l[i]? = some x) : l.take (i + 1) = l.take i ++ [x] := by
  rw [List.take_add_one, h]
  rfl
/-- rules by values, the written part named (within a comprehension) -/
theorem op_notInK {X : Cx} {K : PySem.W.Frag} (h : X.K = K) : OpR X (compareOp .NotIn) (rIn K true) := by
  subst h
  exact op_notIn_seq
theorem ix_tupK {X : Cx} {K : PySem.W.Frag} (h : X.K = K) : IxR X (rIxT K) := by
  subst h
  exact ix_tup
theorem ix_listK {X : Cx} {K : PySem.W.Frag} (h : X.K = K) : IxR X (rIxL K) := by
  subst h
  exact ix_list
theorem call_lenK {X : Cx} {K : PySem.W.Frag} (h : X.K = K) : CallR X (.builtin "len") (fun xs H Q => ∃ p ys, xs = [.ref p] ∧ (SqL K H p ys ∨ SqT K H p ys) ∧ Q (.int ys.length) H) := by
  subst h
  exact call_len_seq
section
variable {P : Program} {w : World} {K : PySem.W.Frag} {mg : Str → Option Value} {base : Heap}
abbrev sCheckRun : Stmt := topS 24
abbrev sRan : Stmt := topS 25
theorem scCheckRun : FnScope ["book", "row", "lot", "work", "item"] ["book", "row", "lot"] (defScope sCheckRun) := ⟨rfl, rfl, rfl, by decide +kernel, rfl, by decide +kernel, by decide +kernel⟩
theorem scRan : FnScope ["book", "row", "lot", "found", "clock", "work", "begin"] ["book", "row", "lot"] (defScope sRan) := ⟨rfl, rfl, rfl, by decide +kernel, rfl, by decide +kernel, by decide +kernel⟩

theorem ok_checkRun {C f : Addr} {fd : FuncData} (F : Fun K "check_run" "check_run" sCheckRun f fd) (T : Txt K mg C) (DR : Def P w K mg base "check_row" 5 ["book", "thing"] (spRowIs C .non)) (DL : Def P w K mg base "check_lot" 4 ["book", "thing"] (spLotIs C .non)) :
    FnOk P w K mg base CX0 6 f fd ["book", "row", "lot"] (spRun C rCheck) := by
  refine F.ok scCheckRun (fun vs H Q E h => ?_) (fun cdv A outer s H vs Q E hr h => ?_)
  · obtain ⟨b, r, l, ws, row, lot, rfl, _⟩ := h
    rfl
  · obtain ⟨b, r, l, ws, row, lot, rfl, R, q⟩ := h
    refine ⟨_, pss_cons (ps_expr (pe_def DR hr (by decide) (pa_cons (pv 0) (pa_cons (pv 1) pa_nil))))
      (pss_cons (ps_expr (pe_def DL hr (by decide) (pa_cons (pv 0) (pa_cons (pv 2) pa_nil))))
      (pss_one (ps_if (pt_val (pe_callB (cr_any rfl) (by rfl) T.any (by decide +kernel) (pa_cons (pe_lc (own := [("work", 3), ("item", 4)]) (g := gTup K 2 (gCons (gName 3) (gCons (gName 4) gNil))) (tt := tYes) rfl scCheckRun.nd (pi_enumT (by rfl) T.enumerate (pa_cons (pv 2) pa_nil))
          (blkOk_by (own := [("work", 3), ("item", 4)]) (N := ["book", "row", "lot", "work", "item"]) (sc := defScope sCheckRun) (by decide +kernel))
          (fun _ _ _ _ _ => pg_tup rfl (pgs_cons (pg_name (i := 3) scCheckRun.nd rfl (Or.inl rfl)) (pgs_cons (pg_name (i := 4) scCheckRun.nd rfl (Or.inl rfl)) pgs_nil))) (fun _ _ _ _ _ => pts_nil)
          (fun _ _ _ _ _ => pe_and (pe_cmpR op_notN (pv 4) pe_non (nomark _)) (pe_one (pe_cmpR (op_notInK (K := K) rfl) (pv 3) (pv 1) (by rfl))))) pa_nil))) pss_never pss_nil))), ?_⟩
    refine ⟨_, rfl, _, rfl, b, r, ws, row, rfl, R.bk, R.rw, R.nd, R.le, R.rl, fun H1 s1 => ?_⟩
    have R1 := R.kp (Kp.of_same s1)
    refine ⟨_, rfl, _, rfl, b, l, ws, lot, rfl, R1.bk, R1.lt, R1.ll, R1.wl, R1.nn, fun H2 s2 => ?_⟩
    have R2 := R1.kp (Kp.of_same s2)
    have hlot : H2 l = some (.tup (lotV lot)) := R2.lt
    have hrow : H2 r = some (.tup (rowV row)) := R2.rw
    refine ⟨_, rfl, l, _, rfl, SqT.of hlot, fun D hD => ?_⟩
    refine lc_enumT (K := K) (a := l) (xs := lotV lot) (fun i H' => Same H2 H' ∧ H' D = some (.lst (noL i))) ⟨same_upd hD, upd_same⟩ (fun i H' _ e => SqT.of (e.1 _ _ hlot)) ?_ ?_
    · rintro i x U H' hx ⟨s3, eD⟩ nU
      obtain ⟨hi, rfl⟩ := lotV_get hx
      have s4 : Same H2 (upd H' U (.tup [.int ((i : Nat) : Int), optV (lotAt lot i)])) := s3.trans (same_upd nU)
      have fin : ∃ acc, (upd H' U (.tup [.int ((i : Nat) : Int), optV (lotAt lot i)])) D = some (.lst acc) ∧ acc.length < sizeLine ∧
          (Same H2 (upd (upd H' U (.tup [.int ((i : Nat) : Int), optV (lotAt lot i)])) D (.lst (acc ++ [V.bl false]))) ∧ (upd (upd H' U (.tup [.int ((i : Nat) : Int), optV (lotAt lot i)])) D (.lst (acc ++ [V.bl false]))) D = some (.lst (noL (i + 1)))) := by
        have nDU : D ≠ U := ne_of_none eD nU
        refine ⟨noL i, by rw [upd_ne nDU]; exact eD, by rw [noL_len]; exact small1000 (by have := R.wl; have := R.ll; omega), fun c o e => ?_, by rw [upd_same, noL_succ]⟩
        have n1 : c ≠ D := ne_of_none e hD
        rw [upd_ne n1]
        exact s4 _ _ e
      refine ⟨U, _, rfl, SqT.of upd_same, rfl, _, _, rfl, _, _, rfl, rfl, rfl, yesT ?_⟩
      cases e : lotAt lot i with
      | none =>
        rw [e] at fin
        exact ⟨_, rfl, rfl, false, rfl, iteF fin⟩
      | some a =>
        rw [e] at fin s4
        refine ⟨_, rfl, rfl, true, rfl, iteT ⟨_, rfl, _, rfl, r, _, rfl, .inr (SqT.of (s4 _ _ hrow)), rfl, flat_row row, ?_⟩⟩
        show ∃ acc, _ ∧ _ ∧ (Same H2 (upd _ D (.lst (acc ++ [V.bl (!inV (.int ((i : Nat) : Int)) (rowV row))]))) ∧ (upd _ D (.lst (acc ++ [V.bl (!inV (.int ((i : Nat) : Int)) (rowV row))]))) D = _)
        rw [inV_row, decide_eq_true (R.inn i a e)]
        exact fin
    · rintro H' ⟨s3, eD⟩
      refine ⟨D, List.replicate (lotV lot).length false, rfl, SqL.of eD, false, ?_, iteF (q H' ((s1.trans s2).trans s3))⟩
      rw [noL_any]

theorem ok_ran {C f : Addr} {fd : FuncData} (F : Fun K "ran" "ran" sRan f fd) (T : Txt K mg C) (DF : Def P w K mg base "first_of" 1 ["book", "work"] (spFirst C)) :
    FnOk P w K mg base CX0 2 f fd ["book", "row", "lot"] (spRun C rRan) := by
  refine F.ok scRan (fun vs H Q E h => ?_) (fun cdv A outer s H vs Q E hr h => ?_)
  · obtain ⟨b, r, l, ws, row, lot, rfl, _⟩ := h
    rfl
  · obtain ⟨b, r, l, ws, row, lot, rfl, R, q⟩ := h
    have hlot : H l = some (.tup (lotV lot)) := R.lt
    have hrow : H r = some (.tup (rowV row)) := R.rw
    refine ⟨_, pss_cons (ps_set (i := 3) scRan.nd rfl (Or.inl rfl) (pe_lst pa_nil)) (pss_cons (ps_set (i := 4) scRan.nd rfl (Or.inl rfl) pe_int)
      (pss_cons (ps_for PassesOwn.never rfl (pi_tup (pv 1)) (pg_name (i := 5) scRan.nd rfl (Or.inl rfl))
        (pss_one (ps_if (pt_cmpR op_notN (pe_ix ix_tup (pv 2) (pv 5) (fun _ _ => rfl)) pe_non (nomark _))
          (pss_cons (ps_set (i := 6) scRan.nd rfl (Or.inl rfl) (pe_callB (call_max2 rfl) (by rfl) T.max (by decide +kernel) (pa_cons (pv 4) (pa_cons (pe_def DF hr (by decide) (pa_cons (pv 0) (pa_cons (pv 5) pa_nil))) pa_nil))))
          (pss_cons (ps_set (i := 4) scRan.nd rfl (Or.inl rfl) (pe_op op_add (pv 6) (pe_ix ix_tup (pv 2) (pv 5) (fun _ _ => rfl))))
          (pss_one (ps_expr (pe_bm PySem.F.plainAttrs_list PySem.F.slot_list_append PySem.F.type_list_append mt_append (pv 3) (pa_cons (pe_tup (pa_cons (pv 5) (pa_cons (pv 6) (pa_cons (pv 4) pa_nil)))) pa_nil)))))) pss_nil)))
      (pss_one (ps_ret (pv 3))))), ?_⟩
    refine ⟨Nat.zero_le _, fun o no => ?_⟩
    refine ⟨_, rfl, r, rfl, ⟨_, SqT.of (same_upd no _ _ hrow)⟩, for_tup (K := K) (a := r) (xs := rowV row) (fun i σ H' => ∃ (c : Int) (acc : List (Nat × Int × Int)) (v5 v6 : Option V), σ = [some (.ref b), some (.ref r), some (.ref l), some (.ref o), some (.int c), v5, v6] ∧
        Same H H' ∧ IsRun H' o acc ∧ acc ++ ranFrom ws lot c (row.drop i) = ranFrom ws lot 0 row ∧ acc.length ≤ i)
      ⟨0, [], none, none, rfl, same_upd no, ⟨[], upd_same, rfl, fun i t x e => by cases e⟩, rfl, Nat.le_refl _⟩ (fun i σ H' _ ⟨_, _, _, _, _, s1, _⟩ => SqT.of (s1 _ _ hrow)) ?_ ?_⟩
    · rintro i x σ H' hx ⟨c, acc, v5, v6, rfl, s1, ⟨ts, ho, h2, h3⟩, hacc, hlen⟩
      obtain ⟨n, hn, rfl⟩ := rowV_get hx
      have hnw : n < ws.length := R.le n (List.mem_of_getElem? hn)
      have hnl : n < lot.length := by
        have z := R.ll
        omega
      rw [drop_at hn] at hacc
      have hi40 : i < 40 := by
        have z := (List.getElem?_eq_some_iff.mp hn).1
        have y := R.rl
        omega
      have gl := lotV_at (lot := lot) hnl
      refine ⟨_, rfl, _, rfl, l, _, _, _, rfl, rfl, SqT.of (s1 _ _ hlot), atI_nat gl, rfl, ?_⟩
      cases e : lotAt lot n with
      | none =>
        rw [ranFrom_none e] at hacc
        exact ⟨false, rfl, iteF ⟨c, acc, _, v6, rfl, s1, ⟨ts, ho, h2, h3⟩, hacc, by omega⟩⟩
      | some d =>
        rw [ranFrom_some e] at hacc
        rw [e] at gl
        refine ⟨true, rfl, iteT ?_⟩
        refine ⟨_, rfl, _, rfl, _, rfl, b, n, ws, rfl, (Kp.of_same s1).book R.bk, hnw, c, fsW ws n, rfl, ?_⟩
        refine ⟨_, rfl, _, rfl, _, rfl, l, _, _, _, rfl, rfl, SqT.of (s1 _ _ hlot), atI_nat gl, _, d, rfl, rfl, ?_⟩
        refine ⟨_, rfl, .inl ⟨rfl, _, SqL.of ho⟩, _, rfl, _, rfl, _, rfl, (by show 3 ≤ sizeLine; decide), fun U nU => ?_⟩
        have hoU : o ≠ U := ne_of_none ho nU
        refine ⟨o, _, _, rfl, rfl, Eq.trans (upd_ne hoU) ho, ?_, ?_⟩
        · rw [List.length_map]
          exact small1000 (by omega)
        · refine ⟨_, acc ++ [(n, mx c (fsW ws n), mx c (fsW ws n) + d)], _, _, rfl, fun k u ek => ?_, run_snoc (x := (n, mx c (fsW ws n), mx c (fsW ws n) + d)) ho h2 h3 nU, ?_, ?_⟩
          · rw [upd_ne (ne_of_none ek no), upd_ne (ne_of_none (s1 _ _ ek) nU)]
            exact s1 _ _ ek
          · rw [List.append_assoc]
            exact hacc
          · rw [List.length_append]
            show acc.length + 1 ≤ i + 1
            omega
    · rintro σ H' ⟨c, acc, v5, v6, rfl, s1, hrun, hacc, hlen⟩
      rw [rowV_len, List.drop_length] at hacc
      have e : acc = ranFrom ws lot 0 row := by
        rw [← hacc, ranFrom, List.append_nil]
      rw [e] at hrun
      exact ⟨_, rfl, q H' o s1 no hrun⟩
end
end K9

/-! Wd5: lateness and serving. -/
namespace K9
open PySem PySem.Spec PyProof.Rows L2
theorem run_get {H : Hp} {run : List (Nat × Int × Int)} {ts : List Addr} (h2 : ts.length = run.length) (h3 : ∀ (i : Nat) (t : Addr) (y : Nat × Int × Int), ts[i]? = some t → run[i]? = some y → IsTrip H t y)
    {i : Nat} {x : V} (hx : (ts.map V.ref)[i]? = some x) : ∃ (t : Addr) (y : Nat × Int × Int), x = .ref t ∧ run[i]? = some y ∧ H t = some (.tup [.int ((y.1 : Nat) : Int), .int y.2.1, .int y.2.2]) := by
  rw [List.getElem?_map] at hx
  cases et : ts[i]? with
  | none =>
    rw [et] at hx
    cases hx
  | some t =>
    rw [et] at hx
    have hi : i < run.length := by
      have z := (List.getElem?_eq_some_iff.mp et).1
      omega
    exact ⟨t, run[i], (Option.some.inj hx).symm, List.getElem?_eq_getElem hi, h3 i t _ et (List.getElem?_eq_getElem hi)⟩
theorem late_none {hs : List Int} (h : ¬ (0 : Int) < ((hs.length : Nat) : Int)) : IsLate hs none := by
  show hs = []
  refine List.eq_nil_of_length_eq_zero ?_
  omega
section
variable {P : Program} {w : World} {K : PySem.W.Frag} {mg : Str → Option Value} {base : Heap}
abbrev sLateOf : Stmt := topS 26
abbrev sServesLot : Stmt := topS 27
abbrev sServes : Stmt := topS 28
abbrev sLateness : Stmt := topS 29
theorem scLateOf : FnScope ["book", "row", "lot", "hours", "work", "begin", "end"] ["book", "row", "lot"] (defScope sLateOf) := ⟨rfl, rfl, rfl, by decide +kernel, rfl, by decide +kernel, by decide +kernel⟩
theorem scServesLot : FnScope ["book", "row", "lot", "work", "begin", "end"] ["book", "row", "lot"] (defScope sServesLot) := ⟨rfl, rfl, rfl, by decide +kernel, rfl, by decide +kernel, by decide +kernel⟩
theorem scServes : FnScope ["book", "row", "lot"] ["book", "row", "lot"] (defScope sServes) := ⟨rfl, rfl, rfl, by decide +kernel, rfl, by decide +kernel, by decide +kernel⟩
theorem scLateness : FnScope ["book", "row", "lot"] ["book", "row", "lot"] (defScope sLateness) := ⟨rfl, rfl, rfl, by decide +kernel, rfl, by decide +kernel, by decide +kernel⟩

theorem ok_lateOf {C f : Addr} {fd : FuncData} (F : Fun K "late_of" "late_of" sLateOf f fd) (T : Txt K mg C) (DR : Def P w K mg base "ran" 2 ["book", "row", "lot"] (spRun C rRan)) (DL : Def P w K mg base "last_of" 1 ["book", "work"] (spLast C)) :
    FnOk P w K mg base CX0 3 f fd ["book", "row", "lot"] (spRun C rLate) := by
  refine F.ok scLateOf (fun vs H Q E h => ?_) (fun cdv A outer s H vs Q E hr h => ?_)
  · obtain ⟨b, r, l, ws, row, lot, rfl, _⟩ := h
    rfl
  · obtain ⟨b, r, l, ws, row, lot, rfl, R, q⟩ := h
    refine ⟨_, pss_cons (ps_setLc (i := 3) (own := [("work", 4), ("begin", 5), ("end", 6)]) (g := gTup K 3 (gCons (gName 4) (gCons (gName 5) (gCons (gName 6) gNil)))) (tt := tYes) rfl scLateOf.nd rfl rfl (sw_true rfl rfl rfl (by decide +kernel))
        (pi_list (pe_def DR hr (by decide) (pa_cons (pv 0) (pa_cons (pv 1) (pa_cons (pv 2) pa_nil)))))
        (blkOk_by (own := [("work", 4), ("begin", 5), ("end", 6)]) (N := ["book", "row", "lot", "hours", "work", "begin", "end"]) (sc := defScope sLateOf) (by decide +kernel))
        (fun _ _ _ _ _ => pg_tup rfl (pgs_cons (pg_name (i := 4) scLateOf.nd rfl (Or.inl rfl)) (pgs_cons (pg_name (i := 5) scLateOf.nd rfl (Or.inl rfl)) (pgs_cons (pg_name (i := 6) scLateOf.nd rfl (Or.inl rfl)) pgs_nil)))) (fun _ _ _ _ _ => pts_nil)
        (fun _ _ _ _ _ => pe_op op_sub (pv 6) (pe_def DL hr (by decide) (pa_cons (pv 0) (pa_cons (pv 4) pa_nil)))))
      (pss_one (ps_ret (pe_ifExp (pt_cmpR op_gt (pe_callB call_len_seq (by rfl) T.len PySem.boot_len (pa_cons (pv 3) pa_nil)) pe_int (nomark _)) (pe_callB (cr_max rfl) (by rfl) T.max (by decide +kernel) (pa_cons (pv 3) pa_nil)) pe_non))), ?_⟩
    refine ⟨_, rfl, _, rfl, _, rfl, b, r, l, ws, row, lot, rfl, R, fun H1 p s1 np ⟨ts, hp, h2, h3⟩ => ?_⟩
    have R1 := R.kp (Kp.of_same s1)
    refine ⟨p, rfl, ⟨_, SqL.of hp⟩, fun D hD => ?_⟩
    refine lc_list (K := K) (a := p) (xs := ts.map V.ref) (fun i H' => H' = upd H1 D (.lst ((hoursOf ws ((ranFrom ws lot 0 row).take i)).map V.int))) rfl (fun i H' _ e => by rw [e]; exact SqL.of (same_upd hD _ _ hp)) ?_ ?_
    · rintro i x H' hx rfl
      obtain ⟨t, ⟨n, bg, en⟩, rfl, hy, ht⟩ := run_get h2 h3 hx
      have hn : n < ws.length := R.le n (ranFrom_mem (t := (n, bg, en)) row 0 (List.mem_of_getElem? hy))
      have hlen : i < 40 := by
        have z := (List.getElem?_eq_some_iff.mp hy).1
        have y := ranFrom_len (ws := ws) (lot := lot) row 0
        have u := R.rl
        omega
      have s2 : Same H1 (upd H1 D (.lst ((hoursOf ws ((ranFrom ws lot 0 row).take i)).map V.int))) := same_upd hD
      refine ⟨t, _, rfl, SqT.of (s2 _ _ ht), rfl, _, _, rfl, _, _, rfl, _, _, rfl, rfl, rfl, yesT ?_⟩
      refine ⟨_, rfl, _, rfl, _, rfl, b, n, ws, rfl, (Kp.of_same s2).book R1.bk, hn, _, _, rfl, rfl, (hoursOf ws ((ranFrom ws lot 0 row).take i)).map V.int, upd_same, ?_, ?_⟩
      · unfold hoursOf
        rw [List.length_map, List.length_map, List.length_take]
        exact small1000 (by omega)
      · rw [upd_upd, take_at hy]
        unfold hoursOf
        rw [List.map_append, List.map_append]
        rfl
    · rintro H' rfl
      have e0 : (ranFrom ws lot 0 row).take (ts.map V.ref).length = ranFrom ws lot 0 row := by
        rw [List.length_map, h2, List.take_length]
      rw [e0]
      have hs : SqL K (upd H1 D (.lst ((hoursOf ws (ranFrom ws lot 0 row)).map V.int))) D ((hrs ws lot 0 row).map V.int) := SqL.of upd_same
      have s3 : Same H (upd H1 D (.lst ((hoursOf ws (ranFrom ws lot 0 row)).map V.int))) := s1.trans (same_upd hD)
      refine ⟨_, rfl, D, _, rfl, .inl hs, _, 0, rfl, rfl, _, rfl, ite2 (fun c => ?_) (fun c => ?_)⟩
      · have c1 := of_decide_eq_true c
        rw [List.length_map] at c1
        exact ⟨_, rfl, D, hrs ws lot 0 row, rfl, hs, by omega, fun m hm hle => q _ (some m) s3 ⟨hm, hle⟩⟩
      · have c1 : ¬ (0 : Int) < ((((hrs ws lot 0 row).map V.int).length : Nat) : Int) := fun z => c (decide_eq_true z)
        rw [List.length_map] at c1
        exact q _ none s3 (late_none c1)

theorem ok_servesLot {C f : Addr} {fd : FuncData} (F : Fun K "serves_lot" "serves_lot" sServesLot f fd) (T : Txt K mg C) (DR : Def P w K mg base "ran" 2 ["book", "row", "lot"] (spRun C rRan)) (DL : Def P w K mg base "last_of" 1 ["book", "work"] (spLast C)) :
    FnOk P w K mg base CX0 3 f fd ["book", "row", "lot"] (spRun C rServes) := by
  refine F.ok scServesLot (fun vs H Q E h => ?_) (fun cdv A outer s H vs Q E hr h => ?_)
  · obtain ⟨b, r, l, ws, row, lot, rfl, _⟩ := h
    rfl
  · obtain ⟨b, r, l, ws, row, lot, rfl, R, q⟩ := h
    refine ⟨_, pss_one (ps_ret (pe_callB (cr_all rfl) (by rfl) T.all (by decide +kernel) (pa_cons (pe_lc (own := [("work", 3), ("begin", 4), ("end", 5)]) (g := gTup K 3 (gCons (gName 3) (gCons (gName 4) (gCons (gName 5) gNil)))) (tt := tYes) rfl scServesLot.nd
        (pi_list (pe_def DR hr (by decide) (pa_cons (pv 0) (pa_cons (pv 1) (pa_cons (pv 2) pa_nil)))))
        (blkOk_by (own := [("work", 3), ("begin", 4), ("end", 5)]) (N := ["book", "row", "lot", "work", "begin", "end"]) (sc := defScope sServesLot) (by decide +kernel))
        (fun _ _ _ _ _ => pg_tup rfl (pgs_cons (pg_name (i := 3) scServesLot.nd rfl (Or.inl rfl)) (pgs_cons (pg_name (i := 4) scServesLot.nd rfl (Or.inl rfl)) (pgs_cons (pg_name (i := 5) scServesLot.nd rfl (Or.inl rfl)) pgs_nil)))) (fun _ _ _ _ _ => pts_nil)
        (fun _ _ _ _ _ => pe_cmpR op_le (pv 5) (pe_def DL hr (by decide) (pa_cons (pv 0) (pa_cons (pv 3) pa_nil))) (nomark _))) pa_nil))), ?_⟩
    refine ⟨_, rfl, _, rfl, _, rfl, b, r, l, ws, row, lot, rfl, R, fun H1 p s1 np ⟨ts, hp, h2, h3⟩ => ?_⟩
    have R1 := R.kp (Kp.of_same s1)
    refine ⟨p, rfl, ⟨_, SqL.of hp⟩, fun D hD => ?_⟩
    refine lc_list (K := K) (a := p) (xs := ts.map V.ref) (fun i H' => H' = upd H1 D (.lst ((((ranFrom ws lot 0 row).take i).map fun t => decide (t.2.2 ≤ lsW ws t.1)).map V.bl))) rfl (fun i H' _ e => by rw [e]; exact SqL.of (same_upd hD _ _ hp)) ?_ ?_
    · rintro i x H' hx rfl
      obtain ⟨t, ⟨n, bg, en⟩, rfl, hy, ht⟩ := run_get h2 h3 hx
      have hn : n < ws.length := R.le n (ranFrom_mem (t := (n, bg, en)) row 0 (List.mem_of_getElem? hy))
      have hlen : i < 40 := by
        have z := (List.getElem?_eq_some_iff.mp hy).1
        have y := ranFrom_len (ws := ws) (lot := lot) row 0
        have u := R.rl
        omega
      have s2 : Same H1 (upd H1 D (.lst ((((ranFrom ws lot 0 row).take i).map fun t => decide (t.2.2 ≤ lsW ws t.1)).map V.bl))) := same_upd hD
      refine ⟨t, _, rfl, SqT.of (s2 _ _ ht), rfl, _, _, rfl, _, _, rfl, _, _, rfl, rfl, rfl, yesT ?_⟩
      refine ⟨_, rfl, _, rfl, _, rfl, b, n, ws, rfl, (Kp.of_same s2).book R1.bk, hn, _, _, rfl, rfl, (((ranFrom ws lot 0 row).take i).map fun t => decide (t.2.2 ≤ lsW ws t.1)).map V.bl, upd_same, ?_, ?_⟩
      · rw [List.length_map, List.length_map, List.length_take]
        exact small1000 (by omega)
      · rw [upd_upd, take_at hy, List.map_append, List.map_append]
        rfl
    · rintro H' rfl
      have e0 : (ranFrom ws lot 0 row).take (ts.map V.ref).length = ranFrom ws lot 0 row := by
        rw [List.length_map, h2, List.take_length]
      rw [e0]
      refine ⟨D, (ranFrom ws lot 0 row).map fun t => decide (t.2.2 ≤ lsW ws t.1), rfl, SqL.of upd_same, ?_⟩
      show Q (.bl (((ranFrom ws lot 0 row).map fun t => decide (t.2.2 ≤ lsW ws t.1)).all id)) _
      rw [List.all_map]
      exact q _ (s1.trans (same_upd hD))
theorem ok_serves {C f : Addr} {fd : FuncData} (F : Fun K "serves" "serves" sServes f fd) (DC : Def P w K mg base "check_run" 6 ["book", "row", "lot"] (spRun C rCheck)) (DS : Def P w K mg base "serves_lot" 3 ["book", "row", "lot"] (spRun C rServes)) :
    FnOk P w K mg base CX0 7 f fd ["book", "row", "lot"] (spRun C rServes) := by
  refine F.ok scServes (fun vs H Q E h => ?_) (fun cdv A outer s H vs Q E hr h => ?_)
  · obtain ⟨b, r, l, ws, row, lot, rfl, _⟩ := h
    rfl
  · obtain ⟨b, r, l, ws, row, lot, rfl, R, q⟩ := h
    refine ⟨_, pss_cons (ps_expr (pe_def DC hr (by decide) (pa_cons (pv 0) (pa_cons (pv 1) (pa_cons (pv 2) pa_nil))))) (pss_one (ps_ret (pe_def DS hr (by decide) (pa_cons (pv 0) (pa_cons (pv 1) (pa_cons (pv 2) pa_nil)))))), ?_⟩
    refine ⟨_, rfl, _, rfl, _, rfl, b, r, l, ws, row, lot, rfl, R, fun H1 s1 => ?_⟩
    exact ⟨_, rfl, _, rfl, _, rfl, b, r, l, ws, row, lot, rfl, R.kp (Kp.of_same s1), fun H2 s2 => q H2 (s1.trans s2)⟩
theorem ok_lateness {C f : Addr} {fd : FuncData} (F : Fun K "lateness" "lateness" sLateness f fd) (DC : Def P w K mg base "check_run" 6 ["book", "row", "lot"] (spRun C rCheck)) (DS : Def P w K mg base "late_of" 3 ["book", "row", "lot"] (spRun C rLate)) :
    FnOk P w K mg base CX0 7 f fd ["book", "row", "lot"] (spRun C rLate) := by
  refine F.ok scLateness (fun vs H Q E h => ?_) (fun cdv A outer s H vs Q E hr h => ?_)
  · obtain ⟨b, r, l, ws, row, lot, rfl, _⟩ := h
    rfl
  · obtain ⟨b, r, l, ws, row, lot, rfl, R, q⟩ := h
    refine ⟨_, pss_cons (ps_expr (pe_def DC hr (by decide) (pa_cons (pv 0) (pa_cons (pv 1) (pa_cons (pv 2) pa_nil))))) (pss_one (ps_ret (pe_def DS hr (by decide) (pa_cons (pv 0) (pa_cons (pv 1) (pa_cons (pv 2) pa_nil)))))), ?_⟩
    refine ⟨_, rfl, _, rfl, _, rfl, b, r, l, ws, row, lot, rfl, R, fun H1 s1 => ?_⟩
    exact ⟨_, rfl, _, rfl, _, rfl, b, r, l, ws, row, lot, rfl, R.kp (Kp.of_same s1), fun H2 m s2 hm => q H2 m (s1.trans s2) hm⟩
end
end K9

/-! Wd6: the law's own run, its lateness, its flag. -/
namespace K9
open PySem PySem.Spec PyProof.Rows L2
theorem kit_bb2 : kitB "bool" "bool" = some true := by decide +kernel
section
variable {P : Program} {w : World} {K : PySem.W.Frag} {mg : Str → Option Value} {base : Heap}
abbrev sRunL : Stmt := topS 37
abbrev sLateL : Stmt := topS 38
abbrev sFlag : Stmt := topS 39
theorem scRunL : FnScope ["_law_windows_here", "_law_row_here", "_law_lot_here", "_law_found", "_law_clock", "_law_work"] ["_law_windows_here", "_law_row_here", "_law_lot_here"] (defScope sRunL) := ⟨rfl, rfl, rfl, by decide +kernel, rfl, by decide +kernel, by decide +kernel⟩
theorem scLateL : FnScope ["_law_windows_here", "_law_row_here", "_law_lot_here", "_law_hours", "_law_work", "_law_begin", "_law_end"] ["_law_windows_here", "_law_row_here", "_law_lot_here"] (defScope sLateL) := ⟨rfl, rfl, rfl, by decide +kernel, rfl, by decide +kernel, by decide +kernel⟩
theorem scFlag : FnScope ["_law_told", "_law_due"] ["_law_told", "_law_due"] (defScope sFlag) := ⟨rfl, rfl, rfl, by decide +kernel, rfl, by decide +kernel, by decide +kernel⟩

theorem ok_flag {C f : Addr} {fd : FuncData} (F : Fun K "_law_flag" "_law_flag" sFlag f fd) (T : Txt K mg C) : FnOk P w K mg base CX0 1 f fd ["_law_told", "_law_due"] spFlag := by
  refine F.ok scFlag (fun vs H Q E h => ?_) (fun cdv A outer s H vs Q E hr h => ?_)
  · obtain ⟨i, rfl, _⟩ := h
    rfl
  · obtain ⟨i, rfl, q⟩ := h
    refine ⟨_, pss_one (ps_ret (pe_and (pe_callB call_isi (by rfl) T.isi (by decide +kernel) (pa_cons (pv 0) (pa_cons (pe_bltn (v := .ty "bool") (by rfl) T.bool (by decide +kernel) rfl) pa_nil)))
      (pe_one (pe_cmpR op_eq (pv 0) (pv 1) (nomark _))))), ?_⟩
    refine ⟨_, rfl, .bl i, .ty "bool", _, _, true, rfl, .ty "bool", .base (.bl i), kit_ty kit_bb2, true, rfl, iteT ?_⟩
    refine ⟨_, rfl, _, rfl, rfl, ?_⟩
    show Q (.bl (decide (V.bl i = V.bl i))) H
    rw [decide_eq_true rfl]
    exact q

theorem ok_runL {C f : Addr} {fd : FuncData} (F : Fun K "_law_run" "_law_run" sRunL f fd) (T : Txt K mg C) :
    FnOk P w K mg base CX0 1 f fd ["_law_windows_here", "_law_row_here", "_law_lot_here"] (spRunL rRan) := by
  refine F.ok scRunL (fun vs H Q E h => ?_) (fun cdv A outer s H vs Q E hr h => ?_)
  · obtain ⟨b, r, l, ws, row, lot, rfl, _⟩ := h
    rfl
  · obtain ⟨a, r, l, ws, row, lot, rfl, hw, hrow, hlot, hle, hrl, hll, q⟩ := h
    have hlot : H l = some (.tup (lotV lot)) := hlot
    have hrow : H r = some (.tup (rowV row)) := hrow
    refine ⟨_, pss_cons (ps_set (i := 3) scRunL.nd rfl (Or.inl rfl) (pe_lst pa_nil)) (pss_cons (ps_set (i := 4) scRunL.nd rfl (Or.inl rfl) pe_int)
      (pss_cons (ps_for PassesOwn.never rfl (pi_tup (pv 1)) (pg_name (i := 5) scRunL.nd rfl (Or.inl rfl))
        (pss_one (ps_if (pt_cmpR op_notN (pe_ix ix_tup (pv 2) (pv 5) (fun _ _ => rfl)) pe_non (nomark _))
          (pss_cons (ps_while PassesOwn.never (pt_cmpR op_lt (pv 4) (pe_ix ix_tup (pe_ix ix_tup (pv 0) (pv 5) (fun _ _ => rfl)) pe_int (fun _ _ => rfl)) (nomark _))
            (pss_one (ps_set (i := 4) scRunL.nd rfl (Or.inl rfl) (pe_ix ix_tup (pe_ix ix_tup (pv 0) (pv 5) (fun _ _ => rfl)) pe_int (fun _ _ => rfl)))))
          (pss_cons (ps_expr (pe_bm PySem.F.plainAttrs_list PySem.F.slot_list_append PySem.F.type_list_append mt_append (pv 3) (pa_cons (pe_tup (pa_cons (pv 5) (pa_cons (pv 4) (pa_cons (pe_op op_add (pv 4) (pe_ix ix_tup (pv 2) (pv 5) (fun _ _ => rfl))) pa_nil)))) pa_nil)))
          (pss_one (ps_set (i := 4) scRunL.nd rfl (Or.inl rfl) (pe_op op_add (pv 4) (pe_ix ix_tup (pv 2) (pv 5) (fun _ _ => rfl))))))) pss_nil)))
      (pss_one (ps_ret (pv 3))))), ?_⟩
    refine ⟨Nat.zero_le _, fun o no => ?_⟩
    refine ⟨_, rfl, r, rfl, ⟨_, SqT.of (same_upd no _ _ hrow)⟩, for_tup (K := K) (a := r) (xs := rowV row) (fun i σ H' => ∃ (c : Int) (acc : List (Nat × Int × Int)) (v5 : Option V), σ = [some (.ref a), some (.ref r), some (.ref l), some (.ref o), some (.int c), v5] ∧
        Same H H' ∧ IsRun H' o acc ∧ acc ++ ranFrom ws lot c (row.drop i) = ranFrom ws lot 0 row ∧ acc.length ≤ i)
      ⟨0, [], none, rfl, same_upd no, ⟨[], upd_same, rfl, fun i t x e => by cases e⟩, rfl, Nat.le_refl _⟩ (fun i σ H' _ ⟨_, _, _, _, s1, _⟩ => SqT.of (s1 _ _ hrow)) ?_ ?_⟩
    · rintro i x σ H' hx ⟨c, acc, v5, rfl, s1, ⟨ts, ho, h2, h3⟩, hacc, hlen⟩
      obtain ⟨n, hn, rfl⟩ := rowV_get hx
      have hnw : n < ws.length := hle n (List.mem_of_getElem? hn)
      have hnl : n < lot.length := by omega
      rw [drop_at hn] at hacc
      have hi40 : i < 40 := by
        have z := (List.getElem?_eq_some_iff.mp hn).1
        omega
      have gl := lotV_at (lot := lot) hnl
      obtain ⟨us, u, ha, hu, hwin⟩ := ((Kp.of_same s1).wins hw).get hnw
      refine ⟨_, rfl, _, rfl, l, _, _, _, rfl, rfl, SqT.of (s1 _ _ hlot), atI_nat gl, rfl, ?_⟩
      cases e : lotAt lot n with
      | none =>
        rw [ranFrom_none e] at hacc
        exact ⟨false, rfl, iteF ⟨c, acc, _, rfl, s1, ⟨ts, ho, h2, h3⟩, hacc, by omega⟩⟩
      | some d =>
        rw [ranFrom_some e] at hacc
        rw [e] at gl
        refine ⟨true, rfl, iteT ?_⟩
        -- the clock is put forward at most once
        refine ⟨fun m σ' H'' => H'' = H' ∧ ∃ c' : Int, σ' = [some (.ref a), some (.ref r), some (.ref l), some (.ref o), some (.int c'), some (.int ((n : Nat) : Int))] ∧ mx c' (fsW ws n) = mx c (fsW ws n) ∧ m = if c' < fsW ws n then 1 else 0,
          ⟨_, rfl, c, rfl, rfl, rfl⟩, ?_⟩
        rintro m σ' H'' ⟨rfl, c', rfl, hmx, hm⟩
        refine ⟨_, rfl, _, rfl, _, rfl, a, _, _, .ref u, rfl, rfl, SqT.of ha, atI_nat hu, u, _, 0, _, rfl, rfl, SqT.of hwin, rfl, c', fsW ws n, rfl, rfl, _, rfl, ?_⟩
        refine ite2 (fun cc => ?_) (fun cc => ?_)
        · have c1 := of_decide_eq_true cc
          rw [if_pos c1] at hm
          refine ⟨fun σ2 H2 => H2 = H'' ∧ σ2 = [some (.ref a), some (.ref r), some (.ref l), some (.ref o), some (.int (fsW ws n)), some (.int ((n : Nat) : Int))], ?_, ?_⟩
          · rintro σ2 H2 ⟨rfl, rfl⟩
            refine ⟨0, by omega, rfl, fsW ws n, rfl, ?_, ?_⟩
            · rw [← hmx, mx_self, mx_lt c1]
            · rw [if_neg (by omega)]
          · exact ⟨_, rfl, _, rfl, a, _, _, .ref u, rfl, rfl, SqT.of ha, atI_nat hu, u, _, 0, _, rfl, rfl, SqT.of hwin, rfl, rfl, rfl⟩
        · have c1 : ¬ c' < fsW ws n := fun z => cc (decide_eq_true z)
          have ec : c' = mx c (fsW ws n) := by
            rw [← hmx, mx_nlt c1]
          subst ec
          refine ⟨_, rfl, .inl ⟨rfl, _, SqL.of ho⟩, _, rfl, _, rfl, _, rfl, _, rfl, _, rfl, l, _, _, _, rfl, rfl, SqT.of (s1 _ _ hlot), atI_nat gl, _, d, rfl, rfl, (by show 3 ≤ sizeLine; decide), fun U nU => ?_⟩
          have hoU : o ≠ U := ne_of_none ho nU
          refine ⟨o, _, _, rfl, rfl, Eq.trans (upd_ne hoU) ho, ?_, ?_⟩
          · rw [List.length_map]
            exact small1000 (by omega)
          · have s9 : Same H (upd (upd H'' U (.tup [.int ((n : Nat) : Int), .int (mx c (fsW ws n)), .int (mx c (fsW ws n) + d)])) o (.lst (ts.map V.ref ++ [.ref U]))) := fun k u ek => by
              rw [upd_ne (ne_of_none ek no), upd_ne (ne_of_none (s1 _ _ ek) nU)]
              exact s1 _ _ ek
            refine ⟨_, rfl, _, rfl, _, rfl, l, _, _, _, rfl, rfl, SqT.of (s9 _ _ hlot), atI_nat gl, _, d, rfl, rfl, ?_⟩
            refine ⟨_, acc ++ [(n, mx c (fsW ws n), mx c (fsW ws n) + d)], _, rfl, s9, run_snoc (x := (n, mx c (fsW ws n), mx c (fsW ws n) + d)) ho h2 h3 nU, ?_, ?_⟩
            · rw [List.append_assoc]
              exact hacc
            · rw [List.length_append]
              show acc.length + 1 ≤ i + 1
              omega
    · rintro σ H' ⟨c, acc, v5, rfl, s1, hrun, hacc, hlen⟩
      rw [rowV_len, List.drop_length] at hacc
      have e : acc = ranFrom ws lot 0 row := by
        rw [← hacc, ranFrom, List.append_nil]
      rw [e] at hrun
      exact ⟨_, rfl, q H' o s1 no hrun⟩

theorem ok_lateL {C f : Addr} {fd : FuncData} (F : Fun K "_law_lateness" "_law_lateness" sLateL f fd) (T : Txt K mg C) (DR : Def P w K mg base "_law_run" 1 ["_law_windows_here", "_law_row_here", "_law_lot_here"] (spRunL rRan)) :
    FnOk P w K mg base CX0 2 f fd ["_law_windows_here", "_law_row_here", "_law_lot_here"] (spRunL rLate) := by
  refine F.ok scLateL (fun vs H Q E h => ?_) (fun cdv A outer s H vs Q E hr h => ?_)
  · obtain ⟨b, r, l, ws, row, lot, rfl, _⟩ := h
    rfl
  · obtain ⟨a, r, l, ws, row, lot, rfl, hw, hrow, hlot, hle, hrl, hll, q⟩ := h
    refine ⟨_, pss_cons (ps_setLc (i := 3) (own := [("_law_work", 4), ("_law_begin", 5), ("_law_end", 6)]) (g := gTup K 3 (gCons (gName 4) (gCons (gName 5) (gCons (gName 6) gNil)))) (tt := tYes) rfl scLateL.nd rfl rfl (sw_true rfl rfl rfl (by decide +kernel))
        (pi_list (pe_def DR hr (by decide) (pa_cons (pv 0) (pa_cons (pv 1) (pa_cons (pv 2) pa_nil)))))
        (blkOk_by (own := [("_law_work", 4), ("_law_begin", 5), ("_law_end", 6)]) (N := ["_law_windows_here", "_law_row_here", "_law_lot_here", "_law_hours", "_law_work", "_law_begin", "_law_end"]) (sc := defScope sLateL) (by decide +kernel))
        (fun _ _ _ _ _ => pg_tup rfl (pgs_cons (pg_name (i := 4) scLateL.nd rfl (Or.inl rfl)) (pgs_cons (pg_name (i := 5) scLateL.nd rfl (Or.inl rfl)) (pgs_cons (pg_name (i := 6) scLateL.nd rfl (Or.inl rfl)) pgs_nil)))) (fun _ _ _ _ _ => pts_nil)
        (fun _ _ _ _ _ => pe_op op_sub (pv 6) (pe_ix (ix_tupK (K := K) rfl) (pe_ix (ix_tupK (K := K) rfl) (pv 0) (pv 4) (fun _ _ => rfl)) pe_int (fun _ _ => rfl))))
      (pss_one (ps_ret (pe_ifExp (pt_cmpR op_gt (pe_callB call_len_seq (by rfl) T.len PySem.boot_len (pa_cons (pv 3) pa_nil)) pe_int (nomark _)) (pe_callB (cr_max rfl) (by rfl) T.max (by decide +kernel) (pa_cons (pv 3) pa_nil)) pe_non))), ?_⟩
    refine ⟨_, rfl, _, rfl, _, rfl, a, r, l, ws, row, lot, rfl, hw, hrow, hlot, hle, hrl, hll, fun H1 p s1 np ⟨ts, hp, h2, h3⟩ => ?_⟩
    refine ⟨p, rfl, ⟨_, SqL.of hp⟩, fun D hD => ?_⟩
    refine lc_list (K := K) (a := p) (xs := ts.map V.ref) (fun i H' => H' = upd H1 D (.lst ((hoursOf ws ((ranFrom ws lot 0 row).take i)).map V.int))) rfl (fun i H' _ e => by rw [e]; exact SqL.of (same_upd hD _ _ hp)) ?_ ?_
    · rintro i x H' hx rfl
      obtain ⟨t, ⟨n, bg, en⟩, rfl, hy, ht⟩ := run_get h2 h3 hx
      have hn : n < ws.length := hle n (ranFrom_mem (t := (n, bg, en)) row 0 (List.mem_of_getElem? hy))
      have hlen : i < 40 := by
        have z := (List.getElem?_eq_some_iff.mp hy).1
        have y := ranFrom_len (ws := ws) (lot := lot) row 0
        omega
      have s2 : Same H1 (upd H1 D (.lst ((hoursOf ws ((ranFrom ws lot 0 row).take i)).map V.int))) := same_upd hD
      obtain ⟨us, u, ha, hu, hwin⟩ := ((Kp.of_same (s1.trans s2)).wins hw).get hn
      refine ⟨t, _, rfl, SqT.of (s2 _ _ ht), rfl, _, _, rfl, _, _, rfl, _, _, rfl, rfl, rfl, yesT ?_⟩
      refine ⟨_, rfl, _, rfl, _, rfl, a, _, _, .ref u, rfl, rfl, SqT.of ha, atI_nat hu, u, _, 1, _, rfl, rfl, SqT.of hwin, rfl, _, _, rfl, rfl, (hoursOf ws ((ranFrom ws lot 0 row).take i)).map V.int, upd_same, ?_, ?_⟩
      · unfold hoursOf
        rw [List.length_map, List.length_map, List.length_take]
        exact small1000 (by omega)
      · rw [upd_upd, take_at hy]
        unfold hoursOf
        rw [List.map_append, List.map_append]
        rfl
    · rintro H' rfl
      have e0 : (ranFrom ws lot 0 row).take (ts.map V.ref).length = ranFrom ws lot 0 row := by
        rw [List.length_map, h2, List.take_length]
      rw [e0]
      have hs : SqL K (upd H1 D (.lst ((hoursOf ws (ranFrom ws lot 0 row)).map V.int))) D ((hrs ws lot 0 row).map V.int) := SqL.of upd_same
      have s3 : Same H (upd H1 D (.lst ((hoursOf ws (ranFrom ws lot 0 row)).map V.int))) := s1.trans (same_upd hD)
      refine ⟨_, rfl, D, _, rfl, .inl hs, _, 0, rfl, rfl, _, rfl, ite2 (fun c => ?_) (fun c => ?_)⟩
      · have c1 := of_decide_eq_true c
        rw [List.length_map] at c1
        exact ⟨_, rfl, D, hrs ws lot 0 row, rfl, hs, by omega, fun m hm hle => q _ (some m) s3 ⟨hm, hle⟩⟩
      · have c1 : ¬ (0 : Int) < ((((hrs ws lot 0 row).map V.int).length : Nat) : Int) := fun z => c (decide_eq_true z)
        rw [List.length_map] at c1
        exact q _ none s3 (late_none c1)
end
end K9

/-! Wd7: the pool, a draw. -/
namespace K9
open PySem PySem.Spec PyProof.Rows L2
def cutI (ns : List Int) (lo hi : Option Int) : List Int := (ns.drop (HT.sIx ns.length 0 lo)).take (HT.sIx ns.length ns.length hi - HT.sIx ns.length 0 lo)
theorem cut_ints (ns : List Int) (lo hi : Option Int) : cutV (ns.map V.int) lo hi = (cutI ns lo hi).map V.int := by
  unfold cutV cutI
  rw [List.length_map, List.map_take, List.map_drop]
theorem cutI_len (ns : List Int) (lo hi : Option Int) : (cutI ns lo hi).length ≤ ns.length := by
  unfold cutI
  rw [List.length_take, List.length_drop]
  omega
theorem pos_lit {j : Int} (h : 0 < j) : 0 < j := h
theorem cmul_lit (i : Int) {j : Int} (h : -(2 ^ 64) < j ∧ j < 2 ^ 64) : CMul i j := .inr h
theorem cmul_mod (i : Int) (j : Int) : CMul (i % 2147483647) j := by
  have h1 := Int.emod_nonneg i (show (2147483647 : Int) ≠ 0 by decide)
  have h2 := Int.emod_lt_of_pos i (show (0 : Int) < 2147483647 by decide)
  exact .inl ⟨by omega, by omega⟩
theorem ix_zero {n : Nat} : ixN (n + 1) 0 = some 0 := by
  unfold ixN
  rw [if_pos (by decide), if_pos (by omega)]
  rfl
section
variable {P : Program} {w : World} {K : PySem.W.Frag} {mg : Str → Option Value} {base : Heap}
abbrev sPool : Stmt := topS 31
abbrev sDraw : Stmt := topS 32
theorem scPool : FnScope ["_law_script", "_law_seed", "_law_cell"] ["_law_script"] (defScope sPool) := ⟨rfl, rfl, rfl, by decide +kernel, rfl, by decide +kernel, by decide +kernel⟩
theorem scDraw : FnScope ["_law_pool_here", "_law_many", "_law_cells", "_law_digit", "_law_mixed"] ["_law_pool_here", "_law_many"] (defScope sDraw) := ⟨rfl, rfl, rfl, by decide +kernel, rfl, by decide +kernel, by decide +kernel⟩

theorem ok_pool {C f : Addr} {fd : FuncData} (F : Fun K "_law_pool" "_law_pool" sPool f fd) (T : Txt K mg C) : FnOk P w K mg base CX0 1 f fd ["_law_script"] (spPool K) := by
  refine F.ok scPool (fun vs H Q E h => ?_) (fun cdv A outer s H vs Q E hr h => ?_)
  · obtain ⟨a, ns, rfl, _⟩ := h
    rfl
  · obtain ⟨a, ns, rfl, hS, hlen, q⟩ := h
    refine ⟨_, pss_cons (ps_set (i := 1) scPool.nd rfl (Or.inl rfl) (pe_op op_add (pe_op op_add (pe_op op_mod (pe_callTy call_int1 (by rfl) T.int (by decide +kernel) (pa_cons (pe_callB (cr_sum rfl) (by rfl) T.sum (by decide +kernel) (pa_cons (pe_slice sl_list (pv 0) po_none (po_some pe_int)) pa_nil)) pa_nil)) pe_int)
        (pe_callB call_len_seq (by rfl) T.len PySem.boot_len (pa_cons (pv 0) pa_nil))) pe_int))
      (pss_cons (ps_for PassesOwn.never rfl (pi_list (pe_slice sl_list (pv 0) po_none (po_some pe_int))) (pg_name (i := 2) scPool.nd rfl (Or.inl rfl))
        (pss_one (ps_set (i := 1) scPool.nd rfl (Or.inl rfl) (pe_op op_mod (pe_callTy call_int1 (by rfl) T.int (by decide +kernel) (pa_cons (pe_op op_add (pe_op op_add (pe_op op_mul (pv 1) pe_int)
          (pe_op op_mod (pe_callTy call_int1 (by rfl) T.int (by decide +kernel) (pa_cons (pv 2) pa_nil)) pe_int)) pe_int) pa_nil)) pe_int))))
      (pss_one (ps_ret (pe_lst (pa_cons (pv 1) (pa_cons pe_int (pa_cons (pe_lc (own := [("_law_cell", 2)]) (g := gName 2) rfl scPool.nd (pi_list (pe_slice sl_list (pv 0) po_none (po_some pe_int)))
          (blkOk_by (own := [("_law_cell", 2)]) (N := ["_law_script", "_law_seed", "_law_cell"]) (sc := defScope sPool) (by decide +kernel)) (fun _ _ _ _ _ => pg_name (i := 2) scPool.nd rfl (Or.inl rfl))
          (fun _ _ _ _ _ => pts_one (pt_cmpR op_ge (pe_callB call_abs (by rfl) T.abs (by decide +kernel) (pa_cons (pv 2) pa_nil)) (pe_op op_pow pe_int pe_int) (nomark _)))
          (fun _ _ _ _ _ => pe_callB call_abs (by rfl) T.abs (by decide +kernel) (pa_cons (pv 2) pa_nil))) pa_nil))))))), ?_⟩
    -- the seed
    refine ⟨_, rfl, 1, rfl, a, _, rfl, hS, fun p1 n1 => ?_⟩
    rw [cut_ints]
    have s1 : Same H (upd H p1 (.lst ((cutI ns none (some 1)).map V.int))) := same_upd n1
    refine ⟨p1, cutI ns none (some 1), rfl, SqL.of upd_same, .inl ⟨_, rfl, ?_⟩⟩
    refine ⟨_, _, rfl, rfl, pos_lit (by decide), _, rfl, a, _, rfl, .inl (s1.seq hS), _, _, rfl, rfl, _, _, rfl, rfl, ?_⟩
    -- each item
    refine ⟨_, rfl, 63, rfl, a, _, rfl, s1.seq hS, fun p2 n2 => ?_⟩
    rw [cut_ints]
    have s2 := s1.trans (same_upd (o := .lst ((cutI ns none (some 63)).map V.int)) n2)
    refine ⟨p2, rfl, ⟨_, SqL.of upd_same⟩, for_list (K := K) (a := p2) (xs := (cutI ns none (some 63)).map V.int) (fun i σ H' => H' = upd (upd H p1 (.lst ((cutI ns none (some 1)).map V.int))) p2 (.lst ((cutI ns none (some 63)).map V.int)) ∧ ∃ (z : Int) (v : Option V), σ = [some (.ref a), some (.int z), v])
      ⟨rfl, _, none, rfl⟩ (fun i σ H' _ e => by rw [e.1]; exact SqL.of upd_same) ?_ ?_⟩
    · rintro i x σ H' hx ⟨rfl, z, v, rfl⟩
      obtain ⟨y, rfl⟩ : ∃ y, x = V.int y := by
        rw [List.getElem?_map] at hx
        cases e : (cutI ns none (some 63))[i]? with
        | none =>
          rw [e] at hx
          cases hx
        | some y =>
          rw [e] at hx
          exact ⟨y, (Option.some.inj hx).symm⟩
      exact ⟨_, rfl, _, _, rfl, rfl, cmul_lit _ ⟨by decide, by decide⟩, _, rfl, .inl ⟨_, rfl, _, _, rfl, rfl, pos_lit (by decide), _, _, rfl, rfl, _, _, rfl, rfl, .inl ⟨_, rfl, _, _, rfl, rfl, pos_lit (by decide), rfl, _, _, rfl⟩⟩⟩
    · rintro σ H' ⟨rfl, z, v, rfl⟩
      -- the great cells
      refine ⟨_, rfl, _, rfl, 63, rfl, a, _, rfl, s2.seq hS, fun p3 n3 => ?_⟩
      rw [cut_ints]
      have s3 := s2.trans (same_upd (o := .lst ((cutI ns none (some 63)).map V.int)) n3)
      generalize hH3 : upd (upd (upd H p1 (.lst ((cutI ns none (some 1)).map V.int))) p2 (.lst ((cutI ns none (some 63)).map V.int))) p3 (.lst ((cutI ns none (some 63)).map V.int)) = H3 at s3 ⊢
      have h3 : H3 p3 = some (.lst ((cutI ns none (some 63)).map V.int)) := by
        rw [← hH3]
        exact upd_same
      refine ⟨p3, rfl, ⟨_, SqL.of h3⟩, fun D hD => ?_⟩
      refine lc_list (K := K) (a := p3) (xs := (cutI ns none (some 63)).map V.int) (fun i H' => ∃ xs : List Int, H' = upd H3 D (.lst (xs.map V.int)) ∧ xs.length ≤ i) ⟨[], rfl, Nat.le_refl _⟩ (fun i H' _ ⟨xs, e, _⟩ => by rw [e]; exact SqL.of (same_upd hD _ _ h3)) ?_ ?_
      · rintro i x H' hx ⟨xs, rfl, hle⟩
        have hi : i < 64 := by
          have z1 := (List.getElem?_eq_some_iff.mp hx).1
          rw [List.length_map] at z1
          have z2 := cutI_len ns none (some 63)
          omega
        obtain ⟨y, rfl⟩ : ∃ y, x = V.int y := by
          rw [List.getElem?_map] at hx
          cases e : (cutI ns none (some 63))[i]? with
          | none =>
            rw [e] at hx
            cases hx
          | some y =>
            rw [e] at hx
            exact ⟨y, (Option.some.inj hx).symm⟩
        refine ⟨rfl, _, rfl, y, rfl, _, _, rfl, rfl, ⟨by decide, by decide, by decide⟩, _, _, rfl, rfl, _, rfl, ite2 (fun _ => ?_) (fun _ => ?_)⟩
        · refine ⟨_, rfl, y, rfl, _, upd_same, ?_, xs ++ [if y < 0 then -y else y], ?_, ?_⟩
          · rw [List.length_map]
            exact small1000 (by omega)
          · rw [upd_upd, List.map_append]
            rfl
          · rw [List.length_append]
            show xs.length + 1 ≤ i + 1
            omega
        · exact ⟨xs, rfl, by omega⟩
      · rintro H' ⟨xs, rfl, hle⟩
        refine ⟨(by show 3 ≤ sizeLine; decide), fun l hl => ?_⟩
        have s4 := (s3.trans (same_upd (o := .lst (xs.map V.int)) hD)).trans (same_upd (o := .lst [.int z, .int 0, .ref D]) hl)
        have nDl : D ≠ l := ne_of_none upd_same hl
        exact q _ l D s4 ⟨z, 0, xs, upd_same, by rw [upd_ne nDl]; exact upd_same⟩

theorem ok_draw {C f : Addr} {fd : FuncData} (F : Fun K "_law_draw" "_law_draw" sDraw f fd) (T : Txt K mg C) : FnOk P w K mg base CX0 1 f fd ["_law_pool_here", "_law_many"] spDraw := by
  refine F.ok scDraw (fun vs H Q E h => ?_) (fun cdv A outer s H vs Q E hr h => ?_)
  · obtain ⟨p, q, m, rfl, _⟩ := h
    rfl
  · obtain ⟨p, q, m, rfl, hP, m0, m9, k⟩ := h
    have npq := hP.ne
    obtain ⟨sd, cn, xs, hp, hq⟩ := hP
    refine ⟨_, pss_cons (ps_asg (pe_op op_add (pe_ix ix_list (pv 0) pe_int (fun _ _ => rfl)) pe_int) (pg_sub (pv 0) pe_int set_list))
      (pss_cons (ps_set (i := 2) scDraw.nd rfl (Or.inl rfl) (pe_ix ix_list (pv 0) pe_int (fun _ _ => rfl)))
      (pss_cons (ps_if (pt_cmpR op_gt (pe_callB call_len_seq (by rfl) T.len PySem.boot_len (pa_cons (pv 2) pa_nil)) pe_int (nomark _))
        (pss_cons (ps_set (i := 3) scDraw.nd rfl (Or.inl rfl) (pe_op op_mod (pe_callTy call_int1 (by rfl) T.int (by decide +kernel) (pa_cons (pe_ix ix_list (pv 2) pe_int (fun _ _ => rfl)) pa_nil)) (pv 1)))
        (pss_cons (ps_asg (pe_op op_fdivN (pe_callTy call_int1 (by rfl) T.int (by decide +kernel) (pa_cons (pe_ix ix_list (pv 2) pe_int (fun _ _ => rfl)) pa_nil)) (pv 1)) (pg_sub (pv 2) pe_int set_list))
        (pss_cons (ps_if (pt_cmpR op_eq (pe_ix ix_list (pv 2) pe_int (fun _ _ => rfl)) pe_int (nomark _))
          (pss_one (ps_expr (pe_bm PySem.F.plainAttrs_list PySem.F.slot_list_pop PySem.F.type_list_pop mt_popAt (pv 2) (pa_cons pe_int pa_nil)))) pss_nil)
        (pss_one (ps_ret (pv 3)))))) pss_nil)
      (pss_cons (ps_set (i := 4) scDraw.nd rfl (Or.inl rfl) (pe_op op_mod (pe_callTy call_int1 (by rfl) T.int (by decide +kernel) (pa_cons (pe_op op_mul (pe_op op_add (pe_ix ix_list (pv 0) pe_int (fun _ _ => rfl)) (pe_op op_mul pe_int (pe_ix ix_list (pv 0) pe_int (fun _ _ => rfl)))) pe_int) pa_nil)) pe_int))
      (pss_cons (ps_set (i := 4) scDraw.nd rfl (Or.inl rfl) (pe_op op_mod (pe_callTy call_int1 (by rfl) T.int (by decide +kernel) (pa_cons (pe_op op_mul (pv 4) (pe_op op_add (pe_op op_fdiv (pv 4) pe_int) pe_int)) pa_nil)) pe_int))
      (pss_cons (ps_set (i := 4) scDraw.nd rfl (Or.inl rfl) (pe_op op_mod (pe_callTy call_int1 (by rfl) T.int (by decide +kernel) (pa_cons (pe_op op_mul (pv 4) (pe_op op_add (pe_op op_fdiv (pv 4) pe_int) pe_int)) pa_nil)) pe_int))
      (pss_one (ps_ret (pe_op op_mod (pe_callTy call_int1 (by rfl) T.int (by decide +kernel) (pa_cons (pe_op op_fdiv (pv 4) pe_int) pa_nil)) (pv 1))))))))), ?_⟩
    -- the count
    refine ⟨_, rfl, p, _, 1, .int cn, rfl, rfl, SqL.of hp, rfl, cn, 1, rfl, rfl, _, rfl, p, _, 1, 1, rfl, rfl, hp, rfl, ?_⟩
    have hp1 : (upd H p (.lst ([.int sd, .int cn, .ref q].set 1 (.int (cn + 1))))) p = some (.lst [.int sd, .int (cn + 1), .ref q]) := upd_same
    have hq1 : (upd H p (.lst ([.int sd, .int cn, .ref q].set 1 (.int (cn + 1))))) q = some (.lst (xs.map V.int)) := by
      rw [upd_ne npq.symm]
      exact hq
    have d1 : Drew p q H (upd H p (.lst ([.int sd, .int cn, .ref q].set 1 (.int (cn + 1))))) := fun b o e nb _ => by
      rw [upd_ne nb]
      exact e
    generalize upd H p (.lst ([.int sd, .int cn, .ref q].set 1 (.int (cn + 1)))) = H1 at hp1 hq1 d1 ⊢
    refine ⟨_, rfl, p, _, 2, .ref q, rfl, rfl, SqL.of hp1, rfl, ?_⟩
    refine ⟨_, rfl, q, _, rfl, .inl (SqL.of hq1), _, 0, rfl, rfl, _, rfl, ite2 (fun c => ?_) (fun c => ?_)⟩
    · have c1 := of_decide_eq_true c
      rw [List.length_map] at c1
      cases xs with
      | nil => exact absurd c1 (by decide)
      | cons x r =>
        refine ⟨_, rfl, q, _, 0, .int x, rfl, rfl, SqL.of hq1, atI_nat (j := 0) rfl, .inl ⟨x, rfl, _, rfl, x, m, rfl, rfl, m0, ?_⟩⟩
        refine ⟨_, rfl, q, _, 0, .int x, rfl, rfl, SqL.of hq1, atI_nat (j := 0) rfl, .inl ⟨x, rfl, _, rfl, x, m, rfl, rfl, ⟨by omega, by omega⟩, ?_⟩⟩
        refine ⟨_, rfl, q, _, 0, 0, rfl, rfl, hq1, ix_zero, ?_⟩
        have hp2 : (upd H1 q (.lst (((x :: r).map V.int).set 0 (.int (x.fdiv m))))) p = some (.lst [.int sd, .int (cn + 1), .ref q]) := by
          rw [upd_ne npq]
          exact hp1
        have hq2 : (upd H1 q (.lst (((x :: r).map V.int).set 0 (.int (x.fdiv m))))) q = some (.lst ((x.fdiv m :: r).map V.int)) := upd_same
        have d2 : Drew p q H (upd H1 q (.lst (((x :: r).map V.int).set 0 (.int (x.fdiv m))))) := fun b o e nb nc => by
          rw [upd_ne nc]
          exact d1 b o e nb nc
        have e0 := Int.emod_nonneg x (show m ≠ 0 by omega)
        have e1 := Int.emod_lt_of_pos x m0
        show tSeq _ _ _ _ (upd H1 q (.lst (((x :: r).map V.int).set 0 (.int (x.fdiv m)))))
        generalize upd H1 q (.lst (((x :: r).map V.int).set 0 (.int (x.fdiv m)))) = H2 at hp2 hq2 d2 ⊢
        refine ⟨_, rfl, q, _, 0, .int (x.fdiv m), rfl, rfl, SqL.of hq2, atI_nat (j := 0) rfl, rfl, _, rfl, ite2 (fun _ => ?_) (fun _ => ?_)⟩
        · refine ⟨_, rfl, .inl ⟨rfl, _, SqL.of hq2⟩, q, _, 0, 0, .int (x.fdiv m), rfl, rfl, hq2, (by decide), (by decide), (ixN_seq ix_zero).1, rfl, _, rfl, ?_⟩
          refine k _ _ ⟨sd, cn + 1, r, ?_, ?_⟩ (fun b o e nb nc => ?_) e0 e1
          · rw [upd_ne npq]
            exact hp2
          · exact upd_same
          · rw [upd_ne nc]
            exact d2 b o e nb nc
        · exact ⟨_, rfl, k _ _ ⟨sd, cn + 1, _, hp2, hq2⟩ d2 e0 e1⟩
    · refine ⟨_, rfl, p, _, 0, .int sd, rfl, rfl, SqL.of hp1, rfl, _, rfl, p, _, 1, .int (cn + 1), rfl, rfl, SqL.of hp1, rfl, 7919, _, rfl, rfl, .inl ⟨by decide, by decide⟩, _, _, rfl, rfl, _, _, rfl, rfl, cmul_lit _ ⟨by decide, by decide⟩, .inl ⟨_, rfl, _, _, rfl, rfl, pos_lit (by decide), ?_⟩⟩
      refine ⟨_, rfl, _, rfl, _, _, rfl, rfl, ⟨by decide, by decide⟩, _, _, rfl, rfl, _, _, rfl, rfl, cmul_mod _ _, .inl ⟨_, rfl, _, _, rfl, rfl, pos_lit (by decide), ?_⟩⟩
      refine ⟨_, rfl, _, rfl, _, _, rfl, rfl, ⟨by decide, by decide⟩, _, _, rfl, rfl, _, _, rfl, rfl, cmul_mod _ _, .inl ⟨_, rfl, _, _, rfl, rfl, pos_lit (by decide), ?_⟩⟩
      refine ⟨_, rfl, _, _, rfl, rfl, ⟨by decide, by decide⟩, .inl ⟨_, rfl, _, rfl, _, m, rfl, rfl, m0, ?_⟩⟩
      exact k _ _ ⟨sd, cn + 1, xs, hp1, hq1⟩ d1 (Int.emod_nonneg _ (by omega)) (Int.emod_lt_of_pos _ m0)
end
end K9

/-! Wd8: drawn windows, rows, lots, works. -/
namespace K9
open PySem PySem.Spec PyProof.Rows L2
/-- a list of windows under way -/
def IsWL (H : Hp) (o : Addr) (ws : List (Int × Int)) : Prop := ∃ ts : List Addr, H o = some (.lst (ts.map V.ref)) ∧ ts.length = ws.length ∧
  ∀ (i : Nat) (t : Addr) (fl : Int × Int), ts[i]? = some t → ws[i]? = some fl → IsWin H t fl
theorem win_snoc {H : Hp} {o T : Addr} {ts : List Addr} {acc : List (Int × Int)} {x : Int × Int} (h1 : H o = some (.lst (ts.map V.ref))) (h2 : ts.length = acc.length)
    (h3 : ∀ (i : Nat) (t : Addr) (y : Int × Int), ts[i]? = some t → acc[i]? = some y → IsWin H t y) (hT : H T = none) :
    IsWL (upd (upd H T (.tup [.int x.1, .int x.2])) o (.lst (ts.map V.ref ++ [.ref T]))) o (acc ++ [x]) := by
  have hoT : o ≠ T := ne_of_none h1 hT
  refine ⟨ts ++ [T], ?_, ?_, fun i t y e1 e2 => ?_⟩
  · rw [upd_same, List.map_append]
    rfl
  · rw [List.length_append, List.length_append, h2]
    rfl
  · by_cases hi : i < ts.length
    · rw [List.getElem?_append_left hi] at e1
      rw [List.getElem?_append_left (by omega)] at e2
      have q : H t = some _ := h3 i t y e1 e2
      have n1 : t ≠ o := ne_of q h1 (by intro z; cases z)
      have n2 : t ≠ T := ne_of_none q hT
      show upd _ o _ t = _
      rw [upd_ne n1, upd_ne n2]
      exact q
    · have hi2 : i = ts.length := by
        have z := (List.getElem?_eq_some_iff.mp e1).1
        rw [List.length_append] at z
        simp only [List.length_cons, List.length_nil] at z
        omega
      subst hi2
      rw [List.getElem?_append_right (Nat.le_refl _), Nat.sub_self] at e1
      rw [h2, List.getElem?_append_right (Nat.le_refl _), Nat.sub_self] at e2
      obtain rfl : T = t := Option.some.inj e1
      obtain rfl : x = y := Option.some.inj e2
      show upd _ o _ T = _
      rw [upd_ne hoT.symm, upd_same]
theorem Drew.wl {p q o : Addr} {H H' : Hp} {ws : List (Int × Int)} (d : Drew p q H H') (k : Kp H H') (n1 : o ≠ p) (n2 : o ≠ q) (h : IsWL H o ws) : IsWL H' o ws := by
  obtain ⟨ts, h1, h2, h3⟩ := h
  exact ⟨ts, d _ _ h1 n1 n2, h2, fun i t fl e1 e2 => k.tup (h3 i t fl e1 e2)⟩
theorem PoolAt.upd {H : Hp} {p q b : Addr} {o : HO} (h : PoolAt H p q) (n1 : b ≠ p) (n2 : b ≠ q) : PoolAt (upd H b o) p q := by
  obtain ⟨s, c, xs, h1, h2⟩ := h
  exact ⟨s, c, xs, by rw [upd_ne n1.symm]; exact h1, by rw [upd_ne n2.symm]; exact h2⟩
theorem PoolAt.off {H : Hp} {p q b : Addr} (h : PoolAt H p q) (hb : H b = none) : b ≠ p ∧ b ≠ q := by
  obtain ⟨s, c, xs, h1, h2⟩ := h
  exact ⟨(ne_of_none h1 hb).symm, (ne_of_none h2 hb).symm⟩
/-- the state of the drawing of windows -/
structure WSt (H H' : Hp) (p q o : Addr) (ws : List (Int × Int)) : Prop where
  pool : PoolAt H' p q
  kp : Kp H H'
  wl : IsWL H' o ws
theorem WSt.drew {H H' H2 : Hp} {p q o : Addr} {ws : List (Int × Int)} (w : WSt H H' p q o ws) (n1 : o ≠ p) (n2 : o ≠ q) (P : PoolAt H2 p q) (d : Drew p q H' H2) : WSt H H2 p q o ws :=
  ⟨P, w.kp.trans (d.kp w.pool P), d.wl (d.kp w.pool P) n1 n2 w.wl⟩
theorem pair_ok {a b : Int} (ha : 0 ≤ a ∧ a ≤ 200000) (hb : 0 ≤ b ∧ b ≤ 200000) : WinOk (if b < a then b else a, if b > a then b else a) := by
  show 0 ≤ (if b < a then b else a) ∧ (if b < a then b else a) ≤ (if b > a then b else a) ∧ (if b > a then b else a) ≤ 1000000
  split <;> split <;> omega
section
variable {P : Program} {w : World} {K : PySem.W.Frag} {mg : Str → Option Value} {base : Heap}
abbrev sWins : Stmt := topS 33
theorem scWins : FnScope ["_law_pool_here", "_law_many", "_law_top", "_law_kind", "_law_found", "_law_total", "_law_k", "_law_one", "_law_other"] ["_law_pool_here", "_law_many", "_law_top"] (defScope sWins) := ⟨rfl, rfl, rfl, by decide +kernel, rfl, by decide +kernel, by decide +kernel⟩

theorem ok_wins {C f : Addr} {fd : FuncData} (F : Fun K "_law_windows" "_law_windows" sWins f fd) (T : Txt K mg C) (DD : Def P w K mg base "_law_draw" 1 ["_law_pool_here", "_law_many"] spDraw) :
    FnOk P w K mg base CX0 2 f fd ["_law_pool_here", "_law_many", "_law_top"] spWins := by
  refine F.ok scWins (fun vs H Q E h => ?_) (fun cdv A outer s H vs Q E hr h => ?_)
  · obtain ⟨p, q, n, top, rfl, _⟩ := h
    rfl
  · obtain ⟨p, q, n, top, rfl, hP, n7, t1, t2, k⟩ := h
    refine ⟨_, pss_cons (ps_set (i := 3) scWins.nd rfl (Or.inl rfl) (pe_def DD hr (by decide) (pa_cons (pv 0) (pa_cons pe_int pa_nil))))
      (pss_cons (ps_set (i := 4) scWins.nd rfl (Or.inl rfl) (pe_lst pa_nil))
      (pss_cons (ps_set (i := 5) scWins.nd rfl (Or.inl rfl) (pe_op op_add (pv 2) (pe_def DD hr (by decide) (pa_cons (pv 0) (pa_cons (pe_op op_add (pv 2) pe_int) pa_nil)))))
      (pss_cons (ps_for PassesOwn.never rfl (pi_range1 (by rfl) T.range (pa_cons (pv 1) pa_nil)) (pg_name (i := 6) scWins.nd rfl (Or.inl rfl))
        (pss_cons (ps_set (i := 7) scWins.nd rfl (Or.inl rfl) (pe_def DD hr (by decide) (pa_cons (pv 0) (pa_cons (pe_op op_add (pv 2) pe_int) pa_nil))))
        (pss_cons (ps_set (i := 8) scWins.nd rfl (Or.inl rfl) (pe_def DD hr (by decide) (pa_cons (pv 0) (pa_cons (pe_op op_add (pv 2) pe_int) pa_nil))))
        (C8.pss_cut (ps_if (PW.pt (pw_and (pt_cmpR op_eq (pv 3) pe_int (nomark _)) (pw_and1 (pt_cmpR op_gt (pe_def DD hr (by decide) (pa_cons (pv 0) (pa_cons pe_int pa_nil))) pe_int (nomark _)))))
          (pss_cons (ps_set (i := 7) scWins.nd rfl (Or.inl rfl) (pe_def DD hr (by decide) (pa_cons (pv 0) (pa_cons (pe_op op_add (pe_op op_fdiv (pv 5) pe_int) pe_int) pa_nil))))
            (pss_one (ps_set (i := 8) scWins.nd rfl (Or.inl rfl) (pe_op op_sub (pv 5) (pv 7))))) pss_nil)
        (C8.pss_cut (ps_if (pt_cmpR op_eq (pv 3) pe_int (nomark _))
          (pss_cons (ps_set (i := 7) scWins.nd rfl (Or.inl rfl) (pe_op op_add (pv 6) (pe_def DD hr (by decide) (pa_cons (pv 0) (pa_cons pe_int pa_nil)))))
            (pss_one (ps_set (i := 8) scWins.nd rfl (Or.inl rfl) (pe_op op_add (pe_op op_add (pv 7) pe_int) (pe_def DD hr (by decide) (pa_cons (pv 0) (pa_cons pe_int pa_nil))))))) pss_nil)
        (pss_one (ps_expr (pe_bm PySem.F.plainAttrs_list PySem.F.slot_list_append PySem.F.type_list_append mt_append (pv 4) (pa_cons (pe_tup (pa_cons (pe_callB (call_min2 rfl) (by rfl) T.min (by decide +kernel) (pa_cons (pv 7) (pa_cons (pv 8) pa_nil)))
          (pa_cons (pe_callB (call_max2 rfl) (by rfl) T.max (by decide +kernel) (pa_cons (pv 7) (pa_cons (pv 8) pa_nil))) pa_nil))) pa_nil)))))))))
      (pss_one (ps_ret (pe_callTy call_tuple_of (by rfl) T.tuple (by decide +kernel) (pa_cons (pv 4) pa_nil))))))), ?_⟩
    refine ⟨_, rfl, p, q, 4, rfl, hP, by decide, by decide, fun H1 kind P1 D1 k0 k4 => ?_⟩
    have K1 := D1.kp hP P1
    refine ⟨Nat.zero_le _, fun o no => ?_⟩
    obtain ⟨nop, noq⟩ := P1.off no
    have P2 := P1.upd (o := .lst []) nop noq
    have K2 := K1.trans (Kp.new (o := .lst []) no)
    refine ⟨_, rfl, _, rfl, _, rfl, _, _, rfl, rfl, p, q, top + 1, rfl, P2, by omega, by omega, fun H3 d P3 D3 d0 dl => ?_⟩
    have W3 : WSt H H3 p q o [] := WSt.drew (H' := upd H1 o (.lst [])) ⟨P2, K2, [], upd_same, rfl, fun i t x e => by cases e⟩ nop noq P3 D3
    refine ⟨_, _, rfl, rfl, ?_⟩
    refine ⟨_, rfl, ((n : Nat) : Int), rfl, by omega, by omega, ?_⟩
    rw [Int.toNat_natCast]
    refine for_range (lo := 0) (n := n) (fun i σ H' => ∃ (v6 v7 v8 : Option V) (ws : List (Int × Int)), σ = [some (.ref p), some (.int ((n : Nat) : Int)), some (.int top), some (.int kind), some (.ref o), some (.int (top + d)), v6, v7, v8] ∧
        WSt H H' p q o ws ∧ ws.length = i ∧ ∀ fl, fl ∈ ws → WinOk fl)
      ⟨none, none, none, [], rfl, W3, rfl, fun fl hf => by cases hf⟩ ?_ ?_
    · rintro i σ H' hi ⟨v6, v7, v8, ws, rfl, W, hlen, hok⟩
      refine ⟨_, rfl, _, rfl, _, _, rfl, rfl, p, q, top + 1, rfl, W.pool, by omega, by omega, fun H4 one P4 D4 o0 o1 => ?_⟩
      have W4 := W.drew nop noq P4 D4
      refine ⟨_, rfl, _, rfl, _, _, rfl, rfl, p, q, top + 1, rfl, W4.pool, by omega, by omega, fun H5 oth P5 D5 t0 t1' => ?_⟩
      have W5 := W4.drew nop noq P5 D5
      -- behind each of the two tests
      refine ⟨fun σ' H' => ∃ a b : Int, σ' = [some (.ref p), some (.int ((n : Nat) : Int)), some (.int top), some (.int kind), some (.ref o), some (.int (top + d)), some (.int (0 + (i : Nat))), some (.int a), some (.int b)] ∧
        WSt H H' p q o ws ∧ (0 ≤ a ∧ a ≤ 200000) ∧ (0 ≤ b ∧ b ≤ 200000), ?_, ?_⟩
      · refine ⟨_, rfl, rfl, _, rfl, ite2 (fun _ => ?_) (fun _ => iteF ⟨one, oth, rfl, W5, ⟨by omega, by omega⟩, ⟨by omega, by omega⟩⟩)⟩
        refine ⟨_, rfl, p, q, 4, rfl, W5.pool, by decide, by decide, fun H6 g P6 D6 g0 g4 => ?_⟩
        have W6 := W5.drew nop noq P6 D6
        refine ⟨_, _, rfl, rfl, _, rfl, ite2 (fun _ => ?_) (fun _ => ⟨one, oth, rfl, W6, ⟨by omega, by omega⟩, ⟨by omega, by omega⟩⟩)⟩
        refine ⟨_, rfl, _, rfl, _, _, rfl, rfl, ⟨by decide, by decide⟩, _, _, rfl, rfl, p, q, (top + d) / 2 + 1, rfl, W6.pool, by omega, by omega, fun H7 a P7 D7 a0 a1 => ?_⟩
        have W7 := W6.drew nop noq P7 D7
        exact ⟨_, rfl, _, rfl, _, _, rfl, rfl, a, top + d - a, rfl, W7, ⟨by omega, by omega⟩, ⟨by omega, by omega⟩⟩
      · rintro σ' H6 ⟨a, b, rfl, W6, ha, hb⟩
        refine ⟨fun σ' H' => ∃ a b : Int, σ' = [some (.ref p), some (.int ((n : Nat) : Int)), some (.int top), some (.int kind), some (.ref o), some (.int (top + d)), some (.int (0 + (i : Nat))), some (.int a), some (.int b)] ∧
          WSt H H' p q o ws ∧ (0 ≤ a ∧ a ≤ 200000) ∧ (0 ≤ b ∧ b ≤ 200000), ?_, ?_⟩
        · refine ⟨_, rfl, rfl, _, rfl, ite2 (fun _ => ?_) (fun _ => ⟨a, b, rfl, W6, ha, hb⟩)⟩
          refine ⟨_, rfl, _, rfl, p, q, 2, rfl, W6.pool, by decide, by decide, fun H7 e P7 D7 e0 e2 => ?_⟩
          have W7 := W6.drew nop noq P7 D7
          refine ⟨_, _, rfl, rfl, _, rfl, _, _, rfl, rfl, _, rfl, p, q, 2, rfl, W7.pool, by decide, by decide, fun H8 g P8 D8 g0 g2 => ?_⟩
          have W8 := W7.drew nop noq P8 D8
          exact ⟨_, _, rfl, rfl, 0 + (i : Nat) + e, 0 + (i : Nat) + e + 2 + g, rfl, W8, ⟨by omega, by omega⟩, ⟨by omega, by omega⟩⟩
        · rintro σ' H7 ⟨a, b, rfl, ⟨P7, K7, ts, ho, h2, h3⟩, ha, hb⟩
          refine ⟨_, rfl, .inl ⟨rfl, _, SqL.of ho⟩, _, rfl, _, rfl, a, b, rfl, _, rfl, _, rfl, a, b, rfl, (by show 2 ≤ sizeLine; decide), fun U nU => ?_⟩
          have hoU : o ≠ U := ne_of_none ho nU
          obtain ⟨nUp, nUq⟩ := P7.off nU
          refine ⟨o, _, _, rfl, rfl, Eq.trans (upd_ne hoU) ho, ?_, ?_⟩
          · rw [List.length_map]
            exact small1000 (by omega)
          · refine ⟨_, _, _, ws ++ [(if b < a then b else a, if b > a then b else a)], rfl, ⟨(P7.upd nUp nUq).upd nop noq, ?_, win_snoc (x := (if b < a then b else a, if b > a then b else a)) ho h2 h3 nU⟩, ?_, ?_⟩
            · exact (K7.trans (Kp.new nU)).trans (Kp.lst (Eq.trans (upd_ne hoU) ho))
            · rw [List.length_append, hlen]
              rfl
            · intro fl hf
              rcases List.mem_append.mp hf with z | z
              · exact hok fl z
              · rw [List.mem_singleton.mp z]
                exact pair_ok ha hb
    · rintro σ H' ⟨v6, v7, v8, ws, rfl, ⟨P4, K4, ts, ho, h2, h3⟩, hlen, hok⟩
      refine ⟨_, rfl, o, _, rfl, .inl ⟨SqL.of ho, fun l hl => ?_⟩⟩
      obtain ⟨nlp, nlq⟩ := P4.off hl
      refine k _ l ws (P4.upd nlp nlq) (K4.trans (Kp.new hl)) ⟨ts, upd_same, h2, fun i t fl e1 e2 => ?_⟩ hlen hok
      have z : H' t = some _ := h3 i t fl e1 e2
      show upd _ l _ t = _
      rw [upd_ne (ne_of_none z hl)]
      exact z
end
end K9

/-! Wd9: drawn rows, lots, works. -/
namespace K9
open PySem PySem.Spec PyProof.Rows L2
theorem pe_bmK {X : Cx} {K : PySem.W.Frag} {e : Expr} {T : String} {r : V → List V → Hp → VK → Prop} {to : TE} {t : TA} (hK : X.K = K) (h : PE X e (tBM X.K T r to t)) : PE X e (tBM K T r to t) := by
  subst hK
  exact h
theorem rowV_app (a b : List Nat) : rowV (a ++ b) = rowV a ++ rowV b := by
  unfold rowV
  rw [List.map_append]
theorem rowV_erase (a : List Nat) (k : Nat) : (rowV a).eraseIdx k = rowV (a.eraseIdx k) := by
  unfold rowV
  rw [List.eraseIdx_eq_take_drop_succ, List.eraseIdx_eq_take_drop_succ, List.map_append, List.map_take, List.map_drop]
theorem erase_perm {acc rest : List Nat} {k x : Nat} (h : rest[k]? = some x) : ((acc ++ [x]) ++ rest.eraseIdx k).Perm (acc ++ rest) := by
  obtain ⟨h1, h2⟩ := List.getElem?_eq_some_iff.mp h
  have e : rest = rest.take k ++ x :: rest.drop (k + 1) := by
    rw [← h2, ← List.drop_eq_getElem_cons h1, List.take_append_drop]
  have e2 : (rest.take k ++ x :: rest.drop (k + 1)).Perm (x :: rest.eraseIdx k) := by
    rw [List.eraseIdx_eq_take_drop_succ]
    exact List.perm_middle
  rw [← e] at e2
  rw [List.append_assoc]
  exact List.Perm.append_left acc e2.symm
theorem lotV_app (a : List (Option Int)) (x : Option Int) : lotV (a ++ [x]) = lotV a ++ [optV x] := by
  unfold lotV
  rw [List.map_append]
  rfl
theorem lotAt_app_lt {a : List (Option Int)} {x : Option Int} {n : Nat} (h : n < a.length) : lotAt (a ++ [x]) n = lotAt a n := by
  unfold lotAt
  rw [List.getElem?_append_left h]
theorem lotAt_app_eq {a : List (Option Int)} {x : Option Int} {n : Nat} (h : n = a.length) : lotAt (a ++ [x]) n = x := by
  subst h
  unfold lotAt
  rw [List.getElem?_append_right (Nat.le_refl _), Nat.sub_self]
  rfl
section
variable {P : Program} {w : World} {K : PySem.W.Frag} {mg : Str → Option Value} {base : Heap}
abbrev sMix : Stmt := topS 34
abbrev sLots : Stmt := topS 35
abbrev sSome : Stmt := topS 36
theorem scMix : FnScope ["_law_pool_here", "_law_works", "_law_left", "_law_k"] ["_law_pool_here", "_law_works"] (defScope sMix) := ⟨rfl, rfl, rfl, by decide +kernel, rfl, by decide +kernel, by decide +kernel⟩
theorem scLots : FnScope ["_law_pool_here", "_law_windows_here", "_law_works", "_law_lot_here", "_law_work", "_law_first", "_law_last", "_law_length"] ["_law_pool_here", "_law_windows_here", "_law_works"] (defScope sLots) := ⟨rfl, rfl, rfl, by decide +kernel, rfl, by decide +kernel, by decide +kernel⟩
theorem scSome : FnScope ["_law_pool_here", "_law_many", "_law_of", "_law_work"] ["_law_pool_here", "_law_many"] (defScope sSome) := ⟨rfl, rfl, rfl, by decide +kernel, rfl, by decide +kernel, by decide +kernel⟩

theorem ok_mix {C f : Addr} {fd : FuncData} (F : Fun K "_law_row" "_law_row" sMix f fd) (T : Txt K mg C) (DD : Def P w K mg base "_law_draw" 1 ["_law_pool_here", "_law_many"] spDraw) :
    FnOk P w K mg base CX0 2 f fd ["_law_pool_here", "_law_works"] spMix := by
  refine F.ok scMix (fun vs H Q E h => ?_) (fun cdv A outer s H vs Q E hr h => ?_)
  · obtain ⟨p, q, r, works, rfl, _⟩ := h
    rfl
  · obtain ⟨p, q, r, works, rfl, hP, hrow, h40, k⟩ := h
    have hrow : H r = some (.tup (rowV works)) := hrow
    refine ⟨_, pss_cons (ps_set (i := 2) scMix.nd rfl (Or.inr rfl) (pe_callTy call_list_of (by rfl) T.list (by decide +kernel) (pa_cons (pv 1) pa_nil)))
      (pss_one (ps_ret (pe_callTy call_tuple_of (by rfl) T.tuple (by decide +kernel) (pa_cons (pe_lc (own := [("_law_k", 3)]) (g := gName 3) (tt := tYes) rfl scMix.nd
        (pi_range1 (by rfl) T.range (pa_cons (pe_callB call_len_seq (by rfl) T.len PySem.boot_len (pa_cons (pv 1) pa_nil)) pa_nil))
        (blkOk_by (own := [("_law_k", 3)]) (N := ["_law_pool_here", "_law_works", "_law_left", "_law_k"]) (sc := defScope sMix) (by decide +kernel))
        (fun _ _ _ _ _ => pg_name (i := 3) scMix.nd rfl (Or.inl rfl)) (fun _ _ _ _ _ => pts_nil)
        (fun _ _ _ _ _ => pe_bmK (K := K) rfl (pe_bm PySem.F.plainAttrs_list PySem.F.slot_list_pop PySem.F.type_list_pop mt_popAt (pv 2) (pa_cons (pe_def DD hr (by decide) (pa_cons (pv 0) (pa_cons (pe_callB (call_lenK (K := K) rfl) (by rfl) T.len PySem.boot_len (pa_cons (pv 2) pa_nil)) pa_nil))) pa_nil)))) pa_nil)))), ?_⟩
    refine ⟨_, rfl, r, _, rfl, .inr (SqT.of hrow), fun L nL => ?_⟩
    obtain ⟨nLp, nLq⟩ := hP.off nL
    have P1 := hP.upd (o := .lst (rowV works)) nLp nLq
    have K1 : Kp H (upd H L (.lst (rowV works))) := Kp.new nL
    have hL1 : (upd H L (.lst (rowV works))) L = some (.lst (rowV works)) := upd_same
    refine ⟨_, rfl, r, _, rfl, .inr (SqT.of (K1.tup hrow)), (((rowV works).length : Nat) : Int), rfl, by rw [rowV_len]; omega, by rw [rowV_len]; omega, fun D hD => ?_⟩
    obtain ⟨nDp, nDq⟩ := P1.off hD
    have nDL : D ≠ L := (ne_of_none hL1 hD).symm
    have K2 := K1.trans (Kp.new (o := .lst []) hD)
    have P2 := P1.upd (o := .lst []) nDp nDq
    rw [Int.toNat_natCast, rowV_len]
    refine lc_range (lo := 0) (n := works.length) (fun i H' => ∃ acc rest : List Nat, H' L = some (.lst (rowV rest)) ∧ H' D = some (.lst (rowV acc)) ∧ (acc ++ rest).Perm works ∧ rest.length + i = works.length ∧ acc.length = i ∧ PoolAt H' p q ∧ Kp H H')
      ⟨[], works, by rw [upd_ne nDL.symm]; exact hL1, upd_same, .refl _, rfl, rfl, P2, K2⟩ ?_ ?_
    · rintro i H' hi ⟨acc, rest, hL, hDD, hpm, hlr, hla, P3, K3⟩
      refine ⟨rfl, yesT ?_⟩
      refine ⟨_, rfl, .inl ⟨rfl, _, SqL.of hL⟩, _, rfl, _, rfl, L, _, rfl, .inl (SqL.of hL), p, q, (((rowV rest).length : Nat) : Int), rfl, P3, by rw [rowV_len]; omega, by rw [rowV_len]; omega, fun H4 d P4 D4 d0 d1 => ?_⟩
      rw [rowV_len] at d1
      have hL4 := D4 _ _ hL nLp nLq
      have hD4 := D4 _ _ hDD nDp nDq
      obtain ⟨j, rfl⟩ : ∃ j : Nat, d = (j : Int) := ⟨d.toNat, by omega⟩
      have hj : j < rest.length := by omega
      have gj : rest[j]? = some rest[j] := List.getElem?_eq_getElem hj
      have ix : ixN (rowV rest).length ((j : Nat) : Int) = some j := by
        unfold ixN
        rw [rowV_len, if_pos (by omega), if_pos (by omega), Int.toNat_natCast]
      refine ⟨L, _, _, j, _, rfl, rfl, hL4, by omega, by omega, (ixN_seq ix).1, rowV_at gj, rowV acc, Eq.trans (upd_ne nDL) hD4, ?_, ?_⟩
      · rw [rowV_len]
        exact small1000 (by omega)
      · refine ⟨acc ++ [rest[j]], rest.eraseIdx j, ?_, ?_, (erase_perm gj).trans hpm, ?_, ?_, (P4.upd nLp nLq).upd nDp nDq, ?_⟩
        · rw [upd_ne nDL.symm, upd_same, rowV_erase]
        · rw [upd_same, rowV_app]
          rfl
        · rw [List.length_eraseIdx, if_pos hj]
          omega
        · rw [List.length_append, hla]
          rfl
        · exact (((K3.trans (D4.kp P3 P4)).trans (Kp.lst hL4)).trans (Kp.lst (Eq.trans (upd_ne nDL) hD4)))
    · rintro H' ⟨acc, rest, hL, hDD, hpm, hlr, hla, P3, K3⟩
      have e : rest = [] := List.eq_nil_of_length_eq_zero (by omega)
      subst e
      rw [List.append_nil] at hpm
      refine ⟨D, _, rfl, .inl ⟨SqL.of hDD, fun l hl => ?_⟩⟩
      obtain ⟨nlp, nlq⟩ := P3.off hl
      exact k _ l acc (P3.upd nlp nlq) (K3.trans (Kp.new hl)) upd_same hpm

theorem ok_some {C f : Addr} {fd : FuncData} (F : Fun K "_law_some" "_law_some" sSome f fd) (T : Txt K mg C) (DD : Def P w K mg base "_law_draw" 1 ["_law_pool_here", "_law_many"] spDraw) :
    FnOk P w K mg base CX0 2 f fd ["_law_pool_here", "_law_many"] spSome := by
  refine F.ok scSome (fun vs H Q E h => ?_) (fun cdv A outer s H vs Q E hr h => ?_)
  · obtain ⟨p, q, n, rfl, _⟩ := h
    rfl
  · obtain ⟨p, q, n, rfl, hP, n7, k⟩ := h
    refine ⟨_, pss_cons (ps_set (i := 2) scSome.nd rfl (Or.inr rfl) (pe_ix ix_list (pe_lst (pa_cons pe_int (pa_cons pe_int (pa_cons pe_int pa_nil)))) (pe_def DD hr (by decide) (pa_cons (pv 0) (pa_cons pe_int pa_nil))) (fun _ _ => rfl)))
      (pss_one (ps_ret (pe_callTy call_tuple_of (by rfl) T.tuple (by decide +kernel) (pa_cons (pe_lc (own := [("_law_work", 3)]) (g := gName 3) rfl scSome.nd
        (pi_range1 (by rfl) T.range (pa_cons (pv 1) pa_nil))
        (blkOk_by (own := [("_law_work", 3)]) (N := ["_law_pool_here", "_law_many", "_law_of", "_law_work"]) (sc := defScope sSome) (by decide +kernel))
        (fun _ _ _ _ _ => pg_name (i := 3) scSome.nd rfl (Or.inl rfl)) (fun _ _ _ _ _ => pts_one (pt_cmpR op_gt (pe_def DD hr (by decide) (pa_cons (pv 0) (pa_cons (pe_op op_add (pv 2) pe_int) pa_nil))) pe_int (nomark _)))
        (fun _ _ _ _ _ => pv 3)) pa_nil)))), ?_⟩
    refine ⟨(by show 3 ≤ sizeLine; decide), fun l hl => ?_⟩
    obtain ⟨nlp, nlq⟩ := hP.off hl
    have P1 := hP.upd (o := .lst [.int 1, .int 2, .int 4]) nlp nlq
    have K1 : Kp H (upd H l (.lst [.int 1, .int 2, .int 4])) := Kp.new hl
    refine ⟨_, rfl, p, q, 3, rfl, P1, by decide, by decide, fun H2 d P2 D2 d0 d3 => ?_⟩
    have K2 := K1.trans (D2.kp P1 P2)
    have hl2 := D2 _ _ (upd_same (H := H) (a := l) (o := .lst [.int 1, .int 2, .int 4])) nlp nlq
    obtain ⟨v, hv, v1, v4⟩ : ∃ v : Int, atI [V.int 1, V.int 2, V.int 4] d = some (.int v) ∧ 1 ≤ v ∧ v ≤ 4 := by
      have z : d = 0 ∨ d = 1 ∨ d = 2 := by omega
      rcases z with rfl | rfl | rfl
      · exact ⟨1, rfl, by decide, by decide⟩
      · exact ⟨2, rfl, by decide, by decide⟩
      · exact ⟨4, rfl, by decide, by decide⟩
    refine ⟨l, _, d, _, rfl, rfl, SqL.of hl2, hv, ?_⟩
    refine ⟨_, rfl, ((n : Nat) : Int), rfl, by omega, by omega, fun D hD => ?_⟩
    obtain ⟨nDp, nDq⟩ := P2.off hD
    rw [Int.toNat_natCast]
    refine lc_range (lo := 0) (n := n) (fun i H' => ∃ acc : List Nat, H' D = some (.lst (rowV acc)) ∧ acc.Nodup ∧ (∀ w, w ∈ acc → w < i) ∧ acc.length ≤ i ∧ PoolAt H' p q ∧ Kp H H')
      ⟨[], upd_same, List.nodup_nil, fun w h => (by cases h), Nat.le_refl _, P2.upd nDp nDq, K2.trans (Kp.new hD)⟩ ?_ ?_
    · rintro i H' hi ⟨acc, hDD, hnd, hlt, hla, P3, K3⟩
      refine ⟨rfl, ?_⟩
      refine ⟨_, rfl, _, rfl, _, _, rfl, rfl, p, q, v + 1, rfl, P3, by omega, by omega, fun H4 e P4 D4 e0 e1 => ?_⟩
      have hD4 := D4 _ _ hDD nDp nDq
      have K4 := K3.trans (D4.kp P3 P4)
      refine ⟨_, _, rfl, rfl, _, rfl, ite2 (fun _ => ?_) (fun _ => ⟨acc, hD4, hnd, fun w hw => Nat.lt_succ_of_lt (hlt w hw), by omega, P4, K4⟩)⟩
      refine ⟨_, rfl, rowV acc, hD4, ?_, acc ++ [i], ?_, ?_, ?_, ?_, P4.upd nDp nDq, K4.trans (Kp.lst hD4)⟩
      · rw [rowV_len]
        exact small1000 (by omega)
      · rw [upd_same, rowV_app, Int.zero_add]
        rfl
      · refine List.nodup_append.mpr ⟨hnd, by simp, fun a ha b hb => ?_⟩
        rw [List.mem_singleton.mp hb]
        have z := hlt a ha
        omega
      · intro w hw
        rcases List.mem_append.mp hw with z | z
        · exact Nat.lt_succ_of_lt (hlt w z)
        · rw [List.mem_singleton.mp z]
          exact Nat.lt_succ_self _
      · rw [List.length_append]
        show acc.length + 1 ≤ i + 1
        omega
    · rintro H' ⟨acc, hDD, hnd, hlt, hla, P3, K3⟩
      refine ⟨D, _, rfl, .inl ⟨SqL.of hDD, fun r hr => ?_⟩⟩
      obtain ⟨nrp, nrq⟩ := P3.off hr
      exact k _ r acc (P3.upd nrp nrq) (K3.trans (Kp.new hr)) upd_same hnd hlt hla

theorem ok_lots {C f : Addr} {fd : FuncData} (F : Fun K "_law_lot" "_law_lot" sLots f fd) (T : Txt K mg C) (DD : Def P w K mg base "_law_draw" 1 ["_law_pool_here", "_law_many"] spDraw) :
    FnOk P w K mg base CX0 2 f fd ["_law_pool_here", "_law_windows_here", "_law_works"] spLots := by
  refine F.ok scLots (fun vs H Q E h => ?_) (fun cdv A outer s H vs Q E hr h => ?_)
  · obtain ⟨p, q, a, r, ws, row, rfl, _⟩ := h
    rfl
  · obtain ⟨p, q, a, r, ws, row, rfl, hP, hw, hok, w40, hrow, k⟩ := h
    have hrow : H r = some (.tup (rowV row)) := hrow
    refine ⟨_, pss_cons (ps_set (i := 3) scLots.nd rfl (Or.inl rfl) (pe_lst pa_nil))
      (pss_cons (ps_for PassesOwn.never rfl (pi_range1 (by rfl) T.range (pa_cons (pe_callB call_len_seq (by rfl) T.len PySem.boot_len (pa_cons (pv 1) pa_nil)) pa_nil)) (pg_name (i := 4) scLots.nd rfl (Or.inl rfl))
        (pss_cons (ps_asg (pe_ix ix_tup (pv 1) (pv 4) (fun _ _ => rfl)) (pg_tup rfl (pgs_cons (pg_name (i := 5) scLots.nd rfl (Or.inl rfl)) (pgs_cons (pg_name (i := 6) scLots.nd rfl (Or.inl rfl)) pgs_nil))))
        (pss_cons (ps_set (i := 7) scLots.nd rfl (Or.inl rfl) (pe_def DD hr (by decide) (pa_cons (pv 0) (pa_cons (pe_op op_add (pe_op op_add (pe_op op_sub (pv 6) (pv 5)) pe_int)
          (pe_callTy call_int1 (by rfl) T.int (by decide +kernel) (pa_cons (pe_cmpR op_eq (pe_def DD hr (by decide) (pa_cons (pv 0) (pa_cons pe_int pa_nil))) pe_int (nomark _)) pa_nil))) pa_nil))))
        (C8.pss_cut (ps_if (pt_cmpR op_gt (pe_def DD hr (by decide) (pa_cons (pv 0) (pa_cons pe_int pa_nil))) pe_int (nomark _)) (pss_one (ps_set (i := 7) scLots.nd rfl (Or.inl rfl) (pe_op op_fdiv (pv 7) pe_int))) pss_nil)
        (pss_one (ps_expr (pe_bm PySem.F.plainAttrs_list PySem.F.slot_list_append PySem.F.type_list_append mt_append (pv 3) (pa_cons (pe_ifExp (pt_cmpR op_in_seq (pv 4) (pv 2) (by rfl)) (pv 7) pe_non) pa_nil))))))))
      (pss_one (ps_ret (pe_callTy call_tuple_of (by rfl) T.tuple (by decide +kernel) (pa_cons (pv 3) pa_nil))))), ?_⟩
    refine ⟨Nat.zero_le _, fun L nL => ?_⟩
    obtain ⟨nLp, nLq⟩ := hP.off nL
    have P1 := hP.upd (o := .lst []) nLp nLq
    have K1 : Kp H (upd H L (.lst [])) := Kp.new nL
    obtain ⟨ts, ha, el, hts⟩ := id hw
    refine ⟨_, rfl, a, _, rfl, .inr (SqT.of (K1.tup ha)), (((ts.map V.ref).length : Nat) : Int), rfl, by rw [List.length_map]; omega, by rw [List.length_map]; omega, ?_⟩
    rw [Int.toNat_natCast, List.length_map, el]
    refine for_range (lo := 0) (n := ws.length) (fun i σ H' => ∃ (v4 v5 v6 v7 : Option V) (lot : List (Option Int)), σ = [some (.ref p), some (.ref a), some (.ref r), some (.ref L), v4, v5, v6, v7] ∧
        H' L = some (.lst (lotV lot)) ∧ lot.length = i ∧ PoolAt H' p q ∧ Kp H H' ∧ (∀ w, w < i → w ∈ row → ∃ d, lotAt lot w = some d ∧ 0 ≤ d) ∧ (∀ w, w < i → ¬ w ∈ row → lotAt lot w = none))
      ⟨none, none, none, none, [], rfl, upd_same, rfl, P1, K1, fun w h => absurd h (Nat.not_lt_zero _), fun w h => absurd h (Nat.not_lt_zero _)⟩ ?_ ?_
    · rintro i σ H' hi ⟨v4, v5, v6, v7, lot, rfl, hL, hlen, P2, K2, hin, hout⟩
      obtain ⟨us, u, ha2, hu, hwin⟩ := (K2.wins hw).get hi
      obtain ⟨f0, fl, l1⟩ := WinOk.at hok hi
      refine ⟨_, rfl, _, rfl, a, _, _, .ref u, rfl, rfl, SqT.of ha2, at_of (j := i) (by omega) hu, ?_⟩
      refine ⟨u, _, rfl, SqT.of hwin, rfl, _, _, rfl, _, _, rfl, rfl, ?_⟩
      refine ⟨_, rfl, _, rfl, _, rfl, _, _, rfl, rfl, _, _, rfl, rfl, _, rfl, p, q, 6, rfl, P2, by decide, by decide, fun H3 e P3 D3 e0 e6 => ?_⟩
      have K3 := K2.trans (D3.kp P2 P3)
      have hL3 := D3 _ _ hL nLp nLq
      refine ⟨rfl, .inr ⟨_, rfl, _, _, rfl, rfl, p, q, _, rfl, P3, ?_, ?_, fun H4 d P4 D4 d0 dm => ?_⟩⟩
      · split <;> omega
      · split <;> omega
      have K4 := K3.trans (D4.kp P3 P4)
      have hL4 := D4 _ _ hL3 nLp nLq
      refine ⟨fun σ' H' => ∃ z : Int, σ' = [some (.ref p), some (.ref a), some (.ref r), some (.ref L), some (.int (0 + (i : Nat))), some (.int (fsW ws i)), some (.int (lsW ws i)), some (.int z)] ∧ 0 ≤ z ∧ H' L = some (.lst (lotV lot)) ∧ PoolAt H' p q ∧ Kp H H', ?_, ?_⟩
      · refine ⟨_, rfl, p, q, 3, rfl, P4, by decide, by decide, fun H5 g P5 D5 g0 g3 => ?_⟩
        have K5 := K4.trans (D5.kp P4 P5)
        have hL5 := D5 _ _ hL4 nLp nLq
        refine ⟨_, _, rfl, rfl, _, rfl, ite2 (fun _ => ?_) (fun _ => ⟨d, rfl, d0, hL5, P5, K5⟩)⟩
        exact ⟨_, rfl, _, _, rfl, rfl, ⟨by decide, by decide⟩, d / 2, rfl, by omega, hL5, P5, K5⟩
      · rintro σ' H5 ⟨z, rfl, z0, hL5, P5, K5⟩
        -- what both answers lead to
        have fin : ∀ x : Option Int, (i ∈ row → ∃ d, x = some d ∧ 0 ≤ d) → (¬ i ∈ row → x = none) → ∃ (l : Addr) (xs : List V) (y : V), V.ref L = .ref l ∧ [optV x] = [y] ∧ H5 l = some (.lst xs) ∧ xs.length < sizeLine ∧
            (∃ (v4 v5 v6 v7 : Option V) (lot' : List (Option Int)), ([some (.ref p), some (.ref a), some (.ref r), some (.ref L), some (.int (0 + (i : Nat))), some (.int (fsW ws i)), some (.int (lsW ws i)), some (.int z)] : L2.St) = [some (.ref p), some (.ref a), some (.ref r), some (.ref L), v4, v5, v6, v7] ∧
              (upd H5 l (.lst (xs ++ [y]))) L = some (.lst (lotV lot')) ∧ lot'.length = i + 1 ∧ PoolAt (upd H5 l (.lst (xs ++ [y]))) p q ∧ Kp H (upd H5 l (.lst (xs ++ [y]))) ∧
              (∀ w, w < i + 1 → w ∈ row → ∃ d, lotAt lot' w = some d ∧ 0 ≤ d) ∧ (∀ w, w < i + 1 → ¬ w ∈ row → lotAt lot' w = none)) := by
          intro x hx1 hx2
          refine ⟨L, _, _, rfl, rfl, hL5, ?_, _, _, _, _, lot ++ [x], rfl, ?_, ?_, P5.upd nLp nLq, K5.trans (Kp.lst hL5), fun w hw hm => ?_, fun w hw hm => ?_⟩
          · rw [lotV_len]
            exact small1000 (by omega)
          · rw [upd_same, lotV_app]
          · rw [List.length_append, hlen]
            rfl
          · by_cases e : w < i
            · rw [lotAt_app_lt (by omega)]
              exact hin w e hm
            · have e2 : w = i := by omega
              subst e2
              rw [lotAt_app_eq hlen.symm]
              exact hx1 hm
          · by_cases e : w < i
            · rw [lotAt_app_lt (by omega)]
              exact hout w e hm
            · have e2 : w = i := by omega
              subst e2
              rw [lotAt_app_eq hlen.symm]
              exact hx2 hm
        have hrow5 := K5.tup hrow
        refine ⟨_, rfl, .inl ⟨rfl, _, SqL.of hL5⟩, _, rfl, _, rfl, r, _, rfl, .inr (SqT.of hrow5), rfl, flat_row row, inV (.int ((i : Nat) : Int)) (rowV row), by rw [Int.zero_add]; rfl, ?_⟩
        rw [inV_row]
        refine ite2 (fun c => ?_) (fun c => ?_)
        · have c1 := of_decide_eq_true c
          exact ⟨_, rfl, fin (some z) (fun _ => ⟨z, rfl, z0⟩) (fun h => absurd c1 h)⟩
        · have c1 : ¬ i ∈ row := fun h => c (decide_eq_true h)
          exact fin none (fun h => absurd h c1) (fun _ => rfl)
    · rintro σ H' ⟨v4, v5, v6, v7, lot, rfl, hL, hlen, P2, K2, hin, hout⟩
      refine ⟨_, rfl, L, _, rfl, .inl ⟨SqL.of hL, fun l hl => ?_⟩⟩
      obtain ⟨nlp, nlq⟩ := P2.off hl
      exact k _ l lot (P2.upd nlp nlq) (K2.trans (Kp.new hl)) upd_same hlen hin hout
end
end K9

/-! Wl: the law's def. -/
namespace K9
open PySem PySem.Spec PyProof.Rows L2
theorem kit_ib3 : kitB "int" "bool" = some false := by decide +kernel
theorem kit_nb3 : kitB "NoneType" "bool" = some false := by decide +kernel
theorem scal_opt (m : Option Int) : scal (optV m) (optV m) = true := by cases m <;> rfl
/-! ### what is drawn in a turn -/
structure TurnSt (C : Addr) (H : Hp) (p q a b r l : Addr) (ws : List (Int × Int)) (row : List Nat) (lot : List (Option Int)) : Prop where
  pool : PoolAt H p q
  wins : IsWins H a ws
  ok : RunOk C H b r l ws row lot
theorem TurnSt.kp {C : Addr} {H H' : Hp} {p q a b r l : Addr} {ws : List (Int × Int)} {row : List Nat} {lot : List (Option Int)} (t : TurnSt C H p q a b r l ws row lot) (k : Kp H H') (P : PoolAt H' p q) : TurnSt C H' p q a b r l ws row lot :=
  ⟨P, k.wins t.wins, t.ok.kp k⟩
theorem TurnSt.same {C : Addr} {H H' : Hp} {p q a b r l : Addr} {ws : List (Int × Int)} {row : List Nat} {lot : List (Option Int)} (t : TurnSt C H p q a b r l ws row lot) (s : Same H H') : TurnSt C H' p q a b r l ws row lot :=
  t.kp (Kp.of_same s) (t.pool.same s)
/-! ### lots changed -/
theorem RunOk.mapped {C : Addr} {H : Hp} {b r l l' : Addr} {ws : List (Int × Int)} {row : List Nat} {lot : List (Option Int)} {f : Int → Int} (h : RunOk C H b r l ws row lot) (hf : ∀ a, 0 ≤ a → 0 ≤ f a)
    (hl : IsLot H l' (lot.map (Option.map f))) : RunOk C H b r l' ws row (lot.map (Option.map f)) := by
  refine ⟨h.bk, h.rw, hl, h.nd, h.le, h.rl, h.wl, by rw [List.length_map, h.ll], fun w a e => ?_, fun w a e => ?_⟩
  · rw [lotAt_map] at e
    cases z : lotAt lot w with
    | none =>
      rw [z] at e
      cases e
    | some d =>
      rw [z] at e
      obtain rfl : f d = a := Option.some.inj e
      exact hf d (h.nn w d z)
  · rw [lotAt_map] at e
    cases z : lotAt lot w with
    | none =>
      rw [z] at e
      cases e
    | some d => exact h.inn w d z
theorem RunOk.gone {C : Addr} {H : Hp} {b r l l' : Addr} {ws : List (Int × Int)} {row : List Nat} {lot : List (Option Int)} {s : Nat} (h : RunOk C H b r l ws row lot)
    (hl : IsLot H l' (lot.set s none)) : RunOk C H b r l' ws row (lot.set s none) := by
  refine ⟨h.bk, h.rw, hl, h.nd, h.le, h.rl, h.wl, by rw [List.length_set, h.ll], fun w a e => ?_, fun w a e => ?_⟩
  · rw [lotAt_gone] at e
    split at e
    · cases e
    · exact h.nn w a e
  · rw [lotAt_gone] at e
    split at e
    · cases e
    · exact h.inn w a e
theorem lot_step {lot : List (Option Int)} {f : Int → Int} {i : Nat} (hi : i < lot.length) : lotV ((lot.take (i + 1)).map (Option.map f)) = lotV ((lot.take i).map (Option.map f)) ++ [optV ((lotAt lot i).map f)] := by
  have e : lot[i]? = some (lotAt lot i) := by
    unfold lotAt
    rw [List.getElem?_eq_getElem hi]
    rfl
  rw [take_at e, List.map_append]
  exact lotV_app _ _
theorem lot_gone {lot : List (Option Int)} {s : Nat} (h : s < lot.length) : lotV (lot.set s none) = ((lotV lot).take s ++ [V.non]) ++ (lotV lot).drop (s + 1) := by
  unfold lotV
  rw [List.set_eq_take_append_cons_drop, if_pos h, List.map_append, List.map_cons, List.map_take, List.map_drop, List.append_assoc]
  rfl
theorem cut_to {xs : List V} {s : Nat} (h : s ≤ xs.length) : cutV xs none (some ((s : Nat) : Int)) = xs.take s := by
  unfold cutV
  rw [HT.sIx_nat, HT.sIx_none, List.drop_zero, Nat.sub_zero, Nat.min_eq_left h]
theorem cut_from {xs : List V} {s : Nat} (h : s ≤ xs.length) : cutV xs (some ((s : Nat) : Int)) none = xs.drop s := by
  unfold cutV
  rw [HT.sIx_nat, HT.sIx_none, Nat.min_eq_left h]
  exact List.take_of_length_le (by rw [List.length_drop]; exact Nat.le_refl _)
theorem rg_row (n : Nat) : rgV 0 ((n : Nat) : Int) = rowV (List.range n) := by
  unfold rgV rowV
  rw [Int.sub_zero, Int.toNat_natCast]
  refine List.map_congr_left fun i _ => ?_
  rw [Int.zero_add]
theorem away_lot (n : Nat) : List.replicate n V.non = lotV (List.replicate n none) := by
  unfold lotV
  rw [List.map_replicate]
  rfl
/-- everybody away -/
theorem RunOk.away {C : Addr} {H : Hp} {b r l : Addr} {ws : List (Int × Int)} {row : List Nat} (hb : IsBook C H b ws) (hr : IsRow H r row) (nd : row.Nodup) (le : ∀ w, w ∈ row → w < ws.length) (rl : row.length ≤ 40) (wl : ws.length ≤ 40)
    (hl : IsLot H l (List.replicate ws.length none)) : RunOk C H b r l ws row (List.replicate ws.length none) :=
  ⟨hb, hr, hl, nd, le, rl, wl, List.length_replicate .., fun w a e => (by rw [lotAt_away] at e; cases e), fun w a e => (by rw [lotAt_away] at e; cases e)⟩
section
variable {P : Program} {w : World} {K : PySem.W.Frag} {mg : Str → Option Value} {base : Heap}
abbrev sLaw : Stmt := topS 40
theorem scLaw : FnScope ["_law_script", "_law_pool_here", "_law_many", "_law_windows_here", "_law_book", "_law_turn", "_law_row_here", "_law_lot_here", "_law_due", "_law_told", "_law_less", "_law_spot", "_law_gone", "_law_more", "_law_item"] ["_law_script"] (defScope sLaw) := ⟨rfl, rfl, rfl, by decide +kernel, rfl, by decide +kernel, by decide +kernel⟩

theorem ok_law {C f fI : Addr} {fd fdI : FuncData} (F : Fun K "law" "law" sLaw f fd) (T : Txt K mg C) (M : Mk K C fI) (GI : FnOk P w K mg base CX0 4 fI fdI ["self", "windows"] (spInit C)) (bI : Binds K fdI ["self", "windows"] [])
    (DPool : Def P w K mg base "_law_pool" 1 ["_law_script"] (spPool K)) (DDraw : Def P w K mg base "_law_draw" 1 ["_law_pool_here", "_law_many"] spDraw)
    (DWins : Def P w K mg base "_law_windows" 2 ["_law_pool_here", "_law_many", "_law_top"] spWins) (DMix : Def P w K mg base "_law_row" 2 ["_law_pool_here", "_law_works"] spMix)
    (DSome : Def P w K mg base "_law_some" 2 ["_law_pool_here", "_law_many"] spSome) (DLots : Def P w K mg base "_law_lot" 2 ["_law_pool_here", "_law_windows_here", "_law_works"] spLots)
    (DLateL : Def P w K mg base "_law_lateness" 2 ["_law_windows_here", "_law_row_here", "_law_lot_here"] (spRunL rLate)) (DFlag : Def P w K mg base "_law_flag" 1 ["_law_told", "_law_due"] spFlag)
    (DLate : Def P w K mg base "lateness" 7 ["book", "row", "lot"] (spRun C rLate)) (DServes : Def P w K mg base "serves" 7 ["book", "row", "lot"] (spRun C rServes)) :
    FnOk P w K mg base CX0 8 f fd ["_law_script"] (spLaw K) := by
  refine F.ok scLaw (fun vs H Q E h => ?_) (fun cdv A outer s H vs Q E hr h => ?_)
  · obtain ⟨a, ns, rfl, _⟩ := h
    rfl
  · obtain ⟨a0, ns, rfl, hS, h63, qq⟩ := h
    refine ⟨_, pss_cons (ps_set (i := 1) scLaw.nd rfl (Or.inl rfl) (pe_def DPool hr (by decide) (pa_cons (pv 0) pa_nil)))
      (C8.pss_cut (ps_set (i := 2) scLaw.nd rfl (Or.inl rfl) (pe_op op_add pe_int (pe_def DDraw hr (by decide) (pa_cons (pv 1) (pa_cons pe_int pa_nil)))))
      (pss_cons (ps_set (i := 3) scLaw.nd rfl (Or.inl rfl) (pe_def DWins hr (by decide) (pa_cons (pv 1) (pa_cons (pv 2) (pa_cons (pe_ix ix_list (pe_lst (pa_cons pe_int (pa_cons pe_int (pa_cons (pe_op op_pow pe_int pe_int) pa_nil)))) (pe_def DDraw hr (by decide) (pa_cons (pv 1) (pa_cons pe_int pa_nil))) (fun _ _ => rfl)) pa_nil)))))
      (pss_cons (ps_set (i := 4) scLaw.nd rfl (Or.inl rfl) (pe_make M GI (hr.mono (by decide)) rfl T.mgC bI .nil pass0 (pa_cons (pv 3) pa_nil)))
      (pss_cons (ps_for PassesOwn.never rfl (pi_range1 (by rfl) T.range (pa_cons pe_int pa_nil)) (pg_name (i := 5) scLaw.nd rfl (Or.inl rfl))
        (pss_cons (ps_set (i := 6) scLaw.nd rfl (Or.inl rfl) (pe_def DMix hr (by decide) (pa_cons (pv 1) (pa_cons (pe_def DSome hr (by decide) (pa_cons (pv 1) (pa_cons (pv 2) pa_nil))) pa_nil))))
        (pss_cons (ps_set (i := 7) scLaw.nd rfl (Or.inl rfl) (pe_def DLots hr (by decide) (pa_cons (pv 1) (pa_cons (pv 3) (pa_cons (pv 6) pa_nil)))))
        (pss_cons (ps_set (i := 8) scLaw.nd rfl (Or.inl rfl) (pe_def DLateL hr (by decide) (pa_cons (pv 3) (pa_cons (pv 6) (pa_cons (pv 7) pa_nil)))))
        (pss_cons (ps_set (i := 9) scLaw.nd rfl (Or.inl rfl) (pe_def DLate hr (by decide) (pa_cons (pv 4) (pa_cons (pv 6) (pa_cons (pv 7) pa_nil)))))
        (pss_cons (ps_if (PW.pt (pw_or (pt_cmpR op_ne (pv 9) (pv 8) (nomark _)) (pw_or1 (pt_val (pe_callB call_isi (by rfl) T.isi (by decide +kernel) (pa_cons (pv 9) (pa_cons (pe_bltn (v := .ty "bool") (by rfl) T.bool (by decide +kernel) rfl) pa_nil))))))) pss_never pss_nil)
        (C8.pss_cut (ps_if (pt_not (pt_val (pe_def DFlag hr (by decide) (pa_cons (pe_def DServes hr (by decide) (pa_cons (pv 4) (pa_cons (pv 6) (pa_cons (pv 7) pa_nil)))) (pa_cons (pe_or (pe_cmpR op_isN (pv 8) pe_non (nomark _)) (pe_one (pe_cmpR op_le (pv 8) pe_int (nomark _)))) pa_nil))))) pss_never pss_nil)
        (pss_cons (ps_set (i := 10) scLaw.nd rfl (Or.inl rfl) (pe_callTy call_tuple_of (by rfl) T.tuple (by decide +kernel) (pa_cons (pe_lc (own := [("_law_item", 14)]) (g := gName 14) (tt := tYes) rfl scLaw.nd (pi_tup (pv 7))
          (blkOk_by (own := [("_law_item", 14)]) (N := ["_law_script", "_law_pool_here", "_law_many", "_law_windows_here", "_law_book", "_law_turn", "_law_row_here", "_law_lot_here", "_law_due", "_law_told", "_law_less", "_law_spot", "_law_gone", "_law_more", "_law_item"]) (sc := defScope sLaw) (by decide +kernel))
          (fun _ _ _ _ _ => pg_name (i := 14) scLaw.nd rfl (Or.inl rfl)) (fun _ _ _ _ _ => pts_nil) (fun _ _ _ _ _ => pe_ifExp (pt_cmpR op_isN (pv 14) pe_non (nomark _)) pe_non (pe_op op_fdiv (pv 14) pe_int))) pa_nil)))
        (C8.pss_cut (ps_if (PW.pt (pw_and (pt_cmpR op_notN (pv 8) pe_non (nomark _)) (pw_and1 (pt_cmpR op_gt (pe_def DLate hr (by decide) (pa_cons (pv 4) (pa_cons (pv 6) (pa_cons (pv 10) pa_nil)))) (pv 8) (nomark _))))) pss_never pss_nil)
        (pss_one (ps_if (pt_cmpR op_gt (pe_callB call_len_seq (by rfl) T.len PySem.boot_len (pa_cons (pv 6) pa_nil)) pe_int (nomark _))
          (pss_cons (ps_set (i := 11) scLaw.nd rfl (Or.inl rfl) (pe_ix ix_tup (pv 6) (pe_def DDraw hr (by decide) (pa_cons (pv 1) (pa_cons (pe_callB call_len_seq (by rfl) T.len PySem.boot_len (pa_cons (pv 6) pa_nil)) pa_nil))) (fun _ _ => rfl)))
          (pss_cons (ps_set (i := 12) scLaw.nd rfl (Or.inl rfl) (pe_op op_catV (pe_op op_catV (pe_slice sl_tupV (pv 7) po_none (po_some (pv 11))) (pe_tup (pa_cons pe_non pa_nil))) (pe_slice sl_tupV (pv 7) (po_some (pe_op op_add (pv 11) pe_int)) po_none)))
          (pss_cons (ps_set (i := 10) scLaw.nd rfl (Or.inl rfl) (pe_def DLate hr (by decide) (pa_cons (pv 4) (pa_cons (pv 6) (pa_cons (pv 12) pa_nil)))))
          (C8.pss_cut (ps_if (PW.pt (pw_and (pt_cmpR op_notN (pv 10) pe_non (nomark _)) (pw_and1 (pt_cmpR op_gt (pv 10) (pv 8) (nomark _))))) pss_never pss_nil)
          (pss_cons (ps_set (i := 13) scLaw.nd rfl (Or.inl rfl) (pe_callTy call_tuple_of (by rfl) T.tuple (by decide +kernel) (pa_cons (pe_lc (own := [("_law_item", 14)]) (g := gName 14) (tt := tYes) rfl scLaw.nd (pi_tup (pv 7))
            (blkOk_by (own := [("_law_item", 14)]) (N := ["_law_script", "_law_pool_here", "_law_many", "_law_windows_here", "_law_book", "_law_turn", "_law_row_here", "_law_lot_here", "_law_due", "_law_told", "_law_less", "_law_spot", "_law_gone", "_law_more", "_law_item"]) (sc := defScope sLaw) (by decide +kernel))
            (fun _ _ _ _ _ => pg_name (i := 14) scLaw.nd rfl (Or.inl rfl)) (fun _ _ _ _ _ => pts_nil) (fun _ _ _ _ _ => pe_ifExp (pt_cmpR op_isN (pv 14) pe_non (nomark _)) pe_non (pe_op op_add (pv 14) pe_int))) pa_nil)))
          (pss_one (ps_if (PW.pt (pw_and (pt_cmpR op_notN (pv 8) pe_non (nomark _)) (pw_and1 (pt_cmpR op_le (pe_def DLate hr (by decide) (pa_cons (pv 4) (pa_cons (pv 6) (pa_cons (pv 13) pa_nil)))) (pv 8) (nomark _))))) pss_never pss_nil))))))) pss_nil)))))))))))
      (pss_one (ps_ret (pe_and (pe_cmpR op_isN (pe_def DLate hr (by decide) (pa_cons (pv 4) (pa_cons (pe_tupRg rfl (by rfl) T.tuple (prg_1 (by rfl) T.range (pv 2))) (pa_cons (pe_op op_repV (pe_tup (pa_cons pe_non pa_nil)) (pv 2)) pa_nil)))) pe_non (nomark _))
        (pe_one (pe_cmpR op_isBl (pe_def DServes hr (by decide) (pa_cons (pv 4) (pa_cons (pe_tup pa_nil) (pa_cons (pe_op op_repV (pe_tup (pa_cons pe_non pa_nil)) (pv 2)) pa_nil)))) pe_bl (nomark _)))))))))), ?_⟩
    -- the pool
    refine ⟨_, rfl, a0, ns, rfl, hS, h63, fun H1 p q s1 P1 => ?_⟩
    -- how many
    refine ⟨fun σ H' => ∃ n : Nat, σ = [some (.ref a0), some (.ref p), some (.int ((n : Nat) : Int)), none, none, none, none, none, none, none, none, none, none, none, none] ∧ 1 ≤ n ∧ n ≤ 7 ∧ PoolAt H' p q, ?_, ?_⟩
    · refine ⟨_, rfl, p, q, 7, rfl, P1, by decide, by decide, fun H2 d P2 D2 d0 d7 => ?_⟩
      obtain ⟨j, rfl⟩ : ∃ j : Nat, d = (j : Int) := ⟨d.toNat, by omega⟩
      refine ⟨1, _, rfl, rfl, 1 + j, ?_, by omega, by omega, P2⟩
      show [_, _, some (V.int (1 + (j : Int))), _, _, _, _, _, _, _, _, _, _, _, _] = _
      rw [show (1 : Int) + (j : Int) = ((1 + j : Nat) : Int) by omega]
    · rintro σ2 H2 ⟨n, rfl, n1, n7, P2⟩
      -- the windows
      refine ⟨_, rfl, _, rfl, 10, 5, rfl, rfl, ⟨by decide, by decide, by decide⟩, (by show 3 ≤ sizeLine; decide), fun tl ntl => ?_⟩
      obtain ⟨ntp, ntq⟩ := P2.off ntl
      have P3 := P2.upd (o := .lst [.int 5, .int 12, .int (10 ^ (5 : Int).toNat)]) ntp ntq
      refine ⟨_, rfl, p, q, 3, rfl, P3, by decide, by decide, fun H4 d P4 D4 d0 d3 => ?_⟩
      have htl := D4 _ _ (upd_same (H := H2) (a := tl) (o := .lst [.int 5, .int 12, .int (10 ^ (5 : Int).toNat)])) ntp ntq
      obtain ⟨top, htop, top1, top2⟩ : ∃ v : Int, atI [V.int 5, V.int 12, V.int (10 ^ (5 : Int).toNat)] d = some (.int v) ∧ 1 ≤ v ∧ v ≤ 100000 := by
        have z : d = 0 ∨ d = 1 ∨ d = 2 := by omega
        rcases z with rfl | rfl | rfl
        · exact ⟨5, rfl, by decide, by decide⟩
        · exact ⟨12, rfl, by decide, by decide⟩
        · exact ⟨10 ^ (5 : Int).toNat, rfl, by decide, by decide⟩
      refine ⟨tl, _, d, _, rfl, rfl, SqL.of htl, htop, p, q, n, top, rfl, P4, n7, top1, top2, fun H5 a ws P5 K5 hw hn hok => ?_⟩
      -- the book
      refine ⟨_, rfl, fun b dx nb ndx nbd => ?_⟩
      have s6 : Same H5 (upd (upd H5 dx (.own b)) b (.ins C dx [])) := fun c o e => by
        rw [upd_ne (ne_of_none e nb), upd_ne (ne_of_none e ndx)]
        exact e
      refine ⟨b, dx, a, ws, rfl, upd_same, (Kp.of_same s6).wins hw, by omega, by omega, hok, fun H7 hb7 k7 => ⟨rfl, ?_⟩⟩
      have s7 : Same H5 H7 := fun c o e => k7 c o (s6 c o e) (ne_of_none e nb)
      have w7 : IsWins H7 a ws := (Kp.of_same s7).wins hw
      have b7 : IsBook C H7 b ws := ⟨dx, a, hb7, w7⟩
      have P7 := P5.same s7
      -- five turns
      refine ⟨5, rfl, by decide, by decide, ?_⟩
      refine for_range (lo := 0) (n := 5) (fun i σ H' => ∃ v5 v6 v7 v8 v9 v10 v11 v12 v13 : Option V, σ = [some (.ref a0), some (.ref p), some (.int ((n : Nat) : Int)), some (.ref a), some (.ref b), v5, v6, v7, v8, v9, v10, v11, v12, v13, none] ∧
          PoolAt H' p q ∧ IsWins H' a ws ∧ IsBook C H' b ws)
        ⟨none, none, none, none, none, none, none, none, none, rfl, P7, w7, b7⟩ ?_ ?_
      · rintro i σ H' hi ⟨v5, v6, v7, v8, v9, v10, v11, v12, v13, rfl, P8, w8, b8⟩
        -- some works, in some order
        refine ⟨_, rfl, _, rfl, _, rfl, p, q, n, rfl, P8, n7, fun H9 r0 works P9 K9 hr0 hnd0 hlt0 hlen0 => ?_⟩
        refine ⟨p, q, r0, works, rfl, P9, hr0, by omega, fun H10 r row P10 K10 hrow hperm => ?_⟩
        have hnd : row.Nodup := hperm.symm.nodup hnd0
        have hlt : ∀ w, w ∈ row → w < ws.length := fun w hw => by
          have z := hlt0 w (hperm.mem_iff.mp hw)
          omega
        have hrl : row.length ≤ 40 := by
          have z := hperm.length_eq
          omega
        have K8 := K9.trans K10
        -- a lot
        refine ⟨_, rfl, _, rfl, _, rfl, p, q, a, r, ws, row, rfl, P10, K8.wins w8, hok, by omega, hrow, fun H11 l lot P11 K11 hlot hll hin hout => ?_⟩
        have nn : ∀ w a, lotAt lot w = some a → 0 ≤ a ∧ w ∈ row := fun w a e => by
          have hw : w < ws.length := by
            rcases Nat.lt_or_ge w lot.length with z | z
            · omega
            · unfold lotAt at e
              rw [List.getElem?_eq_none z] at e
              cases e
          by_cases hm : w ∈ row
          · obtain ⟨d, e2, d0⟩ := hin w hw hm
            rw [e] at e2
            obtain rfl : a = d := Option.some.inj e2
            exact ⟨d0, hm⟩
          · rw [hout w hw hm] at e
            cases e
        have S11 : TurnSt C H11 p q a b r l ws row lot := ⟨P11, (K8.trans K11).wins w8, (K8.trans K11).book b8, K11.row hrow, hlot, hnd, hlt, hrl, by omega, hll, fun w a e => (nn w a e).1, fun w a e => (nn w a e).2⟩
        -- the due lateness, the told one
        refine ⟨_, rfl, _, rfl, _, rfl, a, r, l, ws, row, lot, rfl, S11.wins, S11.ok.rw, S11.ok.lt, hlt, hrl, hll, fun H12 m s12 hm => ?_⟩
        have S12 := S11.same s12
        refine ⟨_, rfl, _, rfl, _, rfl, b, r, l, ws, row, lot, rfl, S12.ok, fun H13 m' s13 hm' => ?_⟩
        have S13 := S12.same s13
        obtain rfl : m' = m := hm'.uniq hm
        refine ⟨_, rfl, _, rfl, scal_opt m', _, rfl, ?_⟩
        rw [decide_eq_true rfl]
        refine iteF ?_
        have notB : ∃ t, TyX K H13 (optV m') t ∧ PySem.W.kitOne K t (.type "bool") = some false := by
          cases m' with
          | none => exact ⟨_, .base .non, kit_ty kit_nb3⟩
          | some z => exact ⟨_, .base (.int z), kit_ty kit_ib3⟩
        obtain ⟨tb, ty, kt⟩ := notB
        refine ⟨_, rfl, optV m', .ty "bool", tb, _, false, rfl, .ty "bool", ty, kt, false, rfl, iteF ?_⟩
        -- served or not
        refine ⟨fun σ H' => σ = [some (.ref a0), some (.ref p), some (.int ((n : Nat) : Int)), some (.ref a), some (.ref b), some (.int (0 + (i : Nat))), some (.ref r), some (.ref l), some (optV m'), some (optV m'), v10, v11, v12, v13, none] ∧ TurnSt C H' p q a b r l ws row lot, ?_, ?_⟩
        · refine ⟨_, rfl, _, rfl, _, rfl, b, r, l, ws, row, lot, rfl, S13.ok, fun H14 s14 => ?_⟩
          have S14 := S13.same s14
          have es := serves_due (ws := ws) (run := ranFrom ws lot 0 row) (r := m') hm
          cases m' with
          | none => exact ⟨_, rfl, rfl, true, rfl, iteT ⟨true, by rw [es]; rfl, true, rfl, iteF ⟨rfl, S14⟩⟩⟩
          | some z => exact ⟨_, rfl, rfl, false, rfl, iteF ⟨_, rfl, z, 0, rfl, rfl, decide (z ≤ 0), by rw [es]; rfl, true, rfl, iteF ⟨rfl, S14⟩⟩⟩
        · rintro σ H14 ⟨rfl, S14⟩
          -- shorter lengths
          have hlot14 : H14 l = some (.tup (lotV lot)) := S14.ok.lt
          refine ⟨_, rfl, l, rfl, ⟨_, SqT.of hlot14⟩, fun D hD => ?_⟩
          refine lc_tup (K := K) (a := l) (xs := lotV lot) (fun i H' => H' = upd H14 D (.lst (lotV ((lot.take i).map (Option.map fun x => x / 2))))) rfl (fun i H' _ e => by rw [e]; exact SqT.of (same_upd hD _ _ hlot14)) ?_ ?_
          · rintro j x H' hx rfl
            obtain ⟨hj, rfl⟩ := lotV_get hx
            have fin : ∀ y, y = optV ((lotAt lot j).map fun x => x / 2) → ∃ acc, (upd H14 D (.lst (lotV ((lot.take j).map (Option.map fun x => x / 2))))) D = some (.lst acc) ∧ acc.length < sizeLine ∧
                upd (upd H14 D (.lst (lotV ((lot.take j).map (Option.map fun x => x / 2))))) D (.lst (acc ++ [y])) = upd H14 D (.lst (lotV ((lot.take (j + 1)).map (Option.map fun x => x / 2)))) := by
              rintro y rfl
              refine ⟨_, upd_same, ?_, ?_⟩
              · rw [lotV_len, List.length_map, List.length_take]
                exact small1000 (by have z := S14.ok.ll; have y := S14.ok.wl; omega)
              · rw [upd_upd, lot_step hj]
            refine ⟨rfl, yesT ?_⟩
            cases e : lotAt lot j with
            | none =>
              rw [e] at fin
              exact ⟨_, rfl, rfl, true, rfl, iteT (fin _ rfl)⟩
            | some d =>
              rw [e] at fin
              exact ⟨_, rfl, rfl, false, rfl, iteF ⟨_, rfl, d, 2, rfl, rfl, ⟨by decide, by decide⟩, fin _ rfl⟩⟩
          · rintro H15 rfl
            have e0 : (lot.take (lotV lot).length) = lot := by rw [lotV_len, List.take_length]
            rw [e0]
            refine ⟨D, _, rfl, .inl ⟨SqL.of upd_same, fun l2 nl2 => ?_⟩⟩
            have s16 : Same H14 (upd (upd H14 D (.lst (lotV (lot.map (Option.map fun x => x / 2))))) l2 (.tup (lotV (lot.map (Option.map fun x => x / 2))))) := (same_upd hD).trans (same_upd nl2)
            have S16 := S14.same s16
            have R16 : RunOk C (upd (upd H14 D (.lst (lotV (lot.map (Option.map fun x => x / 2))))) l2 (.tup (lotV (lot.map (Option.map fun x => x / 2))))) b r l2 ws row (lot.map (Option.map fun x => x / 2)) :=
              S16.ok.mapped (fun a h => by omega) upd_same
            generalize upd (upd H14 D (.lst (lotV (lot.map (Option.map fun x => x / 2))))) l2 (.tup (lotV (lot.map (Option.map fun x => x / 2)))) = H16 at S16 R16 ⊢
            refine ⟨fun σ H' => σ = [some (.ref a0), some (.ref p), some (.int ((n : Nat) : Int)), some (.ref a), some (.ref b), some (.int (0 + (i : Nat))), some (.ref r), some (.ref l), some (optV m'), some (optV m'), some (.ref l2), v11, v12, v13, none] ∧ TurnSt C H' p q a b r l ws row lot, ?_, ?_⟩
            · cases m' with
              | none => exact ⟨_, rfl, rfl, false, rfl, iteF (iteF ⟨rfl, S16⟩)⟩
              | some z =>
                refine ⟨_, rfl, rfl, true, rfl, iteT ⟨_, rfl, _, rfl, _, rfl, b, r, l2, ws, row, _, rfl, R16, fun H17 m2 s17 hm2 => ?_⟩⟩
                have S17 := S16.same s17
                cases m2 with
                | none =>
                  have z1 := hrs_len (ws := ws) (lot' := lot.map (Option.map fun x => x / 2)) (lot := lot) row 0 0 fun w _ => by
                    rw [lotAt_map]
                    cases lotAt lot w <;> simp
                  have z2 : hrs ws (lot.map (Option.map fun x => x / 2)) 0 row = [] := hm2
                  rw [z2] at z1
                  have z3 : hrs ws lot 0 row = [] := List.eq_nil_of_length_eq_zero z1.symm
                  have z4 := hm.1
                  rw [z3] at z4
                  cases z4
                | some y =>
                  obtain ⟨z', ez, hle⟩ := late_mono (fun w _ a' e => by
                    rw [lotAt_map] at e
                    cases ed : lotAt lot w with
                    | none =>
                      rw [ed] at e
                      cases e
                    | some d =>
                      rw [ed] at e
                      have e2 : d / 2 = a' := Option.some.inj e
                      have d0 := (nn w d ed).1
                      exact ⟨d, rfl, by omega⟩) (fun w _ a e => (nn w a e).1) hm2 hm
                  obtain rfl : z = z' := Option.some.inj ez
                  refine ⟨_, rfl, y, z, rfl, rfl, _, rfl, ?_⟩
                  rw [decide_eq_false (by omega)]
                  exact iteF ⟨rfl, S17⟩
            · rintro σ H17 ⟨rfl, S17⟩
              -- one away more, all longer by one
              have hrow17 : H17 r = some (.tup (rowV row)) := S17.ok.rw
              have hlot17 : H17 l = some (.tup (lotV lot)) := S17.ok.lt
              refine ⟨_, rfl, r, _, rfl, .inr (SqT.of hrow17), _, 0, rfl, rfl, _, rfl, ite2 (fun c => ?_) (fun _ => ⟨_, _, _, _, _, _, _, _, _, rfl, S17.pool, S17.wins, S17.ok.bk⟩)⟩
              have c1 := of_decide_eq_true c
              rw [rowV_len] at c1
              refine ⟨_, rfl, _, rfl, _, rfl, r, _, rfl, .inr (SqT.of hrow17), p, q, _, rfl, S17.pool, by rw [rowV_len]; exact c1, by rw [rowV_len]; omega, fun H18 d P18 D18 d0 d1 => ?_⟩
              rw [rowV_len] at d1
              have S18 := S17.kp (D18.kp S17.pool P18) P18
              obtain ⟨j, rfl⟩ : ∃ j : Nat, d = (j : Int) := ⟨d.toNat, by omega⟩
              have hj : j < row.length := by omega
              have gj : row[j]? = some row[j] := List.getElem?_eq_getElem hj
              generalize row[j] = sp at gj
              have hsp : sp ∈ row := List.mem_of_getElem? gj
              have hspl : sp < lot.length := by
                have z := hlt sp hsp
                omega
              have hrow18 : H18 r = some (.tup (rowV row)) := S18.ok.rw
              have hlot18 : H18 l = some (.tup (lotV lot)) := S18.ok.lt
              refine ⟨r, _, _, _, rfl, rfl, SqT.of hrow18, atI_nat (rowV_at gj), ?_⟩
              -- the lot without it
              refine ⟨_, rfl, _, rfl, _, rfl, l, _, rfl, hlot18, fun q1 H19 s19 hq1 => ?_⟩
              have hlen40 : lot.length ≤ 40 := by
                have z := S17.ok.ll
                have y := S17.ok.wl
                omega
              rw [cut_to (by rw [lotV_len]; omega)] at hq1
              refine ⟨(by show 1 ≤ sizeLine; decide), fun q2 nq2 => ?_⟩
              have s20 := s19.trans (same_upd (o := .tup [V.non]) nq2)
              refine ⟨q1, q2, _, _, rfl, rfl, same_upd nq2 _ _ hq1, upd_same, ?_, fun q3 H21 s21 hq3 => ?_⟩
              · rw [List.length_take, lotV_len]
                exact Nat.le_of_lt (small1000 (by show _ + 1 ≤ 1000; omega))
              have s22 := s20.trans s21
              refine ⟨_, rfl, _, rfl, _, _, rfl, rfl, _, rfl, l, _, rfl, s22 _ _ hlot18, fun q4 H23 s23 hq4 => ?_⟩
              rw [show ((sp : Nat) : Int) + 1 = ((sp + 1 : Nat) : Int) by omega, cut_from (by rw [lotV_len]; omega)] at hq4
              refine ⟨q3, q4, _, _, rfl, rfl, s23 _ _ hq3, hq4, ?_, fun g H24 s24 hg => ?_⟩
              · rw [List.length_append, List.length_take, List.length_drop, lotV_len]
                exact Nat.le_of_lt (small1000 (by show _ + 1 + _ ≤ 1000; omega))
              rw [← lot_gone hspl] at hg
              have S24 := S18.same ((s22.trans s23).trans s24)
              have R24 : RunOk C H24 b r g ws row (lot.set sp none) := S24.ok.gone hg
              refine ⟨_, rfl, _, rfl, _, rfl, b, r, g, ws, row, _, rfl, R24, fun H25 m2 s25 hm2 => ?_⟩
              have S25 := S24.same s25
              refine ⟨fun σ H' => σ = [some (.ref a0), some (.ref p), some (.int ((n : Nat) : Int)), some (.ref a), some (.ref b), some (.int (0 + (i : Nat))), some (.ref r), some (.ref l), some (optV m'), some (optV m'), some (optV m2), some (.int ((sp : Nat) : Int)), some (.ref g), v13, none] ∧ TurnSt C H' p q a b r l ws row lot, ?_, ?_⟩
              · cases m2 with
                | none => exact ⟨_, rfl, rfl, false, rfl, iteF (iteF ⟨rfl, S25⟩)⟩
                | some y =>
                  obtain ⟨z, rfl, hle⟩ := late_mono (fun w _ a' e => by
                    rw [lotAt_gone] at e
                    split at e
                    · cases e
                    · exact ⟨a', e, Int.le_refl _⟩) (fun w _ a e => (nn w a e).1) hm2 hm
                  refine ⟨_, rfl, rfl, true, rfl, iteT ⟨_, rfl, _, rfl, y, z, rfl, rfl, _, rfl, ?_⟩⟩
                  rw [decide_eq_false (by omega)]
                  exact iteF ⟨rfl, S25⟩
              · rintro σ H26 ⟨rfl, S26⟩
                have hlot26 : H26 l = some (.tup (lotV lot)) := S26.ok.lt
                refine ⟨_, rfl, l, rfl, ⟨_, SqT.of hlot26⟩, fun D hD => ?_⟩
                refine lc_tup (K := K) (a := l) (xs := lotV lot) (fun i H' => H' = upd H26 D (.lst (lotV ((lot.take i).map (Option.map fun x => x + 1))))) rfl (fun i H' _ e => by rw [e]; exact SqT.of (same_upd hD _ _ hlot26)) ?_ ?_
                · rintro j x H' hx rfl
                  obtain ⟨hj, rfl⟩ := lotV_get hx
                  have fin : ∀ y, y = optV ((lotAt lot j).map fun x => x + 1) → ∃ acc, (upd H26 D (.lst (lotV ((lot.take j).map (Option.map fun x => x + 1))))) D = some (.lst acc) ∧ acc.length < sizeLine ∧
                      upd (upd H26 D (.lst (lotV ((lot.take j).map (Option.map fun x => x + 1))))) D (.lst (acc ++ [y])) = upd H26 D (.lst (lotV ((lot.take (j + 1)).map (Option.map fun x => x + 1)))) := by
                    rintro y rfl
                    refine ⟨_, upd_same, ?_, ?_⟩
                    · rw [lotV_len, List.length_map, List.length_take]
                      exact small1000 (by omega)
                    · rw [upd_upd, lot_step hj]
                  refine ⟨rfl, yesT ?_⟩
                  cases e : lotAt lot j with
                  | none =>
                    rw [e] at fin
                    exact ⟨_, rfl, rfl, true, rfl, iteT (fin _ rfl)⟩
                  | some d =>
                    rw [e] at fin
                    exact ⟨_, rfl, rfl, false, rfl, iteF ⟨_, rfl, d, 1, rfl, rfl, fin _ rfl⟩⟩
                · rintro H27 rfl
                  have e0 : (lot.take (lotV lot).length) = lot := by rw [lotV_len, List.take_length]
                  rw [e0]
                  refine ⟨D, _, rfl, .inl ⟨SqL.of upd_same, fun l3 nl3 => ?_⟩⟩
                  have s28 : Same H26 (upd (upd H26 D (.lst (lotV (lot.map (Option.map fun x => x + 1))))) l3 (.tup (lotV (lot.map (Option.map fun x => x + 1))))) := (same_upd hD).trans (same_upd nl3)
                  have S28 := S26.same s28
                  have R28 : RunOk C (upd (upd H26 D (.lst (lotV (lot.map (Option.map fun x => x + 1))))) l3 (.tup (lotV (lot.map (Option.map fun x => x + 1))))) b r l3 ws row (lot.map (Option.map fun x => x + 1)) :=
                    S28.ok.mapped (fun a h => by omega) upd_same
                  generalize upd (upd H26 D (.lst (lotV (lot.map (Option.map fun x => x + 1))))) l3 (.tup (lotV (lot.map (Option.map fun x => x + 1)))) = H28 at S28 R28 ⊢
                  cases m' with
                  | none => exact ⟨_, rfl, rfl, false, rfl, iteF (iteF ⟨_, _, _, _, _, _, _, _, _, rfl, S28.pool, S28.wins, S28.ok.bk⟩)⟩
                  | some z =>
                    refine ⟨_, rfl, rfl, true, rfl, iteT ⟨_, rfl, _, rfl, _, rfl, b, r, l3, ws, row, _, rfl, R28, fun H29 m3 s29 hm3 => ?_⟩⟩
                    have S29 := S28.same s29
                    obtain ⟨y, rfl, hlt'⟩ := late_more (fun w _ a e => by rw [lotAt_map, e]; rfl) (fun w _ e => by rw [lotAt_map, e]; rfl) hm hm3
                    refine ⟨_, rfl, y, z, rfl, rfl, _, rfl, ?_⟩
                    rw [decide_eq_false (by omega)]
                    exact iteF ⟨_, _, _, _, _, _, _, _, _, rfl, S29.pool, S29.wins, S29.ok.bk⟩
      · rintro σ H' ⟨v5, v6, v7, v8, v9, v10, v11, v12, v13, rfl, P8, w8, b8⟩
        -- nobody is there
        have K0 := Kp.refl H'
        refine ⟨_, rfl, _, rfl, _, rfl, .of_le (by decide) (by omega) (by decide) (by omega), fun r hr0 => ?_⟩
        rw [rg_row]
        have s1 : Same H' (upd H' r (.tup (rowV (List.range n)))) := same_upd hr0
        refine ⟨(by show 1 ≤ sizeLine; decide), fun t ht => ?_⟩
        have s2 := s1.trans (same_upd (o := .tup [V.non]) ht)
        refine ⟨_, rfl, t, _, V.non, rfl, rfl, upd_same, by omega, by omega, fun l H2 s3 hl => ?_⟩
        rw [Int.toNat_natCast, away_lot, ← hn] at hl
        have s4 := s2.trans s3
        have hrow2 : IsRow H2 r (List.range n) := s3 _ _ (same_upd ht _ _ upd_same)
        have R2 : RunOk C H2 b r l ws (List.range n) (List.replicate ws.length none) :=
          .away ((Kp.of_same s4).book b8) hrow2 List.nodup_range (fun w hw => by have z := List.mem_range.mp hw; omega) (by rw [List.length_range]; omega) (by omega) hl
        refine ⟨b, r, l, ws, _, _, rfl, R2, fun H3 m s5 hm => ?_⟩
        have em : m = none := (hm.nil_iff).mpr (hrs_away _ 0 fun w _ => lotAt_away _ w)
        subst em
        refine ⟨rfl, true, rfl, iteT ?_⟩
        have s6 := s4.trans s5
        refine ⟨_, rfl, Nat.zero_le _, fun r2 hr2 => ?_⟩
        have s7 := s6.trans (same_upd (o := .tup []) hr2)
        refine ⟨(by show 1 ≤ sizeLine; decide), fun t2 ht2 => ?_⟩
        have s8 := s7.trans (same_upd (o := .tup [V.non]) ht2)
        refine ⟨_, rfl, t2, _, V.non, rfl, rfl, upd_same, by omega, by omega, fun l2 H4 s9 hl2 => ?_⟩
        rw [Int.toNat_natCast, away_lot, ← hn] at hl2
        have hrow4 : IsRow H4 r2 [] := s9 _ _ (same_upd ht2 _ _ upd_same)
        have R4 : RunOk C H4 b r2 l2 ws [] (List.replicate ws.length none) :=
          .away ((Kp.of_same (s8.trans s9)).book b8) hrow4 List.nodup_nil (fun w hw => by cases hw) (Nat.zero_le _) (by omega) hl2
        exact ⟨b, r2, l2, ws, _, _, rfl, R4, fun H5 s10 => ⟨true, true, rfl, rfl, qq _⟩⟩
end
end K9

/-! We: what the top has written, and the end. Printed by gen_end.py. -/
namespace K9
open PySem PySem.Spec PyProof.Rows L2
/-- a def as the top has left it -/
structure At (K : PySem.W.Frag) (mg : Str → Option Value) (x : Str) (st : Stmt) (ps : List Str) : Prop where
  ex : ∃ (f : Addr) (fd : FuncData), Fun K x x st f fd ∧ Binds K fd ps [] ∧ mg x = some (.ref f)
theorem At.to {P : Program} {w : World} {K : PySem.W.Frag} {mg : Str → Option Value} {base : Heap} {x : Str} {st : Stmt} {ps : List Str} {k : Nat} {sp : Sp} (h : At K mg x st ps)
    (ok : ∀ (f : Addr) (fd : FuncData), Fun K x x st f fd → FnOk P w K mg base CX0 k f fd ps sp) : Def P w K mg base x k ps sp := by
  obtain ⟨f, fd, F, b, g⟩ := h.ex
  exact ⟨f, fd, ok f fd F, F.kp, b, g⟩
theorem at_mk {K : PySem.W.Frag} {h : Heap} {mg : Str → Option Value} {x : Str} {st : Stmt} {ps : List Str} {f : Addr} {od an : Option Addr} {osl : Array (Option Value)} {oc kV doc pm cdv ct : Value} (X : K.In h) (G : h.Ns mainGlobals mg)
    (a : PySem.W.nsIn K mainGlobals x = some (some (.ref f))) (l : K.lookup f = some ⟨oc, od, .func (PySem.W.fnOf x x (defArgs st) (defBody st) (defScope st) .none kV doc pm an cdv ct), osl⟩) (c : PySem.W.codeIn K cdv x = true) (k : PySem.W.keepIn K (.ref f) = true)
    (hb : ∀ (kV doc pm : Value) (an : Option Addr) (cdv ct : Value) (us : List Value), us.length = ps.length → bindArgs (PySem.W.fnOf x x (defArgs st) (defBody st) (defScope st) .none kV doc pm an cdv ct) ⟨us, []⟩ = pure (ps.zip us)) : At K mg x st ps := by
  have F := fun_mk (st := st) l c k
  exact ⟨_, _, F, F.binds hb, PySem.W.mg_of X G a⟩
/-- the text's defs, as the top has left them -/
structure Top (K : PySem.W.Frag) (mg : Str → Option Value) (C : Addr) : Prop where
  txt : Txt K mg C
  book : ∃ (fI : Addr) (fdI : FuncData), Mk K C fI ∧ Fun K "__init__" "Book.__init__" sInit fI fdI ∧ Binds K fdI ["self", "windows"] []
  d_i : At K mg "is_integer" sInt ["thing"]
  d_wi : At K mg "is_within" sWithin ["thing", "least", "most"]
  d_fr : At K mg "is_from" sFrom ["thing", "least"]
  d_pa : At K mg "is_pair" sPair ["thing"]
  d_wn : At K mg "is_window" sWindow ["thing"]
  d_mn : At K mg "many_of" sMany ["book"]
  d_fs : At K mg "first_of" sFirst ["book", "work"]
  d_ls : At K mg "last_of" sLast ["book", "work"]
  d_iw : At K mg "is_work" sIsWork ["book", "thing"]
  d_ir : At K mg "is_row" sIsRow ["book", "thing"]
  d_il : At K mg "is_lot" sIsLot ["book", "thing"]
  d_cr : At K mg "check_row" sCheckRow ["book", "thing"]
  d_cl : At K mg "check_lot" sCheckLot ["book", "thing"]
  d_cn : At K mg "check_run" sCheckRun ["book", "row", "lot"]
  d_rn : At K mg "ran" sRan ["book", "row", "lot"]
  d_lo : At K mg "late_of" sLateOf ["book", "row", "lot"]
  d_sl : At K mg "serves_lot" sServesLot ["book", "row", "lot"]
  d_se : At K mg "serves" sServes ["book", "row", "lot"]
  d_la : At K mg "lateness" sLateness ["book", "row", "lot"]
  d_po : At K mg "_law_pool" sPool ["_law_script"]
  d_dr : At K mg "_law_draw" sDraw ["_law_pool_here", "_law_many"]
  d_ws : At K mg "_law_windows" sWins ["_law_pool_here", "_law_many", "_law_top"]
  d_ro : At K mg "_law_row" sMix ["_law_pool_here", "_law_works"]
  d_lt : At K mg "_law_lot" sLots ["_law_pool_here", "_law_windows_here", "_law_works"]
  d_so : At K mg "_law_some" sSome ["_law_pool_here", "_law_many"]
  d_ru : At K mg "_law_run" sRunL ["_law_windows_here", "_law_row_here", "_law_lot_here"]
  d_ll : At K mg "_law_lateness" sLateL ["_law_windows_here", "_law_row_here", "_law_lot_here"]
  d_fl : At K mg "_law_flag" sFlag ["_law_told", "_law_due"]
theorem law_ok {P : Program} {w : World} {K : PySem.W.Frag} {mg : Str → Option Value} {base : Heap} {C f : Addr} {fd : FuncData} (t : Top K mg C) (F : Fun K "law" "law" sLaw f fd) : FnOk P w K mg base CX0 8 f fd ["_law_script"] (spLaw K) := by
  have T := t.txt
  obtain ⟨fI, fdI, M, FI, bI⟩ := t.book
  have Di : Def P w K mg base "is_integer" 1 ["thing"] spInt := t.d_i.to fun f fd F => ok_int F T
  have Dwi : Def P w K mg base "is_within" 2 ["thing", "least", "most"] spWithin := t.d_wi.to fun f fd F => ok_within F Di
  have Dfr : Def P w K mg base "is_from" 2 ["thing", "least"] spFrom := t.d_fr.to fun f fd F => ok_from F Di
  have Dpa : Def P w K mg base "is_pair" 1 ["thing"] spPair := t.d_pa.to fun f fd F => ok_pair F T
  have Dwn : Def P w K mg base "is_window" 3 ["thing"] spWindow := t.d_wn.to fun f fd F => ok_window F T Dpa Dwi
  have Dmn : Def P w K mg base "many_of" 1 ["book"] (spMany C) := t.d_mn.to fun f fd F => ok_many F T
  have Dfs : Def P w K mg base "first_of" 1 ["book", "work"] (spFirst C) := t.d_fs.to fun f fd F => ok_first F T
  have Dls : Def P w K mg base "last_of" 1 ["book", "work"] (spLast C) := t.d_ls.to fun f fd F => ok_last F T
  have Diw : Def P w K mg base "is_work" 3 ["book", "thing"] (spIsWork C) := t.d_iw.to fun f fd F => ok_isWork F Dwi Dmn
  have Dir : Def P w K mg base "is_row" 4 ["book", "thing"] (spRowIs C (.bl true)) := t.d_ir.to fun f fd F => ok_isRow F T Diw
  have Dil : Def P w K mg base "is_lot" 3 ["book", "thing"] (spLotIs C (.bl true)) := t.d_il.to fun f fd F => ok_isLot F T Dmn Dfr
  have Dcr : Def P w K mg base "check_row" 5 ["book", "thing"] (spRowIs C .non) := t.d_cr.to fun f fd F => ok_checkRow F Dir
  have Dcl : Def P w K mg base "check_lot" 4 ["book", "thing"] (spLotIs C .non) := t.d_cl.to fun f fd F => ok_checkLot F Dil
  have Dcn : Def P w K mg base "check_run" 6 ["book", "row", "lot"] (spRun C rCheck) := t.d_cn.to fun f fd F => ok_checkRun F T Dcr Dcl
  have Drn : Def P w K mg base "ran" 2 ["book", "row", "lot"] (spRun C rRan) := t.d_rn.to fun f fd F => ok_ran F T Dfs
  have Dlo : Def P w K mg base "late_of" 3 ["book", "row", "lot"] (spRun C rLate) := t.d_lo.to fun f fd F => ok_lateOf F T Drn Dls
  have Dsl : Def P w K mg base "serves_lot" 3 ["book", "row", "lot"] (spRun C rServes) := t.d_sl.to fun f fd F => ok_servesLot F T Drn Dls
  have Dse : Def P w K mg base "serves" 7 ["book", "row", "lot"] (spRun C rServes) := t.d_se.to fun f fd F => ok_serves F Dcn Dsl
  have Dla : Def P w K mg base "lateness" 7 ["book", "row", "lot"] (spRun C rLate) := t.d_la.to fun f fd F => ok_lateness F Dcn Dlo
  have Dpo : Def P w K mg base "_law_pool" 1 ["_law_script"] (spPool K) := t.d_po.to fun f fd F => ok_pool F T
  have Ddr : Def P w K mg base "_law_draw" 1 ["_law_pool_here", "_law_many"] spDraw := t.d_dr.to fun f fd F => ok_draw F T
  have Dws : Def P w K mg base "_law_windows" 2 ["_law_pool_here", "_law_many", "_law_top"] spWins := t.d_ws.to fun f fd F => ok_wins F T Ddr
  have Dro : Def P w K mg base "_law_row" 2 ["_law_pool_here", "_law_works"] spMix := t.d_ro.to fun f fd F => ok_mix F T Ddr
  have Dlt : Def P w K mg base "_law_lot" 2 ["_law_pool_here", "_law_windows_here", "_law_works"] spLots := t.d_lt.to fun f fd F => ok_lots F T Ddr
  have Dso : Def P w K mg base "_law_some" 2 ["_law_pool_here", "_law_many"] spSome := t.d_so.to fun f fd F => ok_some F T Ddr
  have Dru : Def P w K mg base "_law_run" 1 ["_law_windows_here", "_law_row_here", "_law_lot_here"] (spRunL rRan) := t.d_ru.to fun f fd F => ok_runL F T
  have Dll : Def P w K mg base "_law_lateness" 2 ["_law_windows_here", "_law_row_here", "_law_lot_here"] (spRunL rLate) := t.d_ll.to fun f fd F => ok_lateL F T Dru
  have Dfl : Def P w K mg base "_law_flag" 1 ["_law_told", "_law_due"] spFlag := t.d_fl.to fun f fd F => ok_flag F T
  exact ok_law F T M (ok_init FI T Dwn) bI Dpo Ddr Dws Dro Dso Dlt Dll Dfl Dla Dse
theorem txt_mk {K : PySem.W.Frag} {h : Heap} {mg : Str → Option Value} {C : Addr} {t1 t2 : Tok} (X : K.In h) (G : h.Ns mainGlobals mg)
    (aC : PySem.W.nsIn K mainGlobals "Book" = some (some (.ref C))) (aW : PySem.W.nsIn K mainGlobals "MOST_WORKS" = some (some (.int 40 t1))) (aH : PySem.W.nsIn K mainGlobals "MOST_HOUR" = some (some (.int 1000000 t2)))
    (pg : PySem.W.plainGet K C Str.empty = true) (hd : PySem.W.hasDictIn K C = true) (po : PySem.W.plainOver K C = true) (sa : PySem.W.findIn K (.ref C) "__setattr__" = some (some (.builtin "object.__setattr__")))
    (nW : PySem.W.findIn K (.ref C) "windows" = some none) (nK : PySem.W.findIn K (.ref C) "kept_windows" = some none)
    (z_len : PySem.W.nsIn K mainGlobals "len" = some none)
    (z_isinstance : PySem.W.nsIn K mainGlobals "isinstance" = some none)
    (z_int : PySem.W.nsIn K mainGlobals "int" = some none)
    (z_bool : PySem.W.nsIn K mainGlobals "bool" = some none)
    (z_tuple : PySem.W.nsIn K mainGlobals "tuple" = some none)
    (z_list : PySem.W.nsIn K mainGlobals "list" = some none)
    (z_set : PySem.W.nsIn K mainGlobals "set" = some none)
    (z_all : PySem.W.nsIn K mainGlobals "all" = some none)
    (z_any : PySem.W.nsIn K mainGlobals "any" = some none)
    (z_enumerate : PySem.W.nsIn K mainGlobals "enumerate" = some none)
    (z_max : PySem.W.nsIn K mainGlobals "max" = some none)
    (z_min : PySem.W.nsIn K mainGlobals "min" = some none)
    (z_range : PySem.W.nsIn K mainGlobals "range" = some none)
    (z_sum : PySem.W.nsIn K mainGlobals "sum" = some none)
    (z_abs : PySem.W.nsIn K mainGlobals "abs" = some none)
    : Txt K mg C :=
  ⟨⟨pg, hd, po, sa⟩, nW, nK, PySem.W.mg_of X G aC, ⟨t1, PySem.W.mg_of X G aW⟩, ⟨t2, PySem.W.mg_of X G aH⟩, PySem.W.mg_none_of X G z_len, PySem.W.mg_none_of X G z_isinstance, PySem.W.mg_none_of X G z_int, PySem.W.mg_none_of X G z_bool, PySem.W.mg_none_of X G z_tuple, PySem.W.mg_none_of X G z_list, PySem.W.mg_none_of X G z_set, PySem.W.mg_none_of X G z_all, PySem.W.mg_none_of X G z_any, PySem.W.mg_none_of X G z_enumerate, PySem.W.mg_none_of X G z_max, PySem.W.mg_none_of X G z_min, PySem.W.mg_none_of X G z_range, PySem.W.mg_none_of X G z_sum, PySem.W.mg_none_of X G z_abs⟩
theorem top_mk {K : PySem.W.Frag} {h : Heap} {mg : Str → Option Value} {C fI : Addr} {od an : Option Addr} {osl : Array (Option Value)} {oc kV doc pm cdv ct : Value} (X : K.In h) (G : h.Ns mainGlobals mg) (T : Txt K mg C)
    (aI : PySem.W.findIn K (.ref C) "__init__" = some (some (.ref fI))) (iI : PySem.W.isFn K (.ref fI) = true) (lI : K.lookup fI = some ⟨oc, od, .func (PySem.W.fnOf "__init__" "Book.__init__" (defArgs sInit) (defBody sInit) (defScope sInit) .none kV doc pm an cdv ct), osl⟩) (cI : PySem.W.codeIn K cdv "Book.__init__" = true) (kI : PySem.W.keepIn K (.ref fI) = true)
    (mk : PySem.W.makesIn K C = true) (kc : PySem.W.keepIn K (.ref C) = true)
    (d_i : At K mg "is_integer" sInt ["thing"])
    (d_wi : At K mg "is_within" sWithin ["thing", "least", "most"])
    (d_fr : At K mg "is_from" sFrom ["thing", "least"])
    (d_pa : At K mg "is_pair" sPair ["thing"])
    (d_wn : At K mg "is_window" sWindow ["thing"])
    (d_mn : At K mg "many_of" sMany ["book"])
    (d_fs : At K mg "first_of" sFirst ["book", "work"])
    (d_ls : At K mg "last_of" sLast ["book", "work"])
    (d_iw : At K mg "is_work" sIsWork ["book", "thing"])
    (d_ir : At K mg "is_row" sIsRow ["book", "thing"])
    (d_il : At K mg "is_lot" sIsLot ["book", "thing"])
    (d_cr : At K mg "check_row" sCheckRow ["book", "thing"])
    (d_cl : At K mg "check_lot" sCheckLot ["book", "thing"])
    (d_cn : At K mg "check_run" sCheckRun ["book", "row", "lot"])
    (d_rn : At K mg "ran" sRan ["book", "row", "lot"])
    (d_lo : At K mg "late_of" sLateOf ["book", "row", "lot"])
    (d_sl : At K mg "serves_lot" sServesLot ["book", "row", "lot"])
    (d_se : At K mg "serves" sServes ["book", "row", "lot"])
    (d_la : At K mg "lateness" sLateness ["book", "row", "lot"])
    (d_po : At K mg "_law_pool" sPool ["_law_script"])
    (d_dr : At K mg "_law_draw" sDraw ["_law_pool_here", "_law_many"])
    (d_ws : At K mg "_law_windows" sWins ["_law_pool_here", "_law_many", "_law_top"])
    (d_ro : At K mg "_law_row" sMix ["_law_pool_here", "_law_works"])
    (d_lt : At K mg "_law_lot" sLots ["_law_pool_here", "_law_windows_here", "_law_works"])
    (d_so : At K mg "_law_some" sSome ["_law_pool_here", "_law_many"])
    (d_ru : At K mg "_law_run" sRunL ["_law_windows_here", "_law_row_here", "_law_lot_here"])
    (d_ll : At K mg "_law_lateness" sLateL ["_law_windows_here", "_law_row_here", "_law_lot_here"])
    (d_fl : At K mg "_law_flag" sFlag ["_law_told", "_law_due"])
    : Top K mg C := by
  have FI := fun_mk (st := sInit) lI cI kI
  exact ⟨T, ⟨_, _, ⟨mk, aI, iI, kc⟩, FI, FI.binds (ps := ["self", "windows"]) fun _ _ _ _ _ _ us hl => match us, hl with | [_, _], _ => rfl⟩, d_i, d_wi, d_fr, d_pa, d_wn, d_mn, d_fs, d_ls, d_iw, d_ir, d_il, d_cr, d_cl, d_cn, d_rn, d_lo, d_sl, d_se, d_la, d_po, d_dr, d_ws, d_ro, d_lt, d_so, d_ru, d_ll, d_fl⟩
theorem all_mk {l : PySem.W.OpenLaw} {w : World} {K : PySem.W.Frag} {h : Heap} {mg : Str → Option Value} {fa f C : Addr} {od an : Option Addr} {osl : Array (Option Value)} {oc kV doc pm cdv ct : Value} (X : K.In h) (G : h.Ns mainGlobals mg) (hfa : mg "law" = some (.ref fa)) (T : Top K mg C)
    (a : PySem.W.nsIn K mainGlobals "law" = some (some (.ref f))) (lk : K.lookup f = some ⟨oc, od, .func (PySem.W.fnOf "law" "law" (defArgs sLaw) (defBody sLaw) (defScope sLaw) .none kV doc pm an cdv ct), osl⟩) (c : PySem.W.codeIn K cdv "law" = true) (k : PySem.W.keepIn K (.ref f) = true) :
    ∃ fd : FuncData, (∀ (s : Shared) (v : Value), BindsTo s fd ⟨[v], []⟩ [("_law_script", v)]) ∧ ∀ base : Heap, K.In base → base.Ns mainGlobals mg → FnOk l.prog w K mg base CX0 8 fa fd ["_law_script"] (spLaw K) := by
  have e := hfa.symm.trans (PySem.W.mg_of X G a)
  cases e
  have F := fun_mk (st := sLaw) lk c k
  exact ⟨PySem.W.fnOf "law" "law" (defArgs sLaw) (defBody sLaw) (defScope sLaw) .none kV doc pm an cdv ct, fun s v => .of_eq rfl, fun base _ _ => law_ok T F⟩
end K9
open PySem PySem.W PyProof.Rows
set_option maxRecDepth 100000 in
set_option maxHeartbeats 0 in
theorem PySem.Challenge.cw_bymiddles_k09_whole_served_or_late_holds : PySem.Challenge.rw_bymiddles_k09_whole_served_or_late.Holds := by
  w_on; o_law; k_head; (case hw => w_witness2)
  k_fill
  refine L2.walk_of (l := PySem.Challenge.rw_bymiddles_k09_whole_served_or_late) (n := 63) (k := 8) (x := "_law_script") (CX := fun _ => L2.CX0) (sp := fun w => K9.spLaw _) rfl (by decide) rfl ⟨rfl, by decide, by decide⟩ (fun w h Y => PySem.W.kIn_of Y) ?F (fun _ _ a ns hl _ hS => ⟨a, ns, rfl, hS, hl, fun _ => rfl⟩) (fun _ _ _ _ _ h => h)
  case F =>
    intro w mg fa h KX G hmg
    refine' K9.all_mk KX G hmg (K9.top_mk KX G (K9.txt_mk KX G ?aC ?aW ?aH ?pg ?hd ?po ?sa ?nW ?nK ?z_len ?z_isinstance ?z_int ?z_bool ?z_tuple ?z_list ?z_set ?z_all ?z_any ?z_enumerate ?z_max ?z_min ?z_range ?z_sum ?z_abs) ?aI ?iI ?lI ?cI ?kI ?mk ?kc (K9.at_mk KX G ?a_i ?l_i ?c_i ?k_i ?b_i) (K9.at_mk KX G ?a_wi ?l_wi ?c_wi ?k_wi ?b_wi) (K9.at_mk KX G ?a_fr ?l_fr ?c_fr ?k_fr ?b_fr) (K9.at_mk KX G ?a_pa ?l_pa ?c_pa ?k_pa ?b_pa) (K9.at_mk KX G ?a_wn ?l_wn ?c_wn ?k_wn ?b_wn) (K9.at_mk KX G ?a_mn ?l_mn ?c_mn ?k_mn ?b_mn) (K9.at_mk KX G ?a_fs ?l_fs ?c_fs ?k_fs ?b_fs) (K9.at_mk KX G ?a_ls ?l_ls ?c_ls ?k_ls ?b_ls) (K9.at_mk KX G ?a_iw ?l_iw ?c_iw ?k_iw ?b_iw) (K9.at_mk KX G ?a_ir ?l_ir ?c_ir ?k_ir ?b_ir) (K9.at_mk KX G ?a_il ?l_il ?c_il ?k_il ?b_il) (K9.at_mk KX G ?a_cr ?l_cr ?c_cr ?k_cr ?b_cr) (K9.at_mk KX G ?a_cl ?l_cl ?c_cl ?k_cl ?b_cl) (K9.at_mk KX G ?a_cn ?l_cn ?c_cn ?k_cn ?b_cn) (K9.at_mk KX G ?a_rn ?l_rn ?c_rn ?k_rn ?b_rn) (K9.at_mk KX G ?a_lo ?l_lo ?c_lo ?k_lo ?b_lo) (K9.at_mk KX G ?a_sl ?l_sl ?c_sl ?k_sl ?b_sl) (K9.at_mk KX G ?a_se ?l_se ?c_se ?k_se ?b_se) (K9.at_mk KX G ?a_la ?l_la ?c_la ?k_la ?b_la) (K9.at_mk KX G ?a_po ?l_po ?c_po ?k_po ?b_po) (K9.at_mk KX G ?a_dr ?l_dr ?c_dr ?k_dr ?b_dr) (K9.at_mk KX G ?a_ws ?l_ws ?c_ws ?k_ws ?b_ws) (K9.at_mk KX G ?a_ro ?l_ro ?c_ro ?k_ro ?b_ro) (K9.at_mk KX G ?a_lt ?l_lt ?c_lt ?k_lt ?b_lt) (K9.at_mk KX G ?a_so ?l_so ?c_so ?k_so ?b_so) (K9.at_mk KX G ?a_ru ?l_ru ?c_ru ?k_ru ?b_ru) (K9.at_mk KX G ?a_ll ?l_ll ?c_ll ?k_ll ?b_ll) (K9.at_mk KX G ?a_fl ?l_fl ?c_fl ?k_fl ?b_fl)) ?a ?l ?c ?k
    (case aC => k_is)
    (case aW => k_is)
    (case aH => k_is)
    (case pg => k_is)
    (case hd => k_is)
    (case po => k_is)
    (case sa => k_is)
    (case nW => k_is)
    (case nK => k_is)
    (case z_len => k_is)
    (case z_isinstance => k_is)
    (case z_int => k_is)
    (case z_bool => k_is)
    (case z_tuple => k_is)
    (case z_list => k_is)
    (case z_set => k_is)
    (case z_all => k_is)
    (case z_any => k_is)
    (case z_enumerate => k_is)
    (case z_max => k_is)
    (case z_min => k_is)
    (case z_range => k_is)
    (case z_sum => k_is)
    (case z_abs => k_is)
    (case aI => k_is)
    (case iI => k_is)
    (case lI => k_is)
    (case cI => k_is)
    (case kI => k_is)
    (case mk => k_is)
    (case kc => k_is)
    (case a_i => k_is)
    (case l_i => k_is)
    (case c_i => k_is)
    (case k_i => k_is)
    (case b_i => exact fun _ _ _ _ _ _ us hl => match us, hl with | [_], _ => rfl)
    (case a_wi => k_is)
    (case l_wi => k_is)
    (case c_wi => k_is)
    (case k_wi => k_is)
    (case b_wi => exact fun _ _ _ _ _ _ us hl => match us, hl with | [_, _, _], _ => rfl)
    (case a_fr => k_is)
    (case l_fr => k_is)
    (case c_fr => k_is)
    (case k_fr => k_is)
    (case b_fr => exact fun _ _ _ _ _ _ us hl => match us, hl with | [_, _], _ => rfl)
    (case a_pa => k_is)
    (case l_pa => k_is)
    (case c_pa => k_is)
    (case k_pa => k_is)
    (case b_pa => exact fun _ _ _ _ _ _ us hl => match us, hl with | [_], _ => rfl)
    (case a_wn => k_is)
    (case l_wn => k_is)
    (case c_wn => k_is)
    (case k_wn => k_is)
    (case b_wn => exact fun _ _ _ _ _ _ us hl => match us, hl with | [_], _ => rfl)
    (case a_mn => k_is)
    (case l_mn => k_is)
    (case c_mn => k_is)
    (case k_mn => k_is)
    (case b_mn => exact fun _ _ _ _ _ _ us hl => match us, hl with | [_], _ => rfl)
    (case a_fs => k_is)
    (case l_fs => k_is)
    (case c_fs => k_is)
    (case k_fs => k_is)
    (case b_fs => exact fun _ _ _ _ _ _ us hl => match us, hl with | [_, _], _ => rfl)
    (case a_ls => k_is)
    (case l_ls => k_is)
    (case c_ls => k_is)
    (case k_ls => k_is)
    (case b_ls => exact fun _ _ _ _ _ _ us hl => match us, hl with | [_, _], _ => rfl)
    (case a_iw => k_is)
    (case l_iw => k_is)
    (case c_iw => k_is)
    (case k_iw => k_is)
    (case b_iw => exact fun _ _ _ _ _ _ us hl => match us, hl with | [_, _], _ => rfl)
    (case a_ir => k_is)
    (case l_ir => k_is)
    (case c_ir => k_is)
    (case k_ir => k_is)
    (case b_ir => exact fun _ _ _ _ _ _ us hl => match us, hl with | [_, _], _ => rfl)
    (case a_il => k_is)
    (case l_il => k_is)
    (case c_il => k_is)
    (case k_il => k_is)
    (case b_il => exact fun _ _ _ _ _ _ us hl => match us, hl with | [_, _], _ => rfl)
    (case a_cr => k_is)
    (case l_cr => k_is)
    (case c_cr => k_is)
    (case k_cr => k_is)
    (case b_cr => exact fun _ _ _ _ _ _ us hl => match us, hl with | [_, _], _ => rfl)
    (case a_cl => k_is)
    (case l_cl => k_is)
    (case c_cl => k_is)
    (case k_cl => k_is)
    (case b_cl => exact fun _ _ _ _ _ _ us hl => match us, hl with | [_, _], _ => rfl)
    (case a_cn => k_is)
    (case l_cn => k_is)
    (case c_cn => k_is)
    (case k_cn => k_is)
    (case b_cn => exact fun _ _ _ _ _ _ us hl => match us, hl with | [_, _, _], _ => rfl)
    (case a_rn => k_is)
    (case l_rn => k_is)
    (case c_rn => k_is)
    (case k_rn => k_is)
    (case b_rn => exact fun _ _ _ _ _ _ us hl => match us, hl with | [_, _, _], _ => rfl)
    (case a_lo => k_is)
    (case l_lo => k_is)
    (case c_lo => k_is)
    (case k_lo => k_is)
    (case b_lo => exact fun _ _ _ _ _ _ us hl => match us, hl with | [_, _, _], _ => rfl)
    (case a_sl => k_is)
    (case l_sl => k_is)
    (case c_sl => k_is)
    (case k_sl => k_is)
    (case b_sl => exact fun _ _ _ _ _ _ us hl => match us, hl with | [_, _, _], _ => rfl)
    (case a_se => k_is)
    (case l_se => k_is)
    (case c_se => k_is)
    (case k_se => k_is)
    (case b_se => exact fun _ _ _ _ _ _ us hl => match us, hl with | [_, _, _], _ => rfl)
    (case a_la => k_is)
    (case l_la => k_is)
    (case c_la => k_is)
    (case k_la => k_is)
    (case b_la => exact fun _ _ _ _ _ _ us hl => match us, hl with | [_, _, _], _ => rfl)
    (case a_po => k_is)
    (case l_po => k_is)
    (case c_po => k_is)
    (case k_po => k_is)
    (case b_po => exact fun _ _ _ _ _ _ us hl => match us, hl with | [_], _ => rfl)
    (case a_dr => k_is)
    (case l_dr => k_is)
    (case c_dr => k_is)
    (case k_dr => k_is)
    (case b_dr => exact fun _ _ _ _ _ _ us hl => match us, hl with | [_, _], _ => rfl)
    (case a_ws => k_is)
    (case l_ws => k_is)
    (case c_ws => k_is)
    (case k_ws => k_is)
    (case b_ws => exact fun _ _ _ _ _ _ us hl => match us, hl with | [_, _, _], _ => rfl)
    (case a_ro => k_is)
    (case l_ro => k_is)
    (case c_ro => k_is)
    (case k_ro => k_is)
    (case b_ro => exact fun _ _ _ _ _ _ us hl => match us, hl with | [_, _], _ => rfl)
    (case a_lt => k_is)
    (case l_lt => k_is)
    (case c_lt => k_is)
    (case k_lt => k_is)
    (case b_lt => exact fun _ _ _ _ _ _ us hl => match us, hl with | [_, _, _], _ => rfl)
    (case a_so => k_is)
    (case l_so => k_is)
    (case c_so => k_is)
    (case k_so => k_is)
    (case b_so => exact fun _ _ _ _ _ _ us hl => match us, hl with | [_, _], _ => rfl)
    (case a_ru => k_is)
    (case l_ru => k_is)
    (case c_ru => k_is)
    (case k_ru => k_is)
    (case b_ru => exact fun _ _ _ _ _ _ us hl => match us, hl with | [_, _, _], _ => rfl)
    (case a_ll => k_is)
    (case l_ll => k_is)
    (case c_ll => k_is)
    (case k_ll => k_is)
    (case b_ll => exact fun _ _ _ _ _ _ us hl => match us, hl with | [_, _, _], _ => rfl)
    (case a_fl => k_is)
    (case l_fl => k_is)
    (case c_fl => k_is)
    (case k_fl => k_is)
    (case b_fl => exact fun _ _ _ _ _ _ us hl => match us, hl with | [_, _], _ => rfl)
    (case a => k_is)
    (case l => k_is)
    (case c => k_is)
    (case k => k_is)
