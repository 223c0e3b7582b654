import PyProof.Rows.All
import Wide.All
import OpenK.AllK
import Wide.FinOn
import HandS.ForMost
import HandS.IsInst
import HandS.Defaults
import HandS.Codes
import PySem.Challenge.RW_rowmill_k53_guesses_learn
set_option Elab.async false
set_option maxRecDepth 100000
/-! Guesses: the slots as a plain list; what the program and the law reckon of it. -/
namespace K53
open PySem L2
/-! ### 1. The text by places -/
def top (i : Nat) : Stmt := PySem.Challenge.pw_rowmill_k53_guesses_learn.main.body.getD i (.Pass ⟨0, 0, 0, 0⟩)
abbrev sInit : Stmt := inClass (top 7) 0
abbrev sGuess : Stmt := inClass (top 7) 1
abbrev sLearn : Stmt := inClass (top 7) 2
abbrev sSlots : Stmt := inClass (top 7) 3
abbrev sLearnt : Stmt := top 8
abbrev sCell : Stmt := top 10
abbrev sLGuess : Stmt := top 11
abbrev sLLearnt : Stmt := top 12
abbrev sPlace : Stmt := top 13
abbrev sGoal : Stmt := top 14
abbrev sKept : Stmt := top 15
abbrev sLaw : Stmt := top 16
/-! ### 2. The mathematics: a slot, what is guessed, what is learnt -/
abbrev Slot := Option (Int × Int × Int)
/-- the place of a row's slot -/
def ix (n : Nat) (p : Int) : Nat := (p % (n : Int)).toNat
theorem ix_lt {n : Nat} (h : 0 < n) (p : Int) : ix n p < n := by
  have h1 : p % (n : Int) < (n : Int) := Int.emod_lt_of_pos p (by omega)
  have h2 : 0 ≤ p % (n : Int) := Int.emod_nonneg p (by omega)
  unfold ix
  omega
theorem ix_int {n : Nat} (h : 0 < n) (p : Int) : p % (n : Int) = ((ix n p : Nat) : Int) := by
  have h2 : 0 ≤ p % (n : Int) := Int.emod_nonneg p (by omega)
  unfold ix
  omega
theorem ixN_ix {n : Nat} (h : 0 < n) (p : Int) : ixN n (p % (n : Int)) = some (ix n p) := by
  have h1 := ix_lt h p
  have h2 := ix_int h p
  unfold ixN
  rw [h2, if_pos (by omega), if_pos (by omega)]
  all_goals rfl
/-- what one slot guesses -/
def guess1 (o : Slot) (p : Int) : Int := match o with
  | none => p + 1
  | some (q, g, s) => if q = p then (if 2 ≤ s then g else p + 1) else p + 1
/-- how sure behind a hit, behind a miss -/
def up1 (s : Int) : Int := if 3 < s + 1 then 3 else s + 1
def down1 (s : Int) : Int := if 0 > s - 1 then 0 else s - 1
/-- what a held slot becomes -/
def turn1 (q k s g : Int) : Int × Int × Int := if g = k then (q, k, up1 s) else if g = q + 1 then (q, k, down1 s) else (q, g, 2)
/-- what one slot becomes -/
def learn1 (o : Slot) (p g : Int) : Slot := match o with
  | none => if g = p + 1 then none else some (p, g, 2)
  | some (q, k, s) => if q = p then some (turn1 q k s g) else if g = p + 1 then some (q, k, s) else some (p, g, 2)
def slotOf (S : List Slot) (p : Int) : Slot := S.getD (ix S.length p) none
def guessS (S : List Slot) (p : Int) : Int := guess1 (slotOf S p) p
def learnS (S : List Slot) (p g : Int) : List Slot := S.set (ix S.length p) (learn1 (slotOf S p) p g)
/-- how sure a slot may be -/
def Ok1 (o : Slot) : Prop := match o with
  | none => True
  | some (_, _, s) => 0 ≤ s ∧ s ≤ 3
def OkS (S : List Slot) : Prop := ∀ (i : Nat) (o : Slot), S[i]? = some o → Ok1 o
theorem learnS_len (S : List Slot) (p g : Int) : (learnS S p g).length = S.length := by
  unfold learnS
  rw [List.length_set]
theorem ok_learn1 {o : Slot} (h : Ok1 o) (p g : Int) : Ok1 (learn1 o p g) := by
  cases o with
  | none =>
    show Ok1 (if g = p + 1 then none else some (p, g, 2))
    split
    · trivial
    · show (0 : Int) ≤ 2 ∧ (2 : Int) ≤ 3
      omega
  | some t =>
    obtain ⟨q, k, s⟩ := t
    have hs : 0 ≤ s ∧ s ≤ 3 := h
    show Ok1 (if q = p then some (turn1 q k s g) else if g = p + 1 then some (q, k, s) else some (p, g, 2))
    split
    · unfold turn1
      split
      · show 0 ≤ up1 s ∧ up1 s ≤ 3
        unfold up1
        split <;> omega
      · split
        · show 0 ≤ down1 s ∧ down1 s ≤ 3
          unfold down1
          split <;> omega
        · show (0 : Int) ≤ 2 ∧ (2 : Int) ≤ 3
          omega
    · split
      · exact h
      · show (0 : Int) ≤ 2 ∧ (2 : Int) ≤ 3
        omega
theorem slot_at {S : List Slot} (h : 0 < S.length) (p : Int) : S[ix S.length p]? = some (slotOf S p) := by
  have h1 := ix_lt h p
  unfold slotOf
  rw [List.getD_eq_getElem?_getD, List.getElem?_eq_getElem h1]
  all_goals rfl
theorem ok_learnS {S : List Slot} (h : OkS S) (hn : 0 < S.length) (p g : Int) : OkS (learnS S p g) := by
  intro i o e
  unfold learnS at e
  rw [List.getElem?_set] at e
  split at e
  · split at e
    · have q := Option.some.inj e
      rw [← q]
      exact ok_learn1 (h _ _ (slot_at hn p)) p g
    · cases e
  · exact h i o e
theorem set_same {α : Type} {l : List α} {i : Nat} {v : α} (h : l[i]? = some v) : l.set i v = l := by
  obtain ⟨h1, h2⟩ := List.getElem?_eq_some_iff.mp h
  rw [← h2]
  exact List.set_getElem_self h1
theorem learnS_same {S : List Slot} (hn : 0 < S.length) {p g : Int} (h : learn1 (slotOf S p) p g = slotOf S p) : learnS S p g = S := by
  unfold learnS
  rw [h]
  exact set_same (slot_at hn p)
/-- the law's tables -/
theorem up_tab {s : Int} (h : 0 ≤ s ∧ s ≤ 3) : ([V.int 1, V.int 2, V.int 3, V.int 3] : List V)[s.toNat]? = some (V.int (up1 s)) := by
  have e : s = 0 ∨ s = 1 ∨ s = 2 ∨ s = 3 := by omega
  rcases e with rfl | rfl | rfl | rfl <;> rfl
theorem down_tab {s : Int} (h : 0 ≤ s ∧ s ≤ 3) : ([V.int 0, V.int 0, V.int 1, V.int 2] : List V)[s.toNat]? = some (V.int (down1 s)) := by
  have e : s = 0 ∨ s = 1 ∨ s = 2 ∨ s = 3 := by omega
  rcases e with rfl | rfl | rfl | rfl <;> rfl
/-! ### 3. How the heap bears it -/
/-- a slot as a value: None, or a tuple of three ints -/
def RepV (H : Hp) (v : V) (o : Slot) : Prop := match o with
  | none => v = .non
  | some (p, g, s) => ∃ t, v = .ref t ∧ H t = some (.tup [.int p, .int g, .int s])
structure Rep (H : Hp) (xs : List V) (S : List Slot) : Prop where
  len : xs.length = S.length
  it : ∀ (i : Nat) (v : V), xs[i]? = some v → ∃ o : Slot, S[i]? = some o ∧ RepV H v o
/-- all tuples stay -/
def Tups (H H' : Hp) : Prop := ∀ t ys, H t = some (.tup ys) → H' t = some (.tup ys)
theorem Tups.of {H H' : Hp} (h : Same H H') : Tups H H' := fun t _ e => h t _ e
theorem Tups.but {H H' : Hp} {l : Addr} {xs : List V} (hl : H l = some (.lst xs)) (h : ∀ b o, H b = some o → b ≠ l → H' b = some o) : Tups H H' := fun t ys e =>
  h t _ e (ne_of e hl (by intro q; cases q))
theorem RepV.mono {H H' : Hp} {v : V} {o : Slot} (h : RepV H v o) (m : Tups H H') : RepV H' v o := by
  cases o with
  | none => exact h
  | some t =>
    obtain ⟨p, g, s⟩ := t
    obtain ⟨a, e, q⟩ := (show ∃ t, v = .ref t ∧ H t = some (.tup [.int p, .int g, .int s]) from h)
    exact (show ∃ t, v = .ref t ∧ H' t = some (.tup [.int p, .int g, .int s]) from ⟨a, e, m _ _ q⟩)
theorem Rep.mono {H H' : Hp} {xs : List V} {S : List Slot} (h : Rep H xs S) (m : Tups H H') : Rep H' xs S :=
  ⟨h.len, fun i v e => let ⟨o, a, b⟩ := h.it i v e; ⟨o, a, b.mono m⟩⟩
theorem Rep.set {H : Hp} {xs : List V} {S : List Slot} (h : Rep H xs S) {j : Nat} {v : V} {o : Slot} (r : RepV H v o) : Rep H (xs.set j v) (S.set j o) := by
  refine ⟨by rw [List.length_set, List.length_set]; exact h.len, fun i w e => ?_⟩
  rw [List.getElem?_set] at e
  split at e
  · rename_i hij
    split at e
    · rename_i hj
      have q := Option.some.inj e
      subst hij
      subst q
      rw [h.len] at hj
      exact ⟨o, List.getElem?_set_self hj, r⟩
    · cases e
  · rename_i hij
    obtain ⟨u, a, b⟩ := h.it i w e
    exact ⟨u, by rw [List.getElem?_set_ne hij]; exact a, b⟩
/-- the slot of a place, as a value -/
theorem Rep.at_ {H : Hp} {xs : List V} {S : List Slot} (h : Rep H xs S) (hn : 0 < S.length) (p : Int) :
    ∃ v, xs[ix S.length p]? = some v ∧ atI xs (p % ((xs.length : Nat) : Int)) = some v ∧ RepV H v (slotOf S p) := by
  have h1 := ix_lt hn p
  have h2 : ix S.length p < xs.length := by rw [h.len]; exact h1
  refine ⟨xs[ix S.length p], List.getElem?_eq_getElem h2, ?_, ?_⟩
  · exact at_of (j := ix S.length p) (by rw [h.len]; exact ix_int hn p) (List.getElem?_eq_getElem h2)
  · obtain ⟨o, a, b⟩ := h.it _ _ (List.getElem?_eq_getElem h2)
    rw [slot_at hn p] at a
    have e := Option.some.inj a
    rw [e]
    exact b
theorem Rep.fill (H : Hp) (n : Nat) : Rep H (List.replicate n V.non) (List.replicate n none) := by
  refine ⟨by rw [List.length_replicate, List.length_replicate], fun i v e => ?_⟩
  rw [List.getElem?_replicate] at e
  split at e
  · rename_i hi
    exact ⟨none, by rw [List.getElem?_replicate, if_pos hi], (Option.some.inj e).symm⟩
  · cases e
theorem ok_fill (n : Nat) : OkS (List.replicate n none) := by
  intro i o e
  rw [List.getElem?_replicate] at e
  split at e
  · have q := Option.some.inj e
    rw [← q]
    trivial
  · cases e
/-! data that == reads -/
def dat1 (o : Slot) : PyData := match o with
  | none => .none
  | some (p, g, s) => .tuple [.int p, .int g, .int s]
theorem RepV.dat {K : PySem.W.Frag} {H : Hp} {v : V} {o : Slot} (h : RepV H v o) : Dp K H v (dat1 o) := by
  cases o with
  | none =>
    have e : v = .non := h
    rw [e]
    exact .non
  | some t =>
    obtain ⟨p, g, s⟩ := t
    obtain ⟨a, e, q⟩ := (show ∃ t, v = .ref t ∧ H t = some (.tup [.int p, .int g, .int s]) from h)
    rw [e]
    exact .tup (SqT.of q) (.cons (.int p) (.cons (.int g) (.cons (.int s) .nil)))
theorem Rep.cons_inv {H : Hp} {v : V} {xs : List V} {S : List Slot} (h : Rep H (v :: xs) S) : ∃ o T, S = o :: T ∧ RepV H v o ∧ Rep H xs T := by
  cases S with
  | nil => exact absurd h.len (by simp)
  | cons o T =>
    refine ⟨o, T, rfl, ?_, ⟨by simpa using h.len, fun i w e => ?_⟩⟩
    · obtain ⟨u, a, b⟩ := h.it 0 v rfl
      have q : o = u := Option.some.inj a
      rw [q]
      exact b
    · obtain ⟨u, a, b⟩ := h.it (i + 1) w (by simpa using e)
      exact ⟨u, by simpa using a, b⟩
theorem Rep.dats {K : PySem.W.Frag} {H : Hp} : ∀ {xs : List V} {S : List Slot}, Rep H xs S → DpAll K H xs (S.map dat1)
  | [], S, h => by
    have e : S = [] := List.length_eq_zero_iff.mp h.len.symm
    rw [e]
    exact .nil
  | v :: xs, S, h => by
    obtain ⟨o, T, e, r, q⟩ := h.cons_inv
    rw [e]
    exact .cons r.dat (Rep.dats q)
end K53
namespace K53
open PySem L2
theorem can_slots : ∀ S : List Slot, PyData.canLayAll0 (S.map dat1) = true ∧ PyData.depthAll (S.map dat1) ≤ 1
  | [] => ⟨rfl, Nat.zero_le _⟩
  | o :: S => by
    obtain ⟨h1, h2⟩ := can_slots S
    have h3 : PyData.canLay0 (dat1 o) = true ∧ PyData.depth (dat1 o) ≤ 1 := by
      cases o with
      | none => exact ⟨rfl, Nat.zero_le _⟩
      | some t => exact ⟨rfl, Nat.le_refl _⟩
    refine ⟨?_, ?_⟩
    · show (PyData.canLay0 (dat1 o) && PyData.canLayAll0 (S.map dat1)) = true
      rw [h3.1, h1]
      rfl
    · show max (PyData.depth (dat1 o)) (PyData.depthAll (S.map dat1)) ≤ 1
      exact Nat.max_le.mpr ⟨h3.2, h2⟩
theorem can_ints : ∀ ns : List Int, PyData.canLayAll0 (ns.map PyData.int) = true ∧ PyData.depthAll (ns.map PyData.int) = 0
  | [] => ⟨rfl, rfl⟩
  | n :: ns => by
    obtain ⟨h1, h2⟩ := can_ints ns
    refine ⟨?_, ?_⟩
    · show (PyData.canLay0 (PyData.int n) && PyData.canLayAll0 (ns.map PyData.int)) = true
      rw [h1]
      rfl
    · show max (PyData.depth (PyData.int n)) (PyData.depthAll (ns.map PyData.int)) = 0
      rw [h2]
      rfl
theorem shaped_slots (S : List Slot) : SeqAt.shaped (.list (S.map dat1)) = true := by
  obtain ⟨h1, h2⟩ := can_slots S
  have h3 : PyData.depth (.list (S.map dat1)) ≤ 64 := by
    show PyData.depthAll (S.map dat1) + 1 ≤ 64
    omega
  show (PyData.canLayAll0 (S.map dat1) && decide (PyData.depth (.list (S.map dat1)) ≤ 64)) = true
  rw [h1, decide_eq_true h3]
  rfl
theorem shaped_ints (ns : List Int) : SeqAt.shaped (.list (ns.map PyData.int)) = true := by
  obtain ⟨h1, h2⟩ := can_ints ns
  have h3 : PyData.depth (.list (ns.map PyData.int)) ≤ 64 := by
    show PyData.depthAll (ns.map PyData.int) + 1 ≤ 64
    omega
  show (PyData.canLayAll0 (ns.map PyData.int) && decide (PyData.depth (.list (ns.map PyData.int)) ≤ 64)) = true
  rw [h1, decide_eq_true h3]
  rfl
theorem eqv_slots (S : List Slot) : PyData.eqv (.list (S.map dat1)) (.list (S.map dat1)) = true :=
  SeqAt.eqv_refl _ (SeqAt.canLay_of_shaped (shaped_slots S))
theorem ints_dats {K : PySem.W.Frag} {H : Hp} : ∀ ns : List Int, DpAll K H (ns.map V.int) (ns.map PyData.int)
  | [] => .nil
  | n :: ns => .cons (.int n) (ints_dats ns)
theorem eqv_nil : ∀ ns : List Int, PyData.eqv (.list (ns.map PyData.int)) (.list []) = decide (ns = [])
  | [] => rfl
  | n :: ns => rfl
end K53
/-! The class Guesses, method by method. -/
namespace K53
open PySem L2
/-! ### 4. The object -/
def kf (l : Addr) : List (Str × V) := putF "kept" (.ref l) []
theorem kf_kept (l : Addr) : (kf l).lookup ("kept" : Str) = some (.ref l) := by
  unfold kf
  rw [lookup_putF, if_pos rfl]
theorem kf_no (l : Addr) {m : Str} (h : ¬ m = "kept") : (kf l).lookup m = none := by
  unfold kf
  rw [lookup_putF, if_neg h]
  all_goals rfl
/-- a Guesses stands at x, its list at l holds xs, which tell the slots S -/
structure GAt (C : Addr) (H : Hp) (x l : Addr) (xs : List V) (S : List Slot) : Prop where
  ob : ∃ dx, H x = some (.ins C dx (kf l))
  ls : H l = some (.lst xs)
  rp : Rep H xs S
theorem GAt.ne {C : Addr} {H : Hp} {x l : Addr} {xs : List V} {S : List Slot} (g : GAt C H x l xs S) : x ≠ l := by
  obtain ⟨dx, h⟩ := g.ob
  exact ne_of h g.ls (by intro q; cases q)
theorem GAt.same {C : Addr} {H H' : Hp} {x l : Addr} {xs : List V} {S : List Slot} (g : GAt C H x l xs S) (s : Same H H') : GAt C H' x l xs S := by
  obtain ⟨dx, h⟩ := g.ob
  exact ⟨⟨dx, s _ _ h⟩, s _ _ g.ls, g.rp.mono (Tups.of s)⟩
theorem same_new {H : Hp} {p : Addr} {o : HO} (h : H p = none) : Same H (upd H p o) := fun b u e => by
  rw [upd_ne (ne_of_none e h)]
  exact e
/-! ### 5. The promises of the methods -/
def spInit (C : Addr) : Sp := fun vs H Q _ => ∃ (p dx : Addr) (n : Int), vs = [.ref p, .int n] ∧ H p = some (.ins C dx []) ∧ 1 ≤ n ∧ n ≤ 16 ∧
  ∀ (l : Addr) (H' : Hp), H l = none → GAt C H' p l (List.replicate n.toNat V.non) (List.replicate n.toNat none) → (∀ b o, H b = some o → b ≠ p → H' b = some o) → Q .non H'
def spGuess (C : Addr) : Sp := fun vs H Q _ => ∃ (x l : Addr) (p : Int) (xs : List V) (S : List Slot), vs = [.ref x, .int p] ∧ GAt C H x l xs S ∧ 0 < S.length ∧ Q (.int (guessS S p)) H
def spLearn (C : Addr) : Sp := fun vs H Q _ => ∃ (x l : Addr) (p g : Int) (xs : List V) (S : List Slot), vs = [.ref x, .int p, .int g] ∧ GAt C H x l xs S ∧ 0 < S.length ∧
  ∀ (xs' : List V) (H' : Hp), GAt C H' x l xs' (learnS S p g) → (∀ b o, H b = some o → b ≠ l → H' b = some o) → Q .non H'
def spSlots (C : Addr) : Sp := fun vs H Q _ => ∃ (x l : Addr) (xs : List V) (S : List Slot), vs = [.ref x] ∧ GAt C H x l xs S ∧ ∀ t, H t = none → Q (.ref t) (upd H t (.tup xs))
def tup3 (z : Int × Int × Int) : List V := [.int z.1, .int z.2.1, .int z.2.2]
def spLearnt : Sp := fun vs H Q _ => ∃ (t : Addr) (q k s g : Int), vs = [.ref t, .int g] ∧ H t = some (.tup [.int q, .int k, .int s]) ∧
  ∀ t', H t' = none → Q (.ref t') (upd H t' (.tup (tup3 (turn1 q k s g))))
/-- what the walk asks of the top -/
structure Txt (K : PySem.W.Frag) (mg : Str → Option Value) (C : Addr) : Prop where
  cl : Cls K C
  nK : NoAttr K C "kept"
  mgC : mg "Guesses" = some (.ref C)
  isi : mg "isinstance" = none
  int : mg "int" = none
  bool : mg "bool" = none
  len : mg "len" = none
  tuple : mg "tuple" = none
  list : mg "list" = none
  min : mg "min" = none
  max : mg "max" = none
  range : mg "range" = none
  most : ∃ t, mg "MOST_SIZE" = some (.int 16 t)
  sure : ∃ t, mg "SURE" = some (.int 2 t)
  surest : ∃ t, mg "SUREST" = some (.int 3 t)
section
variable {P : Program} {w : World} {K : PySem.W.Frag} {mg : Str → Option Value} {base : Heap}
/-! ### 6. One theorem a method -/
theorem scI : FnScope ["self", "size"] ["self", "size"] (defScope sInit) := ⟨rfl, rfl, rfl, by decide +kernel, rfl, by decide +kernel, by decide +kernel⟩
theorem ok_init {f C : Addr} {fd : FuncData} (F : FunD K "__init__" "Guesses.__init__" (defArgs sInit) (defBody sInit) (defScope sInit) [.int 8] [] f fd) (T : Txt K mg C) :
    FnOk P w K mg base CX0 1 f fd ["self", "size"] (spInit C) := by
  obtain ⟨tm, hm⟩ := T.most
  refine F.ok (CX := CX0) scI (fun vs H Q E h => ?_) (fun cdv A outer s H vs Q E hr h => ?_)
  · obtain ⟨p, dx, n, rfl, _⟩ := h
    rfl
  · obtain ⟨p, dx, n, rfl, hp, h1, h16, k⟩ := h
    refine ⟨_, pss_cons (ps_if (PW.pt (pw_or (pt_not (pt_val (pe_callB call_isi (by rfl) T.isi (by decide +kernel) (pa_cons (pv 1) (pa_cons (pe_bltn (v := .ty "int") (u := .type "int") (by rfl) T.int (by decide +kernel) rfl) pa_nil)))))
        (pw_or (pt_val (pe_callB call_isi (by rfl) T.isi (by decide +kernel) (pa_cons (pv 1) (pa_cons (pe_bltn (v := .ty "bool") (u := .type "bool") (by rfl) T.bool (by decide +kernel) rfl) pa_nil))))
        (pw_or1 (pt_not (pt_chain op_le op_le pe_int (pv 1) (pe_glob (v := .int 16) (by rfl) hm ⟨_, rfl⟩))))))) (pss_one ps_never) pss_nil)
      (pss_one (ps_fld (pv 0) (pe_op op_rep (pe_lst (pa_cons pe_non pa_nil)) (pv 1)) rfl)), ?_⟩
    refine ⟨_, rfl, _, _, _, _, true, rfl, .ty "int", .base (.int n), kit_ty (by decide +kernel), true, rfl, iteF ?_⟩
    refine ⟨_, rfl, _, _, _, _, false, rfl, .ty "bool", .base (.int n), kit_ty (by decide +kernel), false, rfl, iteF ?_⟩
    refine ⟨_, rfl, _, _, rfl, rfl, true, congrArg V.bl (decide_eq_true h1), iteT ?_⟩
    refine ⟨_, _, rfl, rfl, true, congrArg V.bl (decide_eq_true h16), iteF ?_⟩
    refine ⟨(by show 1 ≤ sizeLine; decide), fun q hq => ?_⟩
    have npq : p ≠ q := ne_of_none hp hq
    have s1 : Same H (upd H q (.lst [V.non])) := same_new hq
    refine ⟨_, rfl, q, n, _, rfl, rfl, upd_same, by omega, by omega, (by show 1 * n.toNat ≤ sizeLine; exact Nat.le_of_lt (small1000 (by omega))), fun l hl => ?_⟩
    have npl : p ≠ l := ne_of_none (s1 _ _ hp) hl
    have s2 : Same H (upd (upd H q (.lst [V.non])) l (.lst (List.replicate n.toNat [V.non]).flatten)) := s1.trans (same_new hl)
    refine ⟨_, rfl, p, C, dx, [], rfl, s2 _ _ hp, T.cl, T.nK, (by show 0 < 1000; decide), ?_⟩
    have e1 : (List.replicate n.toNat [V.non]).flatten = List.replicate n.toNat V.non := List.flatten_replicate_singleton
    refine k l _ (s1.free hl) ⟨⟨dx, upd_same⟩, by rw [upd_ne npl.symm, upd_same, e1], Rep.fill _ _⟩ fun b o e hb => ?_
    rw [upd_ne hb]
    exact s2 _ _ e
theorem scG : FnScope ["self", "place", "slot"] ["self", "place"] (defScope sGuess) := ⟨rfl, rfl, rfl, by decide +kernel, rfl, by decide +kernel, by decide +kernel⟩
theorem ok_guess {f C : Addr} {fd : FuncData} (F : Fun K "guess" "Guesses.guess" sGuess f fd) (T : Txt K mg C) : FnOk P w K mg base CX0 1 f fd ["self", "place"] (spGuess C) := by
  obtain ⟨ts, hs⟩ := T.sure
  refine F.ok scG (fun vs H Q E h => ?_) (fun cdv A outer s H vs Q E hr h => ?_)
  · obtain ⟨x, l, p, xs, S, rfl, _⟩ := h
    rfl
  · obtain ⟨x, l, p, xs, S, rfl, G, hn, k⟩ := h
    obtain ⟨⟨dx, h1⟩, hl, R⟩ := id G
    have hxl : (0 : Int) < ((xs.length : Nat) : Int) := by
      have e := R.len
      omega
    obtain ⟨v, _, hat, rv⟩ := R.at_ hn p
    refine ⟨_, pss_cons (ps_set (i := 2) scG.nd rfl (.inl rfl) (pe_ix ix_list (pe_fld (pv 0) rfl) (pe_op op_mod (pv 1) (pe_callB call_len_seq (by rfl) T.len PySem.boot_len (pa_cons (pe_fld (pv 0) rfl) pa_nil))) (fun _ _ => rfl)))
      (pss_cons (ps_if (PW.pt (pw_and (pt_cmpR op_notN (pv 2) pe_non (nomark _)) (pw_and (pt_cmpR op_eq (pe_ix ix_tup (pv 2) pe_int (fun _ _ => rfl)) (pv 1) (nomark _))
          (pw_and1 (pt_cmpR op_ge (pe_ix ix_tup (pv 2) pe_int (fun _ _ => rfl)) (pe_glob (v := .int 2) (by rfl) hs ⟨_, rfl⟩) (nomark _))))))
        (pss_one (ps_ret (pe_ix ix_tup (pv 2) pe_int (fun _ _ => rfl)))) pss_nil)
      (pss_one (ps_ret (pe_op op_add (pv 1) pe_int)))), ?_⟩
    refine ⟨_, rfl, x, C, dx, _, _, rfl, h1, T.cl, T.nK, kf_kept _, _, rfl, _, rfl, x, C, dx, _, _, rfl, h1, T.cl, T.nK, kf_kept _, l, _, rfl, .inl (SqL.of hl), _, _, rfl, rfl, hxl, l, _, _, v, rfl, rfl, SqL.of hl, hat, ?_⟩
    unfold guessS at k
    generalize slotOf S p = o at rv k
    cases o with
    | none =>
      have e : v = .non := rv
      subst e
      refine ⟨_, rfl, rfl, false, rfl, iteF ?_⟩
      refine iteF ?_
      exact ⟨_, rfl, _, _, rfl, rfl, k⟩
    | some z =>
      obtain ⟨q, g, s⟩ := z
      obtain ⟨t, e, ht⟩ := (show ∃ t, v = .ref t ∧ H t = some (.tup [.int q, .int g, .int s]) from rv)
      subst e
      refine ⟨_, rfl, rfl, true, rfl, iteT ?_⟩
      have k' : Q (.int (if q = p then (if 2 ≤ s then g else p + 1) else p + 1)) H := k
      refine ⟨_, rfl, t, _, _, _, rfl, rfl, SqT.of ht, at_of (j := 0) rfl rfl, _, rfl, rfl, _, rfl, ?_⟩
      by_cases hq : q = p
      · rw [if_pos hq] at k'
        have ed : decide (V.int q = V.int p) = true := decide_eq_true (by rw [hq])
        rw [ed]
        refine iteT ?_
        refine ⟨_, rfl, t, _, _, _, rfl, rfl, SqT.of ht, at_of (j := 2) rfl rfl, _, _, rfl, rfl, _, rfl, ?_⟩
        by_cases h2 : 2 ≤ s
        · rw [if_pos h2] at k'
          rw [decide_eq_true h2]
          refine iteT ?_
          exact ⟨_, rfl, t, _, _, _, rfl, rfl, SqT.of ht, at_of (j := 1) rfl rfl, k'⟩
        · rw [if_neg h2] at k'
          rw [decide_eq_false h2]
          refine iteF ?_
          exact ⟨_, rfl, _, _, rfl, rfl, k'⟩
      · rw [if_neg hq] at k'
        have ed : decide (V.int q = V.int p) = false := decide_eq_false (fun z => hq (V.int.inj z))
        rw [ed]
        refine iteF ?_
        refine iteF ?_
        exact ⟨_, rfl, _, _, rfl, rfl, k'⟩
theorem scS : FnScope ["self"] ["self"] (defScope sSlots) := ⟨rfl, rfl, rfl, by decide +kernel, rfl, by decide +kernel, by decide +kernel⟩
theorem ok_slots {f C : Addr} {fd : FuncData} (F : Fun K "slots" "Guesses.slots" sSlots f fd) (T : Txt K mg C) : FnOk P w K mg base CX0 1 f fd ["self"] (spSlots C) := by
  refine F.ok scS (fun vs H Q E h => ?_) (fun cdv A outer s H vs Q E hr h => ?_)
  · obtain ⟨x, l, xs, S, rfl, _⟩ := h
    rfl
  · obtain ⟨x, l, xs, S, rfl, G, k⟩ := h
    obtain ⟨⟨dx, h1⟩, hl, R⟩ := id G
    refine ⟨_, pss_one (ps_ret (pe_callTy call_tuple_of (by rfl) T.tuple (by decide +kernel) (pa_cons (pe_fld (pv 0) rfl) pa_nil))), ?_⟩
    exact ⟨_, rfl, x, C, dx, _, _, rfl, h1, T.cl, T.nK, kf_kept _, l, _, rfl, .inl ⟨SqL.of hl, fun t ht => k t ht⟩⟩
theorem scT : FnScope ["slot", "goal", "place", "known", "sure"] ["slot", "goal"] (defScope sLearnt) := ⟨rfl, rfl, rfl, by decide +kernel, rfl, by decide +kernel, by decide +kernel⟩
theorem ok_learnt {f C : Addr} {fd : FuncData} (F : Fun K "learnt" "learnt" sLearnt f fd) (T : Txt K mg C) : FnOk P w K mg base CX0 1 f fd ["slot", "goal"] spLearnt := by
  obtain ⟨ts, hs⟩ := T.sure
  obtain ⟨tt, ht3⟩ := T.surest
  refine F.ok scT (fun vs H Q E h => ?_) (fun cdv A outer s H vs Q E hr h => ?_)
  · obtain ⟨t, q, k, z, g, rfl, _⟩ := h
    rfl
  · obtain ⟨t, q, k, z, g, rfl, ht, c⟩ := h
    refine ⟨_, pss_cons (ps_asg (pv 0) (pg_tup (by rfl) (pgs_cons (pg_name (i := 2) scT.nd rfl (.inl rfl)) (pgs_cons (pg_name (i := 3) scT.nd rfl (.inl rfl)) (pgs_cons (pg_name (i := 4) scT.nd rfl (.inl rfl)) pgs_nil)))))
      (pss_cons (ps_if (pt_cmpR op_eq (pv 1) (pv 3) (nomark _)) (pss_one (ps_ret (pe_tup (pa_cons (pv 2) (pa_cons (pv 3) (pa_cons
          (pe_callB (call_min2 rfl) (by rfl) T.min (by decide +kernel) (pa_cons (pe_op op_add (pv 4) pe_int) (pa_cons (pe_glob (v := .int 3) (by rfl) ht3 ⟨_, rfl⟩) pa_nil))) pa_nil)))))) pss_nil)
      (pss_cons (ps_if (pt_cmpR op_eq (pv 1) (pe_op op_add (pv 2) pe_int) (nomark _)) (pss_one (ps_ret (pe_tup (pa_cons (pv 2) (pa_cons (pv 3) (pa_cons
          (pe_callB (call_max2 rfl) (by rfl) T.max (by decide +kernel) (pa_cons (pe_op op_sub (pv 4) pe_int) (pa_cons pe_int pa_nil))) pa_nil)))))) pss_nil)
      (pss_one (ps_ret (pe_tup (pa_cons (pv 2) (pa_cons (pv 1) (pa_cons (pe_glob (v := .int 2) (by rfl) hs ⟨_, rfl⟩) pa_nil)))))))), ?_⟩
    refine ⟨_, rfl, t, _, rfl, SqT.of ht, rfl, _, _, rfl, _, _, rfl, _, _, rfl, rfl, ?_⟩
    refine ⟨_, rfl, _, rfl, rfl, _, rfl, ?_⟩
    by_cases hg : g = k
    · have e : tup3 (turn1 q k z g) = [.int q, .int k, .int (if 3 < z + 1 then 3 else z + 1)] := by
        unfold turn1
        rw [if_pos hg]
        rfl
      rw [e] at c
      have ed : decide (V.int g = V.int k) = true := decide_eq_true (by rw [hg])
      rw [ed]
      refine iteT ?_
      exact ⟨_, rfl, _, rfl, _, rfl, _, _, rfl, rfl, _, _, rfl, (by show 3 ≤ sizeLine; decide), fun t' h' => c t' h'⟩
    · have ed : decide (V.int g = V.int k) = false := decide_eq_false (fun y => hg (V.int.inj y))
      rw [ed]
      refine iteF ?_
      refine ⟨_, rfl, _, rfl, _, _, rfl, rfl, rfl, _, rfl, ?_⟩
      by_cases hp : g = q + 1
      · have e : tup3 (turn1 q k z g) = [.int q, .int k, .int (if 0 > z - 1 then 0 else z - 1)] := by
          unfold turn1
          rw [if_neg hg, if_pos hp]
          rfl
        rw [e] at c
        have ed : decide (V.int g = V.int (q + 1)) = true := decide_eq_true (by rw [hp])
        rw [ed]
        refine iteT ?_
        exact ⟨_, rfl, _, rfl, _, rfl, _, _, rfl, rfl, _, _, rfl, (by show 3 ≤ sizeLine; decide), fun t' h' => c t' h'⟩
      · have e : tup3 (turn1 q k z g) = [.int q, .int g, .int 2] := by
          unfold turn1
          rw [if_neg hg, if_neg hp]
          rfl
        rw [e] at c
        have ed : decide (V.int g = V.int (q + 1)) = false := decide_eq_false (fun y => hp (V.int.inj y))
        rw [ed]
        refine iteF ?_
        exact ⟨_, rfl, _, rfl, (by show 3 ≤ sizeLine; decide), fun t' h' => c t' h'⟩
theorem scL : FnScope ["self", "place", "goal", "at", "slot"] ["self", "place", "goal"] (defScope sLearn) := ⟨rfl, rfl, rfl, by decide +kernel, rfl, by decide +kernel, by decide +kernel⟩
theorem ok_learn {f fT C : Addr} {fd fdT : FuncData} (F : Fun K "learn" "Guesses.learn" sLearn f fd) (T : Txt K mg C) (FT : Fun K "learnt" "learnt" sLearnt fT fdT) (bT : Binds K fdT ["slot", "goal"] []) (mT : mg "learnt" = some (.ref fT)) :
    FnOk P w K mg base CX0 2 f fd ["self", "place", "goal"] (spLearn C) := by
  obtain ⟨ts, hs⟩ := T.sure
  have GT : FnOk P w K mg base CX0 1 fT fdT ["slot", "goal"] spLearnt := ok_learnt FT T
  refine F.ok scL (fun vs H Q E h => ?_) (fun cdv A outer s H vs Q E hr h => ?_)
  · obtain ⟨x, l, p, g, xs, S, rfl, _⟩ := h
    rfl
  · obtain ⟨x, l, p, g, xs, S, rfl, G, hn, c⟩ := h
    obtain ⟨⟨dx, h1⟩, hl, R⟩ := id G
    have nxl := G.ne
    have hxl : (0 : Int) < ((xs.length : Nat) : Int) := by
      have e := R.len
      omega
    obtain ⟨v, hv, hat, rv⟩ := R.at_ hn p
    have hix : ixN xs.length (p % ((xs.length : Nat) : Int)) = some (ix S.length p) := by
      rw [R.len]
      exact ixN_ix hn p
    refine ⟨_, pss_cons (ps_set (i := 3) scL.nd rfl (.inl rfl) (pe_op op_mod (pv 1) (pe_callB call_len_seq (by rfl) T.len PySem.boot_len (pa_cons (pe_fld (pv 0) rfl) pa_nil))))
      (pss_cons (ps_set (i := 4) scL.nd rfl (.inl rfl) (pe_ix ix_list (pe_fld (pv 0) rfl) (pv 3) (fun _ _ => rfl)))
      (pss_one (ps_if (PW.pt (pw_and (pt_cmpR op_notN (pv 4) pe_non (nomark _)) (pw_and1 (pt_cmpR op_eq (pe_ix ix_tup (pv 4) pe_int (fun _ _ => rfl)) (pv 1) (nomark _)))))
        (pss_one (ps_asg (pe_call GT hr rfl mT FT.kp bT .nil pass0 (pa_cons (pv 4) (pa_cons (pv 2) pa_nil))) (pg_sub (pe_fld (pv 0) rfl) (pv 3) set_list)))
        (pss_one (ps_if (pt_cmpR op_ne (pv 2) (pe_op op_add (pv 1) pe_int) (nomark _))
          (pss_one (ps_asg (pe_tup (pa_cons (pv 1) (pa_cons (pv 2) (pa_cons (pe_glob (v := .int 2) (by rfl) hs ⟨_, rfl⟩) pa_nil)))) (pg_sub (pe_fld (pv 0) rfl) (pv 3) set_list)))
          pss_nil))))), ?_⟩
    refine ⟨_, rfl, _, rfl, x, C, dx, _, _, rfl, h1, T.cl, T.nK, kf_kept _, l, _, rfl, .inl (SqL.of hl), _, _, rfl, rfl, hxl, ?_⟩
    refine ⟨_, rfl, x, C, dx, _, _, rfl, h1, T.cl, T.nK, kf_kept _, _, rfl, l, _, _, v, rfl, rfl, SqL.of hl, hat, ?_⟩
    have put : ∀ (t' : Addr) (y : Int × Int × Int), H t' = none → learn1 (slotOf S p) p g = some y →
        Q .non (upd (upd H t' (.tup (tup3 y))) l (.lst (xs.set (ix S.length p) (.ref t')))) := fun t' y h' ey => by
      have nlt : l ≠ t' := ne_of_none hl h'
      have nxt : x ≠ t' := ne_of_none h1 h'
      have s1 : Same H (upd H t' (.tup (tup3 y))) := same_new h'
      have tp : Tups (upd H t' (.tup (tup3 y))) (upd (upd H t' (.tup (tup3 y))) l (.lst (xs.set (ix S.length p) (.ref t')))) :=
        Tups.but (l := l) (xs := xs) (s1 _ _ hl) fun b o e hb => by rw [upd_ne hb]; exact e
      have rs : Rep (upd (upd H t' (.tup (tup3 y))) l (.lst (xs.set (ix S.length p) (.ref t')))) (xs.set (ix S.length p) (.ref t')) (learnS S p g) := by
        unfold learnS
        rw [ey]
        refine ((R.mono (Tups.of s1)).mono tp).set ?_
        obtain ⟨y1, y2, y3⟩ := y
        exact (show ∃ t, V.ref t' = .ref t ∧ _ = some (HO.tup [.int y1, .int y2, .int y3]) from ⟨t', rfl, tp _ _ upd_same⟩)
      refine c _ _ ⟨⟨dx, by rw [upd_ne nxl, upd_ne nxt]; exact h1⟩, upd_same, rs⟩ fun b o e hb => ?_
      rw [upd_ne hb]
      exact s1 _ _ e
    have stay : learn1 (slotOf S p) p g = slotOf S p → Q .non H := fun e => by
      refine c xs H ?_ fun b o e _ => e
      rw [learnS_same hn e]
      exact G
    generalize slotOf S p = o at rv put stay
    cases o with
    | none =>
      have e : v = .non := rv
      subst e
      refine ⟨_, rfl, rfl, false, rfl, iteF ?_⟩
      refine iteF ?_
      refine ⟨_, rfl, _, rfl, _, _, rfl, rfl, rfl, _, rfl, ?_⟩
      by_cases hp : g = p + 1
      · refine iteNS (by rw [hp]) ?_
        exact stay (show (if g = p + 1 then none else some (p, g, 2)) = none from if_pos hp)
      · have ed : decide (V.int g = V.int (p + 1)) = false := decide_eq_false (fun y => hp (V.int.inj y))
        rw [ed]
        refine iteT ?_
        refine ⟨_, rfl, _, rfl, (by show 3 ≤ sizeLine; decide), fun t' h' => ?_⟩
        have s1 : Same H (upd H t' (.tup [V.int p, V.int g, V.int 2])) := same_new h'
        refine ⟨_, rfl, x, C, dx, _, _, rfl, s1 _ _ h1, T.cl, T.nK, kf_kept _, _, rfl, l, xs, _, _, rfl, rfl, s1 _ _ hl, hix, ?_⟩
        exact put t' (p, g, 2) h' (show (if g = p + 1 then none else some (p, g, 2)) = some (p, g, 2) from if_neg hp)
    | some z =>
      obtain ⟨q, k, s⟩ := z
      obtain ⟨t, e, ht⟩ := (show ∃ t, v = .ref t ∧ H t = some (.tup [.int q, .int k, .int s]) from rv)
      subst e
      refine ⟨_, rfl, rfl, true, rfl, iteT ?_⟩
      refine ⟨_, rfl, t, _, _, _, rfl, rfl, SqT.of ht, at_of (j := 0) rfl rfl, _, rfl, rfl, _, rfl, ?_⟩
      by_cases hq : q = p
      · have ed : decide (V.int q = V.int p) = true := decide_eq_true (by rw [hq])
        rw [ed]
        refine iteT ?_
        refine ⟨_, rfl, _, rfl, t, q, k, s, g, rfl, ht, fun t' h' => ?_⟩
        have s1 : Same H (upd H t' (.tup (tup3 (turn1 q k s g)))) := same_new h'
        refine ⟨_, rfl, x, C, dx, _, _, rfl, s1 _ _ h1, T.cl, T.nK, kf_kept _, _, rfl, l, xs, _, _, rfl, rfl, s1 _ _ hl, hix, ?_⟩
        exact put t' _ h' (show (if q = p then some (turn1 q k s g) else if g = p + 1 then some (q, k, s) else some (p, g, 2)) = some (turn1 q k s g) from if_pos hq)
      · have ed : decide (V.int q = V.int p) = false := decide_eq_false (fun y => hq (V.int.inj y))
        rw [ed]
        refine iteF ?_
        refine ⟨_, rfl, _, rfl, _, _, rfl, rfl, rfl, _, rfl, ?_⟩
        by_cases hp : g = p + 1
        · refine iteNS (by rw [hp]) ?_
          exact stay (show (if q = p then some (turn1 q k s g) else if g = p + 1 then some (q, k, s) else some (p, g, 2)) = some (q, k, s) from by rw [if_neg hq, if_pos hp])
        · have ed : decide (V.int g = V.int (p + 1)) = false := decide_eq_false (fun y => hp (V.int.inj y))
          rw [ed]
          refine iteT ?_
          refine ⟨_, rfl, _, rfl, (by show 3 ≤ sizeLine; decide), fun t' h' => ?_⟩
          have s1 : Same H (upd H t' (.tup [V.int p, V.int g, V.int 2])) := same_new h'
          refine ⟨_, rfl, x, C, dx, _, _, rfl, s1 _ _ h1, T.cl, T.nK, kf_kept _, _, rfl, l, xs, _, _, rfl, rfl, s1 _ _ hl, hix, ?_⟩
          exact put t' (p, g, 2) h' (show (if q = p then some (turn1 q k s g) else if g = p + 1 then some (q, k, s) else some (p, g, 2)) = some (p, g, 2) from by rw [if_neg hq, if_neg hp])
end
end K53
/-! The law's own helpers. -/
namespace K53
open PySem L2
/-! ### 7. The promises of the helpers -/
def spCell (K : PySem.W.Frag) : Sp := fun vs H Q _ => ∃ (a : Addr) (ns : List Int) (k : Int), vs = [.ref a, .int k] ∧ SqL K H a (ns.map V.int) ∧ ns.length ≤ 63 ∧
  ∀ (n : Int) (H' : Hp), 0 ≤ n → n < 2147483587 → Same H H' → Q (.int n) H'
def spLGuess : Sp := fun vs H Q _ => ∃ (m : Addr) (p : Int) (ys : List V) (S : List Slot), vs = [.ref m, .int p] ∧ H m = some (.lst ys) ∧ Rep H ys S ∧ 0 < S.length ∧ Q (.int (guessS S p)) H
def spLLearnt : Sp := fun vs H Q _ => ∃ (m : Addr) (p g : Int) (ys : List V) (S : List Slot), vs = [.ref m, .int p, .int g] ∧ H m = some (.lst ys) ∧ Rep H ys S ∧ 0 < S.length ∧ OkS S ∧
  ∀ (m' : Addr) (ys' : List V) (H' : Hp), H m' = none → H' m' = some (.lst ys') → Rep H' ys' (learnS S p g) → Same H H' → Q (.ref m') H'
def spPlace : Sp := fun vs H Q _ => ∃ (c : Int), vs = [.int c] ∧ ∀ (n : Int) (H' : Hp), Same H H' → Q (.int n) H'
def spGoal : Sp := fun vs H Q _ => ∃ (c p : Int), vs = [.int c, .int p] ∧ ∀ (n : Int) (H' : Hp), Same H H' → Q (.int n) H'
def spKept (C : Addr) : Sp := fun vs H Q _ => ∃ (x l m : Addr) (xs ys : List V) (S : List Slot), vs = [.ref x, .ref m] ∧ GAt C H x l xs S ∧ H m = some (.lst ys) ∧ Rep H ys S ∧
  ∀ (H' : Hp), Same H H' → Q (.bl true) H'
/-- an item at a place within bounds, of a list of ints -/
theorem pick {ns : List Int} {i : Int} (h0 : 0 ≤ i) (h1 : i < (ns.length : Nat)) : ∃ n, atI (ns.map V.int) i = some (.int n) := by
  have h2 : i.toNat < ns.length := by omega
  refine ⟨ns[i.toNat], at_of (j := i.toNat) (by omega) ?_⟩
  rw [List.getElem?_map, List.getElem?_eq_getElem h2]
  rfl
section
variable {P : Program} {w : World} {K : PySem.W.Frag} {mg : Str → Option Value} {base : Heap}
theorem scC : FnScope ["_law_script", "_law_k", "_law_cell_here", "_law_more"] ["_law_script", "_law_k"] (defScope sCell) := ⟨rfl, rfl, rfl, by decide +kernel, rfl, by decide +kernel, by decide +kernel⟩
theorem ok_cell {f C : Addr} {fd : FuncData} (F : Fun K "_law_cell" "_law_cell" sCell f fd) (T : Txt K mg C) : FnOk P w K mg base CX0 1 f fd ["_law_script", "_law_k"] (spCell K) := by
  refine F.ok scC (fun vs H Q E h => ?_) (fun cdv A outer s H vs Q E hr h => ?_)
  · obtain ⟨a, ns, k, rfl, _⟩ := h
    rfl
  · obtain ⟨a, ns, k, rfl, hS, hlen, c⟩ := h
    refine ⟨_, pss_cons (ps_set (i := 2) scC.nd rfl (.inl rfl) (pe_op op_add (pe_op op_mul pe_int (pv 1)) pe_int))
      (C8.pss_cut (ps_if (pt_cmpR (op_neD hr.units) (pv 0) (pe_lst pa_nil) (nomark _))
        (pss_cons (ps_set (i := 2) scC.nd rfl (.inl rfl) (pe_op op_add (pe_op op_mul (pe_ix ix_list (pv 0) (pe_op op_mod (pv 1) (pe_callB call_len_seq (by rfl) T.len PySem.boot_len (pa_cons (pv 0) pa_nil))) (fun _ _ => rfl)) pe_int) (pe_op op_mul pe_int (pv 1))))
        (pss_one (ps_set (i := 2) scC.nd rfl (.inl rfl) (pe_op op_add (pv 2) (pe_op op_mul (pe_op op_fdiv (pv 1) (pe_callB call_len_seq (by rfl) T.len PySem.boot_len (pa_cons (pv 0) pa_nil))) pe_int))))) pss_nil)
      (pss_cons (ps_set (i := 3) scC.nd rfl (.inl rfl) (pe_op op_mod (pv 2) pe_int))
      (pss_cons (ps_set (i := 3) scC.nd rfl (.inl rfl) (pe_op op_mod (pe_op op_mul (pv 3) (pv 3)) pe_int))
      (pss_one (ps_ret (pe_op op_mod (pe_op op_add (pe_op op_add (pe_op op_mul (pv 3) (pv 3)) (pe_op op_mul pe_int (pv 3))) (pv 1)) pe_int)))))), ?_⟩
    refine ⟨_, rfl, _, _, rfl, rfl, .inl ⟨by decide, by decide⟩, _, _, rfl, rfl, ?_⟩
    refine ⟨fun σ' H' => ∃ z : Int, σ' = [some (.ref a), some (.int k), some (.int z), none] ∧ Same H H', ?_, ?_⟩
    · -- if _law_script != []
      refine ⟨_, rfl, Nat.zero_le _, fun p hp => ?_⟩
      have s1 : Same H (upd H p (.lst [])) := same_new hp
      refine ⟨.list (ns.map PyData.int), .list [], .lst (s1.seq hS) (ints_dats ns), .lst (SqL.of upd_same) .nil, shaped_ints ns, rfl, _, rfl, ?_⟩
      rw [eqv_nil]
      by_cases hn : ns = []
      · rw [decide_eq_true hn]
        refine iteF ?_
        exact ⟨_, rfl, s1⟩
      · rw [decide_eq_false hn]
        refine iteT ?_
        have hlp : 0 < ns.length := List.length_pos_iff.mpr hn
        have hml : (0 : Int) < (((ns.map V.int).length : Nat) : Int) := by
          rw [List.length_map]
          omega
        have hml2 : (((ns.map V.int).length : Nat) : Int) < 1073741824 := by
          rw [List.length_map]
          omega
        have b0 : 0 ≤ k % (((ns.map V.int).length : Nat) : Int) := Int.emod_nonneg _ (by omega)
        have b1 : k % (((ns.map V.int).length : Nat) : Int) < ((ns.length : Nat) : Int) := by
          have q := Int.emod_lt_of_pos k hml
          rw [List.length_map] at q ⊢
          exact q
        obtain ⟨y, hy⟩ := pick b0 b1
        refine ⟨_, rfl, _, rfl, _, rfl, a, _, rfl, .inl (s1.seq hS), _, _, rfl, rfl, hml, a, _, _, _, rfl, rfl, s1.seq hS, hy, _, _, rfl, rfl, .inr ⟨by decide, by decide⟩, _, rfl, _, _, rfl, rfl, .inl ⟨by decide, by decide⟩, _, _, rfl, rfl, ?_⟩
        refine ⟨_, rfl, _, rfl, _, rfl, a, _, rfl, .inl (s1.seq hS), _, _, rfl, rfl, ⟨hml, hml2⟩, _, _, rfl, rfl, .inr ⟨by decide, by decide⟩, _, _, rfl, rfl, ?_⟩
        exact ⟨_, rfl, s1⟩
    · rintro σ' H' ⟨z, rfl, s1⟩
      refine ⟨_, rfl, _, _, rfl, rfl, (by show (0 : Int) < 2147483647; decide), ?_⟩
      have d0 : 0 ≤ z % 2147483647 := Int.emod_nonneg _ (by decide)
      have d1 : z % 2147483647 < 2147483647 := Int.emod_lt_of_pos _ (by decide)
      generalize z % 2147483647 = u at d0 d1
      refine ⟨_, rfl, _, rfl, _, _, rfl, rfl, .inl ⟨by omega, by omega⟩, _, _, rfl, rfl, (by show (0 : Int) < 2147483629; decide), ?_⟩
      have e0 : 0 ≤ u * u % 2147483629 := Int.emod_nonneg _ (by decide)
      have e1 : u * u % 2147483629 < 2147483629 := Int.emod_lt_of_pos _ (by decide)
      generalize u * u % 2147483629 = v at e0 e1
      refine ⟨_, rfl, _, rfl, _, _, rfl, rfl, .inl ⟨by omega, by omega⟩, _, rfl, _, _, rfl, rfl, .inl ⟨by decide, by decide⟩, _, _, rfl, rfl, _, rfl, _, _, rfl, rfl, _, _, rfl, rfl, (by show (0 : Int) < 2147483587; decide), ?_⟩
      exact c _ _ (Int.emod_nonneg _ (by decide)) (Int.emod_lt_of_pos _ (by decide)) s1
theorem scLG : FnScope ["_law_slots", "_law_place", "_law_slot"] ["_law_slots", "_law_place"] (defScope sLGuess) := ⟨rfl, rfl, rfl, by decide +kernel, rfl, by decide +kernel, by decide +kernel⟩
theorem ok_lguess {f C : Addr} {fd : FuncData} (F : Fun K "_law_guess" "_law_guess" sLGuess f fd) (T : Txt K mg C) : FnOk P w K mg base CX0 1 f fd ["_law_slots", "_law_place"] spLGuess := by
  refine F.ok scLG (fun vs H Q E h => ?_) (fun cdv A outer s H vs Q E hr h => ?_)
  · obtain ⟨m, p, ys, S, rfl, _⟩ := h
    rfl
  · obtain ⟨m, p, ys, S, rfl, hm, R, hn, k⟩ := h
    have hxl : (0 : Int) < ((ys.length : Nat) : Int) := by
      have e := R.len
      omega
    obtain ⟨v, _, hat, rv⟩ := R.at_ hn p
    refine ⟨_, pss_cons (ps_set (i := 2) scLG.nd rfl (.inl rfl) (pe_ix ix_list (pv 0) (pe_op op_mod (pv 1) (pe_callB call_len_seq (by rfl) T.len PySem.boot_len (pa_cons (pv 0) pa_nil))) (fun _ _ => rfl)))
      (pss_cons (ps_if (PW.pt (pw_or (pt_cmpR op_isN (pv 2) pe_non (nomark _)) (pw_or (pt_cmpR op_ne (pe_ix ix_tup (pv 2) pe_int (fun _ _ => rfl)) (pv 1) (nomark _))
          (pw_or1 (pt_cmpR op_lt (pe_ix ix_tup (pv 2) pe_int (fun _ _ => rfl)) pe_int (nomark _))))))
        (pss_one (ps_ret (pe_op op_add (pv 1) pe_int))) pss_nil)
      (pss_one (ps_ret (pe_ix ix_tup (pv 2) pe_int (fun _ _ => rfl))))), ?_⟩
    refine ⟨_, rfl, _, rfl, _, rfl, m, _, rfl, .inl (SqL.of hm), _, _, rfl, rfl, hxl, m, _, _, v, rfl, rfl, SqL.of hm, hat, ?_⟩
    unfold guessS at k
    generalize slotOf S p = o at rv k
    cases o with
    | none =>
      have e : v = .non := rv
      subst e
      refine ⟨_, rfl, rfl, true, rfl, iteT ?_⟩
      refine iteT ?_
      exact ⟨_, rfl, _, _, rfl, rfl, k⟩
    | some z =>
      obtain ⟨q, g, s⟩ := z
      obtain ⟨t, e, ht⟩ := (show ∃ t, v = .ref t ∧ H t = some (.tup [.int q, .int g, .int s]) from rv)
      subst e
      refine ⟨_, rfl, rfl, false, rfl, iteF ?_⟩
      have k' : Q (.int (if q = p then (if 2 ≤ s then g else p + 1) else p + 1)) H := k
      refine ⟨_, rfl, t, _, _, _, rfl, rfl, SqT.of ht, at_of (j := 0) rfl rfl, _, rfl, rfl, _, rfl, ?_⟩
      by_cases hq : q = p
      · rw [if_pos hq] at k'
        have ed : decide (V.int q = V.int p) = true := decide_eq_true (by rw [hq])
        rw [ed]
        refine iteF ?_
        refine ⟨_, rfl, t, _, _, _, rfl, rfl, SqT.of ht, at_of (j := 2) rfl rfl, _, _, rfl, rfl, _, rfl, ?_⟩
        by_cases h2 : 2 ≤ s
        · rw [if_pos h2] at k'
          rw [decide_eq_false (show ¬ s < 2 by omega)]
          refine iteF ?_
          exact ⟨_, rfl, t, _, _, _, rfl, rfl, SqT.of ht, at_of (j := 1) rfl rfl, k'⟩
        · rw [if_neg h2] at k'
          rw [decide_eq_true (show s < 2 by omega)]
          refine iteT ?_
          exact ⟨_, rfl, _, _, rfl, rfl, k'⟩
      · rw [if_neg hq] at k'
        have ed : decide (V.int q = V.int p) = false := decide_eq_false (fun z => hq (V.int.inj z))
        rw [ed]
        refine iteT ?_
        refine iteT ?_
        exact ⟨_, rfl, _, _, rfl, rfl, k'⟩
theorem scP : FnScope ["_law_cell_here", "_law_far"] ["_law_cell_here"] (defScope sPlace) := ⟨rfl, rfl, rfl, by decide +kernel, rfl, by decide +kernel, by decide +kernel⟩
theorem ok_place {f C : Addr} {fd : FuncData} (F : Fun K "_law_place_by" "_law_place_by" sPlace f fd) (_ : Txt K mg C) : FnOk P w K mg base CX0 1 f fd ["_law_cell_here"] spPlace := by
  refine F.ok scP (fun vs H Q E h => ?_) (fun cdv A outer s H vs Q E hr h => ?_)
  · obtain ⟨c, rfl, _⟩ := h
    rfl
  · obtain ⟨c, rfl, k⟩ := h
    refine ⟨_, pss_cons (ps_set (i := 1) scP.nd rfl (.inl rfl) (pe_ix ix_list (pe_lst (pa_cons (pe_op op_mod (pe_op op_fdiv (pv 0) pe_int) pe_int) (pa_cons (pe_op op_sub pe_int (pe_op op_mod (pe_op op_fdiv (pv 0) pe_int) pe_int)) pa_nil)))
        (pe_op op_mod (pe_op op_fdiv (pv 0) pe_int) pe_int) (fun _ _ => rfl)))
      (pss_one (ps_ret (pe_ix ix_list (pe_lst (pa_cons (pe_op op_mod (pe_op op_fdiv (pv 0) pe_int) pe_int) (pa_cons (pe_op op_mod (pe_op op_fdiv (pv 0) pe_int) pe_int) (pa_cons (pv 1)
        (pa_cons (pe_op op_mul (pe_op op_mod (pe_op op_fdiv (pv 0) pe_int) pe_int) pe_int) pa_nil))))) (pe_op op_mod (pv 0) pe_int) (fun _ _ => rfl)))), ?_⟩
    obtain ⟨y, hy⟩ := pick (ns := [c / 4 % 1024, 65536 - c / 4 % 3]) (i := c / 4096 % 2) (Int.emod_nonneg _ (by decide)) (Int.emod_lt_of_pos _ (by decide))
    refine ⟨_, rfl, _, _, rfl, rfl, ⟨by decide, by decide⟩, _, _, rfl, rfl, (by show (0 : Int) < 1024; decide), _, rfl, _, _, rfl, rfl, ⟨by decide, by decide⟩, _, _, rfl, rfl, (by show (0 : Int) < 3; decide), _, _, rfl, rfl, (by show 2 ≤ sizeLine; decide), fun q hq => ?_⟩
    have s1 := same_new (o := .lst [V.int (c / 4 % 1024), V.int (65536 - c / 4 % 3)]) hq
    refine ⟨_, rfl, _, _, rfl, rfl, ⟨by decide, by decide⟩, _, _, rfl, rfl, (by show (0 : Int) < 2; decide), q, _, _, _, rfl, rfl, SqL.of upd_same, hy, ?_⟩
    obtain ⟨z, hz⟩ := pick (ns := [c / 4 % 4, c / 4 % 70, y, c / 4 % 3 * 16]) (i := c % 4) (Int.emod_nonneg _ (by decide)) (Int.emod_lt_of_pos _ (by decide))
    refine ⟨_, rfl, _, _, rfl, rfl, ⟨by decide, by decide⟩, _, _, rfl, rfl, (by show (0 : Int) < 4; decide), _, rfl, _, _, rfl, rfl, ⟨by decide, by decide⟩, _, _, rfl, rfl, (by show (0 : Int) < 70; decide), _, rfl,
      _, rfl, _, _, rfl, rfl, ⟨by decide, by decide⟩, _, _, rfl, rfl, (by show (0 : Int) < 3; decide), _, _, rfl, rfl, .inr ⟨by decide, by decide⟩, (by show 4 ≤ sizeLine; decide), fun r hr' => ?_⟩
    refine ⟨_, rfl, _, _, rfl, rfl, (by show (0 : Int) < 4; decide), r, _, _, _, rfl, rfl, SqL.of upd_same, hz, ?_⟩
    exact k _ _ (s1.trans (same_new hr'))
theorem scO : FnScope ["_law_cell_here", "_law_place"] ["_law_cell_here", "_law_place"] (defScope sGoal) := ⟨rfl, rfl, rfl, by decide +kernel, rfl, by decide +kernel, by decide +kernel⟩
theorem ok_goal {f C : Addr} {fd : FuncData} (F : Fun K "_law_goal_by" "_law_goal_by" sGoal f fd) (_ : Txt K mg C) : FnOk P w K mg base CX0 1 f fd ["_law_cell_here", "_law_place"] spGoal := by
  refine F.ok scO (fun vs H Q E h => ?_) (fun cdv A outer s H vs Q E hr h => ?_)
  · obtain ⟨c, p, rfl, _⟩ := h
    rfl
  · obtain ⟨c, p, rfl, k⟩ := h
    refine ⟨_, pss_one (ps_ret (pe_ix ix_list (pe_lst (pa_cons (pe_op op_add (pv 1) pe_int) (pa_cons (pe_op op_add (pv 1) pe_int) (pa_cons (pe_op op_mod (pe_op op_fdiv (pv 0) pe_int) pe_int)
        (pa_cons (pe_op op_mod (pe_op op_fdiv (pv 0) pe_int) pe_int) pa_nil))))) (pe_op op_mod (pv 0) pe_int) (fun _ _ => rfl))), ?_⟩
    obtain ⟨z, hz⟩ := pick (ns := [p + 1, p + 1, c / 4 % 3, c / 4 % 1024]) (i := c % 4) (Int.emod_nonneg _ (by decide)) (Int.emod_lt_of_pos _ (by decide))
    refine ⟨_, rfl, _, _, rfl, rfl, _, rfl, _, _, rfl, rfl, _, rfl, _, _, rfl, rfl, ⟨by decide, by decide⟩, _, _, rfl, rfl, (by show (0 : Int) < 3; decide), _, rfl, _, _, rfl, rfl, ⟨by decide, by decide⟩, _, _, rfl, rfl, (by show (0 : Int) < 1024; decide), (by show 4 ≤ sizeLine; decide), fun r hr' => ?_⟩
    refine ⟨_, rfl, _, _, rfl, rfl, (by show (0 : Int) < 4; decide), r, _, _, _, rfl, rfl, SqL.of upd_same, hz, ?_⟩
    exact k _ _ (same_new hr')
end
end K53
/-! The law's learning and its look at all slots. -/
namespace K53
open PySem L2
section
variable {P : Program} {w : World} {K : PySem.W.Frag} {mg : Str → Option Value} {base : Heap}
theorem scLL : FnScope ["_law_slots", "_law_place", "_law_goal", "_law_found", "_law_at", "_law_slot"] ["_law_slots", "_law_place", "_law_goal"] (defScope sLLearnt) := ⟨rfl, rfl, rfl, by decide +kernel, rfl, by decide +kernel, by decide +kernel⟩
theorem ok_llearnt {f C : Addr} {fd : FuncData} (F : Fun K "_law_learnt" "_law_learnt" sLLearnt f fd) (T : Txt K mg C) : FnOk P w K mg base CX0 1 f fd ["_law_slots", "_law_place", "_law_goal"] spLLearnt := by
  refine F.ok scLL (fun vs H Q E h => ?_) (fun cdv A outer s H vs Q E hr h => ?_)
  · obtain ⟨m, p, g, ys, S, rfl, _⟩ := h
    rfl
  · obtain ⟨m, p, g, ys, S, rfl, hm, R, hn, hok, c⟩ := h
    have hxl : (0 : Int) < ((ys.length : Nat) : Int) := by
      have e := R.len
      omega
    obtain ⟨v, _, hat, rv⟩ := R.at_ hn p
    have hix : ixN ys.length (p % ((ys.length : Nat) : Int)) = some (ix S.length p) := by
      rw [R.len]
      exact ixN_ix hn p
    refine ⟨_, pss_cons (ps_set (i := 3) scLL.nd rfl (.inl rfl) (pe_callTy call_list_of (by rfl) T.list (by decide +kernel) (pa_cons (pv 0) pa_nil)))
      (pss_cons (ps_set (i := 4) scLL.nd rfl (.inl rfl) (pe_op op_mod (pv 1) (pe_callB call_len_seq (by rfl) T.len PySem.boot_len (pa_cons (pv 0) pa_nil))))
      (pss_cons (ps_set (i := 5) scLL.nd rfl (.inl rfl) (pe_ix ix_list (pv 0) (pv 4) (fun _ _ => rfl)))
      (pss_cons (ps_if (PW.pt (pw_or (pt_cmpR op_isN (pv 5) pe_non (nomark _)) (pw_or1 (pt_cmpR op_ne (pe_ix ix_tup (pv 5) pe_int (fun _ _ => rfl)) (pv 1) (nomark _)))))
        (pss_one (ps_if (pt_cmpR op_ne (pv 2) (pe_op op_add (pv 1) pe_int) (nomark _))
          (pss_one (ps_asg (pe_tup (pa_cons (pv 1) (pa_cons (pv 2) (pa_cons pe_int pa_nil)))) (pg_sub (pv 3) (pv 4) set_list))) pss_nil))
        (pss_one (ps_if (pt_cmpR op_eq (pe_ix ix_tup (pv 5) pe_int (fun _ _ => rfl)) (pv 2) (nomark _))
          (pss_one (ps_asg (pe_tup (pa_cons (pv 1) (pa_cons (pv 2) (pa_cons (pe_ix ix_list (pe_lst (pa_cons pe_int (pa_cons pe_int (pa_cons pe_int (pa_cons pe_int pa_nil))))) (pe_ix ix_tup (pv 5) pe_int (fun _ _ => rfl)) (fun _ _ => rfl)) pa_nil))))
            (pg_sub (pv 3) (pv 4) set_list)))
          (pss_one (ps_if (pt_cmpR op_eq (pv 2) (pe_op op_add (pv 1) pe_int) (nomark _))
            (pss_one (ps_asg (pe_tup (pa_cons (pv 1) (pa_cons (pe_ix ix_tup (pv 5) pe_int (fun _ _ => rfl)) (pa_cons (pe_ix ix_list (pe_lst (pa_cons pe_int (pa_cons pe_int (pa_cons pe_int (pa_cons pe_int pa_nil))))) (pe_ix ix_tup (pv 5) pe_int (fun _ _ => rfl)) (fun _ _ => rfl)) pa_nil))))
              (pg_sub (pv 3) (pv 4) set_list)))
            (pss_one (ps_asg (pe_tup (pa_cons (pv 1) (pa_cons (pv 2) (pa_cons pe_int pa_nil)))) (pg_sub (pv 3) (pv 4) set_list))))))))
      (pss_one (ps_ret (pv 3)))))), ?_⟩
    refine ⟨_, rfl, m, _, rfl, .inl (SqL.of hm), fun m' hm' => ?_⟩
    have s0 : Same H (upd H m' (.lst ys)) := same_new hm'
    have put : ∀ (H2 : Hp) (t' : Addr) (y : Int × Int × Int), Same (upd H m' (.lst ys)) H2 → H2 t' = none → learn1 (slotOf S p) p g = some y →
        Q (.ref m') (upd (upd H2 t' (.tup (tup3 y))) m' (.lst (ys.set (ix S.length p) (.ref t')))) := fun H2 t' y s2 h' ey => by
      have nmt : t' ≠ m' := fun q => by
        have e := s2 m' _ upd_same
        rw [← q, h'] at e
        cases e
      have s3 : Same H (upd (upd H2 t' (.tup (tup3 y))) m' (.lst (ys.set (ix S.length p) (.ref t')))) := fun b o e => by
        rw [upd_ne (ne_of_none e hm')]
        exact same_new h' _ _ (s2 _ _ (s0 _ _ e))
      refine c m' _ _ hm' upd_same ?_ s3
      unfold learnS
      rw [ey]
      refine (R.mono (Tups.of s3)).set ?_
      obtain ⟨y1, y2, y3⟩ := y
      exact (show ∃ t, V.ref t' = .ref t ∧ _ = some (HO.tup [.int y1, .int y2, .int y3]) from ⟨t', rfl, by rw [upd_ne nmt, upd_same]; rfl⟩)
    have stay : learn1 (slotOf S p) p g = slotOf S p → Q (.ref m') (upd H m' (.lst ys)) := fun e => by
      refine c m' ys _ hm' upd_same ?_ s0
      rw [learnS_same hn e]
      exact R.mono (Tups.of s0)
    have ho : Ok1 (slotOf S p) := hok _ _ (slot_at hn p)
    refine ⟨_, rfl, _, rfl, m, _, rfl, .inl (SqL.of (s0 _ _ hm)), _, _, rfl, rfl, hxl, ?_⟩
    refine ⟨_, rfl, _, rfl, m, _, _, v, rfl, rfl, SqL.of (s0 _ _ hm), hat, ?_⟩
    generalize slotOf S p = o at rv put stay ho
    cases o with
    | none =>
      have e : v = .non := rv
      subst e
      refine ⟨_, rfl, rfl, true, rfl, iteT ?_⟩
      refine iteT ?_
      refine ⟨_, rfl, _, rfl, _, _, rfl, rfl, rfl, _, rfl, ?_⟩
      by_cases hp : g = p + 1
      · refine iteNS (by rw [hp]) ?_
        exact ⟨_, rfl, stay (show (if g = p + 1 then none else some (p, g, 2)) = none from if_pos hp)⟩
      · have ed : decide (V.int g = V.int (p + 1)) = false := decide_eq_false (fun y => hp (V.int.inj y))
        rw [ed]
        refine iteT ?_
        refine ⟨_, rfl, _, rfl, (by show 3 ≤ sizeLine; decide), fun t' h' => ?_⟩
        refine ⟨_, rfl, _, rfl, m', ys, _, _, rfl, rfl, same_new h' _ _ upd_same, hix, _, rfl, ?_⟩
        exact put _ t' (p, g, 2) (Same.refl _) h' (show (if g = p + 1 then none else some (p, g, 2)) = some (p, g, 2) from if_neg hp)
    | some z =>
      obtain ⟨q, k, s⟩ := z
      obtain ⟨t, e, ht0⟩ := (show ∃ t, v = .ref t ∧ H t = some (.tup [.int q, .int k, .int s]) from rv)
      have hs : 0 ≤ s ∧ s ≤ 3 := ho
      have ht := s0 _ _ ht0
      subst e
      refine ⟨_, rfl, rfl, false, rfl, iteF ?_⟩
      refine ⟨_, rfl, t, _, _, _, rfl, rfl, SqT.of ht, at_of (j := 0) rfl rfl, _, rfl, rfl, _, rfl, ?_⟩
      by_cases hq : q = p
      · refine iteNS (by rw [hq]) ?_
        subst hq
        have el : learn1 (some (q, k, s)) q g = some (turn1 q k s g) := (show (if q = q then some (turn1 q k s g) else if g = q + 1 then some (q, k, s) else some (q, g, 2)) = some (turn1 q k s g) from if_pos rfl)
        refine ⟨_, rfl, t, _, _, _, rfl, rfl, SqT.of ht, at_of (j := 1) rfl rfl, _, rfl, rfl, _, rfl, ?_⟩
        by_cases hk : k = g
        · have ed : decide (V.int k = V.int g) = true := decide_eq_true (by rw [hk])
          rw [ed]
          refine iteT ?_
          have e2 : turn1 q k s g = (q, g, up1 s) := by
            unfold turn1
            rw [if_pos hk.symm, hk]
          rw [e2] at el
          refine ⟨_, rfl, _, rfl, (by show 4 ≤ sizeLine; decide), fun r hr2 => ?_⟩
          have sr := same_new (o := .lst [V.int 1, V.int 2, V.int 3, V.int 3]) hr2
          refine ⟨_, rfl, t, _, _, _, rfl, rfl, SqT.of (sr _ _ ht), at_of (j := 2) rfl rfl, r, _, _, _, rfl, rfl, SqL.of upd_same, at_of (j := s.toNat) (by omega) (up_tab hs), (by show 3 ≤ sizeLine; decide), fun t' h' => ?_⟩
          refine ⟨_, rfl, _, rfl, m', ys, _, _, rfl, rfl, same_new h' _ _ (sr _ _ upd_same), hix, _, rfl, ?_⟩
          exact put _ t' (q, g, up1 s) sr h' el
        · have ed : decide (V.int k = V.int g) = false := decide_eq_false (fun y => hk (V.int.inj y))
          rw [ed]
          refine iteF ?_
          refine ⟨_, rfl, _, rfl, _, _, rfl, rfl, rfl, _, rfl, ?_⟩
          by_cases hp : g = q + 1
          · have ed : decide (V.int g = V.int (q + 1)) = true := decide_eq_true (by rw [hp])
            rw [ed]
            refine iteT ?_
            have e2 : turn1 q k s g = (q, k, down1 s) := by
              unfold turn1
              rw [if_neg (fun y => hk y.symm), if_pos hp]
            rw [e2] at el
            refine ⟨_, rfl, _, rfl, t, _, _, _, rfl, rfl, SqT.of ht, at_of (j := 1) rfl rfl, (by show 4 ≤ sizeLine; decide), fun r hr2 => ?_⟩
            have sr := same_new (o := .lst [V.int 0, V.int 0, V.int 1, V.int 2]) hr2
            refine ⟨_, rfl, t, _, _, _, rfl, rfl, SqT.of (sr _ _ ht), at_of (j := 2) rfl rfl, r, _, _, _, rfl, rfl, SqL.of upd_same, at_of (j := s.toNat) (by omega) (down_tab hs), (by show 3 ≤ sizeLine; decide), fun t' h' => ?_⟩
            refine ⟨_, rfl, _, rfl, m', ys, _, _, rfl, rfl, same_new h' _ _ (sr _ _ upd_same), hix, _, rfl, ?_⟩
            exact put _ t' (q, k, down1 s) sr h' el
          · have ed : decide (V.int g = V.int (q + 1)) = false := decide_eq_false (fun y => hp (V.int.inj y))
            rw [ed]
            refine iteF ?_
            have e2 : turn1 q k s g = (q, g, 2) := by
              unfold turn1
              rw [if_neg (fun y => hk y.symm), if_neg hp]
            rw [e2] at el
            refine ⟨_, rfl, _, rfl, (by show 3 ≤ sizeLine; decide), fun t' h' => ?_⟩
            refine ⟨_, rfl, _, rfl, m', ys, _, _, rfl, rfl, same_new h' _ _ upd_same, hix, _, rfl, ?_⟩
            exact put _ t' (q, g, 2) (Same.refl _) h' el
      · have ed : decide (V.int q = V.int p) = false := decide_eq_false (fun y => hq (V.int.inj y))
        rw [ed]
        refine iteT ?_
        have el : learn1 (some (q, k, s)) p g = if g = p + 1 then some (q, k, s) else some (p, g, 2) :=
          (show (if q = p then some (turn1 q k s g) else if g = p + 1 then some (q, k, s) else some (p, g, 2)) = if g = p + 1 then some (q, k, s) else some (p, g, 2) from if_neg hq)
        refine ⟨_, rfl, _, rfl, _, _, rfl, rfl, rfl, _, rfl, ?_⟩
        by_cases hp : g = p + 1
        · refine iteNS (by rw [hp]) ?_
          rw [if_pos hp] at el
          exact ⟨_, rfl, stay el⟩
        · have ed : decide (V.int g = V.int (p + 1)) = false := decide_eq_false (fun y => hp (V.int.inj y))
          rw [ed]
          refine iteT ?_
          rw [if_neg hp] at el
          refine ⟨_, rfl, _, rfl, (by show 3 ≤ sizeLine; decide), fun t' h' => ?_⟩
          refine ⟨_, rfl, _, rfl, m', ys, _, _, rfl, rfl, same_new h' _ _ upd_same, hix, _, rfl, ?_⟩
          exact put _ t' (p, g, 2) (Same.refl _) h' el
end
end K53
/-! The law's look at all slots. -/
namespace K53
open PySem L2
theorem ints3 {a b c : Int} {j : Nat} {x : V} (h : ([V.int a, V.int b, V.int c] : List V)[j]? = some x) : ∃ n, x = V.int n := by
  match j, h with
  | 0, h => exact ⟨a, (Option.some.inj h).symm⟩
  | 1, h => exact ⟨b, (Option.some.inj h).symm⟩
  | 2, h => exact ⟨c, (Option.some.inj h).symm⟩
  | j + 3, h => simp at h
section
variable {P : Program} {w : World} {K : PySem.W.Frag} {mg : Str → Option Value} {base : Heap}
theorem scK : FnScope ["_law_guesses", "_law_slots", "_law_found", "_law_slot", "_law_one"] ["_law_guesses", "_law_slots"] (defScope sKept) := ⟨rfl, rfl, rfl, by decide +kernel, rfl, by decide +kernel, by decide +kernel⟩
theorem ok_kept {f fS C : Addr} {fd fdS : FuncData} (F : Fun K "_law_kept" "_law_kept" sKept f fd) (T : Txt K mg C) (FS : Fun K "slots" "Guesses.slots" sSlots fS fdS) (bS : Binds K fdS ["self"] []) (mS : Meth K C "slots" fS) :
    FnOk P w K mg base CX0 2 f fd ["_law_guesses", "_law_slots"] (spKept C) := by
  have GS : FnOk P w K mg base CX0 1 fS fdS ["self"] (spSlots C) := ok_slots FS T
  refine F.ok scK (fun vs H Q E h => ?_) (fun cdv A outer s H vs Q E hr h => ?_)
  · obtain ⟨x, l, m, xs, ys, S, rfl, _⟩ := h
    rfl
  · obtain ⟨x, l, m, xs, ys, S, rfl, G, hm, Ry, c⟩ := h
    obtain ⟨⟨dx, h1⟩, hl, R⟩ := id G
    refine ⟨_, pss_cons (ps_set (i := 2) scK.nd rfl (.inl rfl) (pe_meth0 (pv 0) T.cl mS GS hr bS .nil pass0))
      (pss_cons (ps_if (PW.pt (pw_or (pt_not (pt_val (pe_callB call_isi (by rfl) T.isi (by decide +kernel) (pa_cons (pv 2) (pa_cons (pe_bltn (v := .ty "tuple") (u := .type "tuple") (by rfl) T.tuple (by decide +kernel) rfl) pa_nil)))))
          (pw_or1 (pt_cmpR (op_neD hr.units) (pe_callTy call_list_of (by rfl) T.list (by decide +kernel) (pa_cons (pv 2) pa_nil)) (pv 1) (nomark _))))) (pss_one (ps_ret pe_bl)) pss_nil)
      (pss_cons (ps_for PassesOwn.never rfl (pi_tup (pv 2)) (pg_name (i := 3) scK.nd rfl (.inl rfl))
        (pss_cons (ps_if (PW.pt (pw_and (pt_cmpR op_notN (pv 3) pe_non (nomark _)) (pw_and1 (pt_not (pt_val (pe_callB call_isi (by rfl) T.isi (by decide +kernel) (pa_cons (pv 3) (pa_cons (pe_bltn (v := .ty "tuple") (u := .type "tuple") (by rfl) T.tuple (by decide +kernel) rfl) pa_nil))))))))
          (pss_one (ps_ret pe_bl)) pss_nil)
        (pss_one (ps_if (PW.pt (pw_and (pt_cmpR op_notN (pv 3) pe_non (nomark _)) (pw_and1 (pt_cmpR (op_neD hr.units)
            (pe_lc (own := [("_law_one", 4)]) (g := gName 4) (tt := tB (tCB (rIsi K) (tCons (tVar 4) (tCons (tC (.ty "bool")) tNil)))) (te := tVar 4) rfl scK.nd (pi_tup (pv 3)) (blkOk_by (own := [("_law_one", 4)]) (N := ["_law_guesses", "_law_slots", "_law_found", "_law_slot", "_law_one"]) (sc := defScope sKept) (by decide +kernel))
              (fun _ _ _ _ _ => pg_name (i := 4) scK.nd rfl (Or.inl rfl))
              (fun _ _ _ _ _ => pts_one (pt_val (pe_callB (id := "isinstance") call_isi (by rfl) T.isi (by decide +kernel) (pa_cons (pv 4) (pa_cons (pe_bltn (v := .ty "bool") (u := .type "bool") (by rfl) T.bool (by decide +kernel) rfl) pa_nil)))))
              (fun _ _ _ _ _ => pv 4))
            (pe_lst pa_nil) (nomark _))))) (pss_one (ps_ret pe_bl)) pss_nil))))
      (pss_one (ps_ret pe_bl)))), ?_⟩
    refine ⟨_, rfl, x, dx, _, rfl, h1, kf_no _ (by decide +kernel), x, l, xs, S, rfl, G, fun t ht => ?_⟩
    have s1 : Same H (upd H t (.tup xs)) := same_new ht
    refine ⟨_, rfl, _, _, _, _, true, rfl, .ty "tuple", .base (.tup upd_same), kit_ty (by decide +kernel), true, rfl, iteF ?_⟩
    refine ⟨_, rfl, t, _, rfl, .inr (SqT.of upd_same), fun q hq => ?_⟩
    have s2 : Same H (upd (upd H t (.tup xs)) q (.lst xs)) := s1.trans (same_new hq)
    refine ⟨_, rfl, .list (S.map dat1), .list (S.map dat1), .lst (SqL.of upd_same) (R.mono (Tups.of s2)).dats, .lst (SqL.of (s2 _ _ hm)) (Ry.mono (Tups.of s2)).dats, shaped_slots S, shaped_slots S, false, ?_, iteF ?_⟩
    · rw [eqv_slots]
      rfl
    have ht2 : (upd (upd H t (.tup xs)) q (.lst xs)) t = some (.tup xs) := same_new hq _ _ upd_same
    refine ⟨_, rfl, t, rfl, ⟨_, SqT.of ht2⟩, for_tup (K := K) (a := t) (xs := xs) (fun i σ H2 => ∃ v3 : Option V, σ = [some (.ref x), some (.ref m), some (.ref t), v3, none] ∧ Same (upd (upd H t (.tup xs)) q (.lst xs)) H2)
      ⟨none, rfl, Same.refl _⟩ (fun i σ H2 _ ⟨_, _, s3⟩ => SqT.of (s3 _ _ ht2)) ?_ ?_⟩
    · rintro i y σ H2 hi ⟨v3, rfl, s3⟩
      obtain ⟨o, _, rv0⟩ := R.it i y hi
      have rv := rv0.mono (Tups.of (s2.trans s3))
      cases o with
      | none =>
        have e : y = .non := rv
        subst e
        refine ⟨_, rfl, rfl, false, rfl, iteF ?_⟩
        refine iteF ?_
        refine ⟨_, rfl, rfl, false, rfl, iteF ?_⟩
        refine iteF ?_
        exact ⟨_, rfl, s3⟩
      | some z =>
        obtain ⟨a, b, d⟩ := z
        obtain ⟨u, e, hu⟩ := (show ∃ u, y = .ref u ∧ H2 u = some (.tup [.int a, .int b, .int d]) from rv)
        subst e
        refine ⟨_, rfl, rfl, true, rfl, iteT ?_⟩
        refine ⟨_, rfl, _, _, _, _, true, rfl, .ty "tuple", .base (.tup hu), kit_ty (by decide +kernel), true, rfl, iteF ?_⟩
        refine ⟨_, rfl, rfl, true, rfl, iteT ?_⟩
        refine ⟨_, rfl, u, rfl, ⟨_, SqT.of hu⟩, fun D hD => lc_tup (K := K) (a := u) (xs := [.int a, .int b, .int d]) (fun _ H3 => Same H2 H3 ∧ H3 D = some (.lst [])) ⟨same_new hD, upd_same⟩ (fun j H3 _ ⟨s4, _⟩ => SqT.of (s4 _ _ hu)) ?_ ?_⟩
        · rintro j k H3 hj ⟨s4, hD3⟩
          obtain ⟨n, rfl⟩ := ints3 hj
          refine ⟨rfl, ?_⟩
          refine ⟨_, rfl, _, _, _, _, false, rfl, .ty "bool", .base (.int n), kit_ty (by decide +kernel), false, rfl, iteF ?_⟩
          exact ⟨s4, hD3⟩
        · rintro H3 ⟨s4, hD3⟩
          refine ⟨Nat.zero_le _, fun r hr2 => ?_⟩
          have s5 := same_new (o := .lst []) hr2
          refine ⟨.list [], .list [], .lst (SqL.of (s5 _ _ hD3)) .nil, .lst (SqL.of upd_same) .nil, rfl, rfl, false, rfl, iteF ?_⟩
          exact ⟨_, rfl, (s3.trans s4).trans s5⟩
    · rintro σ H2 ⟨v3, rfl, s3⟩
      exact c _ (s2.trans s3)
end
end K53
/-! The law. -/
namespace K53
open PySem L2
def spLaw (K : PySem.W.Frag) : Sp := fun vs H Q _ => ∃ (a : Addr) (ns : List Int), vs = [.ref a] ∧ SqL K H a (ns.map V.int) ∧ ns.length ≤ 63 ∧ ∀ H', Q (.bl true) H'
/-- between two turns: H0 the heap ahead of the law, H as it is now -/
structure Mid (C : Addr) (H0 H : Hp) (x l m : Addr) (n : Int) (xs ys : List V) (S : List Slot) : Prop where
  same : Same H0 H
  l0 : H0 l = none
  ob : GAt C H x l xs S
  hm : H m = some (.lst ys)
  ry : Rep H ys S
  ne : m ≠ l
  n0 : 0 < S.length
  n1 : n = ((S.length : Nat) : Int)
  ok : OkS S
theorem Mid.go {C : Addr} {H0 H H' : Hp} {x l m : Addr} {n : Int} {xs ys : List V} {S : List Slot} (M : Mid C H0 H x l m n xs ys S) (s : Same H H') : Mid C H0 H' x l m n xs ys S :=
  ⟨M.same.trans s, M.l0, M.ob.same s, s _ _ M.hm, M.ry.mono (Tups.of s), M.ne, M.n0, M.n1, M.ok⟩
/-- behind a new instance -/
theorem same_made {H : Hp} {x dx C : Addr} (nx : H x = none) (ndx : H dx = none) (nex : dx ≠ x) : Same H (upd (upd H dx (.own x)) x (.ins C dx [])) :=
  (same_new ndx).trans (same_new (by rw [upd_ne nex.symm]; exact nx))
section
variable {P : Program} {w : World} {K : PySem.W.Frag} {mg : Str → Option Value} {base : Heap}
theorem scW : FnScope ["_law_script", "_law_size", "_law_guesses", "_law_slots", "_law_place", "_law_k", "_law_more", "_law_goal", "_law_found"] ["_law_script"] (defScope sLaw) := ⟨rfl, rfl, rfl, by decide +kernel, rfl, by decide +kernel, by decide +kernel⟩
theorem ok_law {f C fI fG fL fS fT fC fLG fLL fP fO fK : Addr} {fd fdI fdG fdL fdS fdT fdC fdLG fdLL fdP fdO fdK : FuncData} {ds : List Value} (F : Fun K "law" "law" sLaw f fd) (T : Txt K mg C)
    (M : Mk K C fI) (FI : FunD K "__init__" "Guesses.__init__" (defArgs sInit) (defBody sInit) (defScope sInit) [.int 8] [] fI fdI) (bI : Binds K fdI ["self", "size"] []) (vI : Vals [.int 8] ds) (bI8 : Binds K fdI ["self", "size"] ds)
    (FG : Fun K "guess" "Guesses.guess" sGuess fG fdG) (bG : Binds K fdG ["self", "place"] []) (mG : Meth K C "guess" fG)
    (FL : Fun K "learn" "Guesses.learn" sLearn fL fdL) (bL : Binds K fdL ["self", "place", "goal"] []) (mL : Meth K C "learn" fL)
    (FS : Fun K "slots" "Guesses.slots" sSlots fS fdS) (bS : Binds K fdS ["self"] []) (mS : Meth K C "slots" fS)
    (FT : Fun K "learnt" "learnt" sLearnt fT fdT) (bT : Binds K fdT ["slot", "goal"] []) (mT : mg "learnt" = some (.ref fT))
    (FC : Fun K "_law_cell" "_law_cell" sCell fC fdC) (bC : Binds K fdC ["_law_script", "_law_k"] []) (mC : mg "_law_cell" = some (.ref fC))
    (FLG : Fun K "_law_guess" "_law_guess" sLGuess fLG fdLG) (bLG : Binds K fdLG ["_law_slots", "_law_place"] []) (mLG : mg "_law_guess" = some (.ref fLG))
    (FLL : Fun K "_law_learnt" "_law_learnt" sLLearnt fLL fdLL) (bLL : Binds K fdLL ["_law_slots", "_law_place", "_law_goal"] []) (mLL : mg "_law_learnt" = some (.ref fLL))
    (FP : Fun K "_law_place_by" "_law_place_by" sPlace fP fdP) (bP : Binds K fdP ["_law_cell_here"] []) (mP : mg "_law_place_by" = some (.ref fP))
    (FO : Fun K "_law_goal_by" "_law_goal_by" sGoal fO fdO) (bO : Binds K fdO ["_law_cell_here", "_law_place"] []) (mO : mg "_law_goal_by" = some (.ref fO))
    (FK : Fun K "_law_kept" "_law_kept" sKept fK fdK) (bK : Binds K fdK ["_law_guesses", "_law_slots"] []) (mK : mg "_law_kept" = some (.ref fK)) :
    FnOk P w K mg base CX0 3 f fd ["_law_script"] (spLaw K) := by
  have GI : FnOk P w K mg base CX0 1 fI fdI ["self", "size"] (spInit C) := ok_init FI T
  have GG : FnOk P w K mg base CX0 1 fG fdG ["self", "place"] (spGuess C) := ok_guess FG T
  have GL : FnOk P w K mg base CX0 2 fL fdL ["self", "place", "goal"] (spLearn C) := ok_learn FL T FT bT mT
  have GC : FnOk P w K mg base CX0 1 fC fdC ["_law_script", "_law_k"] (spCell K) := ok_cell FC T
  have GLG : FnOk P w K mg base CX0 1 fLG fdLG ["_law_slots", "_law_place"] spLGuess := ok_lguess FLG T
  have GLL : FnOk P w K mg base CX0 1 fLL fdLL ["_law_slots", "_law_place", "_law_goal"] spLLearnt := ok_llearnt FLL T
  have GP : FnOk P w K mg base CX0 1 fP fdP ["_law_cell_here"] spPlace := ok_place FP T
  have GO : FnOk P w K mg base CX0 1 fO fdO ["_law_cell_here", "_law_place"] spGoal := ok_goal FO T
  have GK : FnOk P w K mg base CX0 2 fK fdK ["_law_guesses", "_law_slots"] (spKept C) := ok_kept FK T FS bS mS
  refine F.ok scW (fun vs H Q E h => ?_) (fun cdv A outer s H vs Q E hr h => ?_)
  · obtain ⟨a, ns, rfl, _⟩ := h
    rfl
  · obtain ⟨a, ns, rfl, hS, hlen, fin⟩ := h
    have hr1 : Room 1 _ := hr.mono (by decide)
    refine ⟨_, pss_cons (ps_set (i := 1) scW.nd rfl (.inl rfl) (pe_op op_add pe_int (pe_op op_mod (pe_call GC hr1 rfl mC FC.kp bC .nil pass0 (pa_cons (pv 0) (pa_cons pe_int pa_nil))) pe_int)))
      (pss_cons (ps_set (i := 2) scW.nd rfl (.inl rfl) (pe_make M GI hr rfl T.mgC bI .nil pass0 (pa_cons (pv 1) pa_nil)))
      (C8.pss_cut (ps_if (pt_cmpR op_eq (pe_op op_mod (pe_call GC hr1 rfl mC FC.kp bC .nil pass0 (pa_cons (pv 0) (pa_cons pe_int pa_nil))) pe_int) pe_int (nomark _))
        (pss_cons (ps_set (i := 1) scW.nd rfl (.inl rfl) pe_int) (pss_one (ps_set (i := 2) scW.nd rfl (.inl rfl) (pe_make0 M GI hr rfl T.mgC bI8 vI pass0)))) pss_nil)
      (pss_cons (ps_set (i := 3) scW.nd rfl (.inl rfl) (pe_op op_rep (pe_lst (pa_cons pe_non pa_nil)) (pv 1)))
      (pss_cons (ps_if (pt_not (pt_val (pe_call GK hr rfl mK FK.kp bK .nil pass0 (pa_cons (pv 2) (pa_cons (pv 3) pa_nil))))) (pss_one (ps_ret pe_bl)) pss_nil)
      (pss_cons (ps_set (i := 4) scW.nd rfl (.inl rfl) pe_int)
      (pss_cons (ps_for PassesOwn.never rfl (pi_range1 rfl T.range (pa_cons (pe_op op_add pe_int (pe_op op_mod (pe_call GC hr1 rfl mC FC.kp bC .nil pass0 (pa_cons (pv 0) (pa_cons pe_int pa_nil))) pe_int)) pa_nil)) (pg_name (i := 5) scW.nd rfl (.inl rfl))
        (pss_cons (ps_set (i := 6) scW.nd rfl (.inl rfl) (pe_call GC hr1 rfl mC FC.kp bC .nil pass0 (pa_cons (pv 0) (pa_cons (pe_op op_add pe_int (pv 5)) pa_nil))))
        (C8.pss_cut (ps_if (pt_cmpR op_ne (pe_op op_mod (pv 6) pe_int) pe_int (nomark _)) (pss_one (ps_set (i := 4) scW.nd rfl (.inl rfl) (pe_call GP hr1 rfl mP FP.kp bP .nil pass0 (pa_cons (pe_op op_fdiv (pv 6) pe_int) pa_nil)))) pss_nil)
        (pss_cons (ps_set (i := 7) scW.nd rfl (.inl rfl) (pe_call GO hr1 rfl mO FO.kp bO .nil pass0 (pa_cons (pe_op op_fdiv (pv 6) pe_int) (pa_cons (pv 4) pa_nil))))
        (C8.pss_cut (ps_if (PW.pt (pw_and (pt_cmpR op_eq (pe_op op_mod (pe_op op_fdiv (pv 6) pe_int) pe_int) pe_int (nomark _)) (pw_and1 (pt_cmpR op_notN (pe_ix ix_list (pv 3) (pe_op op_mod (pv 4) (pv 1)) (fun _ _ => rfl)) pe_non (nomark _)))))
          (pss_one (ps_set (i := 7) scW.nd rfl (.inl rfl) (pe_ix ix_tup (pe_ix ix_list (pv 3) (pe_op op_mod (pv 4) (pv 1)) (fun _ _ => rfl)) pe_int (fun _ _ => rfl)))) pss_nil)
        (C8.pss_cut (ps_if (PW.pt (pw_and (pt_cmpR op_eq (pe_op op_mod (pe_op op_fdiv (pv 6) pe_int) pe_int) pe_int (nomark _)) (pw_and1 (pt_cmpR op_ne (pe_meth (pv 2) T.cl mG GG hr1 bG .nil pass0 (pa_cons (pv 4) pa_nil)) (pe_call GLG hr1 rfl mLG FLG.kp bLG .nil pass0 (pa_cons (pv 3) (pa_cons (pv 4) pa_nil))) (nomark _)))))
          (pss_one (ps_ret pe_bl)) pss_nil)
        (pss_cons (ps_expr (pe_meth (pv 2) T.cl mL GL hr bL .nil pass0 (pa_cons (pv 4) (pa_cons (pv 7) pa_nil))))
        (pss_cons (ps_set (i := 3) scW.nd rfl (.inl rfl) (pe_call GLL hr1 rfl mLL FLL.kp bLL .nil pass0 (pa_cons (pv 3) (pa_cons (pv 4) (pa_cons (pv 7) pa_nil)))))
        (pss_cons (ps_set (i := 8) scW.nd rfl (.inl rfl) (pe_meth (pv 2) T.cl mG GG hr1 bG .nil pass0 (pa_cons (pv 4) pa_nil)))
        (pss_one (ps_if (PW.pt (pw_or (pt_val (pe_callB call_isi (by rfl) T.isi (by decide +kernel) (pa_cons (pv 8) (pa_cons (pe_bltn (v := .ty "bool") (u := .type "bool") (by rfl) T.bool (by decide +kernel) rfl) pa_nil))))
            (pw_or (pt_cmpR op_ne (pv 8) (pe_call GLG hr1 rfl mLG FLG.kp bLG .nil pass0 (pa_cons (pv 3) (pa_cons (pv 4) pa_nil))) (nomark _))
            (pw_or1 (pt_not (pt_val (pe_call GK hr rfl mK FK.kp bK .nil pass0 (pa_cons (pv 2) (pa_cons (pv 3) pa_nil)))))))))
          (pss_one (ps_ret pe_bl)) pss_nil)))))))))))
      (pss_cons (ps_for PassesOwn.never rfl (pi_range1 rfl T.range (pa_cons pe_int pa_nil)) (pg_name (i := 4) scW.nd rfl (.inl rfl))
        (pss_one (ps_if (pt_cmpR op_ne (pe_meth (pv 2) T.cl mG GG hr1 bG .nil pass0 (pa_cons (pv 4) pa_nil)) (pe_call GLG hr1 rfl mLG FLG.kp bLG .nil pass0 (pa_cons (pv 3) (pa_cons (pv 4) pa_nil))) (nomark _)) (pss_one (ps_ret pe_bl)) pss_nil)))
      (pss_one (ps_ret (pe_call GK hr rfl mK FK.kp bK .nil pass0 (pa_cons (pv 2) (pa_cons (pv 3) pa_nil)))))))))))), ?_⟩
    refine ⟨_, rfl, a, ns, 1, rfl, hS, hlen, fun c1 H1 _ _ s1 => ?_⟩
    refine ⟨_, _, rfl, rfl, (by show (0 : Int) < 16; decide), _, _, rfl, rfl, ?_⟩
    have z1 : 1 ≤ 1 + c1 % 16 := by omega
    have z2 : 1 + c1 % 16 ≤ 16 := by omega
    refine ⟨_, rfl, fun x dx nx ndx nex => ?_⟩
    refine ⟨x, dx, 1 + c1 % 16, rfl, upd_same, z1, z2, fun l H2 hl G2 kp => ⟨rfl, ?_⟩⟩
    have s2 : Same H H2 := s1.trans (Same.made nx ndx kp)
    have l0 : H l = none := (s1.trans (same_made nx ndx nex)).free hl
    refine ⟨fun σ' H' => ∃ (n : Int) (x l : Addr), σ' = [some (.ref a), some (.int n), some (.ref x), none, none, none, none, none, none] ∧ 1 ≤ n ∧ n ≤ 16 ∧ Same H H' ∧ H l = none ∧ GAt C H' x l (List.replicate n.toNat V.non) (List.replicate n.toNat none), ?_, ?_⟩
    · refine ⟨_, rfl, a, ns, 2, rfl, s2.seq hS, hlen, fun c2 H3 _ _ s3 => ?_⟩
      refine ⟨_, _, rfl, rfl, (by show (0 : Int) < 4; decide), rfl, _, rfl, ite2 (fun _ => ?_) (fun _ => ?_)⟩
      · intro x2 dx2 nx2 ndx2 nex2
        refine ⟨x2, dx2, 8, rfl, upd_same, by decide, by decide, fun l2 H4 hl2 G4 kp4 => ⟨rfl, ?_⟩⟩
        exact ⟨8, x2, l2, rfl, by decide, by decide, (s2.trans s3).trans (Same.made nx2 ndx2 kp4), ((s2.trans s3).trans (same_made nx2 ndx2 nex2)).free hl2, G4⟩
      · exact ⟨1 + c1 % 16, x, l, rfl, z1, z2, s2.trans s3, l0, G2.same s3⟩
    clear G2 kp l0 s2
    rintro σ' H4 ⟨n, x, l, rfl, n1, n16, s4, l0, G4⟩
    refine ⟨(by show 1 ≤ sizeLine; decide), fun q hq => ?_⟩
    refine ⟨_, rfl, q, n, _, rfl, rfl, upd_same, by omega, by omega, (by show 1 * n.toNat ≤ sizeLine; exact Nat.le_of_lt (small1000 (by omega))), fun m hm => ?_⟩
    have e1 : (List.replicate n.toNat [V.non]).flatten = List.replicate n.toNat V.non := List.flatten_replicate_singleton
    rw [e1]
    have s5 := same_new (o := .lst [V.non]) hq
    have s6 := same_new (o := .lst (List.replicate n.toNat V.non)) hm
    have M6 : Mid C H _ x l m n _ _ (List.replicate n.toNat none) := ⟨(s4.trans s5).trans s6, l0, G4.same (s5.trans s6), upd_same, Rep.fill _ _, fun q2 => by
        rw [q2] at hm
        exact absurd (s5 _ _ G4.ls) (by rw [hm]; intro q3; cases q3), by rw [List.length_replicate]; omega, by rw [List.length_replicate]; omega, ok_fill _⟩
    refine ⟨_, rfl, _, rfl, x, l, m, _, _, _, rfl, M6.ob, M6.hm, M6.ry, fun H7 s7 => ⟨true, rfl, iteF ?_⟩⟩
    have M7 := M6.go s7
    refine ⟨_, rfl, a, ns, 3, rfl, M7.same.seq hS, hlen, fun c3 H8 _ _ s8 => ?_⟩
    have M8 := M7.go s8
    refine ⟨_, _, rfl, rfl, (by show (0 : Int) < 40; decide), _, _, rfl, rfl, 12 + c3 % 40, rfl, by omega, by omega,
      for_range (lo := 0) (n := (12 + c3 % 40).toNat) (fun _ σ H' => ∃ (m : Addr) (xs ys : List V) (S : List Slot) (p : Int) (v5 v6 v7 v8 : Option V),
        σ = [some (.ref a), some (.int n), some (.ref x), some (.ref m), some (.int p), v5, v6, v7, v8] ∧ Mid C H H' x l m n xs ys S) ⟨m, _, _, _, 0, none, none, none, none, rfl, M8⟩ ?_ ?_⟩
    · rintro i σ H9 _ ⟨m, xs, ys, S, p, v5, v6, v7, v8, rfl, M9⟩
      refine ⟨_, rfl, _, rfl, _, _, rfl, rfl, a, ns, _, rfl, M9.same.seq hS, hlen, fun c H10 _ _ s10 => ?_⟩
      refine ⟨fun σ' H' => ∃ p' : Int, σ' = [some (.ref a), some (.int n), some (.ref x), some (.ref m), some (.int p'), some (.int (0 + i)), some (.int c), v7, v8] ∧ Same H10 H', ?_, ?_⟩
      · refine ⟨_, rfl, _, _, rfl, rfl, (by show (0 : Int) < 4; decide), rfl, _, rfl, ite2 (fun _ => ?_) (fun _ => ?_)⟩
        · exact ⟨_, rfl, _, _, rfl, rfl, ⟨by decide, by decide⟩, _, rfl, fun p' H11 s11 => ⟨p', rfl, s11⟩⟩
        · exact ⟨p, rfl, Same.refl _⟩
      rintro σ' H11 ⟨p, rfl, s11⟩
      refine ⟨_, rfl, _, _, rfl, rfl, ⟨by decide, by decide⟩, _, rfl, _, _, rfl, fun g H12 s12 => ?_⟩
      have M12 := M9.go ((s10.trans s11).trans s12)
      clear M9
      have hn : (0 : Int) < n := by
        have e := M12.n0
        have e2 := M12.n1
        omega
      obtain ⟨v, _, hat0, rv⟩ := M12.ry.at_ M12.n0 p
      have hat : atI ys (p % n) = some v := by
        rw [M12.ry.len, ← M12.n1] at hat0
        exact hat0
      refine ⟨fun σ' H' => ∃ g' : Int, σ' = [some (.ref a), some (.int n), some (.ref x), some (.ref m), some (.int p), some (.int (0 + i)), some (.int c), some (.int g'), v8] ∧ H' = H12, ?_, ?_⟩
      · refine ⟨_, rfl, _, _, rfl, rfl, ⟨by decide, by decide⟩, _, _, rfl, rfl, (by show (0 : Int) < 8; decide), rfl, _, rfl, ite2 (fun _ => ?_) (fun _ => ?_)⟩
        · generalize slotOf S p = o at rv
          cases o with
          | none =>
            have e : v = .non := rv
            subst e
            refine ⟨_, rfl, _, rfl, _, rfl, _, _, rfl, rfl, hn, m, _, _, V.non, rfl, rfl, SqL.of M12.hm, hat, rfl, false, rfl, iteF ?_⟩
            exact ⟨g, rfl, rfl⟩
          | some z =>
            obtain ⟨q, k, s⟩ := z
            obtain ⟨t, e, ht⟩ := (show ∃ t, v = .ref t ∧ H12 t = some (.tup [.int q, .int k, .int s]) from rv)
            subst e
            refine ⟨_, rfl, _, rfl, _, rfl, _, _, rfl, rfl, hn, m, _, _, V.ref t, rfl, rfl, SqL.of M12.hm, hat, rfl, true, rfl, iteT ?_⟩
            refine ⟨_, rfl, _, rfl, _, rfl, _, _, rfl, rfl, hn, m, _, _, V.ref t, rfl, rfl, SqL.of M12.hm, hat, t, _, _, _, rfl, rfl, SqT.of ht, at_of (j := 1) rfl rfl, ?_⟩
            exact ⟨k, rfl, rfl⟩
        · refine iteF ?_
          exact ⟨g, rfl, rfl⟩
      rintro σ' H13 ⟨g, rfl, rfl⟩
      obtain ⟨dx, h1⟩ := M12.ob.ob
      have noG : (kf l).lookup ("guess" : Str) = none := kf_no _ (by decide +kernel)
      have noL : (kf l).lookup ("learn" : Str) = none := kf_no _ (by decide +kernel)
      refine ⟨fun σ' H' => σ' = [some (.ref a), some (.int n), some (.ref x), some (.ref m), some (.int p), some (.int (0 + i)), some (.int c), some (.int g), v8] ∧ H' = H13, ?_, ?_⟩
      · refine ⟨_, rfl, _, _, rfl, rfl, ⟨by decide, by decide⟩, _, _, rfl, rfl, (by show (0 : Int) < 2; decide), rfl, _, rfl, ite2 (fun _ => ?_) (fun _ => ?_)⟩
        · refine ⟨_, rfl, x, dx, _, rfl, h1, noG, _, rfl, x, l, p, xs, S, rfl, M12.ob, M12.n0, _, rfl, _, rfl, m, p, ys, S, rfl, M12.hm, M12.ry, M12.n0, rfl, _, rfl, iteNS rfl ?_⟩
          exact ⟨rfl, rfl⟩
        · refine iteF ?_
          exact ⟨rfl, rfl⟩
      rintro σ' H14 ⟨rfl, rfl⟩
      refine ⟨_, rfl, x, dx, _, rfl, h1, noL, _, rfl, _, rfl, x, l, p, g, xs, S, rfl, M12.ob, M12.n0, fun xs' H15 G15 kp => ?_⟩
      have tp := Tups.but M12.ob.ls kp
      have hm15 : H15 m = some (.lst ys) := kp m _ M12.hm M12.ne
      have s15 : Same H H15 := fun b o e => kp b o (M12.same b o e) (ne_of_none e M12.l0)
      refine ⟨_, rfl, _, rfl, _, rfl, m, p, g, ys, S, rfl, hm15, M12.ry.mono tp, M12.n0, M12.ok, fun m' ys' H16 fm hm16 ry16 s16 => ?_⟩
      have M16 : Mid C H H16 x l m' n xs' ys' (learnS S p g) := ⟨s15.trans s16, M12.l0, G15.same s16, hm16, ry16, (fun q => by
          rw [q, G15.ls] at fm
          cases fm), by rw [learnS_len]; exact M12.n0, by rw [learnS_len]; exact M12.n1, ok_learnS M12.ok M12.n0 p g⟩
      obtain ⟨dx', h1'⟩ := M16.ob.ob
      refine ⟨_, rfl, x, dx', _, rfl, h1', noG, _, rfl, x, l, p, xs', _, rfl, M16.ob, M16.n0, ?_⟩
      refine ⟨_, rfl, _, _, _, _, false, rfl, .ty "bool", .base (.int _), kit_ty (by decide +kernel), false, rfl, iteF ?_⟩
      refine ⟨_, rfl, _, rfl, _, rfl, m', p, ys', _, rfl, M16.hm, M16.ry, M16.n0, rfl, _, rfl, iteNS rfl ?_⟩
      refine ⟨_, rfl, _, rfl, x, l, m', xs', ys', _, rfl, M16.ob, M16.hm, M16.ry, fun H17 s17 => ⟨true, rfl, iteF ?_⟩⟩
      exact ⟨m', xs', ys', _, p, _, _, _, _, rfl, M16.go s17⟩
    · rintro σ H9 ⟨m, xs, ys, S, p, v5, v6, v7, v8, rfl, M9⟩
      obtain ⟨dx, h1⟩ := M9.ob.ob
      have noG : (kf l).lookup ("guess" : Str) = none := kf_no _ (by decide +kernel)
      refine ⟨40, rfl, by decide, by decide, for_range (lo := 0) (n := 40) (fun _ σ H' => ∃ (v4 : Option V), σ = [some (.ref a), some (.int n), some (.ref x), some (.ref m), v4, v5, v6, v7, v8] ∧ H' = H9) ⟨_, rfl, rfl⟩ ?_ ?_⟩
      · rintro i σ H10 _ ⟨v4, rfl, rfl⟩
        refine ⟨_, rfl, x, dx, _, rfl, h1, noG, _, rfl, x, l, _, xs, S, rfl, M9.ob, M9.n0, _, rfl, _, rfl, m, _, ys, S, rfl, M9.hm, M9.ry, M9.n0, rfl, _, rfl, iteNS rfl ?_⟩
        exact ⟨_, rfl, rfl⟩
      · rintro σ H10 ⟨v4, rfl, rfl⟩
        exact ⟨_, rfl, _, rfl, x, l, m, xs, ys, S, rfl, M9.ob, M9.hm, M9.ry, fun H' _ => fin H'⟩
end
end K53
/-! What the top has written, and the law's head. -/
namespace K53
open PySem L2
theorem all_mk {l : PySem.W.OpenLaw} {w : World} {K : PySem.W.Frag} {h : Heap} {mg : Str → Option Value} {fa C f1 f2 f3 f4 f5 f6 f7 f8 f9 f10 f11 f12 dT : Addr} (X : K.In h) (G : h.Ns mainGlobals mg) (hfa : mg "law" = some (.ref fa))
    {od1 an1 od2 an2 od3 an3 od4 an4 od5 an5 od6 an6 od7 an7 od8 an8 od9 an9 od10 an10 od11 an11 od12 an12 odT : Option Addr} {sl1 sl2 sl3 sl4 sl5 sl6 sl7 sl8 sl9 sl10 sl11 sl12 slT : Array (Option Value)} {oc1 kV1 dc1 pm1 cd1 ct1 oc2 kV2 dc2 pm2 cd2 ct2 oc3 kV3 dc3 pm3 cd3 ct3 oc4 kV4 dc4 pm4 cd4 ct4 oc5 kV5 dc5 pm5 cd5 ct5 oc6 kV6 dc6 pm6 cd6 ct6 oc7 kV7 dc7 pm7 cd7 ct7 oc8 kV8 dc8 pm8 cd8 ct8 oc9 kV9 dc9 pm9 cd9 ct9 oc10 kV10 dc10 pm10 cd10 ct10 oc11 kV11 dc11 pm11 cd11 ct11 oc12 kV12 dc12 pm12 cd12 ct12 ocT : Value} {t8 tM tS tT : Tok} {nT : Nat}
    (aC : PySem.W.nsIn K mainGlobals "Guesses" = some (some (.ref C)))
    (a1 : PySem.W.findIn K (.ref C) "__init__" = some (some (.ref f1))) (i1 : PySem.W.isFn K (.ref f1) = true)
    (l1 : K.lookup f1 = some ⟨oc1, od1, .func (PySem.W.fnOf "__init__" "Guesses.__init__" (defArgs sInit) (defBody sInit) (defScope sInit) (.ref dT) kV1 dc1 pm1 an1 cd1 ct1), sl1⟩) (c1 : PySem.W.codeIn K cd1 "Guesses.__init__" = true) (k1 : PySem.W.keepIn K (.ref f1) = true)
    (a2 : PySem.W.findIn K (.ref C) "guess" = some (some (.ref f2))) (i2 : PySem.W.isFn K (.ref f2) = true)
    (l2 : K.lookup f2 = some ⟨oc2, od2, .func (PySem.W.fnOf "guess" "Guesses.guess" (defArgs sGuess) (defBody sGuess) (defScope sGuess) .none kV2 dc2 pm2 an2 cd2 ct2), sl2⟩) (c2 : PySem.W.codeIn K cd2 "Guesses.guess" = true) (k2 : PySem.W.keepIn K (.ref f2) = true)
    (a3 : PySem.W.findIn K (.ref C) "learn" = some (some (.ref f3))) (i3 : PySem.W.isFn K (.ref f3) = true)
    (l3 : K.lookup f3 = some ⟨oc3, od3, .func (PySem.W.fnOf "learn" "Guesses.learn" (defArgs sLearn) (defBody sLearn) (defScope sLearn) .none kV3 dc3 pm3 an3 cd3 ct3), sl3⟩) (c3 : PySem.W.codeIn K cd3 "Guesses.learn" = true) (k3 : PySem.W.keepIn K (.ref f3) = true)
    (a4 : PySem.W.findIn K (.ref C) "slots" = some (some (.ref f4))) (i4 : PySem.W.isFn K (.ref f4) = true)
    (l4 : K.lookup f4 = some ⟨oc4, od4, .func (PySem.W.fnOf "slots" "Guesses.slots" (defArgs sSlots) (defBody sSlots) (defScope sSlots) .none kV4 dc4 pm4 an4 cd4 ct4), sl4⟩) (c4 : PySem.W.codeIn K cd4 "Guesses.slots" = true) (k4 : PySem.W.keepIn K (.ref f4) = true)
    (a5 : PySem.W.nsIn K mainGlobals "learnt" = some (some (.ref f5)))
    (l5 : K.lookup f5 = some ⟨oc5, od5, .func (PySem.W.fnOf "learnt" "learnt" (defArgs sLearnt) (defBody sLearnt) (defScope sLearnt) .none kV5 dc5 pm5 an5 cd5 ct5), sl5⟩) (c5 : PySem.W.codeIn K cd5 "learnt" = true) (k5 : PySem.W.keepIn K (.ref f5) = true)
    (a6 : PySem.W.nsIn K mainGlobals "_law_cell" = some (some (.ref f6)))
    (l6 : K.lookup f6 = some ⟨oc6, od6, .func (PySem.W.fnOf "_law_cell" "_law_cell" (defArgs sCell) (defBody sCell) (defScope sCell) .none kV6 dc6 pm6 an6 cd6 ct6), sl6⟩) (c6 : PySem.W.codeIn K cd6 "_law_cell" = true) (k6 : PySem.W.keepIn K (.ref f6) = true)
    (a7 : PySem.W.nsIn K mainGlobals "_law_guess" = some (some (.ref f7)))
    (l7 : K.lookup f7 = some ⟨oc7, od7, .func (PySem.W.fnOf "_law_guess" "_law_guess" (defArgs sLGuess) (defBody sLGuess) (defScope sLGuess) .none kV7 dc7 pm7 an7 cd7 ct7), sl7⟩) (c7 : PySem.W.codeIn K cd7 "_law_guess" = true) (k7 : PySem.W.keepIn K (.ref f7) = true)
    (a8 : PySem.W.nsIn K mainGlobals "_law_learnt" = some (some (.ref f8)))
    (l8 : K.lookup f8 = some ⟨oc8, od8, .func (PySem.W.fnOf "_law_learnt" "_law_learnt" (defArgs sLLearnt) (defBody sLLearnt) (defScope sLLearnt) .none kV8 dc8 pm8 an8 cd8 ct8), sl8⟩) (c8 : PySem.W.codeIn K cd8 "_law_learnt" = true) (k8 : PySem.W.keepIn K (.ref f8) = true)
    (a9 : PySem.W.nsIn K mainGlobals "_law_place_by" = some (some (.ref f9)))
    (l9 : K.lookup f9 = some ⟨oc9, od9, .func (PySem.W.fnOf "_law_place_by" "_law_place_by" (defArgs sPlace) (defBody sPlace) (defScope sPlace) .none kV9 dc9 pm9 an9 cd9 ct9), sl9⟩) (c9 : PySem.W.codeIn K cd9 "_law_place_by" = true) (k9 : PySem.W.keepIn K (.ref f9) = true)
    (a10 : PySem.W.nsIn K mainGlobals "_law_goal_by" = some (some (.ref f10)))
    (l10 : K.lookup f10 = some ⟨oc10, od10, .func (PySem.W.fnOf "_law_goal_by" "_law_goal_by" (defArgs sGoal) (defBody sGoal) (defScope sGoal) .none kV10 dc10 pm10 an10 cd10 ct10), sl10⟩) (c10 : PySem.W.codeIn K cd10 "_law_goal_by" = true) (k10 : PySem.W.keepIn K (.ref f10) = true)
    (a11 : PySem.W.nsIn K mainGlobals "_law_kept" = some (some (.ref f11)))
    (l11 : K.lookup f11 = some ⟨oc11, od11, .func (PySem.W.fnOf "_law_kept" "_law_kept" (defArgs sKept) (defBody sKept) (defScope sKept) .none kV11 dc11 pm11 an11 cd11 ct11), sl11⟩) (c11 : PySem.W.codeIn K cd11 "_law_kept" = true) (k11 : PySem.W.keepIn K (.ref f11) = true)
    (a12 : PySem.W.nsIn K mainGlobals "law" = some (some (.ref f12)))
    (l12 : K.lookup f12 = some ⟨oc12, od12, .func (PySem.W.fnOf "law" "law" (defArgs sLaw) (defBody sLaw) (defScope sLaw) .none kV12 dc12 pm12 an12 cd12 ct12), sl12⟩) (c12 : PySem.W.codeIn K cd12 "law" = true) (k12 : PySem.W.keepIn K (.ref f12) = true)
    (lT : K.lookup dT = some ⟨ocT, odT, .seq #[.int 8 t8] nT, slT⟩)
    (pg : PySem.W.plainGet K C Str.empty = true) (hd : PySem.W.hasDictIn K C = true) (po : PySem.W.plainOver K C = true) (sa : PySem.W.findIn K (.ref C) "__setattr__" = some (some (.builtin "object.__setattr__"))) (mk : PySem.W.makesIn K C = true) (kc : PySem.W.keepIn K (.ref C) = true)
    (nK : PySem.W.findIn K (.ref C) "kept" = some none)
    (z_isinstance : PySem.W.nsIn K mainGlobals "isinstance" = some none)
    (z_int : PySem.W.nsIn K mainGlobals "int" = some none)
    (z_bool : PySem.W.nsIn K mainGlobals "bool" = some none)
    (z_len : PySem.W.nsIn K mainGlobals "len" = some none)
    (z_tuple : PySem.W.nsIn K mainGlobals "tuple" = some none)
    (z_list : PySem.W.nsIn K mainGlobals "list" = some none)
    (z_min : PySem.W.nsIn K mainGlobals "min" = some none)
    (z_max : PySem.W.nsIn K mainGlobals "max" = some none)
    (z_range : PySem.W.nsIn K mainGlobals "range" = some none)
    (g_MOST_SIZE : PySem.W.nsIn K mainGlobals "MOST_SIZE" = some (some (.int 16 tM)))
    (g_SURE : PySem.W.nsIn K mainGlobals "SURE" = some (some (.int 2 tS)))
    (g_SUREST : PySem.W.nsIn K mainGlobals "SUREST" = some (some (.int 3 tT)))
    : ∃ fd : FuncData, (∀ (s : Shared) (v : Value), BindsTo s fd ⟨[v], []⟩ [("_law_script", v)]) ∧ ∀ base : Heap, K.In base → base.Ns mainGlobals mg → FnOk l.prog w K mg base CX0 3 fa fd ["_law_script"] (spLaw K) := by
  have e := hfa.symm.trans (PySem.W.mg_of X G a12)
  cases e
  have T : Txt K mg C := ⟨⟨pg, hd, po, sa⟩, nK, PySem.W.mg_of X G aC, PySem.W.mg_none_of X G z_isinstance, PySem.W.mg_none_of X G z_int, PySem.W.mg_none_of X G z_bool, PySem.W.mg_none_of X G z_len, PySem.W.mg_none_of X G z_tuple, PySem.W.mg_none_of X G z_list, PySem.W.mg_none_of X G z_min, PySem.W.mg_none_of X G z_max, PySem.W.mg_none_of X G z_range, ⟨_, PySem.W.mg_of X G g_MOST_SIZE⟩, ⟨_, PySem.W.mg_of X G g_SURE⟩, ⟨_, PySem.W.mg_of X G g_SUREST⟩⟩
  have F1 : FunD K "__init__" "Guesses.__init__" (defArgs sInit) (defBody sInit) (defScope sInit) [.int 8] [] f1 _ :=
    ⟨⟨oc1, od1, .ref dT, kV1, dc1, pm1, an1, cd1, ct1, sl1, rfl, l1, c1, .inr ⟨List.cons_ne_nil _ _, dT, _, [.int 8 t8], nT, rfl, lT, rfl, .cons ⟨t8, rfl⟩ .nil⟩, .inl rfl⟩, k1⟩
  obtain ⟨d1, r1, b1⟩ := F1.binds1 (ps := ["self", "size"]) 2 1 (List.cons_ne_nil _ _) rfl fun _ _ _ _ _ _ _ us its hu hi => match us, its, hu, hi with | [_, _], [_], _, _ => ⟨_, rfl, rfl⟩
  obtain ⟨d8, r8, b0⟩ := F1.binds1 (ps := ["self", "size"]) 1 0 (List.cons_ne_nil _ _) rfl fun _ _ _ _ _ _ _ us its hu hi => match us, its, hu, hi with | [_], [_], _, _ => ⟨_, rfl, rfl⟩
  have e1 : d1 = [] := by
    cases r1
    rfl
  subst e1
  have F2 := fun_mk (st := sGuess) l2 c2 k2
  have F3 := fun_mk (st := sLearn) l3 c3 k3
  have F4 := fun_mk (st := sSlots) l4 c4 k4
  have F5 := fun_mk (st := sLearnt) l5 c5 k5
  have F6 := fun_mk (st := sCell) l6 c6 k6
  have F7 := fun_mk (st := sLGuess) l7 c7 k7
  have F8 := fun_mk (st := sLLearnt) l8 c8 k8
  have F9 := fun_mk (st := sPlace) l9 c9 k9
  have F10 := fun_mk (st := sGoal) l10 c10 k10
  have F11 := fun_mk (st := sKept) l11 c11 k11
  have F12 := fun_mk (st := sLaw) l12 c12 k12
  have b2 := F2.binds (ps := ["self", "place"]) fun _ _ _ _ _ _ us hl => match us, hl with | [_, _], _ => rfl
  have b3 := F3.binds (ps := ["self", "place", "goal"]) fun _ _ _ _ _ _ us hl => match us, hl with | [_, _, _], _ => rfl
  have b4 := F4.binds (ps := ["self"]) fun _ _ _ _ _ _ us hl => match us, hl with | [_], _ => rfl
  have b5 := F5.binds (ps := ["slot", "goal"]) fun _ _ _ _ _ _ us hl => match us, hl with | [_, _], _ => rfl
  have b6 := F6.binds (ps := ["_law_script", "_law_k"]) fun _ _ _ _ _ _ us hl => match us, hl with | [_, _], _ => rfl
  have b7 := F7.binds (ps := ["_law_slots", "_law_place"]) fun _ _ _ _ _ _ us hl => match us, hl with | [_, _], _ => rfl
  have b8 := F8.binds (ps := ["_law_slots", "_law_place", "_law_goal"]) fun _ _ _ _ _ _ us hl => match us, hl with | [_, _, _], _ => rfl
  have b9 := F9.binds (ps := ["_law_cell_here"]) fun _ _ _ _ _ _ us hl => match us, hl with | [_], _ => rfl
  have b10 := F10.binds (ps := ["_law_cell_here", "_law_place"]) fun _ _ _ _ _ _ us hl => match us, hl with | [_, _], _ => rfl
  have b11 := F11.binds (ps := ["_law_guesses", "_law_slots"]) fun _ _ _ _ _ _ us hl => match us, hl with | [_, _], _ => rfl
  exact ⟨PySem.W.fnOf "law" "law" (defArgs sLaw) (defBody sLaw) (defScope sLaw) .none kV12 dc12 pm12 an12 cd12 ct12, fun s v => .of_eq rfl, fun base _ _ =>
    ok_law F12 T ⟨mk, a1, i1, kc⟩ F1 b1 r8 b0 F2 b2 ⟨a2, i2, k2⟩ F3 b3 ⟨a3, i3, k3⟩ F4 b4 ⟨a4, i4, k4⟩ F5 b5 (PySem.W.mg_of X G a5) F6 b6 (PySem.W.mg_of X G a6) F7 b7 (PySem.W.mg_of X G a7) F8 b8 (PySem.W.mg_of X G a8)
      F9 b9 (PySem.W.mg_of X G a9) F10 b10 (PySem.W.mg_of X G a10) F11 b11 (PySem.W.mg_of X G a11)⟩
theorem walk {l : PySem.W.OpenLaw} {q : Program} {loose : List Str} {XP : (Str → Option Value) → Heap → Prop} {YP : World → Heap → Prop} {d : DefRec} {K : Params → PySem.W.Frag} (hn : l.most = some 63) (hdf : d.params.defaults = [])
    (hY : ∀ (w : World) (h : Heap), YP w h → (K w.params).In h)
    (F : ∀ (w : World) (mg : Str → Option Value) (fa : Addr) (h : Heap), (K w.params).In h → h.Ns mainGlobals mg → mg d.name = some (.ref fa) →
      ∃ fd : FuncData, (∀ (s : Shared) (u : Value), BindsTo s fd ⟨[u], []⟩ [("_law_script", u)]) ∧ ∀ base : Heap, (K w.params).In base → base.Ns mainGlobals mg → FnOk l.prog w (K w.params) mg base CX0 3 fa fd ["_law_script"] (spLaw (K w.params))) :
    PySem.W.WalkO q loose XP YP l.row.toRowW d [] (fun f vs => PySem.call f vs) :=
  L2.walk_of (n := 63) (k := 3) (x := "_law_script") (CX := fun _ => CX0) (sp := fun w => spLaw (K w.params)) hn (by decide) hdf ⟨rfl, by decide, by decide⟩ hY F (fun _ _ a ns hl _ hS => ⟨a, ns, rfl, hS, hl, fun _ => rfl⟩) fun _ _ _ _ _ z => z
end K53
open PySem PySem.W PyProof.Rows
set_option maxRecDepth 100000 in
set_option maxHeartbeats 0 in
theorem PySem.Challenge.cw_rowmill_k53_guesses_learn_holds : PySem.Challenge.rw_rowmill_k53_guesses_learn.Holds := by
  w_on; o_law; k_head; (case hw => w_witness2)
  k_fill
  refine K53.walk (l := PySem.Challenge.rw_rowmill_k53_guesses_learn) rfl rfl (fun w h Y => PySem.W.kIn_of Y) ?F
  case F =>
    intro w mg fa h KX G hmg
    refine' K53.all_mk KX G hmg ?aC ?a1 ?i1 ?l1 ?c1 ?k1 ?a2 ?i2 ?l2 ?c2 ?k2 ?a3 ?i3 ?l3 ?c3 ?k3 ?a4 ?i4 ?l4 ?c4 ?k4 ?a5 ?l5 ?c5 ?k5 ?a6 ?l6 ?c6 ?k6 ?a7 ?l7 ?c7 ?k7 ?a8 ?l8 ?c8 ?k8 ?a9 ?l9 ?c9 ?k9 ?a10 ?l10 ?c10 ?k10 ?a11 ?l11 ?c11 ?k11 ?a12 ?l12 ?c12 ?k12 ?lT ?pg ?hd ?po ?sa ?mk ?kc ?nK ?z_isinstance ?z_int ?z_bool ?z_len ?z_tuple ?z_list ?z_min ?z_max ?z_range ?g_MOST_SIZE ?g_SURE ?g_SUREST
    (case aC => k_is)
    (case a1 => k_is)
    (case i1 => k_is)
    (case l1 => k_is)
    (case c1 => k_is)
    (case k1 => k_is)
    (case a2 => k_is)
    (case i2 => k_is)
    (case l2 => k_is)
    (case c2 => k_is)
    (case k2 => k_is)
    (case a3 => k_is)
    (case i3 => k_is)
    (case l3 => k_is)
    (case c3 => k_is)
    (case k3 => k_is)
    (case a4 => k_is)
    (case i4 => k_is)
    (case l4 => k_is)
    (case c4 => k_is)
    (case k4 => k_is)
    (case a5 => k_is)
    (case l5 => k_is)
    (case c5 => k_is)
    (case k5 => k_is)
    (case a6 => k_is)
    (case l6 => k_is)
    (case c6 => k_is)
    (case k6 => k_is)
    (case a7 => k_is)
    (case l7 => k_is)
    (case c7 => k_is)
    (case k7 => k_is)
    (case a8 => k_is)
    (case l8 => k_is)
    (case c8 => k_is)
    (case k8 => k_is)
    (case a9 => k_is)
    (case l9 => k_is)
    (case c9 => k_is)
    (case k9 => k_is)
    (case a10 => k_is)
    (case l10 => k_is)
    (case c10 => k_is)
    (case k10 => k_is)
    (case a11 => k_is)
    (case l11 => k_is)
    (case c11 => k_is)
    (case k11 => k_is)
    (case a12 => k_is)
    (case l12 => k_is)
    (case c12 => k_is)
    (case k12 => k_is)
    (case lT => k_is)
    (case pg => k_is)
    (case hd => k_is)
    (case po => k_is)
    (case sa => k_is)
    (case mk => k_is)
    (case kc => k_is)
    (case nK => k_is)
    (case z_isinstance => k_is)
    (case z_int => k_is)
    (case z_bool => k_is)
    (case z_len => k_is)
    (case z_tuple => k_is)
    (case z_list => k_is)
    (case z_min => k_is)
    (case z_max => k_is)
    (case z_range => k_is)
    (case g_MOST_SIZE => k_is)
    (case g_SURE => k_is)
    (case g_SUREST => k_is)
#print axioms PySem.Challenge.cw_rowmill_k53_guesses_learn_holds
