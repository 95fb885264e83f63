import PyProof.Rows.All
import Wide.All
import OpenK.AllK
import Wide.FinOn
import HandS.ForMost
import HandS.Walk
import HandS.WideBits
import PySem.Challenge.RW_farhaul_k62_whole_exchanges_lose_nothing
set_option Elab.async false
set_option linter.all false
set_option maxRecDepth 100000
set_option maxHeartbeats 4000000
namespace FH
/-! The mathematics: two peers, no program in sight. -/
structure PS where
  W : Int
  T : Int
  now : Option Int
  off : List (List Int)
  sent : Int → Option Int
  ns : Nat
  done : Int → Bool
  base : Int
  next : Int
  kept : Int → Option (List Int)
  owed : Bool
structure Pk where
  msg : Option (Int × List Int)
  ack : Int
  mask : Int
abbrev Row := Int × Pk
def fresh0 (W T : Int) : PS := { W := W, T := T, now := none, off := [], sent := fun _ => none, ns := 0, done := fun _ => false, base := 0, next := 0, kept := fun _ => none, owed := false }
def isDue (st : PS) (now n : Int) : Bool :=
  if st.done n = true then false else match st.sent n with
    | none => true
    | some s => decide (st.T ≤ now - s)
def rangeI (lo hi : Int) : List Int := (List.range (hi - lo).toNat).map fun i => lo + ((i : Nat) : Int)
theorem mem_rangeI {lo hi n : Int} : n ∈ rangeI lo hi ↔ lo ≤ n ∧ n < hi := by
  unfold rangeI
  rw [List.mem_map]
  constructor
  · rintro ⟨i, hi, rfl⟩
    have := List.mem_range.mp hi
    omega
  · rintro ⟨h1, h2⟩
    exact ⟨(n - lo).toNat, List.mem_range.mpr (by omega), by omega⟩
def endI (st : PS) : Int := if st.base + st.W < ((st.off.length : Nat) : Int) then st.base + st.W else ((st.off.length : Nat) : Int)
def dueL (st : PS) (now : Int) : List Int := (rangeI st.base (endI st)).filter (isDue st now)
theorem mem_dueL {st : PS} {now n : Int} : n ∈ dueL st now ↔ (st.base ≤ n ∧ n < endI st) ∧ isDue st now n = true := by
  unfold dueL
  rw [List.mem_filter, mem_rangeI]
def openL (st : PS) : List Int := (rangeI st.base ((st.off.length : Nat) : Int)).filter fun n => !st.done n
theorem mem_openL {st : PS} {n : Int} : n ∈ openL st ↔ (st.base ≤ n ∧ n < ((st.off.length : Nat) : Int)) ∧ st.done n = false := by
  unfold openL
  rw [List.mem_filter, mem_rangeI]
  simp
theorem end_le (st : PS) : endI st ≤ ((st.off.length : Nat) : Int) ∧ endI st ≤ st.base + st.W := by
  unfold endI
  split <;> omega
theorem end_eq {st : PS} {n : Int} (h1 : n < ((st.off.length : Nat) : Int)) (h2 : n < st.base + st.W) : n < endI st := by
  unfold endI
  split <;> omega
theorem due_open {st : PS} {now n : Int} (h : n ∈ dueL st now) : n ∈ openL st ∧ st.base ≤ n ∧ n < st.base + st.W := by
  obtain ⟨⟨h1, h2⟩, h3⟩ := mem_dueL.mp h
  have := end_le st
  refine ⟨mem_openL.mpr ⟨⟨h1, by omega⟩, ?_⟩, h1, by omega⟩
  unfold isDue at h3
  split at h3
  · cases h3
  · rename_i h
    cases e : st.done n with
    | false => rfl
    | true => exact absurd e h
def Bit (m : Int) (i : Nat) : Prop := (m / 2 ^ i) % 2 = 1
def MaskOk (st : PS) (m : Int) : Prop := 0 ≤ m ∧ ∀ i : Nat, Bit m i → st.kept (st.next + 1 + ((i : Nat) : Int)) ≠ none
def headOf (st : PS) (n : Int) : Option (Int × List Int) := some (n, st.off.getD n.toNat [])
def heads (st : PS) (now : Int) : List (Option (Int × List Int)) :=
  if dueL st now = [] then (if st.owed = true then [none] else []) else (dueL st now).map (headOf st)
def sendS (st : PS) (now : Int) : PS :=
  { st with now := some now, sent := fun n => if n ∈ dueL st now then some now else st.sent n, ns := st.ns + ((dueL st now).filter fun n => (st.sent n).isNone).length, owed := false }
structure SendR (st : PS) (now : Int) (st' : PS) (pks : List Pk) : Prop where
  eq : st' = sendS st now
  msgs : pks.map (·.msg) = heads st now
  acks : ∀ pk ∈ pks, pk.ack = st.next ∧ MaskOk st pk.mask
def Seen (a m n : Int) : Prop := n < a ∨ (0 ≤ n - a - 1 ∧ n - a - 1 < 32 ∧ Bit m (n - a - 1).toNat)
def AckR (st : PS) (a m : Int) (st' : PS) : Prop := ∃ (dn : Int → Bool) (b : Int), st' = { st with done := dn, base := b } ∧
  (∀ n, dn n = true ↔ st.done n = true ∨ (st.base ≤ n ∧ n < ((st.off.length : Nat) : Int) ∧ Seen a m n ∧ st.sent n ≠ none)) ∧
  st.base ≤ b ∧ (∀ k, st.base ≤ k → k < b → dn k = true) ∧ dn b = false
def pop (st : PS) : PS := { st with kept := fun k => if k = st.next then none else st.kept k, next := st.next + 1 }
/-- some steps of the giving loop -/
inductive Gives (st : PS) : List (List Int) → PS → Prop
  | zero : Gives st [] st
  | more {gs : List (List Int)} {st1 : PS} {d : List Int} : Gives st gs st1 → st1.kept st1.next = some d → Gives st (gs ++ [d]) (pop st1)
def keep1 (st : PS) (n : Int) (d : List Int) : PS :=
  { st with owed := true, kept := fun k => if k = n ∧ st.next ≤ n ∧ n < st.next + st.W ∧ st.kept n = none then some d else st.kept k }
def RecR (st : PS) (pk : Pk) (st' : PS) (gs : List (List Int)) : Prop := ∃ st1,
  (if pk.ack ≤ ((st.ns : Nat) : Int) then AckR st pk.ack pk.mask st1 else st1 = st) ∧
  match pk.msg with
  | none => st' = st1 ∧ gs = []
  | some (n, d) => Gives (keep1 st1 n d) gs st' ∧ st'.kept st'.next = none
/-! ### the world -/
structure Wd where
  p : Nat → PS
  r : Nat → List Row
  g : Nat → List (List Int)
def at1 {α : Type} (f : Nat → α) (j : Nat) (x : α) : Nat → α := fun i => if i = j then x else f i
theorem at1_same {α : Type} {f : Nat → α} {j : Nat} {x : α} : at1 f j x j = x := by unfold at1; rw [if_pos rfl]
theorem at1_ne {α : Type} {f : Nat → α} {i j : Nat} {x : α} (h : i ≠ j) : at1 f j x i = f i := by unfold at1; rw [if_neg h]
/-- the rows that the packets pks of time t make -/
def RowsOk (t : Int) (fair : Prop) (pks : List Pk) (rs : List Row) : Prop :=
  (∀ r ∈ rs, r.2 ∈ pks ∧ t ≤ r.1 ∧ r.1 ≤ t + 9) ∧ (fair → ∀ pk ∈ pks, ∃ a, (a, pk) ∈ rs ∧ a ≤ t + 2)
/-- maybe an offer of peer j -/
def OffR (rough : Nat) (many : Nat → Nat) (t j : Nat) (V V' : Wd) : Prop :=
  (V' = V ∧ ((V.p j).off.length < many j → t < rough)) ∨
  (∃ d, (V.p j).off.length < many j ∧ V' = { V with p := at1 V.p j { V.p j with off := (V.p j).off ++ [d] } })
def SndR (rough : Nat) (t j : Nat) (V V' : Wd) : Prop := ∃ st' pks rs, SendR (V.p j) ((t : Nat) : Int) st' pks ∧ RowsOk ((t : Nat) : Int) (rough ≤ t) pks rs ∧
  V' = { V with p := at1 V.p j st', r := at1 V.r j (V.r j ++ rs) }
/-- packets received one after another -/
inductive RecAll (st : PS) : List Pk → PS → List (List Int) → Prop
  | zero : RecAll st [] st []
  | more {L : List Pk} {st1 st2 : PS} {gs g2 : List (List Int)} {pk : Pk} : RecAll st L st1 gs → RecR st1 pk st2 g2 → RecAll st (L ++ [pk]) st2 (gs ++ g2)
def dueRows (t : Int) (rs : List Row) : List Pk := (rs.filter fun r => decide (r.1 ≤ t)).map (·.2)
def ArrR (t j : Nat) (V V' : Wd) : Prop := ∃ L st' gs, L.Perm (dueRows ((t : Nat) : Int) (V.r (1 - j))) ∧ RecAll (V.p j) L st' gs ∧
  V' = { p := at1 V.p j st', r := at1 V.r (1 - j) ((V.r (1 - j)).filter fun r => decide (((t : Nat) : Int) < r.1)), g := at1 V.g j (V.g j ++ gs) }
structure Tick (rough : Nat) (many : Nat → Nat) (t : Nat) (V V' : Wd) : Prop where
  ex : ∃ V1 V2 V3 V4 V5, OffR rough many t 0 V V1 ∧ SndR rough t 0 V1 V2 ∧ OffR rough many t 1 V2 V3 ∧ SndR rough t 1 V3 V4 ∧ ArrR t 0 V4 V5 ∧ ArrR t 1 V5 V'
/-! ### safety -/
def Rec (R : PS) (n : Int) : Prop := n < R.next ∨ R.kept n ≠ none
structure Dir (S R : PS) (g : List (List Int)) : Prop where
  w1 : 1 ≤ S.W
  sentI : ∀ n, S.sent n ≠ none ↔ (0 ≤ n ∧ n < ((S.ns : Nat) : Int))
  nsOff : S.ns ≤ S.off.length
  nsWin : ((S.ns : Nat) : Int) ≤ S.base + S.W
  b0 : 0 ≤ S.base
  bns : S.base ≤ ((S.ns : Nat) : Int)
  bdone : ∀ k, 0 ≤ k → k < S.base → S.done k = true
  bnot : S.done S.base = false
  doneR : ∀ n, S.done n = true → 0 ≤ n ∧ n < ((S.ns : Nat) : Int) ∧ Rec R n
  n0 : 0 ≤ R.next
  nns : R.next ≤ ((S.ns : Nat) : Int)
  keptI : ∀ n d, R.kept n = some d → R.next ≤ n ∧ n < ((S.ns : Nat) : Int) ∧ n < R.next + R.W ∧ S.off[n.toNat]? = some d
  giv : g = S.off.take R.next.toNat
/-- between two receipts: the next one isn't there -/
def NoNext (R : PS) : Prop := R.kept R.next = none
def PkD (S : PS) (pk : Pk) : Prop := ∀ n d, pk.msg = some (n, d) → 0 ≤ n ∧ n < ((S.ns : Nat) : Int) ∧ S.off[n.toNat]? = some d
def PkA (R : PS) (pk : Pk) : Prop := pk.ack ≤ R.next ∧ 0 ≤ pk.mask ∧ ∀ i : Nat, Bit pk.mask i → Rec R (pk.ack + 1 + ((i : Nat) : Int))
theorem Dir.base_le {S R : PS} {g} (D : Dir S R g) (N : NoNext R) : S.base ≤ R.next := by
  apply Int.not_lt.mp
  intro h
  have := D.doneR _ (D.bdone _ D.n0 h)
  rcases this.2.2 with h1 | h1
  · omega
  · exact h1 N
theorem Dir.keptLt {S R : PS} {g} (D : Dir S R g) (N : NoNext R) {n : Int} {d} (h : R.kept n = some d) : R.next < n := by
  have h1 := (D.keptI n d h).1
  have : n ≠ R.next := by
    intro e
    rw [e] at h
    rw [show R.kept R.next = none from N] at h
    cases h
  omega
/-- what the sender's part leans on, the receiver's part -/
theorem Dir.congr {S R S' R' : PS} {g} (D : Dir S R g) (h1 : S'.W = S.W) (h2 : S'.sent = S.sent) (h3 : S'.ns = S.ns) (h4 : S'.off = S.off) (h5 : S'.base = S.base) (h6 : S'.done = S.done)
    (k1 : R'.next = R.next) (k2 : R'.kept = R.kept) (k3 : R'.W = R.W) : Dir S' R' g := by
  have r : ∀ n, Rec R' n ↔ Rec R n := fun n => by unfold Rec; rw [k1, k2]
  constructor
  · rw [h1]; exact D.w1
  · rw [h2, h3]; exact D.sentI
  · rw [h3, h4]; exact D.nsOff
  · rw [h3, h5, h1]; exact D.nsWin
  · rw [h5]; exact D.b0
  · rw [h5, h3]; exact D.bns
  · rw [h5, h6]; exact D.bdone
  · rw [h5, h6]; exact D.bnot
  · rw [h6, h3]; exact fun n h => ⟨(D.doneR n h).1, (D.doneR n h).2.1, (r n).mpr (D.doneR n h).2.2⟩
  · rw [k1]; exact D.n0
  · rw [k1, h3]; exact D.nns
  · rw [k1, k2, k3, h3, h4]; exact D.keptI
  · rw [k1, h4]; exact D.giv
theorem Dir.fresh {W T W' T' : Int} (h : 1 ≤ W) : Dir (fresh0 W T) (fresh0 W' T') [] := by
  constructor <;> simp [fresh0, Rec] <;> omega
/-- an offer -/
theorem Dir.offer {S R : PS} {g} (D : Dir S R g) (d : List Int) : Dir { S with off := S.off ++ [d] } R g := by
  constructor
  · exact D.w1
  · exact D.sentI
  · show S.ns ≤ (S.off ++ [d]).length
    rw [List.length_append]
    have := D.nsOff
    omega
  · exact D.nsWin
  · exact D.b0
  · exact D.bns
  · exact D.bdone
  · exact D.bnot
  · exact D.doneR
  · exact D.n0
  · exact D.nns
  · intro n d' h
    obtain ⟨a, b, c, e⟩ := D.keptI n d' h
    refine ⟨a, b, c, ?_⟩
    show (S.off ++ [d])[n.toNat]? = some d'
    rw [List.getElem?_append_left (List.getElem?_eq_some_iff.mp e).1]
    exact e
  · show g = (S.off ++ [d]).take R.next.toNat
    have h1 := D.nns
    have h2 := D.nsOff
    rw [List.take_append_of_le_length (by omega)]
    exact D.giv
/-! sending -/
theorem cnt_new (base : Int) (ns : Nat) (sent : Int → Option Int) (hs : ∀ n, sent n ≠ none ↔ (0 ≤ n ∧ n < ((ns : Nat) : Int))) (h0 : 0 ≤ base) (hb : base ≤ ((ns : Nat) : Int)) (due : Int → Bool) (hd : ∀ n, ((ns : Nat) : Int) ≤ n → due n = true) :
    ∀ k : Nat, (((((List.range k).map fun i => base + ((i : Nat) : Int)).filter due).filter fun n => (sent n).isNone).length : Int) = if ((ns : Nat) : Int) ≤ base + ((k : Nat) : Int) then base + ((k : Nat) : Int) - ((ns : Nat) : Int) else 0
  | 0 => by
    simp only [List.range_zero, List.map_nil, List.filter_nil, List.length_nil]
    split <;> omega
  | k + 1 => by
    have ih := cnt_new base ns sent hs h0 hb due hd k
    rw [List.range_succ, List.map_append, List.filter_append, List.filter_append, List.length_append]
    have one : (((([k].map fun i => base + ((i : Nat) : Int)).filter due).filter fun n => (sent n).isNone).length : Int) = if ((ns : Nat) : Int) ≤ base + ((k : Nat) : Int) then 1 else 0 := by
      show ((((List.filter due [base + ((k : Nat) : Int)]).filter fun n => (sent n).isNone).length : Nat) : Int) = _
      split
      · rename_i h
        have e1 : due (base + ((k : Nat) : Int)) = true := hd _ h
        have e2 : sent (base + ((k : Nat) : Int)) = none := by
          cases e : sent (base + ((k : Nat) : Int)) with
          | none => rfl
          | some s =>
            have := (hs (base + ((k : Nat) : Int))).mp (by rw [e]; simp)
            omega
        rw [List.filter_cons, if_pos e1, List.filter_nil, List.filter_cons, e2]
        rfl
      · rename_i h
        have e2 : sent (base + ((k : Nat) : Int)) ≠ none := (hs _).mpr (by omega)
        have e3 : (sent (base + ((k : Nat) : Int))).isNone = false := by
          cases e : sent (base + ((k : Nat) : Int)) with
          | none => exact absurd e e2
          | some s => rfl
        rw [List.filter_cons]
        split
        · rw [List.filter_nil, List.filter_cons, e3]
          rfl
        · rfl
    rw [Int.natCast_add, ih, one]
    split <;> split <;> omega
theorem send_ns {S R : PS} {g} (D : Dir S R g) (now : Int) : (((sendS S now).ns : Nat) : Int) = if ((S.ns : Nat) : Int) ≤ endI S then endI S else ((S.ns : Nat) : Int) := by
  have h1 := D.nsOff
  have h2 := D.nsWin
  have h3 := D.bns
  have e : endI S = ((S.off.length : Nat) : Int) ∨ endI S = S.base + S.W := by
    unfold endI
    split
    · exact .inr rfl
    · exact .inl rfl
  have le : S.base ≤ endI S := by
    have := D.w1
    rcases e with e | e <;> rw [e] <;> omega
  have c := cnt_new S.base S.ns S.sent D.sentI D.b0 D.bns (isDue S now) (fun n hn => by
    have e1 : ¬ S.done n = true := fun q => by
      have := (D.doneR n q).2.1
      omega
    have e2 : S.sent n = none := by
      cases e : S.sent n with
      | none => rfl
      | some s =>
        have := (D.sentI n).mp (by rw [e]; simp)
        omega
    unfold isDue
    rw [if_neg e1, e2]) (endI S - S.base).toNat
  have e3 : S.base + (((endI S - S.base).toNat : Nat) : Int) = endI S := by omega
  rw [e3] at c
  show (((S.ns + ((dueL S now).filter fun n => (S.sent n).isNone).length : Nat)) : Int) = _
  rw [Int.natCast_add]
  unfold dueL rangeI
  rw [c]
  split <;> omega
theorem send_ns2 {S R : PS} {g} (D : Dir S R g) (now : Int) : (((sendS S now).ns : Nat) : Int) = endI S := by
  rw [send_ns D now]
  have h1 := D.nsOff
  have h2 := D.nsWin
  have : ((S.ns : Nat) : Int) ≤ endI S := by
    unfold endI
    split <;> omega
  rw [if_pos this]
theorem not_sent_due {S R : PS} {g} (D : Dir S R g) (now : Int) {n : Int} (h1 : ((S.ns : Nat) : Int) ≤ n) (h2 : n < endI S) : n ∈ dueL S now := by
  have := D.bns
  refine mem_dueL.mpr ⟨⟨by omega, h2⟩, ?_⟩
  have e1 : ¬ S.done n = true := fun q => by
    have := (D.doneR n q).2.1
    omega
  have e2 : S.sent n = none := by
    cases e : S.sent n with
    | none => rfl
    | some s =>
      have := (D.sentI n).mp (by rw [e]; simp)
      omega
  unfold isDue
  rw [if_neg e1, e2]
theorem Dir.sendS {S R : PS} {g} (D : Dir S R g) (now : Int) : Dir (sendS S now) R g ∧ S.ns ≤ (FH.sendS S now).ns := by
  have en := send_ns2 D now
  have h1 := D.nsOff
  have h2 := D.nsWin
  have h3 := D.bns
  have h4 := D.b0
  have h5 := end_le S
  have le : ((S.ns : Nat) : Int) ≤ endI S := by
    unfold endI
    split <;> omega
  refine ⟨⟨D.w1, fun n => ?_, ?_, ?_, D.b0, ?_, D.bdone, D.bnot, fun n h => ?_, D.n0, ?_, fun n d h => ?_, D.giv⟩, by omega⟩
  · rw [en]
    show (if n ∈ dueL S now then some now else S.sent n) ≠ none ↔ _
    split
    · rename_i h
      have := (mem_dueL.mp h).1
      constructor
      · intro _
        omega
      · intro _
        simp
    · rename_i h
      constructor
      · intro q
        have := (D.sentI n).mp q
        omega
      · intro q
        refine (D.sentI n).mpr ⟨q.1, ?_⟩
        apply Int.not_le.mp
        intro z
        exact h (not_sent_due D now z q.2)
  · show (FH.sendS S now).ns ≤ S.off.length
    omega
  · show (((FH.sendS S now).ns : Nat) : Int) ≤ S.base + S.W
    omega
  · show S.base ≤ (((FH.sendS S now).ns : Nat) : Int)
    omega
  · obtain ⟨a, b, c⟩ := D.doneR n h
    exact ⟨a, by rw [en]; omega, c⟩
  · have := D.nns
    rw [en]
    omega
  · obtain ⟨a, b, c, e⟩ := D.keptI n d h
    exact ⟨a, by rw [en]; omega, c, e⟩
theorem PkD.mono {S S' : PS} {pk : Pk} (h : PkD S pk) (hn : S.ns ≤ S'.ns) (ho : ∀ (n : Nat) (d : List Int), S.off[n]? = some d → S'.off[n]? = some d) : PkD S' pk := fun n d e => by
  obtain ⟨a, b, c⟩ := h n d e
  exact ⟨a, by omega, ho _ _ c⟩
theorem PkA.congr {R R' : PS} {pk : Pk} (h : PkA R pk) (h1 : R'.next = R.next) (h2 : R'.kept = R.kept) : PkA R' pk := by
  unfold PkA Rec
  rw [h1, h2]
  exact h
theorem PkA.mono {R R' : PS} {pk : Pk} (h : PkA R pk) (h1 : R.next ≤ R'.next) (h2 : ∀ n, Rec R n → Rec R' n) : PkA R' pk :=
  ⟨Int.le_trans h.1 h1, h.2.1, fun i b => h2 _ (h.2.2 i b)⟩
theorem SendR.data {S R : PS} {g} (D : Dir S R g) {now : Int} {S' : PS} {pks : List Pk} (h : SendR S now S' pks) : ∀ pk ∈ pks, PkD S' pk ∧ PkA S' pk := by
  intro pk hp
  have hm : pk.msg ∈ heads S now := by
    rw [← h.msgs]
    exact List.mem_map.mpr ⟨pk, hp, rfl⟩
  obtain ⟨a1, a2⟩ := h.acks pk hp
  rw [h.eq]
  constructor
  · intro n d e
    rw [e] at hm
    unfold heads at hm
    split at hm
    · split at hm
      · simp at hm
      · simp at hm
    · obtain ⟨m, h1, h2⟩ := List.mem_map.mp hm
      unfold headOf at h2
      have h3 := Option.some.inj h2
      have e1 : m = n := congrArg Prod.fst h3
      have e2 : S.off.getD m.toNat [] = d := congrArg Prod.snd h3
      subst e1
      obtain ⟨⟨q1, q2⟩, _⟩ := mem_dueL.mp h1
      have := D.b0
      have := end_le S
      refine ⟨by omega, by rw [send_ns2 D now]; omega, ?_⟩
      show S.off[m.toNat]? = some d
      rw [← e2, List.getD_eq_getElem?_getD]
      have : m.toNat < S.off.length := by omega
      rw [List.getElem?_eq_getElem this]
      rfl
  · refine ⟨?_, a2.1, fun i b => .inr ?_⟩
    · show pk.ack ≤ S.next
      omega
    · show S.kept (pk.ack + 1 + ((i : Nat) : Int)) ≠ none
      rw [a1]
      exact a2.2 i b
/-! acknowledging -/
theorem Dir.ack {S R : PS} {g} (D : Dir S R g) {pk : Pk} (A : PkA R pk) {S' : PS} (h : AckR S pk.ack pk.mask S') : Dir S' R g := by
  obtain ⟨dn, b, rfl, hd, h1, h2, h3⟩ := h
  have dr : ∀ n, dn n = true → 0 ≤ n ∧ n < ((S.ns : Nat) : Int) ∧ Rec R n := fun n e => by
    rcases (hd n).mp e with q | ⟨q1, q2, q3, q4⟩
    · exact D.doneR n q
    · have z := (D.sentI n).mp q4
      refine ⟨z.1, z.2, ?_⟩
      rcases q3 with q | ⟨z1, z2, z3⟩
      · have := A.1
        exact .inl (by omega)
      · have := A.2.2 _ z3
        have e : pk.ack + 1 + (((n - pk.ack - 1).toNat : Nat) : Int) = n := by omega
        rw [e] at this
        exact this
  have b0 := D.b0
  have hdb : ∀ k, 0 ≤ k → k < b → dn k = true := fun k k0 kb => by
    by_cases z : S.base ≤ k
    · exact h2 k z kb
    · exact (hd k).mpr (.inl (D.bdone k k0 (by omega)))
  have nsb := D.nsWin
  refine ⟨D.w1, D.sentI, D.nsOff, ?_, ?_, ?_, hdb, h3, dr, D.n0, D.nns, D.keptI, D.giv⟩
  · show ((S.ns : Nat) : Int) ≤ b + S.W
    omega
  · show 0 ≤ b
    omega
  · show b ≤ ((S.ns : Nat) : Int)
    apply Int.not_lt.mp
    intro z
    have := (dr _ (hdb ((S.ns : Nat) : Int) (by omega) z)).2.1
    omega
/-! receiving -/
theorem Rec.pop {R : PS} {n : Int} (h : Rec R n) : Rec (pop R) n := by
  unfold Rec FH.pop
  simp only
  by_cases e : n = R.next
  · exact .inl (by omega)
  · rcases h with h | h
    · exact .inl (by omega)
    · exact .inr (by rw [if_neg e]; exact h)
theorem Dir.pop {S R : PS} {g} (D : Dir S R g) {d : List Int} (h : R.kept R.next = some d) : Dir S (pop R) (g ++ [d]) := by
  obtain ⟨a1, a2, a3, a4⟩ := D.keptI _ _ h
  have n0 := D.n0
  refine ⟨D.w1, D.sentI, D.nsOff, D.nsWin, D.b0, D.bns, D.bdone, D.bnot, fun n e => ⟨(D.doneR n e).1, (D.doneR n e).2.1, (D.doneR n e).2.2.pop⟩, ?_, ?_, fun n d' e => ?_, ?_⟩
  · show 0 ≤ R.next + 1
    omega
  · show R.next + 1 ≤ ((S.ns : Nat) : Int)
    omega
  · have e : (if n = R.next then none else R.kept n) = some d' := e
    split at e
    · cases e
    · rename_i hn
      obtain ⟨b1, b2, b3, b4⟩ := D.keptI n d' e
      refine ⟨?_, b2, ?_, b4⟩
      · show R.next + 1 ≤ n
        omega
      · show n < R.next + 1 + R.W
        omega
  · show g ++ [d] = S.off.take (R.next + 1).toNat
    have e1 : (R.next + 1).toNat = R.next.toNat + 1 := by omega
    rw [e1, List.take_add_one, a4, D.giv]
    rfl
theorem Rec.keep1 {R : PS} {n m : Int} {d} (h : Rec R n) : Rec (keep1 R m d) n := by
  unfold Rec FH.keep1
  simp only
  rcases h with h | h
  · exact .inl h
  · refine .inr ?_
    split
    · simp
    · exact h
theorem Dir.keep1 {S R : PS} {g} (D : Dir S R g) {m : Int} {d : List Int} (h : 0 ≤ m ∧ m < ((S.ns : Nat) : Int) ∧ S.off[m.toNat]? = some d) : Dir S (keep1 R m d) g := by
  refine ⟨D.w1, D.sentI, D.nsOff, D.nsWin, D.b0, D.bns, D.bdone, D.bnot, fun n e => ⟨(D.doneR n e).1, (D.doneR n e).2.1, (D.doneR n e).2.2.keep1⟩, D.n0, D.nns, fun n d' e => ?_, D.giv⟩
  have e1 : (if n = m ∧ R.next ≤ m ∧ m < R.next + R.W ∧ R.kept m = none then some d else R.kept n) = some d' := e
  by_cases q : n = m ∧ R.next ≤ m ∧ m < R.next + R.W ∧ R.kept m = none
  · rw [if_pos q] at e1
    obtain ⟨q0, q1, q2, q3⟩ := q
    have e2 : d = d' := Option.some.inj e1
    rw [q0, ← e2]
    exact ⟨q1, h.2.1, q2, h.2.2⟩
  · rw [if_neg q] at e1
    exact D.keptI n d' e1
/-- what a receipt leaves as it was -/
structure Stays (R R' : PS) : Prop where
  W : R'.W = R.W
  T : R'.T = R.T
  now : R'.now = R.now
  off : R'.off = R.off
  sent : R'.sent = R.sent
  ns : R'.ns = R.ns
  next : R.next ≤ R'.next
  recs : ∀ n, Rec R n → Rec R' n
  base : R.base ≤ R'.base
  done : ∀ n, R.done n = true → R'.done n = true
  owed : R.owed = true → R'.owed = true
theorem Stays.refl (R : PS) : Stays R R := ⟨rfl, rfl, rfl, rfl, rfl, rfl, Int.le_refl _, fun _ h => h, Int.le_refl _, fun _ h => h, id⟩
theorem Stays.trans {A B C : PS} (x : Stays A B) (y : Stays B C) : Stays A C :=
  ⟨y.W.trans x.W, y.T.trans x.T, y.now.trans x.now, y.off.trans x.off, y.sent.trans x.sent, y.ns.trans x.ns, Int.le_trans x.next y.next, fun n h => y.recs n (x.recs n h), Int.le_trans x.base y.base, fun n h => y.done n (x.done n h), fun h => y.owed (x.owed h)⟩
theorem Gives.dir {S R R' : PS} {g gs} (D : Dir S R g) (h : Gives R gs R') : Dir S R' (g ++ gs) ∧ Stays R R' ∧ R'.base = R.base ∧ R'.done = R.done ∧ R'.owed = R.owed := by
  induction h with
  | zero => exact ⟨by rw [List.append_nil]; exact D, Stays.refl _, rfl, rfl, rfl⟩
  | more a e ih =>
    obtain ⟨D1, s1, b1, b2, b3⟩ := ih
    refine ⟨by rw [← List.append_assoc]; exact D1.pop e, s1.trans ⟨rfl, rfl, rfl, rfl, rfl, rfl, ?_, fun n h => h.pop, Int.le_refl _, fun _ h => h, id⟩, b1, b2, b3⟩
    show _ ≤ _ + 1
    omega
theorem AckR.stays {S S' : PS} {a m} (h : AckR S a m S') : Stays S S' ∧ S'.next = S.next ∧ S'.kept = S.kept := by
  obtain ⟨dn, b, rfl, hd, h1, h2, h3⟩ := h
  exact ⟨⟨rfl, rfl, rfl, rfl, rfl, rfl, Int.le_refl _, fun _ h => h, h1, fun n h => (hd n).mpr (.inl h), id⟩, rfl, rfl⟩
/-- X receives a packet of Y's -/
theorem RecR.dir {X Y X' : PS} {gX gY gs} {pk : Pk} (D1 : Dir X Y gY) (D2 : Dir Y X gX) (N : NoNext X) (hD : PkD Y pk) (hA : PkA Y pk) (h : RecR X pk X' gs) :
    Dir X' Y gY ∧ Dir Y X' (gX ++ gs) ∧ NoNext X' ∧ Stays X X' := by
  obtain ⟨st1, h1, h2⟩ := h
  have s1 : Dir st1 Y gY ∧ Stays X st1 ∧ st1.next = X.next ∧ st1.kept = X.kept := by
    split at h1
    · exact ⟨D1.ack hA h1, h1.stays.1, h1.stays.2⟩
    · rw [h1]
      exact ⟨D1, Stays.refl _, rfl, rfl⟩
  obtain ⟨E1, s1, e1, e2⟩ := s1
  have E2 : Dir Y st1 gX := D2.congr rfl rfl rfl rfl rfl rfl e1 e2 s1.W
  cases em : pk.msg with
  | none =>
    rw [em] at h2
    obtain ⟨rfl, rfl⟩ := h2
    exact ⟨E1, by rw [List.append_nil]; exact E2, by unfold NoNext; rw [e1, e2]; exact N, s1⟩
  | some nd =>
    obtain ⟨n, d⟩ := nd
    rw [em] at h2
    obtain ⟨h2, h3⟩ := h2
    have E3 := E2.keep1 (hD n d em)
    obtain ⟨G1, G2, G3, G4, G5⟩ := h2.dir E3
    have s2 : Stays st1 (keep1 st1 n d) := ⟨rfl, rfl, rfl, rfl, rfl, rfl, Int.le_refl _, fun _ h => h.keep1, Int.le_refl _, fun _ h => h, fun _ => rfl⟩
    refine ⟨?_, G1, h3, s1.trans (s2.trans G2)⟩
    exact E1.congr (by rw [G2.W]; rfl) (by rw [G2.sent]; rfl) (by rw [G2.ns]; rfl) (by rw [G2.off]; rfl) (by rw [G3]; rfl) (by rw [G4]; rfl) rfl rfl rfl
theorem RecAll.dir {X Y X' : PS} {gX gY gs} {L : List Pk} (D1 : Dir X Y gY) (D2 : Dir Y X gX) (N : NoNext X) (hP : ∀ pk ∈ L, PkD Y pk ∧ PkA Y pk) (h : RecAll X L X' gs) :
    Dir X' Y gY ∧ Dir Y X' (gX ++ gs) ∧ NoNext X' ∧ Stays X X' := by
  induction h with
  | zero => exact ⟨D1, by rw [List.append_nil]; exact D2, N, Stays.refl _⟩
  | more a e ih =>
    obtain ⟨F1, F2, F3, F4⟩ := ih fun pk h => hP pk (List.mem_append.mpr (.inl h))
    have hp := hP _ (List.mem_append.mpr (.inr (List.mem_singleton.mpr rfl)))
    obtain ⟨G1, G2, G3, G4⟩ := RecR.dir F1 F2 F3 hp.1 hp.2 e
    exact ⟨G1, by rw [← List.append_assoc]; exact G2, G3, F4.trans G4⟩
/-- the world's safety at time t -/
structure SI (many : Nat → Nat) (Ws Ts : Nat → Int) (t : Int) (V : Wd) : Prop where
  dir : ∀ j, j < 2 → Dir (V.p j) (V.p (1 - j)) (V.g (1 - j))
  nn : ∀ j, j < 2 → NoNext (V.p j)
  rows : ∀ j, j < 2 → ∀ r ∈ V.r j, PkD (V.p j) r.2 ∧ PkA (V.p j) r.2
  now : ∀ j, j < 2 → ∀ s, (V.p j).now = some s → s ≤ t
  offs : ∀ j, j < 2 → (V.p j).off.length ≤ many j
  ws : ∀ j, j < 2 → (V.p j).W = Ws j ∧ (V.p j).T = Ts j
theorem two {j i : Nat} (hj : j < 2) (hi : i < 2) : i = j ∨ (i = 1 - j ∧ i ≠ j ∧ 1 - i = j ∧ 1 - j ≠ j) := by omega
theorem SI.init {many : Nat → Nat} {Ws Ts : Nat → Int} (h : ∀ j, j < 2 → 1 ≤ Ws j) : SI many Ws Ts 0 ⟨fun j => fresh0 (Ws j) (Ts j), fun _ => [], fun _ => []⟩ := by
  constructor
  · exact fun j hj => Dir.fresh (h j hj)
  · exact fun _ _ => rfl
  · exact fun _ _ r hr => nomatch hr
  · exact fun _ _ s hs => nomatch hs
  · exact fun _ _ => Nat.zero_le _
  · exact fun _ _ => ⟨rfl, rfl⟩
theorem SI.later {many Ws Ts t t' V} (h : SI many Ws Ts t V) (ht : t ≤ t') : SI many Ws Ts t' V := ⟨h.dir, h.nn, h.rows, fun j hj s e => Int.le_trans (h.now j hj s e) ht, h.offs, h.ws⟩
section
variable {many : Nat → Nat} {Ws Ts : Nat → Int} {rough t j : Nat} {V V' : Wd}
/-- peer j's state is changed to X -/
theorem SI.change (I : SI many Ws Ts t V) (hj : j < 2) {X : PS} {rs : Nat → List Row} {gg : List (List Int)} (d1 : Dir X (V.p (1 - j)) (V.g (1 - j))) (d2 : Dir (V.p (1 - j)) X gg) (nn : NoNext X)
    (hr : ∀ r ∈ rs j, PkD X r.2 ∧ PkA X r.2) (hr2 : ∀ r ∈ rs (1 - j), r ∈ V.r (1 - j)) (hn : ∀ s, X.now = some s → s ≤ t) (ho : X.off.length ≤ many j) (hw : X.W = (V.p j).W ∧ X.T = (V.p j).T) :
    SI many Ws Ts t ⟨at1 V.p j X, rs, at1 V.g j gg⟩ := by
  refine ⟨fun i hi => ?_, fun i hi => ?_, fun i hi => ?_, fun i hi => ?_, fun i hi => ?_, fun i hi => ?_⟩ <;> rcases two hj hi with rfl | ⟨rfl, h1, h2, h3⟩
  · have : 1 - i ≠ i := by omega
    show Dir (at1 V.p i X i) (at1 V.p i X (1 - i)) (at1 V.g i gg (1 - i))
    rw [at1_same, at1_ne this, at1_ne this]
    exact d1
  · show Dir (at1 V.p j X (1 - j)) (at1 V.p j X (1 - (1 - j))) (at1 V.g j gg (1 - (1 - j)))
    rw [h2, at1_same, at1_same, at1_ne h1]
    exact d2
  · show NoNext (at1 V.p i X i)
    rw [at1_same]
    exact nn
  · show NoNext (at1 V.p j X (1 - j))
    rw [at1_ne h1]
    exact I.nn _ hi
  · show ∀ r ∈ rs i, PkD (at1 V.p i X i) r.2 ∧ PkA (at1 V.p i X i) r.2
    rw [at1_same]
    exact hr
  · show ∀ r ∈ rs (1 - j), PkD (at1 V.p j X (1 - j)) r.2 ∧ PkA (at1 V.p j X (1 - j)) r.2
    rw [at1_ne h1]
    exact fun r h => I.rows _ hi r (hr2 r h)
  · show ∀ s, (at1 V.p i X i).now = some s → _
    rw [at1_same]
    exact hn
  · show ∀ s, (at1 V.p j X (1 - j)).now = some s → _
    rw [at1_ne h1]
    exact I.now _ hi
  · show (at1 V.p i X i).off.length ≤ _
    rw [at1_same]
    exact ho
  · show (at1 V.p j X (1 - j)).off.length ≤ _
    rw [at1_ne h1]
    exact I.offs _ hi
  · show (at1 V.p i X i).W = _ ∧ (at1 V.p i X i).T = _
    rw [at1_same, hw.1, hw.2]
    exact I.ws _ hi
  · show (at1 V.p j X (1 - j)).W = _ ∧ (at1 V.p j X (1 - j)).T = _
    rw [at1_ne h1]
    exact I.ws _ hi
theorem at1_id {α : Type} (f : Nat → α) (j : Nat) : at1 f j (f j) = f := by
  funext i
  unfold at1
  split
  · rename_i h
    rw [h]
  · rfl
theorem SI.off (I : SI many Ws Ts t V) (hj : j < 2) (h : OffR rough many t j V V') : SI many Ws Ts t V' := by
  rcases h with ⟨rfl, _⟩ | ⟨d, h1, rfl⟩
  · exact I
  · have hb : 1 - (1 - j) = j := by omega
    have hi : 1 - j < 2 := by omega
    have d2 := I.dir (1 - j) hi
    rw [hb] at d2
    have := I.change (rs := V.r) (gg := V.g j) hj ((I.dir j hj).offer d) (d2.congr rfl rfl rfl rfl rfl rfl rfl rfl rfl) (I.nn j hj)
      (fun r hr => ⟨((I.rows j hj r hr).1).mono (Nat.le_refl _) (fun n d' e => by
          show ((V.p j).off ++ [d])[n]? = some d'
          rw [List.getElem?_append_left (List.getElem?_eq_some_iff.mp e).1]
          exact e), (I.rows j hj r hr).2.congr rfl rfl⟩) (fun r h => h) (I.now j hj) (by
        show ((V.p j).off ++ [d]).length ≤ many j
        rw [List.length_append, List.length_singleton]
        omega) ⟨rfl, rfl⟩
    rw [at1_id] at this
    exact this
theorem SI.snd (I : SI many Ws Ts t V) (hj : j < 2) (h : SndR rough t j V V') : SI many Ws Ts t V' := by
  obtain ⟨st', pks, rs, h1, h2, rfl⟩ := h
  have hb : 1 - (1 - j) = j := by omega
  have hi : 1 - j < 2 := by omega
  have d2 := I.dir (1 - j) hi
  rw [hb] at d2
  have D := I.dir j hj
  obtain ⟨D1, D2⟩ := D.sendS ((t : Nat) : Int)
  have hd := h1.data D
  rw [h1.eq] at hd ⊢
  have := I.change (rs := at1 V.r j (V.r j ++ rs)) (gg := V.g j) hj D1 (d2.congr rfl rfl rfl rfl rfl rfl rfl rfl rfl) (I.nn j hj) (fun r hr => ?_) (fun r hr => ?_) (fun s e => ?_) (I.offs j hj) ⟨rfl, rfl⟩
  · rw [at1_id] at this
    exact this
  · rw [at1_same] at hr
    rcases List.mem_append.mp hr with q | q
    · exact ⟨(I.rows j hj r q).1.mono D2 (fun _ _ e => e), (I.rows j hj r q).2.congr rfl rfl⟩
    · exact hd _ (h2.1 r q).1
  · rw [at1_ne (by omega)] at hr
    exact hr
  · have e : some ((t : Nat) : Int) = some s := e
    rw [← Option.some.inj e]
    exact Int.le_refl _
theorem mem_dueRows {t : Int} {rs : List Row} {pk : Pk} : pk ∈ dueRows t rs ↔ ∃ a, a ≤ t ∧ (a, pk) ∈ rs := by
  unfold dueRows
  rw [List.mem_map]
  constructor
  · rintro ⟨⟨a, p⟩, h, rfl⟩
    obtain ⟨h1, h2⟩ := List.mem_filter.mp h
    exact ⟨a, of_decide_eq_true h2, h1⟩
  · rintro ⟨a, h1, h2⟩
    exact ⟨(a, pk), List.mem_filter.mpr ⟨h2, decide_eq_true h1⟩, rfl⟩
/-- while peer j receives -/
theorem SI.part (I : SI many Ws Ts t V) (hj : j < 2) {L : List Pk} {st' gs} (hL : ∀ pk ∈ L, pk ∈ dueRows ((t : Nat) : Int) (V.r (1 - j))) (h : RecAll (V.p j) L st' gs) :
    Dir st' (V.p (1 - j)) (V.g (1 - j)) ∧ Dir (V.p (1 - j)) st' (V.g j ++ gs) ∧ NoNext st' ∧ Stays (V.p j) st' := by
  have hb : 1 - (1 - j) = j := by omega
  have hi : 1 - j < 2 := by omega
  have d2 := I.dir (1 - j) hi
  rw [hb] at d2
  refine h.dir (I.dir j hj) d2 (I.nn j hj) fun pk hp => ?_
  obtain ⟨a, _, q⟩ := mem_dueRows.mp (hL pk hp)
  exact I.rows (1 - j) hi _ q
theorem SI.arr (I : SI many Ws Ts t V) (hj : j < 2) (h : ArrR t j V V') : SI many Ws Ts t V' := by
  obtain ⟨L, st', gs, h1, h2, rfl⟩ := h
  obtain ⟨E1, E2, E3, E4⟩ := I.part hj (fun pk h => h1.mem_iff.mp h) h2
  refine I.change hj E1 E2 E3 (fun r hr => ?_) (fun r hr => ?_) (fun s e => ?_) (by rw [E4.off]; exact I.offs j hj) ⟨E4.W, E4.T⟩
  · rw [at1_ne (by omega)] at hr
    obtain ⟨a, b⟩ := I.rows j hj r hr
    exact ⟨a.mono (by rw [E4.ns]; exact Nat.le_refl _) (fun n d e => by rw [E4.off]; exact e), b.mono E4.next E4.recs⟩
  · rw [at1_same] at hr
    exact (List.mem_filter.mp hr).1
  · rw [E4.now] at e
    exact I.now j hj s e
theorem SI.tick (I : SI many Ws Ts t V) (h : Tick rough many t V V') : SI many Ws Ts (t + 1) V' := by
  obtain ⟨V1, V2, V3, V4, V5, h1, h2, h3, h4, h5, h6⟩ := h.ex
  have := ((((((I.off (by decide) h1).snd (by decide) h2).off (by decide) h3).snd (by decide) h4).arr (by decide) h5).arr (by decide) h6)
  exact this.later (by omega)
end
/-! ### liveness -/
theorem Gives.stays {R R' : PS} {gs} (h : Gives R gs R') : Stays R R' ∧ R'.base = R.base ∧ R'.done = R.done ∧ R'.owed = R.owed := by
  induction h with
  | zero => exact ⟨Stays.refl _, rfl, rfl, rfl⟩
  | more a e ih =>
    obtain ⟨s1, b1, b2, b3⟩ := ih
    refine ⟨s1.trans ⟨rfl, rfl, rfl, rfl, rfl, rfl, ?_, fun n h => h.pop, Int.le_refl _, fun _ h => h, id⟩, b1, b2, b3⟩
    show _ ≤ _ + 1
    omega
theorem Gives.same {R R' : PS} {gs} (h : Gives R gs R') (e : R'.next ≤ R.next) : R' = R := by
  cases h with
  | zero => rfl
  | more a d =>
    have := a.stays.1.next
    have e : _ + 1 ≤ R.next := e
    omega
theorem keep1_stays (st : PS) (n : Int) (d) : Stays st (keep1 st n d) := ⟨rfl, rfl, rfl, rfl, rfl, rfl, Int.le_refl _, fun _ h => h.keep1, Int.le_refl _, fun _ h => h, fun _ => rfl⟩
/-- what one receipt does -/
theorem RecR.does {X X' : PS} {gs} {pk : Pk} (N : NoNext X) (w : 1 ≤ X.W) (h : RecR X pk X' gs) :
    Stays X X' ∧ NoNext X' ∧ (∀ n d, pk.msg = some (n, d) → (X.next = n → n < X'.next) ∧ X'.owed = true) ∧ (pk.msg = none → X'.owed = X.owed) ∧
    (pk.ack ≤ ((X.ns : Nat) : Int) → (∀ n, 0 ≤ n → n < ((X.ns : Nat) : Int) → X.sent n ≠ none) → X.ns ≤ X.off.length → 0 ≤ X.base → pk.ack ≤ X'.base) := by
  obtain ⟨st1, h1, h2⟩ := h
  have s1 : Stays X st1 ∧ st1.next = X.next ∧ st1.kept = X.kept ∧ st1.owed = X.owed := by
    split at h1
    · obtain ⟨dn, b, rfl, _⟩ := id h1
      exact ⟨h1.stays.1, rfl, rfl, rfl⟩
    · rw [h1]
      exact ⟨Stays.refl _, rfl, rfl, rfl⟩
  obtain ⟨s1, e1, e2, e3⟩ := s1
  have A : pk.ack ≤ ((X.ns : Nat) : Int) → (∀ n, 0 ≤ n → n < ((X.ns : Nat) : Int) → X.sent n ≠ none) → X.ns ≤ X.off.length → 0 ≤ X.base → pk.ack ≤ st1.base := fun a1 a2 a3 a4 => by
    rw [if_pos a1] at h1
    obtain ⟨dn, b, rfl, hd, q1, q2, q3⟩ := h1
    show pk.ack ≤ b
    apply Int.not_lt.mp
    intro z
    have := (hd b).mpr (.inr ⟨q1, by omega, .inl z, a2 b (by omega) (by omega)⟩)
    rw [q3] at this
    cases this
  cases em : pk.msg with
  | none =>
    rw [em] at h2
    obtain ⟨rfl, rfl⟩ := h2
    exact ⟨s1, by unfold NoNext; rw [e1, e2]; exact N, (fun _ _ q => nomatch q), fun _ => e3, A⟩
  | some nd =>
    obtain ⟨n, d⟩ := nd
    rw [em] at h2
    obtain ⟨h2, h3⟩ := h2
    obtain ⟨G2, G3, G4, G5⟩ := h2.stays
    have s2 := keep1_stays st1 n d
    refine ⟨s1.trans (s2.trans G2), h3, fun n' d' q => ?_, (fun q => nomatch q), fun a1 a2 a3 a4 => ?_⟩
    · have q := Option.some.inj q
      have q1 : n = n' := congrArg Prod.fst q
      subst q1
      refine ⟨fun e => ?_, by rw [G5]; rfl⟩
      apply Int.not_le.mp
      intro z
      have z2 := h2.same (by show _ ≤ st1.next; omega)
      have k0 : X.kept n = none := by
        rw [← e]
        exact N
      rw [z2] at h3
      have h4 : (if st1.next = n ∧ st1.next ≤ n ∧ n < st1.next + st1.W ∧ st1.kept n = none then some d else st1.kept st1.next) = none := h3
      rw [if_pos ⟨by omega, by omega, by have := s1.W; omega, by rw [e2]; exact k0⟩] at h4
      cases h4
    · have := A a1 a2 a3 a4
      have e : X'.base = st1.base := by
        rw [G3]
        rfl
      omega
theorem RecAll.stays {X X' : PS} {gs L} (N : NoNext X) (w : 1 ≤ X.W) (h : RecAll X L X' gs) : Stays X X' ∧ NoNext X' ∧ ((∀ pk ∈ L, pk.msg = none) → X'.owed = X.owed) := by
  induction h with
  | zero => exact ⟨Stays.refl _, N, fun _ => rfl⟩
  | more a e ih =>
    obtain ⟨s, n, o⟩ := ih
    obtain ⟨s2, n2, _, o2, _⟩ := e.does n (by rw [s.W]; exact w)
    exact ⟨s.trans s2, n2, fun h => (o2 (h _ (List.mem_append.mpr (.inr (List.mem_singleton.mpr rfl))))).trans (o fun pk hp => h pk (List.mem_append.mpr (.inl hp)))⟩
theorem RecAll.mem {X X' : PS} {gs L} {pk : Pk} (N : NoNext X) (w : 1 ≤ X.W) (h : RecAll X L X' gs) (hp : pk ∈ L) : ∃ A B g, Stays X A ∧ NoNext A ∧ RecR A pk B g ∧ Stays B X' := by
  induction h with
  | zero => cases hp
  | more a e ih =>
    obtain ⟨s, n, _⟩ := a.stays N w
    rcases List.mem_append.mp hp with q | q
    · obtain ⟨A, B, g, x, y, z, u⟩ := ih q
      exact ⟨A, B, g, x, y, z, u.trans (e.does n (by rw [s.W]; exact w)).1⟩
    · rw [List.mem_singleton.mp q]
      exact ⟨_, _, _, s, n, e, Stays.refl _⟩
def OffS (rough many : Nat) (t : Nat) (X Y : PS) : Prop := (Y = X ∧ (X.off.length < many → t < rough)) ∨ (∃ d, X.off.length < many ∧ Y = { X with off := X.off ++ [d] })
theorem OffR.one {rough : Nat} {many : Nat → Nat} {t j : Nat} {V V' : Wd} (h : OffR rough many t j V V') : ∃ Y, OffS rough (many j) t (V.p j) Y ∧ V' = { V with p := at1 V.p j Y } := by
  rcases h with ⟨rfl, h⟩ | ⟨d, h, e⟩
  · exact ⟨V'.p j, .inl ⟨rfl, h⟩, by rw [at1_id]⟩
  · exact ⟨_, .inr ⟨d, h, rfl⟩, e⟩
/-- one tick, peer by peer -/
structure TkS (rough : Nat) (many : Nat → Nat) (Ws Ts : Nat → Int) (t : Nat) (V V' : Wd) (So St : Nat → PS) (pks : Nat → List Pk) (rs : Nat → List Row) : Prop where
  off : ∀ j, j < 2 → OffS rough (many j) t (V.p j) (So j)
  snd : ∀ j, j < 2 → SendR (So j) ((t : Nat) : Int) (St j) (pks j)
  rok : ∀ j, j < 2 → RowsOk ((t : Nat) : Int) (rough ≤ t) (pks j) (rs j)
  arr : ∀ j, j < 2 → ∃ L gs, L.Perm (dueRows ((t : Nat) : Int) (V.r (1 - j) ++ rs (1 - j))) ∧ RecAll (St j) L (V'.p j) gs
  rds : ∀ j, j < 2 → V'.r j = (V.r j ++ rs j).filter fun r => decide (((t : Nat) : Int) < r.1)
  mid : ∃ M, SI many Ws Ts t M ∧ ∀ j, j < 2 → M.p j = St j ∧ M.r j = V.r j ++ rs j
theorem le1 {P : Nat → Prop} (h0 : P 0) (h1 : P 1) : ∀ j, j < 2 → P j := fun j hj => by
  have : j = 0 ∨ j = 1 := by omega
  rcases this with rfl | rfl
  · exact h0
  · exact h1
theorem Tick.sum {rough : Nat} {many : Nat → Nat} {Ws Ts : Nat → Int} {t : Nat} {V V' : Wd} (I : SI many Ws Ts t V) (h : Tick rough many t V V') : ∃ So St pks rs, TkS rough many Ws Ts t V V' So St pks rs := by
  obtain ⟨V1, V2, V3, V4, V5, h1, h2, h3, h4, h5, h6⟩ := h.ex
  have I4 := (((I.off (by decide) h1).snd (by decide) h2).off (by decide) h3).snd (by decide) h4
  obtain ⟨Y0, o0, rfl⟩ := h1.one
  obtain ⟨S0, p0, r0, s0, k0, rfl⟩ := h2
  obtain ⟨Y1, o1, rfl⟩ := h3.one
  obtain ⟨S1, p1, r1, s1, k1, rfl⟩ := h4
  obtain ⟨L0, T0, g0, q0, z0, rfl⟩ := h5
  obtain ⟨L1, T1, g1, q1, z1, rfl⟩ := h6
  simp only [at1] at s0 k0 o1 s1 k1 q0 z0 q1 z1
  simp at s0 k0 o1 s1 k1 q0 z0 q1 z1
  refine ⟨fun j => if j = 0 then Y0 else Y1, fun j => if j = 0 then S0 else S1, fun j => if j = 0 then p0 else p1, fun j => if j = 0 then r0 else r1, le1 ?_ ?_, le1 ?_ ?_, le1 ?_ ?_, le1 ?_ ?_, le1 ?_ ?_, _, I4, le1 ?_ ?_⟩
  · exact o0
  · exact o1
  · exact s0
  · exact s1
  · exact k0
  · exact k1
  · exact ⟨L0, g0, q0, z0⟩
  · exact ⟨L1, g1, q1, z1⟩
  · simp [at1]
  · simp [at1]
  · simp [at1]
  · simp [at1]
section
variable {rough : Nat} {many : Nat → Nat} {Ws Ts : Nat → Int} {t j : Nat} {V V' : Wd} {So St : Nat → PS} {pks : Nat → List Pk} {rs : Nat → List Row}
theorem OffS.same {m : Nat} {X Y : PS} (h : OffS rough m t X Y) : Y.W = X.W ∧ Y.T = X.T ∧ Y.sent = X.sent ∧ Y.ns = X.ns ∧ Y.done = X.done ∧ Y.base = X.base ∧ Y.next = X.next ∧ Y.kept = X.kept ∧ Y.owed = X.owed ∧ X.off.length ≤ Y.off.length ∧ (rough ≤ t → X.off.length < m → X.off.length + 1 ≤ Y.off.length) := by
  rcases h with ⟨rfl, h⟩ | ⟨d, h, rfl⟩
  · exact ⟨rfl, rfl, rfl, rfl, rfl, rfl, rfl, rfl, rfl, Nat.le_refl _, fun a b => by have := h b; omega⟩
  · refine ⟨rfl, rfl, rfl, rfl, rfl, rfl, rfl, rfl, rfl, ?_, fun _ _ => ?_⟩
    · show _ ≤ (X.off ++ [d]).length
      rw [List.length_append]
      omega
    · show _ ≤ (X.off ++ [d]).length
      rw [List.length_append]
      exact Nat.le_refl _
/-- peer i has got pk in this tick -/
def Got (V V' : Wd) (i : Nat) (pk : Pk) : Prop := (∀ n d, pk.msg = some (n, d) → ((V.p i).next = n → n < (V'.p i).next) ∧ (V'.p i).owed = true) ∧ pk.ack ≤ (V'.p i).base
theorem TkS.to (T : TkS rough many Ws Ts t V V' So St pks rs) (hj : j < 2) : Stays (St j) (V'.p j) ∧ ((∀ r ∈ V.r (1 - j) ++ rs (1 - j), r.1 ≤ ((t : Nat) : Int) → r.2.msg = none) → (V'.p j).owed = (St j).owed) := by
  obtain ⟨M, I, hM⟩ := T.mid
  obtain ⟨L, gs, h1, h2⟩ := T.arr j hj
  have n := I.nn j hj
  have w := (I.dir j hj).w1
  rw [(hM j hj).1] at n w
  obtain ⟨a, _, b⟩ := h2.stays n w
  refine ⟨a, fun h => b fun pk hp => ?_⟩
  obtain ⟨x, hx, q⟩ := mem_dueRows.mp (h1.mem_iff.mp hp)
  exact h _ q hx
theorem TkS.row (T : TkS rough many Ws Ts t V V' So St pks rs) (hj : j < 2) {a : Int} {pk : Pk} (h : (a, pk) ∈ V.r j ++ rs j) : (a ≤ ((t : Nat) : Int) ∧ Got V V' (1 - j) pk) ∨ (((t : Nat) : Int) < a ∧ (a, pk) ∈ V'.r j) := by
  by_cases ha : a ≤ ((t : Nat) : Int)
  · refine .inl ⟨ha, ?_⟩
    obtain ⟨M, I, hM⟩ := T.mid
    have hi : 1 - j < 2 := by omega
    have hb : 1 - (1 - j) = j := by omega
    obtain ⟨L, gs, h1, h2⟩ := T.arr (1 - j) hi
    rw [hb] at h1
    have n := I.nn _ hi
    have D := I.dir _ hi
    rw [hb, (hM _ hi).1, (hM _ hj).1] at D
    rw [(hM _ hi).1] at n
    have hp := I.rows j hj (a, pk) (by rw [(hM _ hj).2]; exact h)
    rw [(hM _ hj).1] at hp
    obtain ⟨A, B, g, x1, x2, x3, x4⟩ := h2.mem n D.w1 (h1.mem_iff.mpr (mem_dueRows.mpr ⟨a, ha, h⟩))
    obtain ⟨y1, y2, y3, _, y4⟩ := x3.does x2 (by rw [x1.W]; exact D.w1)
    have e1 : (St (1 - j)).next = (V.p (1 - j)).next := by
      rw [(T.snd _ hi).eq]
      exact (T.off _ hi).same.2.2.2.2.2.2.1
    constructor
    · intro n d e
      refine ⟨fun e2 => ?_, x4.owed (y3 n d e).2⟩
      have z1 := x1.next
      have z2 := y1.next
      have z3 := x4.next
      by_cases q : A.next = n
      · have := (y3 n d e).1 q
        omega
      · omega
    · have := y4 (by rw [x1.ns]; exact Int.le_trans hp.2.1 D.nns) (by rw [x1.ns, x1.sent]; exact fun n a b => (D.sentI n).mpr ⟨a, b⟩) (by rw [x1.ns, x1.off]; exact D.nsOff) (Int.le_trans D.b0 x1.base)
      exact Int.le_trans this x4.base
  · refine .inr ⟨by omega, ?_⟩
    rw [T.rds j hj]
    exact List.mem_filter.mpr ⟨h, decide_eq_true (show ((t : Nat) : Int) < a by omega)⟩
/-- a packet on its way, or got -/
def On (t : Nat) (V V' : Wd) (j : Nat) (a : Int) (pk : Pk) : Prop := (a ≤ ((t : Nat) : Int) ∧ Got V V' (1 - j) pk) ∨ (((t : Nat) : Int) < a ∧ (a, pk) ∈ V'.r j)
theorem TkS.sents (T : TkS rough many Ws Ts t V V' So St pks rs) (hj : j < 2) {n s : Int} (h : (V'.p j).sent n = some s) :
    (V.p j).sent n = some s ∨ (s = ((t : Nat) : Int) ∧ (rough ≤ t → ∃ a d pk, pk.msg = some (n, d) ∧ a ≤ ((t : Nat) : Int) + 2 ∧ On t V V' j a pk)) := by
  rw [(T.to hj).1.sent, (T.snd j hj).eq] at h
  have h : (if n ∈ dueL (So j) ((t : Nat) : Int) then some ((t : Nat) : Int) else (So j).sent n) = some s := h
  by_cases q : n ∈ dueL (So j) ((t : Nat) : Int)
  · rw [if_pos q] at h
    refine .inr ⟨(Option.some.inj h).symm, fun hf => ?_⟩
    have hm : headOf (So j) n ∈ heads (So j) ((t : Nat) : Int) := by
      unfold heads
      rw [if_neg (List.ne_nil_of_mem q)]
      exact List.mem_map.mpr ⟨n, q, rfl⟩
    rw [← (T.snd j hj).msgs] at hm
    obtain ⟨pk, h1, h2⟩ := List.mem_map.mp hm
    obtain ⟨a, h3, h4⟩ := (T.rok j hj).2 hf pk h1
    exact ⟨a, _, pk, h2, h4, T.row hj (List.mem_append.mpr (.inr h3))⟩
  · rw [if_neg q, (T.off j hj).same.2.2.1] at h
    exact .inl h
theorem TkS.win (T : TkS rough many Ws Ts t V V' So St pks rs) (hj : j < 2) (hT : 1 ≤ (V.p j).T) {n : Int} (h1 : (V.p j).base ≤ n) (h2 : n < (V.p j).base + (V.p j).W) (h3 : n < (((So j).off.length : Nat) : Int)) (h4 : (V.p j).done n = false) :
    ∃ s, (V'.p j).sent n = some s ∧ ((t : Nat) : Int) - s < (V.p j).T := by
  obtain ⟨a1, a2, a3, a4, a5, a6, _⟩ := (T.off j hj).same
  rw [(T.to hj).1.sent, (T.snd j hj).eq]
  show ∃ s, (if n ∈ dueL (So j) ((t : Nat) : Int) then some ((t : Nat) : Int) else (So j).sent n) = some s ∧ _
  by_cases q : n ∈ dueL (So j) ((t : Nat) : Int)
  · rw [if_pos q]
    exact ⟨_, rfl, by omega⟩
  · rw [if_neg q]
    have hd : ¬ isDue (So j) ((t : Nat) : Int) n = true := fun z => q (mem_dueL.mpr ⟨⟨by omega, end_eq h3 (by omega)⟩, z⟩)
    unfold isDue at hd
    rw [if_neg (by rw [a5, h4]; simp)] at hd
    cases e : (So j).sent n with
    | none =>
      rw [e] at hd
      exact absurd rfl hd
    | some s =>
      rw [e] at hd
      refine ⟨s, rfl, ?_⟩
      have : ¬ (So j).T ≤ ((t : Nat) : Int) - s := fun z => hd (decide_eq_true z)
      omega
theorem TkS.owe (T : TkS rough many Ws Ts t V V' So St pks rs) (hj : j < 2) (hf : rough ≤ t) (ho : (V.p j).owed = true) : ∃ a pk, pk.ack = (V.p j).next ∧ a ≤ ((t : Nat) : Int) + 2 ∧ On t V V' j a pk := by
  obtain ⟨a1, a2, a3, a4, a5, a6, a7, a8, a9, _⟩ := (T.off j hj).same
  have hne : heads (So j) ((t : Nat) : Int) ≠ [] := by
    unfold heads
    split
    · rw [a9, if_pos ho]
      simp
    · rename_i h
      intro z
      exact h (List.map_eq_nil_iff.mp z)
  have hne : pks j ≠ [] := fun z => by
    rw [← (T.snd j hj).msgs, z] at hne
    exact hne rfl
  obtain ⟨pk, hp⟩ := List.exists_mem_of_ne_nil _ hne
  obtain ⟨a, h3, h4⟩ := (T.rok j hj).2 hf pk hp
  exact ⟨a, pk, by rw [((T.snd j hj).acks pk hp).1, a7], h4, T.row hj (List.mem_append.mpr (.inr h3))⟩
theorem TkS.mono (T : TkS rough many Ws Ts t V V' So St pks rs) (hj : j < 2) : (V.p j).next ≤ (V'.p j).next ∧ (V.p j).base ≤ (V'.p j).base ∧ (V'.p j).off.length = (So j).off.length ∧ (V.p j).off.length ≤ (So j).off.length ∧ (rough ≤ t → (V.p j).off.length < many j → (V.p j).off.length + 1 ≤ (So j).off.length) := by
  obtain ⟨a1, a2, a3, a4, a5, a6, a7, a8, a9, a10, a11⟩ := (T.off j hj).same
  have s := (T.to hj).1
  have e := (T.snd j hj).eq
  have e1 : (St j).next = (V.p j).next := by rw [e]; exact a7
  have e2 : (St j).base = (V.p j).base := by rw [e]; exact a6
  have e3 : (St j).off = (So j).off := by rw [e]; rfl
  exact ⟨by have := s.next; omega, by have := s.base; omega, by rw [s.off, e3], a10, a11⟩
end
section
variable {rough : Nat} {many : Nat → Nat} {Ws Ts : Nat → Int} {E : Nat} {f : Nat → Wd} {j : Nat}
structure Traj (rough : Nat) (many : Nat → Nat) (Ws Ts : Nat → Int) (E : Nat) (f : Nat → Wd) : Prop where
  zero : f 0 = ⟨fun j => fresh0 (Ws j) (Ts j), fun _ => [], fun _ => []⟩
  tick : ∀ t, t < E → Tick rough many t (f t) (f (t + 1))
  ws : ∀ j, j < 2 → 1 ≤ Ws j
  ts : ∀ j, j < 2 → 1 ≤ Ts j ∧ Ts j ≤ 5
theorem Traj.si (F : Traj rough many Ws Ts E f) : ∀ t, t ≤ E → SI many Ws Ts ((t : Nat) : Int) (f t)
  | 0, _ => by rw [F.zero]; exact SI.init F.ws
  | t + 1, h => by
    have := (F.si t (by omega)).tick (F.tick t (by omega))
    exact this
theorem Traj.ts' (F : Traj rough many Ws Ts E f) {t : Nat} (h : t < E) : ∃ So St pks rs, TkS rough many Ws Ts t (f t) (f (t + 1)) So St pks rs := (F.tick t h).sum (F.si t (by omega))
theorem Traj.mono1 (F : Traj rough many Ws Ts E f) (hj : j < 2) {t : Nat} (h : t < E) : ((f t).p j).next ≤ ((f (t + 1)).p j).next ∧ ((f t).p j).base ≤ ((f (t + 1)).p j).base ∧ ((f t).p j).off.length ≤ ((f (t + 1)).p j).off.length ∧ (rough ≤ t → ((f t).p j).off.length < many j → ((f t).p j).off.length + 1 ≤ ((f (t + 1)).p j).off.length) := by
  obtain ⟨So, St, pks, rs, T⟩ := F.ts' h
  obtain ⟨a, b, c, d, e⟩ := T.mono hj
  exact ⟨a, b, by omega, fun x y => by have := e x y; omega⟩
theorem Traj.mono (F : Traj rough many Ws Ts E f) (hj : j < 2) {t : Nat} : ∀ k, t + k ≤ E → ((f t).p j).next ≤ ((f (t + k)).p j).next ∧ ((f t).p j).base ≤ ((f (t + k)).p j).base ∧ ((f t).p j).off.length ≤ ((f (t + k)).p j).off.length
  | 0, _ => ⟨Int.le_refl _, Int.le_refl _, Nat.le_refl _⟩
  | k + 1, h => by
    obtain ⟨a, b, c⟩ := F.mono hj (t := t) k (by omega)
    obtain ⟨a1, b1, c1, _⟩ := F.mono1 hj (t := t + k) (by omega)
    exact ⟨Int.le_trans a a1, Int.le_trans b b1, Nat.le_trans c c1⟩
theorem Traj.mono' (F : Traj rough many Ws Ts E f) (hj : j < 2) {t u : Nat} (h1 : t ≤ u) (h2 : u ≤ E) : ((f t).p j).next ≤ ((f u).p j).next ∧ ((f t).p j).base ≤ ((f u).p j).base ∧ ((f t).p j).off.length ≤ ((f u).p j).off.length := by
  have := F.mono hj (t := t) (u - t) (by omega)
  rw [show t + (u - t) = u by omega] at this
  exact this
theorem Traj.offs (F : Traj rough many Ws Ts E f) (hj : j < 2) : ∀ k, rough + k ≤ E → k ≤ many j → k ≤ ((f (rough + k)).p j).off.length
  | 0, _, _ => Nat.zero_le _
  | k + 1, h, hk => by
    have ih := F.offs hj k (by omega) (by omega)
    obtain ⟨_, _, c1, c2⟩ := F.mono1 hj (t := rough + k) (by omega)
    by_cases q : ((f (rough + k)).p j).off.length < many j
    · have := c2 (by omega) q
      show _ ≤ ((f (rough + k + 1)).p j).off.length
      omega
    · show _ ≤ ((f (rough + k + 1)).p j).off.length
      omega
theorem Traj.full (F : Traj rough many Ws Ts E f) (hj : j < 2) {t : Nat} (h : rough + many j ≤ t) (he : t ≤ E) : ((f t).p j).off.length = many j := by
  have a := F.offs hj (many j) (by omega) (Nat.le_refl _)
  have b := (F.mono' hj h he).2.2
  have c := (F.si t he).offs j hj
  omega
/-- a packet arrives -/
theorem Traj.comes (F : Traj rough many Ws Ts E f) (hj : j < 2) {a : Int} {pk : Pk} : ∀ k t, (a, pk) ∈ (f t).r j → a ≤ ((t + k : Nat) : Int) → t + k < E → ∃ u, t ≤ u ∧ u ≤ t + k ∧ Got (f u) (f (u + 1)) (1 - j) pk
  | k, t, h, ha, he => by
    obtain ⟨So, St, pks, rs, T⟩ := F.ts' (t := t) (by omega)
    rcases T.row hj (List.mem_append.mpr (.inl h)) with ⟨_, q⟩ | ⟨q1, q2⟩
    · exact ⟨t, Nat.le_refl _, by omega, q⟩
    · cases k with
      | zero => exact absurd ha (by omega)
      | succ k =>
        obtain ⟨u, b1, b2, b3⟩ := F.comes hj k (t + 1) q2 (by omega) (by omega)
        exact ⟨u, by omega, by omega, b3⟩
theorem Traj.on (F : Traj rough many Ws Ts E f) (hj : j < 2) {a : Int} {pk : Pk} {t : Nat} (h : On t (f t) (f (t + 1)) j a pk) (ha : a ≤ ((t : Nat) : Int) + 2) (he : t + 2 < E) : ∃ u, t ≤ u ∧ u ≤ t + 2 ∧ Got (f u) (f (u + 1)) (1 - j) pk := by
  rcases h with ⟨_, q⟩ | ⟨q1, q2⟩
  · exact ⟨t, Nat.le_refl _, by omega, q⟩
  · obtain ⟨u, b1, b2, b3⟩ := F.comes hj 1 (t + 1) q2 (by omega) (by omega)
    exact ⟨u, by omega, by omega, b3⟩
def Rcv (f : Nat → Wd) (v j : Nat) (n : Int) : Prop := ∃ pk d, pk.msg = some (n, d) ∧ Got (f v) (f (v + 1)) (1 - j) pk
theorem Traj.hist (F : Traj rough many Ws Ts E f) (hj : j < 2) {n s : Int} : ∀ t, t ≤ E → ((f t).p j).sent n = some s → ∃ u, u < t ∧ s = ((u : Nat) : Int) ∧ (rough ≤ u → u + 2 < E → ∃ v, u ≤ v ∧ v ≤ u + 2 ∧ Rcv f v j n)
  | 0, _, h => by
    rw [F.zero] at h
    cases h
  | t + 1, he, h => by
    obtain ⟨So, St, pks, rs, T⟩ := F.ts' (t := t) (by omega)
    rcases T.sents hj h with q | ⟨q1, q2⟩
    · obtain ⟨u, a, b, c⟩ := F.hist hj t (by omega) q
      exact ⟨u, by omega, b, c⟩
    · refine ⟨t, by omega, q1, fun hf h2 => ?_⟩
      obtain ⟨a, d, pk, e1, e2, e3⟩ := q2 hf
      obtain ⟨v, v1, v2, v3⟩ := F.on hj e3 e2 h2
      exact ⟨v, v1, v2, pk, d, e1, v3⟩
theorem Traj.again (F : Traj rough many Ws Ts E f) (hj : j < 2) {t : Nat} {n : Int} (ht : rough + 4 ≤ t) (he : t + 2 < E) (h1 : ((f t).p j).base ≤ n) (h2 : n < ((f t).p j).base + ((f t).p j).W) (h3 : n < ((((f t).p j).off.length : Nat) : Int)) (h4 : ((f t).p j).done n = false) :
    ∃ v, t ≤ v + 4 ∧ v ≤ t + 2 ∧ Rcv f v j n := by
  obtain ⟨So, St, pks, rs, T⟩ := F.ts' (t := t) (by omega)
  have w := (F.si t (by omega)).ws j hj
  have tt := F.ts j hj
  obtain ⟨s, a1, a2⟩ := T.win hj (by rw [w.2]; exact tt.1) h1 h2 (by have := (T.mono hj).2.2.2.1; omega) h4
  obtain ⟨u, b1, b2, b3⟩ := F.hist hj (t + 1) (by omega) a1
  rw [w.2] at a2
  obtain ⟨v, c1, c2, c3⟩ := b3 (by omega) (by omega)
  exact ⟨v, by omega, by omega, c3⟩
theorem Traj.acked (F : Traj rough many Ws Ts E f) (hj : j < 2) {t : Nat} {n : Int} (ht : rough ≤ t) (he : t + 10 ≤ E) (h : n ≤ ((f t).p (1 - j)).next) : n ≤ ((f (t + 10)).p j).base := by
  apply Int.not_lt.mp
  intro z
  have hi : 1 - j < 2 := by omega
  have hb : 1 - (1 - j) = j := by omega
  have I := F.si (t + 4) (by omega)
  have D := I.dir j hj
  have m1 := (F.mono' hj (t := t + 4) (u := t + 10) (by omega) he).2.1
  have m2 := (F.mono' hi (t := t) (u := t + 4) (by omega) (by omega)).1
  have d1 := D.nns
  have d2 := D.nsOff
  have d3 := D.w1
  obtain ⟨v, v1, v2, pk, d, v3, v4⟩ := F.again hj (t := t + 4) (n := ((f (t + 4)).p j).base) (by omega) (by omega) (Int.le_refl _) (by omega) (by omega) D.bnot
  have ow := (v4.1 _ _ v3).2
  obtain ⟨So, St, pks, rs, T⟩ := F.ts' (t := v + 1) (by omega)
  obtain ⟨a, pk2, e1, e2, e3⟩ := T.owe hi (by omega) ow
  obtain ⟨u, u1, u2, u3⟩ := F.on hi e3 e2 (by omega)
  rw [hb] at u3
  have m3 := (F.mono' hi (t := t) (u := v + 1) (by omega) (by omega)).1
  have m4 := (F.mono' hj (t := u + 1) (u := t + 10) (by omega) he).2.1
  have := u3.2
  omega
theorem Traj.step (F : Traj rough many Ws Ts E f) (hj : j < 2) (hm : many j ≤ 9) {t : Nat} {n : Int} (ht : rough ≤ t) (he : t + 13 ≤ E) (h : n ≤ ((f t).p (1 - j)).next) (hn : n < ((many j : Nat) : Int)) : n < ((f (t + 13)).p (1 - j)).next := by
  apply Int.not_le.mp
  intro z
  have hi : 1 - j < 2 := by omega
  have m1 := (F.mono' hi (t := t) (u := t + 10) (by omega) (by omega)).1
  have m2 := (F.mono' hi (t := t + 10) (u := t + 13) (by omega) (by omega)).1
  have b1 := F.acked hj ht (by omega) h
  have I := F.si (t + 10) (by omega)
  have D := I.dir j hj
  have b2 := D.base_le (I.nn _ hi)
  have e : ((f (t + 10)).p j).base = n := by omega
  have w := D.w1
  have bn := D.bnot
  rw [e] at bn
  obtain ⟨v, v1, v2, pk, d, v3, v4⟩ := F.again hj (t := t + 10) (n := n) (by omega) (by omega) (by omega) (by omega) (by rw [F.full hj (by omega) (by omega)]; exact hn) bn
  have m3 := (F.mono' hi (t := t) (u := v) (by omega) (by omega)).1
  have m4 := (F.mono' hi (t := v) (u := t + 13) (by omega) (by omega)).1
  have := (v4.1 _ _ v3).1 (by omega)
  have m5 := (F.mono' hi (t := v + 1) (u := t + 13) (by omega) (by omega)).1
  omega
theorem Traj.goes (F : Traj rough many Ws Ts E f) (hj : j < 2) (hm : many j ≤ 9) : ∀ k : Nat, k ≤ many j → rough + 13 * k ≤ E → ((k : Nat) : Int) ≤ ((f (rough + 13 * k)).p (1 - j)).next
  | 0, _, h => by
    have := (F.si (rough + 13 * 0) h).dir j hj
    exact this.n0
  | k + 1, hk, h => by
    have ih := F.goes hj hm k (by omega) (by omega)
    have := F.step hj hm (t := rough + 13 * k) (n := ((k : Nat) : Int)) (by omega) (by omega) ih (by omega)
    rw [show rough + 13 * (k + 1) = rough + 13 * k + 13 by omega]
    omega
/-- all is acknowledged from rough + 127 on -/
theorem Traj.all (F : Traj rough many Ws Ts E f) (hj : j < 2) (hm : many j ≤ 9) {t : Nat} (ht : rough + 127 ≤ t) (he : t ≤ E) :
    ((f t).p j).base = ((many j : Nat) : Int) ∧ ((f t).p j).off.length = many j ∧ ((f t).p (1 - j)).next = ((many j : Nat) : Int) := by
  have hi : 1 - j < 2 := by omega
  have a := F.goes hj hm (many j) (Nat.le_refl _) (by omega)
  have a2 := (F.mono' hi (t := rough + 13 * many j) (u := rough + 117) (by omega) (by omega)).1
  have b := F.acked hj (t := rough + 117) (n := ((many j : Nat) : Int)) (by omega) (by omega) (by omega)
  have b2 := (F.mono' hj (t := rough + 117 + 10) (u := t) (by omega) (by omega)).2.1
  have a3 := (F.mono' hi (t := rough + 117) (u := t) (by omega) (by omega)).1
  have D := (F.si t he).dir j hj
  have c := F.full hj (t := t) (by omega) he
  have d1 := D.nns
  have d2 := D.nsOff
  have d3 := D.bns
  exact ⟨by omega, c, by omega⟩
theorem Traj.age (F : Traj rough many Ws Ts E f) (hj : j < 2) : ∀ t, t ≤ E → ∀ r ∈ (f t).r j, ((t : Nat) : Int) ≤ r.1 ∧ r.1 ≤ ((t : Nat) : Int) + 8
  | 0, _, r, h => by
    rw [F.zero] at h
    cases h
  | t + 1, he, r, h => by
    obtain ⟨So, St, pks, rs, T⟩ := F.ts' (t := t) (by omega)
    rw [T.rds j hj] at h
    obtain ⟨h1, h2⟩ := List.mem_filter.mp h
    have h2 := of_decide_eq_true h2
    rcases List.mem_append.mp h1 with q | q
    · have := F.age hj t (by omega) r q
      exact ⟨by omega, by omega⟩
    · have := (T.rok j hj).1 r q
      exact ⟨by omega, by omega⟩
theorem dueL_nil {st : PS} {now : Int} (h : ((st.off.length : Nat) : Int) ≤ st.base) : dueL st now = [] := by
  have e := end_le st
  unfold dueL rangeI
  rw [show (endI st - st.base).toNat = 0 by omega]
  rfl
/-- what is sent when all is acknowledged -/
theorem Traj.quiet (F : Traj rough many Ws Ts E f) (hj : j < 2) (hm : many j ≤ 9) {t : Nat} (ht : rough + 127 ≤ t) (he : t < E) {So St pks rs} (T : TkS rough many Ws Ts t (f t) (f (t + 1)) So St pks rs) :
    (∀ pk ∈ pks j, pk.msg = none) ∧ (((f t).p j).owed = false → pks j = []) ∧ (St j).owed = false := by
  obtain ⟨a, b, _⟩ := F.all hj hm ht (by omega)
  have c := F.full hj (t := t + 1) (by omega) (by omega)
  have m := T.mono hj
  have o := (T.off j hj).same
  have dn : dueL (So j) ((t : Nat) : Int) = [] := dueL_nil (by rw [o.2.2.2.2.2.1, a, ← m.2.2.1, c]; exact Int.le_refl _)
  have hh : heads (So j) ((t : Nat) : Int) = if (So j).owed = true then [none] else [] := by
    unfold heads
    rw [if_pos dn]
  have hs := (T.snd j hj).msgs
  rw [hh, o.2.2.2.2.2.2.2.2.1] at hs
  refine ⟨fun pk hp => ?_, fun z => ?_, by rw [(T.snd j hj).eq]; rfl⟩
  · have : pk.msg ∈ (pks j).map (·.msg) := List.mem_map.mpr ⟨pk, hp, rfl⟩
    rw [hs] at this
    split at this
    · exact List.mem_singleton.mp this
    · cases this
  · rw [z] at hs
    exact List.map_eq_nil_iff.mp hs
theorem Traj.nodata (F : Traj rough many Ws Ts E f) (hj : j < 2) (hm : many j ≤ 9) : ∀ k, rough + 127 + k ≤ E → ∀ r ∈ (f (rough + 127 + k)).r j, r.2.msg ≠ none → r.1 ≤ ((rough + 135 : Nat) : Int)
  | 0, he, r, h, _ => by
    have := F.age hj (rough + 127 + 0) he r h
    omega
  | k + 1, he, r, h, hr => by
    obtain ⟨So, St, pks, rs, T⟩ := F.ts' (t := rough + 127 + k) (by omega)
    have h : r ∈ (f (rough + 127 + k + 1)).r j := h
    rw [T.rds j hj] at h
    obtain ⟨h1, h2⟩ := List.mem_filter.mp h
    rcases List.mem_append.mp h1 with q | q
    · exact F.nodata hj hm k (by omega) r q hr
    · exact absurd ((F.quiet hj hm (by omega) (by omega) T).1 _ ((T.rok j hj).1 r q).1) hr
theorem Traj.nodata' (F : Traj rough many Ws Ts E f) (hj : j < 2) (hm : many j ≤ 9) {t : Nat} (ht : rough + 136 ≤ t) (he : t ≤ E) : ∀ r ∈ (f t).r j, r.2.msg = none := fun r hr => by
  cases e : r.2.msg with
  | none => rfl
  | some x =>
    have a := F.nodata hj hm (t - (rough + 127)) (by omega) r (by rw [show rough + 127 + (t - (rough + 127)) = t by omega]; exact hr) (by rw [e]; simp)
    have b := F.age hj t he r hr
    omega
theorem Traj.notowed (F : Traj rough many Ws Ts E f) (hj : j < 2) (hm : ∀ j, j < 2 → many j ≤ 9) {t : Nat} (ht : rough + 136 ≤ t) (he : t + 1 ≤ E) : ((f (t + 1)).p j).owed = false := by
  obtain ⟨So, St, pks, rs, T⟩ := F.ts' (t := t) (by omega)
  have hi : 1 - j < 2 := by omega
  rw [(T.to hj).2 fun r hr _ => ?_]
  · exact (F.quiet hj (hm j hj) (by omega) (by omega) T).2.2
  · rcases List.mem_append.mp hr with q | q
    · exact F.nodata' hi (hm _ hi) ht (by omega) r q
    · exact (F.quiet hi (hm _ hi) (by omega) (by omega) T).1 _ ((T.rok _ hi).1 r q).1
theorem Traj.still (F : Traj rough many Ws Ts E f) (hj : j < 2) (hm : ∀ j, j < 2 → many j ≤ 9) : ∀ k, rough + 137 + k ≤ E → ∀ r ∈ (f (rough + 137 + k)).r j, r.1 ≤ ((rough + 145 : Nat) : Int)
  | 0, he, r, h => by
    have := F.age hj (rough + 137 + 0) he r h
    omega
  | k + 1, he, r, h => by
    obtain ⟨So, St, pks, rs, T⟩ := F.ts' (t := rough + 137 + k) (by omega)
    have h : r ∈ (f (rough + 137 + k + 1)).r j := h
    rw [T.rds j hj] at h
    obtain ⟨h1, h2⟩ := List.mem_filter.mp h
    rcases List.mem_append.mp h1 with q | q
    · exact F.still hj hm k (by omega) r q
    · have z := (F.quiet hj (hm j hj) (by omega) (by omega) T).2.1 (by
        have := F.notowed hj hm (t := rough + 136 + k) (by omega) (by omega)
        rw [show rough + 137 + k = rough + 136 + k + 1 by omega]
        exact this)
      have := ((T.rok j hj).1 r q).1
      rw [z] at this
      cases this
/-- THE END -/
theorem Traj.final (F : Traj rough many Ws Ts (rough + 160) f) (hm : ∀ j, j < 2 → many j ≤ 9) (hj : j < 2) :
    ((f (rough + 160)).p j).off.length = many j ∧ ((f (rough + 160)).p j).base = ((many j : Nat) : Int) ∧ ((f (rough + 160)).p j).owed = false ∧ (f (rough + 160)).g (1 - j) = ((f (rough + 160)).p j).off ∧ (f (rough + 160)).r j = [] := by
  obtain ⟨a, b, c⟩ := F.all hj (hm j hj) (t := rough + 160) (by omega) (Nat.le_refl _)
  refine ⟨b, a, F.notowed hj hm (t := rough + 159) (by omega) (by omega), ?_, ?_⟩
  · have := ((F.si (rough + 160) (Nat.le_refl _)).dir j hj).giv
    rw [this, c]
    have e : (((many j : Nat) : Int)).toNat = ((f (rough + 160)).p j).off.length := by omega
    rw [e, List.take_length]
  · apply List.eq_nil_iff_forall_not_mem.mpr
    intro r hr
    have x := F.still hj hm 23 (by omega) r hr
    have y := F.age hj (rough + 160) (Nat.le_refl _) r hr
    omega
end
end FH
namespace FH
open PySem L2
/-! ### the text by places -/
def top (i : Nat) : Stmt := PySem.Challenge.pw_farhaul_k62_whole_exchanges_lose_nothing.main.body.getD i (.Pass ⟨0, 0, 0, 0⟩)
abbrev sInit : Stmt := inClass (top 8) 0
abbrev sOffer : Stmt := inClass (top 8) 1
abbrev sDue : Stmt := inClass (top 8) 2
abbrev sMask : Stmt := inClass (top 8) 3
abbrev sPackets : Stmt := inClass (top 8) 4
abbrev sAck : Stmt := inClass (top 8) 5
abbrev sReceive : Stmt := inClass (top 8) 6
abbrev sBase : Stmt := inClass (top 8) 7
abbrev sNext : Stmt := inClass (top 8) 8
abbrev sOpen : Stmt := inClass (top 8) 9
abbrev sDraws : Stmt := top 10
abbrev sMix : Stmt := top 11
abbrev sFates : Stmt := top 12
abbrev sSent : Stmt := top 13
abbrev sArrived : Stmt := top 14
abbrev sLaw : Stmt := top 15
/-! ### a peer's attributes -/
def pk : List Str := ["_window", "_wait", "_now", "_offered", "_sent", "_done", "_base", "_next", "_kept", "_owed"]
theorem pkN : pk.Nodup := by decide +kernel
theorem lookup_zip : ∀ {ks : List Str} {vs : List V} {i : Nat} {k : Str} {v : V}, ks.Nodup → ks[i]? = some k → vs[i]? = some v → (ks.zip vs).lookup k = some v
  | [], _, i, _, _, _, h, _ => by simp at h
  | _ :: _, [], _, _, _, _, _, h => by simp at h
  | a :: ks, b :: vs, 0, k, v, _, h1, h2 => by
    have e1 : a = k := Option.some.inj h1
    have e2 : b = v := Option.some.inj h2
    subst e1 e2
    show List.lookup a ((a, b) :: ks.zip vs) = some b
    rw [List.lookup_cons, beq_self_eq_true]
  | a :: ks, b :: vs, i + 1, k, v, n, h1, h2 => by
    obtain ⟨n1, n2⟩ := List.nodup_cons.mp n
    have h1 : ks[i]? = some k := h1
    have h2 : vs[i]? = some v := h2
    have ne : (k == a) = false := beq_eq_false_iff_ne.mpr fun e => n1 (e ▸ List.mem_of_getElem? h1)
    show List.lookup k ((a, b) :: ks.zip vs) = some v
    rw [List.lookup_cons, ne]
    exact lookup_zip n2 h1 h2
theorem lookup_zip_none : ∀ {ks : List Str} {vs : List V} {k : Str}, ¬ k ∈ ks → (ks.zip vs).lookup k = none
  | [], _, _, _ => by simp
  | _ :: _, [], _, _ => by simp
  | a :: ks, b :: vs, k, h => by
    have ne : (k == a) = false := beq_eq_false_iff_ne.mpr fun e => h (List.mem_cons.mpr (.inl e))
    show List.lookup k ((a, b) :: ks.zip vs) = none
    rw [List.lookup_cons, ne]
    exact lookup_zip_none fun m => h (List.mem_cons.mpr (.inr m))
theorem putF_zip {v : V} : ∀ {ks : List Str} {vs : List V} {i : Nat} {k : Str}, ks.Nodup → ks[i]? = some k → i < vs.length → putF k v (ks.zip vs) = ks.zip (vs.set i v)
  | [], _, i, _, _, h, _ => by simp at h
  | _ :: _, [], _, _, _, _, h => by simp at h
  | a :: ks, b :: vs, 0, k, _, h1, h2 => by
    have e1 : a = k := Option.some.inj h1
    subst e1
    show (if a = a then (a, v) :: ks.zip vs else _) = (a, v) :: ks.zip vs
    rw [if_pos rfl]
  | a :: ks, b :: vs, i + 1, k, n, h1, h2 => by
    obtain ⟨n1, n2⟩ := List.nodup_cons.mp n
    have h1 : ks[i]? = some k := h1
    have h2 : i < vs.length := by simpa using h2
    have ne : ¬ a = k := fun e => n1 (e ▸ List.mem_of_getElem? h1)
    show (if a = k then (a, v) :: ks.zip vs else (a, b) :: putF k v (ks.zip vs)) = (a, b) :: ks.zip (vs.set i v)
    rw [if_neg ne, putF_zip n2 h1 h2]
theorem putF_new {v : V} : ∀ {fs : List (Str × V)} {k : Str}, ¬ k ∈ fs.map (·.1) → putF k v fs = fs ++ [(k, v)]
  | [], _, _ => rfl
  | (a, b) :: fs, k, h => by
    have ne : ¬ a = k := fun e => h (List.mem_cons.mpr (.inl e.symm))
    show (if a = k then (a, v) :: fs else (a, b) :: putF k v fs) = (a, b) :: (fs ++ [(k, v)])
    rw [if_neg ne, putF_new fun m => h (List.mem_cons.mpr (.inr m))]
def pv' (W T : Int) (now : V) (lo ls ld : Addr) (b n : Int) (lk : Addr) (ow : Bool) : List V := [.int W, .int T, now, .ref lo, .ref ls, .ref ld, .int b, .int n, .ref lk, .bl ow]
def pf (W T : Int) (now : V) (lo ls ld : Addr) (b n : Int) (lk : Addr) (ow : Bool) : List (Str × V) := pk.zip (pv' W T now lo ls ld b n lk ow)
section
variable {W T : Int} {now : V} {lo ls ld : Addr} {b n : Int} {lk : Addr} {ow : Bool}
theorem f_window : (pf W T now lo ls ld b n lk ow).lookup ("_window" : Str) = some (.int W) := lookup_zip (i := 0) pkN rfl rfl
theorem f_wait : (pf W T now lo ls ld b n lk ow).lookup ("_wait" : Str) = some (.int T) := lookup_zip (i := 1) pkN rfl rfl
theorem f_now : (pf W T now lo ls ld b n lk ow).lookup ("_now" : Str) = some now := lookup_zip (i := 2) pkN rfl rfl
theorem f_offered : (pf W T now lo ls ld b n lk ow).lookup ("_offered" : Str) = some (.ref lo) := lookup_zip (i := 3) pkN rfl rfl
theorem f_sent : (pf W T now lo ls ld b n lk ow).lookup ("_sent" : Str) = some (.ref ls) := lookup_zip (i := 4) pkN rfl rfl
theorem f_done : (pf W T now lo ls ld b n lk ow).lookup ("_done" : Str) = some (.ref ld) := lookup_zip (i := 5) pkN rfl rfl
theorem f_base : (pf W T now lo ls ld b n lk ow).lookup ("_base" : Str) = some (.int b) := lookup_zip (i := 6) pkN rfl rfl
theorem f_next : (pf W T now lo ls ld b n lk ow).lookup ("_next" : Str) = some (.int n) := lookup_zip (i := 7) pkN rfl rfl
theorem f_kept : (pf W T now lo ls ld b n lk ow).lookup ("_kept" : Str) = some (.ref lk) := lookup_zip (i := 8) pkN rfl rfl
theorem f_owed : (pf W T now lo ls ld b n lk ow).lookup ("_owed" : Str) = some (.bl ow) := lookup_zip (i := 9) pkN rfl rfl
theorem p_now {v : V} : putF "_now" v (pf W T now lo ls ld b n lk ow) = pf W T v lo ls ld b n lk ow := putF_zip (i := 2) pkN rfl (by show 2 < 10; decide)
theorem p_base {v : Int} : putF "_base" (.int v) (pf W T now lo ls ld b n lk ow) = pf W T now lo ls ld v n lk ow := putF_zip (i := 6) pkN rfl (by show 6 < 10; decide)
theorem p_next {v : Int} : putF "_next" (.int v) (pf W T now lo ls ld b n lk ow) = pf W T now lo ls ld b v lk ow := putF_zip (i := 7) pkN rfl (by show 7 < 10; decide)
theorem p_owed {v : Bool} : putF "_owed" (.bl v) (pf W T now lo ls ld b n lk ow) = pf W T now lo ls ld b n lk v := putF_zip (i := 9) pkN rfl (by show 9 < 10; decide)
theorem f_len : (pf W T now lo ls ld b n lk ow).length < 1000 := by show 10 < 1000; decide
theorem f_no {m : Str} (h : decide (m ∈ pk) = false) : (pf W T now lo ls ld b n lk ow).lookup m = none := lookup_zip_none (of_decide_eq_false h)
end
/-! ### a reading may be made stronger -/
theorem PE_imp {X : Cx} {e : Expr} {t t' : TE} (h : PE X e t) (i : ∀ σ H Q, t' σ H Q → t σ H Q) : PE X e t' := ⟨fun pins s σ H Q I q => h.run pins s σ H Q I (i σ H Q q)⟩
theorem PT_imp {X : Cx} {e : Expr} {t t' : TT} (h : PT X e t) (i : ∀ σ H Q, t' σ H Q → t σ H Q) : PT X e t' := ⟨fun pins s σ H Q I q => h.run pins s σ H Q I (i σ H Q q)⟩
theorem PSs_imp {X : Cx} {e : List Stmt} {t t' : TS} (h : PSs X e t) (i : ∀ D σ H, t' D σ H → t D σ H) : PSs X e t' := ⟨fun pins s σ H D I q => h.run pins s σ H D I (i D σ H q)⟩
theorem PS_imp {X : Cx} {e : Stmt} {t t' : TS} (h : L2.PS X e t) (i : ∀ D σ H, t' D σ H → t D σ H) : L2.PS X e t' := ⟨fun pins s σ H D I q => h.run pins s σ H D I (i D σ H q)⟩
/-! ### rules whose reading names K, not the context's (for a comprehension's block) -/
section
variable {X : Cx} {K : PySem.W.Frag}
theorem pe_fldK {e : Expr} {f : Str} {pos : Pos} {ta : TE} (hK : X.K = K) (he : PE X e ta) (hb : attributeBase e f X.env (eval e X.env) = eval e X.env) : PE X (.Attribute e f pos) (tFld K ta f) := by
  subst hK
  exact pe_fld he hb
theorem ix_listK (hK : X.K = K) : IxR X (rIxL K) := by
  subst hK
  exact ix_list
theorem ix_tupK (hK : X.K = K) : IxR X (rIxT K) := by
  subst hK
  exact ix_tup
theorem call_list_ofK (hK : X.K = K) : CallR X (.type "list") (fun xs H Q => ∃ p ys, xs = [.ref p] ∧ (SqL K H p ys ∨ SqT K H p ys) ∧ ∀ l, H l = none → Q (.ref l) (upd H l (.lst ys))) := by
  subst hK
  exact call_list_of
theorem pg_tupK {es : List Expr} {k : Nat} {pos : Pos} {t : TGs} {n : Nat} (hK : X.K = K) (hc : X.calm = true) (h : PGs X es t)
    (hn : (assignEach es X.env).length = n := by rfl) (hst : (assignEach es X.env).findIdx? (·.1) = none := by rfl) : PG X (.Tuple es k pos) (gTup K n t) := by
  subst hK
  exact pg_tup hc h hn hst
end
/-! ### heaps -/
abbrev Tags := Addr → Nat
/-- what has a tag outside T is kept -/
structure Ex (T : Nat → Prop) (κ : Tags) (H H' : Hp) : Prop where
  kp : ∀ b o, H b = some o → ¬ T (κ b) → H' b = some o
  lv : ∀ b, H b ≠ none → H' b ≠ none
/-- what has a tag stands -/
def Tg (κ : Tags) (H : Hp) : Prop := ∀ b, κ b ≠ 0 → H b ≠ none
section
variable {T T' : Nat → Prop} {κ : Tags} {H H1 H2 : Hp} {a p : Addr} {o : HO}
theorem Ex.refl : Ex T κ H H := ⟨fun _ _ h _ => h, fun _ h => h⟩
theorem Ex.trans (x : Ex T κ H H1) (y : Ex T κ H1 H2) : Ex T κ H H2 := ⟨fun b o h t => y.kp b o (x.kp b o h t) t, fun b h => y.lv b (x.lv b h)⟩
theorem Ex.new (h : H p = none) : Ex T κ H (upd H p o) := ⟨fun b u e _ => by rw [upd_ne (ne_of_none e h)]; exact e, fun b e => by
  by_cases q : b = p
  · rw [q, upd_same]; simp
  · rw [upd_ne q]; exact e⟩
theorem Ex.put (t : T (κ p)) : Ex T κ H (upd H p o) := ⟨fun b u e n => by
  have q : b ≠ p := fun z => n (z ▸ t)
  rw [upd_ne q]; exact e, fun b e => by
  by_cases q : b = p
  · rw [q, upd_same]; simp
  · rw [upd_ne q]; exact e⟩
theorem Ex.over (x : Ex T κ H H1) (h : H p = none) : Ex T κ H (upd H1 p o) := ⟨fun b u e n => by
  rw [upd_ne (ne_of_none e h)]; exact x.kp b u e n, fun b e => by
  by_cases q : b = p
  · rw [q, upd_same]; simp
  · rw [upd_ne q]; exact x.lv b e⟩
theorem Ex.mono (x : Ex T κ H H1) (h : ∀ n, T n → T' n) : Ex T' κ H H1 := ⟨fun b o e n => x.kp b o e fun t => n (h _ t), x.lv⟩
theorem Ex.tg (x : Ex T κ H H1) (h : Tg κ H) : Tg κ H1 := fun b n => x.lv b (h b n)
theorem Tg.free (h : Tg κ H) (e : H p = none) : κ p = 0 := by
  apply Classical.byContradiction
  intro n
  exact h p n e
theorem Ex.of_same (h : ∀ b o, H b = some o → H1 b = some o) : Ex T κ H H1 := ⟨fun b o e _ => h b o e, fun b e => by
  cases q : H b with
  | none => exact absurd q e
  | some o => rw [h b o q]; simp⟩
theorem Ex.nof (x : Ex T κ H H1) (e : H1 p = none) : H p = none := by
  cases q : H p with
  | none => rfl
  | some o => exact absurd e (x.lv p (by rw [q]; simp))
end
/-- frozen data -/
def Dat (κ : Tags) (H : Hp) (x : Addr) (d : List Int) : Prop := κ x = 0 ∧ H x = some (.lst (d.map V.int))
theorem Dat.ex {T : Nat → Prop} {κ : Tags} {H H' : Hp} {x : Addr} {d : List Int} (h : Dat κ H x d) (t0 : ¬ T 0) (e : Ex T κ H H') : Dat κ H' x d := ⟨h.1, e.kp _ _ h.2 (by rw [h.1]; exact t0)⟩
/-- a dict with int keys -/
def DictI (H : Hp) (a : Addr) (f : Int → Option V) (n : Nat) : Prop := ∃ kvs : List (Key × V), H a = some (.dK kvs) ∧ kvs.length = n ∧ (kvs.map (·.1)).Nodup ∧ (∀ q ∈ kvs, ∃ k : Int, q.1 = .inl k) ∧ ∀ k : Int, valV kvs (.inl k) = f k
theorem DictI.get {H : Hp} {a : Addr} {f : Int → Option V} {n : Nat} (h : DictI H a f n) (k : Int) : DGet H a (.int k) (f k) := by
  obtain ⟨kvs, h1, _, _, _, h5⟩ := h
  have := DGet.k (k := Sum.inl k) h1
  rw [h5] at this
  exact this
theorem DictI.of {H H' : Hp} {a : Addr} {f : Int → Option V} {n : Nat} (h : DictI H a f n) (e : ∀ o, H a = some o → H' a = some o) : DictI H' a f n := by
  obtain ⟨kvs, h1, h2⟩ := h
  exact ⟨kvs, e _ h1, h2⟩
theorem DictI.ex {T : Nat → Prop} {κ : Tags} {H H' : Hp} {a : Addr} {f : Int → Option V} {n : Nat} (h : DictI H a f n) (t : ¬ T (κ a)) (e : Ex T κ H H') : DictI H' a f n := h.of fun o q => e.kp _ _ q t
theorem DictI.nil {H : Hp} {a : Addr} (h : H a = some (.dK [])) : DictI H a (fun _ => none) 0 := ⟨[], h, rfl, List.nodup_nil, (fun q hq => by cases hq), fun _ => rfl⟩
theorem length_put_old {kvs : List (Key × V)} {k : Key} {v : V} (h : (valV kvs k).isSome = true) : (putK kvs k v).length = kvs.length := by
  unfold putK
  rw [if_pos (by rw [valV_any]; exact h), List.length_map]
theorem keys_put_old {kvs : List (Key × V)} {k : Key} {v : V} (h : (valV kvs k).isSome = true) : (putK kvs k v).map (·.1) = kvs.map (·.1) := by
  unfold putK
  rw [if_pos (by rw [valV_any]; exact h), List.map_map]
  apply List.map_congr_left
  intro p _
  show (if p.1 = k then (p.1, v) else p).1 = p.1
  split <;> rfl
/-- d[k] = v -/
theorem DictI.put {H : Hp} {a : Addr} {f : Int → Option V} {n : Nat} (h : DictI H a f n) (k : Int) (v : V) (hn : n < sizeLine) :
    ∃ o, DPut H a (.int k) v (upd H a o) ∧ DictI (upd H a o) a (fun j => if j = k then some v else f j) (if (f k).isSome = true then n else n + 1) := by
  obtain ⟨kvs, h1, h2, h3, h4, h5⟩ := h
  refine ⟨.dK (putK kvs (.inl k) v), DPut.k (k := Sum.inl k) h1 (by omega), putK kvs (.inl k) v, upd_same, ?_, ?_, ?_, fun j => ?_⟩
  · cases e : f k with
    | none => rw [putK_new v ((h5 k).trans e), List.length_append, h2]; rfl
    | some x => rw [length_put_old (by rw [h5, e]; rfl), h2]; rfl
  · cases e : f k with
    | none => exact nd_putK v h3 ((h5 k).trans e)
    | some x => rw [keys_put_old (by rw [h5, e]; rfl)]; exact h3
  · intro q hq
    have : q.1 ∈ (putK kvs (.inl k) v).map (·.1) := List.mem_map.mpr ⟨q, hq, rfl⟩
    cases e : f k with
    | none =>
      rw [putK_new v ((h5 k).trans e)] at hq
      rcases List.mem_append.mp hq with z | z
      · exact h4 q z
      · rw [List.mem_singleton.mp z]
        exact ⟨k, rfl⟩
    | some x =>
      rw [keys_put_old (by rw [h5, e]; rfl)] at this
      obtain ⟨r, hr, er⟩ := List.mem_map.mp this
      obtain ⟨j, hj⟩ := h4 r hr
      exact ⟨j, er.symm.trans hj⟩
  · rw [valV_put, h5]
    show _ = if j = k then some v else f j
    by_cases q : j = k
    · rw [if_pos q, if_pos (congrArg Sum.inl q)]
    · rw [if_neg q, if_neg fun z => q (Sum.inl.inj z)]
theorem valV_drop : ∀ {kvs : List (Key × V)} {k j : Key}, valV (dropK kvs k) j = if j = k then none else valV kvs j
  | [], k, j => by
    show none = _
    split <;> rfl
  | p :: r, k, j => by
    have ih := valV_drop (kvs := r) (k := k) (j := j)
    by_cases e : p.1 = k
    · rw [dropK_pos e, ih]
      by_cases q : j = k
      · rw [if_pos q, if_pos q]
      · rw [if_neg q, if_neg q, valV_neg fun z => q (z.symm.trans e)]
    · rw [dropK_neg e]
      by_cases z : p.1 = j
      · rw [valV_pos z, if_neg fun w => e (z.trans w), valV_pos z]
      · rw [valV_neg z, ih, valV_neg z]
/-- d.pop(k), it is there -/
theorem DictI.pop {H : Hp} {a : Addr} {f : Int → Option V} {n : Nat} (h : DictI H a f n) (k : Int) {v : V} (hv : f k = some v) :
    ∃ kvs, H a = some (.dK kvs) ∧ valV kvs (.inl k) = some v ∧ ∃ n', DictI (upd H a (.dK (dropK kvs (.inl k)))) a (fun j => if j = k then none else f j) n' := by
  obtain ⟨kvs, h1, h2, h3, h4, h5⟩ := h
  refine ⟨kvs, h1, (h5 k).trans hv, _, dropK kvs (.inl k), upd_same, rfl, nd_dropK h3, fun q hq => h4 q (dropK_mem hq), fun j => ?_⟩
  rw [valV_drop, h5]
  show _ = if j = k then none else f j
  by_cases q : j = k
  · rw [if_pos q, if_pos (congrArg Sum.inl q)]
  · rw [if_neg q, if_neg fun z => q (Sum.inl.inj z)]
theorem nodup_le : ∀ (m : Nat) (l : List Int), l.Nodup → (∀ x ∈ l, 0 ≤ x ∧ x < ((m : Nat) : Int)) → l.length ≤ m
  | 0, l, _, h => by
    cases l with
    | nil => exact Nat.le_refl _
    | cons a r =>
      have := h a (List.mem_cons.mpr (.inl rfl))
      omega
  | m + 1, l, n, h => by
    have ih := nodup_le m (l.filter fun x => decide (x ≠ ((m : Nat) : Int))) (n.filter _) fun x hx => by
      obtain ⟨h1, h2⟩ := List.mem_filter.mp hx
      have h2 := of_decide_eq_true h2
      have := h x h1
      omega
    have : ∀ (l : List Int), l.Nodup → l.length ≤ (l.filter fun x => decide (x ≠ ((m : Nat) : Int))).length + 1 := by
      intro l
      induction l with
      | nil => simp
      | cons a r ih =>
        intro hn
        obtain ⟨h1, h2⟩ := List.nodup_cons.mp hn
        by_cases e : a = ((m : Nat) : Int)
        · have : r.filter (fun x => decide (x ≠ ((m : Nat) : Int))) = r := List.filter_eq_self.mpr fun x hx => decide_eq_true fun z => h1 (by rw [e, ← z]; exact hx)
          rw [List.filter_cons_of_neg (by simp [e]), this]
          exact Nat.le_refl _
        · rw [List.filter_cons_of_pos (by simp [e]), List.length_cons, List.length_cons]
          have := ih h2
          omega
    have := this l n
    omega
theorem DictI.size {H : Hp} {a : Addr} {f : Int → Option V} {n m : Nat} (h : DictI H a f n) (hb : ∀ k v, f k = some v → 0 ≤ k ∧ k < ((m : Nat) : Int)) : n ≤ m := by
  obtain ⟨kvs, h1, h2, h3, h4, h5⟩ := h
  have key : ∀ q ∈ kvs, ∃ k : Int, q.1 = .inl k ∧ 0 ≤ k ∧ k < ((m : Nat) : Int) := fun q hq => by
    obtain ⟨k, hk⟩ := h4 q hq
    have : (valV kvs (.inl k)).isSome = true := by
      rw [← valV_any]
      exact List.any_eq_true.mpr ⟨q, hq, decide_eq_true hk⟩
    cases e : f k with
    | none =>
      rw [h5, e] at this
      cases this
    | some v => exact ⟨k, hk, hb k v e⟩
  have := nodup_le m (kvs.map fun q => match q.1 with | .inl k => k | .inr _ => 0) ?_ ?_
  · rw [List.length_map] at this
    omega
  · have : (kvs.map fun q => match q.1 with | .inl k => k | .inr _ => 0) = (kvs.map (·.1)).map fun z => (match z with | .inl k => k | .inr _ => (0 : Int)) := by
      rw [List.map_map]
      rfl
    rw [this]
    refine (List.pairwise_map).mpr (h3.imp_of_mem fun {x y} hx hy ne => ?_)
    obtain ⟨q, hq, rfl⟩ := List.mem_map.mp hx
    obtain ⟨r, hr, rfl⟩ := List.mem_map.mp hy
    obtain ⟨k, hk, _⟩ := key q hq
    obtain ⟨j, hj, _⟩ := key r hr
    rw [hk, hj] at ne ⊢
    exact fun z => ne (congrArg Sum.inl z)
  · intro x hx
    obtain ⟨q, hq, rfl⟩ := List.mem_map.mp hx
    obtain ⟨k, hk, h⟩ := key q hq
    rw [hk]
    exact h
/-! ### a peer in the heap -/
structure PA where
  lo : Addr
  ls : Addr
  ld : Addr
  lk : Addr
  dx : Addr
def nowV : Option Int → V
  | none => .non
  | some t => .int t
def PObj (C : Addr) (a : PA) (st : PS) : HO := .ins C a.dx (pf st.W st.T (nowV st.now) a.lo a.ls a.ld st.base st.next a.lk st.owed)
def DatsAt (κ : Tags) (H : Hp) (oa : List Addr) (off : List (List Int)) : Prop := oa.length = off.length ∧ ∀ (i : Nat) (d : List Int), off[i]? = some d → ∃ x : Addr, oa[i]? = some x ∧ Dat κ H x d
theorem DatsAt.ex {T : Nat → Prop} {κ : Tags} {H H' : Hp} {oa off} (h : DatsAt κ H oa off) (t0 : ¬ T 0) (e : Ex T κ H H') : DatsAt κ H' oa off := ⟨h.1, fun i d q => by
  obtain ⟨x, h1, h2⟩ := h.2 i d q
  exact ⟨x, h1, h2.ex t0 e⟩⟩
theorem DatsAt.nil {κ : Tags} {H : Hp} : DatsAt κ H [] [] := ⟨rfl, fun i d q => by simp at q⟩
theorem DatsAt.snoc {κ : Tags} {H : Hp} {oa off x d} (h : DatsAt κ H oa off) (hd : Dat κ H x d) : DatsAt κ H (oa ++ [x]) (off ++ [d]) := by
  refine ⟨by rw [List.length_append, List.length_append, h.1]; rfl, fun i d' q => ?_⟩
  by_cases hi : i < off.length
  · rw [List.getElem?_append_left hi] at q
    rw [List.getElem?_append_left (by rw [h.1]; exact hi)]
    exact h.2 i d' q
  · rw [List.getElem?_append_right (by omega)] at q
    have hz : i - off.length = 0 := by
      have := (List.getElem?_eq_some_iff.mp q).1
      simp at this
      omega
    rw [hz] at q
    have e : d = d' := Option.some.inj q
    subst e
    exact ⟨x, by rw [List.getElem?_append_right (by rw [h.1]; omega), h.1, hz]; rfl, hd⟩
theorem DatsAt.app {κ : Tags} {H : Hp} {oa off oa2 off2} (h : DatsAt κ H oa off) (h2 : DatsAt κ H oa2 off2) : DatsAt κ H (oa ++ oa2) (off ++ off2) := by
  refine ⟨by rw [List.length_append, List.length_append, h.1, h2.1], fun i d' q => ?_⟩
  by_cases hi : i < off.length
  · rw [List.getElem?_append_left hi] at q
    rw [List.getElem?_append_left (by rw [h.1]; exact hi)]
    exact h.2 i d' q
  · rw [List.getElem?_append_right (by omega)] at q
    rw [List.getElem?_append_right (by rw [h.1]; omega), h.1]
    exact h2.2 _ d' q
def OD (κ : Tags) (H : Hp) : Option Addr → Option (List Int) → Prop
  | some x, some d => Dat κ H x d
  | none, none => True
  | _, _ => False
theorem OD.ex {T : Nat → Prop} {κ : Tags} {H H' : Hp} {x d} (h : OD κ H x d) (t0 : ¬ T 0) (e : Ex T κ H H') : OD κ H' x d := by
  cases x <;> cases d <;> first | exact h | exact Dat.ex h t0 e
structure PeerAt (C : Addr) (κ : Tags) (H : Hp) (c : Nat) (p : Addr) (a : PA) (st : PS) : Prop where
  kP : κ p = c
  kO : κ a.lo = c + 1
  kS : κ a.ls = c + 2
  kD : κ a.ld = c + 3
  kK : κ a.lk = c + 4
  ob : H p = some (PObj C a st)
  lo : ∃ oa : List Addr, H a.lo = some (.lst (oa.map V.ref)) ∧ DatsAt κ H oa st.off
  ls : DictI H a.ls (fun k => (st.sent k).map V.int) st.ns
  ld : ∃ n, DictI H a.ld (fun k => if st.done k = true then some (.bl true) else none) n
  lk : ∃ (g : Int → Option Addr) (n : Nat), DictI H a.lk (fun k => (g k).map V.ref) n ∧ ∀ k, OD κ H (g k) (st.kept k)
/-- the tags of a peer -/
def Tp (c : Nat) : Nat → Prop := fun t => c ≤ t ∧ t < c + 5
theorem Dat.retag {κ κ2 : Tags} {H : Hp} {x : Addr} {d : List Int} (h : Dat κ H x d) (e : ∀ b, H b ≠ none → κ b = 0 → κ2 b = κ b) : Dat κ2 H x d := ⟨(e x (by rw [h.2]; simp) h.1).trans h.1, h.2⟩
theorem DatsAt.retag {κ κ2 : Tags} {H : Hp} {oa off} (h : DatsAt κ H oa off) (e : ∀ b, H b ≠ none → κ b = 0 → κ2 b = κ b) : DatsAt κ2 H oa off := ⟨h.1, fun i d q => by
  obtain ⟨x, h1, h2⟩ := h.2 i d q
  exact ⟨x, h1, h2.retag e⟩⟩
theorem OD.retag {κ κ2 : Tags} {H : Hp} {x d} (h : OD κ H x d) (e : ∀ b, H b ≠ none → κ b = 0 → κ2 b = κ b) : OD κ2 H x d := by
  cases x <;> cases d <;> first | exact h | exact Dat.retag h e
theorem PeerAt.retag {C : Addr} {κ κ2 : Tags} {H : Hp} {c : Nat} {p : Addr} {a : PA} {st : PS} (h : PeerAt C κ H c p a st) (e : ∀ b, H b ≠ none → (κ b = 0 ∨ Tp c (κ b)) → κ2 b = κ b) : PeerAt C κ2 H c p a st := by
  obtain ⟨oa, h1, h2⟩ := h.lo
  obtain ⟨n, h3⟩ := h.ld
  obtain ⟨g, m, h4, h5⟩ := h.lk
  obtain ⟨k1, q1, _⟩ := id h.ls
  obtain ⟨k2, q2, _⟩ := id h3
  obtain ⟨k3, q3, _⟩ := id h4
  have e0 : ∀ b, H b ≠ none → κ b = 0 → κ2 b = κ b := fun b x y => e b x (.inl y)
  refine ⟨(e _ (by rw [h.ob]; simp) (.inr ?_)).trans h.kP, (e _ (by rw [h1]; simp) (.inr ?_)).trans h.kO, (e _ (by rw [q1]; simp) (.inr ?_)).trans h.kS, (e _ (by rw [q2]; simp) (.inr ?_)).trans h.kD, (e _ (by rw [q3]; simp) (.inr ?_)).trans h.kK, h.ob, ⟨oa, h1, h2.retag e0⟩, h.ls, h.ld, ⟨g, m, h4, fun k => ?_⟩⟩
  · rw [h.kP]; exact ⟨by omega, by omega⟩
  · rw [h.kO]; exact ⟨by omega, by omega⟩
  · rw [h.kS]; exact ⟨by omega, by omega⟩
  · rw [h.kD]; exact ⟨by omega, by omega⟩
  · rw [h.kK]; exact ⟨by omega, by omega⟩
  · exact (h5 k).retag e0
/-- one more tag -/
def ktag (κ : Tags) (l : Addr) (t : Nat) : Tags := fun b => if b = l then t else κ b
theorem ktag_same {κ : Tags} {l : Addr} {t : Nat} : ktag κ l t l = t := if_pos rfl
theorem ktag_ne {κ : Tags} {l b : Addr} {t : Nat} (h : b ≠ l) : ktag κ l t b = κ b := if_neg h
theorem ktag_old {κ : Tags} {H : Hp} {l b : Addr} {t : Nat} (hl : H l = none) (h : H b ≠ none) : ktag κ l t b = κ b := ktag_ne fun z => h (z ▸ hl)
theorem PeerAt.ex {T : Nat → Prop} {C : Addr} {κ : Tags} {H H' : Hp} {c : Nat} {p : Addr} {a : PA} {st : PS} (h : PeerAt C κ H c p a st) (t0 : ¬ T 0) (tc : ∀ i, i < 5 → ¬ T (c + i)) (e : Ex T κ H H') : PeerAt C κ H' c p a st := by
  obtain ⟨oa, h1, h2⟩ := h.lo
  obtain ⟨n, h3⟩ := h.ld
  obtain ⟨g, m, h4, h5⟩ := h.lk
  exact ⟨h.kP, h.kO, h.kS, h.kD, h.kK, e.kp _ _ h.ob (by rw [h.kP]; exact tc 0 (by decide)), ⟨oa, e.kp _ _ h1 (by rw [h.kO]; exact tc 1 (by decide)), h2.ex t0 e⟩, h.ls.ex (by rw [h.kS]; exact tc 2 (by decide)) e, ⟨n, h3.ex (by rw [h.kD]; exact tc 3 (by decide)) e⟩, ⟨g, m, h4.ex (by rw [h.kK]; exact tc 4 (by decide)) e, fun k => (h5 k).ex t0 e⟩⟩
section
variable {C : Addr} {κ : Tags} {H H' : Hp} {c : Nat} {p : Addr} {a : PA} {st : PS}
theorem PeerAt.ex' {T : Nat → Prop} (h : PeerAt C κ H c p a st) (t0 : ¬ T 0) (e : Ex T κ H H') :
    (¬ T c → H' p = some (PObj C a st)) ∧ (¬ T (c + 1) → ∃ oa : List Addr, H' a.lo = some (.lst (oa.map V.ref)) ∧ DatsAt κ H' oa st.off) ∧ (¬ T (c + 2) → DictI H' a.ls (fun k => (st.sent k).map V.int) st.ns) ∧
    (¬ T (c + 3) → ∃ n, DictI H' a.ld (fun k => if st.done k = true then some (.bl true) else none) n) ∧ (¬ T (c + 4) → ∃ (g : Int → Option Addr) (n : Nat), DictI H' a.lk (fun k => (g k).map V.ref) n ∧ ∀ k, OD κ H' (g k) (st.kept k)) := by
  obtain ⟨oa, h1, h2⟩ := h.lo
  obtain ⟨n, h3⟩ := h.ld
  obtain ⟨g, m, h4, h5⟩ := h.lk
  exact ⟨fun t => e.kp _ _ h.ob (by rw [h.kP]; exact t), fun t => ⟨oa, e.kp _ _ h1 (by rw [h.kO]; exact t), h2.ex t0 e⟩, fun t => h.ls.ex (by rw [h.kS]; exact t) e, fun t => ⟨n, h3.ex (by rw [h.kD]; exact t) e⟩, fun t => ⟨g, m, h4.ex (by rw [h.kK]; exact t) e, fun k => (h5 k).ex t0 e⟩⟩
/-- the object itself is changed -/
theorem PeerAt.obj (h : PeerAt C κ H c p a st) (c0 : 0 < c) (st2 : PS) (e1 : st2.off = st.off) (e2 : st2.sent = st.sent) (e3 : st2.ns = st.ns) (e4 : st2.done = st.done) (e5 : st2.kept = st.kept) : PeerAt C κ (upd H p (PObj C a st2)) c p a st2 := by
  obtain ⟨x1, x2, x3, x4, x5⟩ := h.ex' (T := fun t => t = c) (by omega) (Ex.put (o := PObj C a st2) h.kP)
  exact ⟨h.kP, h.kO, h.kS, h.kD, h.kK, upd_same, by rw [e1]; exact x2 (by omega), by rw [e2, e3]; exact x3 (by omega), by rw [e4]; exact x4 (by omega), by rw [e5]; exact x5 (by omega)⟩
theorem PeerAt.setDone (h : PeerAt C κ H c p a st) (c0 : 0 < c) (dn : Int → Bool) {o : HO} {n : Nat} (hd : DictI (upd H a.ld o) a.ld (fun k => if dn k = true then some (.bl true) else none) n) : PeerAt C κ (upd H a.ld o) c p a { st with done := dn } := by
  obtain ⟨x1, x2, x3, x4, x5⟩ := h.ex' (T := fun t => t = c + 3) (by omega) (Ex.put (o := o) h.kD)
  exact ⟨h.kP, h.kO, h.kS, h.kD, h.kK, x1 (by omega), x2 (by omega), x3 (by omega), ⟨n, hd⟩, x5 (by omega)⟩
theorem PeerAt.setSent (h : PeerAt C κ H c p a st) (c0 : 0 < c) (sn : Int → Option Int) (n : Nat) {o : HO} (hd : DictI (upd H a.ls o) a.ls (fun k => (sn k).map V.int) n) : PeerAt C κ (upd H a.ls o) c p a { st with sent := sn, ns := n } := by
  obtain ⟨x1, x2, x3, x4, x5⟩ := h.ex' (T := fun t => t = c + 2) (by omega) (Ex.put (o := o) h.kS)
  exact ⟨h.kP, h.kO, h.kS, h.kD, h.kK, x1 (by omega), x2 (by omega), hd, x4 (by omega), x5 (by omega)⟩
theorem PeerAt.setKept (h : PeerAt C κ H c p a st) (c0 : 0 < c) (kp : Int → Option (List Int)) {g : Int → Option Addr} {n : Nat} {o : HO} (hd : DictI (upd H a.lk o) a.lk (fun k => (g k).map V.ref) n) (hg : ∀ k, OD κ (upd H a.lk o) (g k) (kp k)) : PeerAt C κ (upd H a.lk o) c p a { st with kept := kp } := by
  obtain ⟨x1, x2, x3, x4, x5⟩ := h.ex' (T := fun t => t = c + 4) (by omega) (Ex.put (o := o) h.kK)
  exact ⟨h.kP, h.kO, h.kS, h.kD, h.kK, x1 (by omega), x2 (by omega), x3 (by omega), x4 (by omega), ⟨g, n, hd, hg⟩⟩
theorem Tp.has {c i : Nat} (h : i < 5) : Tp c (c + i) := ⟨by omega, by omega⟩
theorem Tp.no0 {c : Nat} (h : 0 < c) : ¬ Tp c 0 := fun z => by have := z.1; omega
end
/-- nothing is changed, new things may be made -/
def T0 : Nat → Prop := fun _ => False
theorem PeerAt.ex0 {C : Addr} {κ : Tags} {H H' : Hp} {c : Nat} {p : Addr} {a : PA} {st : PS} (h : PeerAt C κ H c p a st) (e : Ex T0 κ H H') : PeerAt C κ H' c p a st := h.ex (fun z => z) (fun _ _ z => z) e
theorem Ex.up {T : Nat → Prop} {κ : Tags} {H H' : Hp} (e : Ex T0 κ H H') : Ex T κ H H' := e.mono fun _ z => z.elim
/-- bounds -/
structure Bd (st : PS) : Prop where
  w1 : 1 ≤ st.W
  w8 : st.W ≤ 8
  o9 : st.off.length ≤ 9
  b0 : 0 ≤ st.base
  bo : st.base ≤ ((st.off.length : Nat) : Int)
  sI : ∀ n, st.sent n ≠ none ↔ (0 ≤ n ∧ n < ((st.ns : Nat) : Int))
  so : st.ns ≤ st.off.length
  dI : ∀ n, st.done n = true → 0 ≤ n ∧ n < ((st.ns : Nat) : Int)
  n0 : 0 ≤ st.next
  kI : ∀ n d, st.kept n = some d → st.next < n ∧ n < st.next + st.W ∧ n < 9
theorem SI.bd {many : Nat → Nat} {Ws Ts : Nat → Int} {t : Int} {V : Wd} (I : SI many Ws Ts t V) {j : Nat} (hj : j < 2) (hW : Ws j ≤ 8) (hm : ∀ j, j < 2 → many j ≤ 9) : Bd (V.p j) := by
  have hi : 1 - j < 2 := by omega
  have hb : 1 - (1 - j) = j := by omega
  have D := I.dir j hj
  have D2 := I.dir (1 - j) hi
  rw [hb] at D2
  have n := I.nn j hj
  have o1 := I.offs j hj
  have o2 := I.offs (1 - j) hi
  have m1 := hm j hj
  have m2 := hm (1 - j) hi
  have := D.bns
  have := D.nsOff
  have := D2.nsOff
  exact ⟨D.w1, by rw [(I.ws j hj).1]; exact hW, by omega, D.b0, by omega, D.sentI, D.nsOff, fun n h => ⟨(D.doneR n h).1, (D.doneR n h).2.1⟩, D2.n0, fun k d e => ⟨D2.keptLt n e, (D2.keptI k d e).2.2.1, by have := (D2.keptI k d e).2.1; omega⟩⟩
/-- what the walk asks of the text as the top has made it -/
structure Txt (K : PySem.W.Frag) (mg : Str → Option Value) (C : Addr) : Prop where
  cl : Cls K C
  nf : ∀ x ∈ pk, NoAttr K C x
  mgC : mg "Peer" = some (.ref C)
  mW : ∃ t, mg "MOST_WINDOW" = some (.int 32 t)
  mT : ∃ t, mg "MOST_WAIT" = some (.int 1000000 t)
  mM : ∃ t, mg "MASK_BITS" = some (.int 32 t)
  len : mg "len" = none
  range : mg "range" = none
  list : mg "list" = none
  min : mg "min" = none
  sum : mg "sum" = none
  int : mg "int" = none
  abs : mg "abs" = none
section
variable {K : PySem.W.Frag} {mg : Str → Option Value} {C : Addr} (T : Txt K mg C)
theorem Txt.nA (T : Txt K mg C) (i : Nat) {x : Str} (h : pk[i]? = some x) : NoAttr K C x := T.nf x (List.mem_of_getElem? h)
end
end FH
namespace FH
open PySem L2
def spInit (C : Addr) : Sp := fun vs H Q _ => ∃ (p dx : Addr) (W T : Int), vs = [.ref p, .int W, .int T] ∧ H p = some (.ins C dx []) ∧ (1 ≤ W ∧ W ≤ 8) ∧ (1 ≤ T ∧ T ≤ 5) ∧
  ∀ (a : PA) (H' : Hp), H a.lo = none → H a.ls = none → H a.ld = none → H a.lk = none → a.ls ≠ a.ld → a.ls ≠ a.lk → a.ld ≠ a.lk → (∀ b o, H b = some o → b ≠ p → H' b = some o) →
    H' p = some (PObj C a (fresh0 W T)) → H' a.lo = some (.lst []) → H' a.ls = some (.dK []) → H' a.ld = some (.dK []) → H' a.lk = some (.dK []) → Q .non H'
section
variable {P : Program} {w : World} {K : PySem.W.Frag} {mg : Str → Option Value} {base : Heap}
theorem scInit : FnScope ["self", "window", "wait"] ["self", "window", "wait"] (defScope sInit) := ⟨rfl, rfl, rfl, by decide +kernel, rfl, by decide +kernel, by decide +kernel⟩
/-- the attributes that stand when n of them have been stored -/
theorem put_pre {vs : List V} {v : V} {n : Nat} {k : Str} (hk : pk[n]? = some k) (hv : vs.length = n) : putF k v (pk.zip vs) = pk.zip (vs ++ [v]) := by
  have hn : n < pk.length := (List.getElem?_eq_some_iff.mp hk).1
  have e : pk = pk.take n ++ k :: pk.drop (n + 1) := by
    conv => lhs; rw [← List.take_append_drop n pk]
    congr 1
    rw [List.drop_eq_getElem_cons hn]
    congr 1
    exact (List.getElem?_eq_some_iff.mp hk).2
  have hl : (pk.take n).length = vs.length := by rw [List.length_take, hv]; omega
  have nd := pkN
  have z1 : pk.zip vs = (pk.take n).zip vs := by
    conv => lhs; rw [e]
    conv => lhs; rw [show vs = vs ++ [] by simp]
    rw [List.zip_append hl]
    simp
  have z2 : pk.zip (vs ++ [v]) = (pk.take n).zip vs ++ [(k, v)] := by
    conv => lhs; rw [e]
    rw [List.zip_append hl]
    simp
  rw [z1, z2]
  refine putF_new fun m => ?_
  obtain ⟨q, hq, rfl⟩ := List.mem_map.mp m
  have hm := (List.of_mem_zip hq).1
  rw [e] at nd
  exact (List.nodup_append.mp nd).2.2 _ hm _ (List.mem_cons.mpr (.inl rfl)) rfl
theorem stp1 {H : Hp} {p C dx : Addr} {vs : List V} {k : Str} {n : Nat} (v : V) (h : H p = some (.ins C dx (pk.zip vs))) (hk : pk[n]? = some k) (hv : vs.length = n) :
    ∃ H1, upd H p (.ins C dx (putF k v (pk.zip vs))) = H1 ∧ H1 p = some (.ins C dx (pk.zip (vs ++ [v]))) ∧ ∀ b, b ≠ p → H1 b = H b :=
  ⟨_, rfl, by rw [upd_same, put_pre hk hv], fun b hb => upd_ne hb⟩
theorem zlen (vs : List V) : (pk.zip vs).length < 1000 := Nat.lt_of_le_of_lt (by rw [List.length_zip]; exact Nat.min_le_left _ _) (by decide : 10 < 1000)
theorem new1 (H : Hp) (l : Addr) (o : HO) : ∃ H1, upd H l o = H1 ∧ H1 l = some o ∧ ∀ b, b ≠ l → H1 b = H b := ⟨_, rfl, upd_same, fun b hb => upd_ne hb⟩
theorem ok_init {f C : Addr} {fd : FuncData} (F : Fun K "__init__" "Peer.__init__" sInit f fd) (T : Txt K mg C) : FnOk P w K mg base CX0 1 f fd ["self", "window", "wait"] (spInit C) := by
  refine F.ok scInit (fun vs H Q E h => ?_) (fun cdv A outer s H vs Q E hr h => ?_)
  · obtain ⟨p, dx, W, Z, rfl, _⟩ := h
    rfl
  · obtain ⟨p, dx, W, Z, rfl, hp, hW, hT, k⟩ := h
    obtain ⟨t1, m1⟩ := T.mW
    obtain ⟨t2, m2⟩ := T.mT
    refine ⟨_, (pss_cons (ps_if (pt_not (pt_chain op_le op_le pe_int (pv 1) (pe_glob (v := .int 32) (by rfl) m1 ⟨_, rfl⟩))) pss_never pss_nil)
      (pss_cons (ps_if (pt_not (pt_chain op_le op_le pe_int (pv 2) (pe_glob (v := .int 1000000) (by rfl) m2 ⟨_, rfl⟩))) pss_never pss_nil)
      (pss_cons (ps_fld (pv 0) (pv 1) rfl)
      (pss_cons (ps_fld (pv 0) (pv 2) rfl)
      (pss_cons (ps_fld (pv 0) pe_non rfl)
      (pss_cons (ps_fld (pv 0) (pe_lst pa_nil) rfl)
      (pss_cons (ps_fld (pv 0) pe_dnewK rfl)
      (pss_cons (ps_fld (pv 0) pe_dnewK rfl)
      (pss_cons (ps_fld (pv 0) pe_int rfl)
      (pss_cons (ps_fld (pv 0) pe_int rfl)
      (pss_cons (ps_fld (pv 0) pe_dnewK rfl)
      (pss_one (ps_fld (pv 0) pe_bl rfl))))))))))))), ?_⟩
    refine ⟨_, rfl, _, _, rfl, rfl, _, rfl, ?_⟩
    rw [decide_eq_true hW.1]
    refine iteT ⟨_, _, rfl, rfl, _, rfl, ?_⟩
    rw [decide_eq_true (show W ≤ 32 by omega)]
    refine iteF ⟨_, rfl, _, _, rfl, rfl, _, rfl, ?_⟩
    rw [decide_eq_true hT.1]
    refine iteT ⟨_, _, rfl, rfl, _, rfl, ?_⟩
    rw [decide_eq_true (show Z ≤ 1000000 by omega)]
    refine iteF ?_
    refine ⟨_, rfl, _, rfl, p, C, dx, _, rfl, hp, T.cl, T.nA 0 rfl, (by decide), ?_⟩
    obtain ⟨H1, e1, h1, k1⟩ := stp1 (vs := []) (n := 0) (V.int W) hp rfl rfl
    rw [show upd H p (.ins C dx (putF (Str.ofString "_window") (V.int W) [])) = H1 from e1]
    refine ⟨_, rfl, _, rfl, p, C, dx, _, rfl, h1, T.cl, T.nA 1 rfl, zlen _, ?_⟩
    obtain ⟨H2, e2, h2, k2⟩ := stp1 (n := 1) (V.int Z) h1 rfl rfl
    rw [e2]
    refine ⟨_, rfl, p, C, dx, _, rfl, h2, T.cl, T.nA 2 rfl, zlen _, ?_⟩
    obtain ⟨H3, e3, h3, k3⟩ := stp1 (n := 2) V.non h2 rfl rfl
    rw [e3]
    refine ⟨Nat.zero_le _, fun lo hlo => ?_⟩
    obtain ⟨H4, e4, h4, k4⟩ := new1 H3 lo (.lst [])
    rw [e4]
    have nlo : p ≠ lo := ne_of_none h3 hlo
    refine ⟨_, rfl, p, C, dx, _, rfl, (k4 p nlo).trans h3, T.cl, T.nA 3 rfl, zlen _, ?_⟩
    obtain ⟨H5, e5, h5, k5⟩ := stp1 (n := 3) (V.ref lo) ((k4 p nlo).trans h3) rfl rfl
    rw [e5]
    intro ls hls
    obtain ⟨H6, e6, h6, k6⟩ := new1 H5 ls (.dK [])
    rw [e6]
    have nls : p ≠ ls := ne_of_none h5 hls
    refine ⟨_, rfl, p, C, dx, _, rfl, (k6 p nls).trans h5, T.cl, T.nA 4 rfl, zlen _, ?_⟩
    obtain ⟨H7, e7, h7, k7⟩ := stp1 (n := 4) (V.ref ls) ((k6 p nls).trans h5) rfl rfl
    rw [e7]
    intro ld hld
    obtain ⟨H8, e8, h8, k8⟩ := new1 H7 ld (.dK [])
    rw [e8]
    have nld : p ≠ ld := ne_of_none h7 hld
    refine ⟨_, rfl, p, C, dx, _, rfl, (k8 p nld).trans h7, T.cl, T.nA 5 rfl, zlen _, ?_⟩
    obtain ⟨H9, e9, h9, k9⟩ := stp1 (n := 5) (V.ref ld) ((k8 p nld).trans h7) rfl rfl
    rw [e9]
    refine ⟨_, rfl, p, C, dx, _, rfl, h9, T.cl, T.nA 6 rfl, zlen _, ?_⟩
    obtain ⟨Ha, ea, ha, ka⟩ := stp1 (n := 6) (V.int 0) h9 rfl rfl
    rw [ea]
    refine ⟨_, rfl, p, C, dx, _, rfl, ha, T.cl, T.nA 7 rfl, zlen _, ?_⟩
    obtain ⟨Hb, eb, hb, kb⟩ := stp1 (n := 7) (V.int 0) ha rfl rfl
    rw [eb]
    intro lk hlk
    obtain ⟨Hc, ec, hc, kc⟩ := new1 Hb lk (.dK [])
    rw [ec]
    have nlk : p ≠ lk := ne_of_none hb hlk
    refine ⟨_, rfl, p, C, dx, _, rfl, (kc p nlk).trans hb, T.cl, T.nA 8 rfl, zlen _, ?_⟩
    obtain ⟨Hd, ed, hd, kd⟩ := stp1 (n := 8) (V.ref lk) ((kc p nlk).trans hb) rfl rfl
    rw [ed]
    refine ⟨_, rfl, p, C, dx, _, rfl, hd, T.cl, T.nA 9 rfl, zlen _, ?_⟩
    obtain ⟨He, ee, he, ke⟩ := stp1 (n := 9) (V.bl false) hd rfl rfl
    rw [ee]
    have f3 : H3 lo = H lo := (k3 lo nlo.symm).trans ((k2 lo nlo.symm).trans (k1 lo nlo.symm))
    have x5 : H5 lo = some (.lst []) := (k5 lo nlo.symm).trans h4
    have n56 : lo ≠ ls := ne_of_none x5 hls
    have x7 : H7 lo = some (.lst []) := (k7 lo nlo.symm).trans ((k6 lo n56).trans x5)
    have y7 : H7 ls = some (.dK []) := (k7 ls nls.symm).trans h6
    have n78 : lo ≠ ld := ne_of_none x7 hld
    have m78 : ls ≠ ld := ne_of_none y7 hld
    have xb : Hb lo = some (.lst []) := (kb lo nlo.symm).trans ((ka lo nlo.symm).trans ((k9 lo nlo.symm).trans ((k8 lo n78).trans x7)))
    have yb : Hb ls = some (.dK []) := (kb ls nls.symm).trans ((ka ls nls.symm).trans ((k9 ls nls.symm).trans ((k8 ls m78).trans y7)))
    have zb : Hb ld = some (.dK []) := (kb ld nld.symm).trans ((ka ld nld.symm).trans ((k9 ld nld.symm).trans h8))
    have nbc : lo ≠ lk := ne_of_none xb hlk
    have mbc : ls ≠ lk := ne_of_none yb hlk
    have obc : ld ≠ lk := ne_of_none zb hlk
    have g5 : H5 ls = H ls := by
      rw [k5 ls nls.symm, k4 ls n56.symm, k3 ls nls.symm, k2 ls nls.symm, k1 ls nls.symm]
    have g7 : H7 ld = H ld := by
      rw [k7 ld nld.symm, k6 ld m78.symm, k5 ld nld.symm, k4 ld n78.symm, k3 ld nld.symm, k2 ld nld.symm, k1 ld nld.symm]
    have gb : Hb lk = H lk := by
      rw [kb lk nlk.symm, ka lk nlk.symm, k9 lk nlk.symm, k8 lk obc.symm, k7 lk nlk.symm, k6 lk mbc.symm, k5 lk nlk.symm, k4 lk nbc.symm, k3 lk nlk.symm, k2 lk nlk.symm, k1 lk nlk.symm]
    refine k ⟨lo, ls, ld, lk, dx⟩ He (f3.symm.trans hlo) (g5.symm.trans hls) (g7.symm.trans hld) (gb.symm.trans hlk) m78 mbc obc (fun b o e hbp => ?_) he ?_ ?_ ?_ ?_
    · have b1 : b ≠ lo := ne_of_none e (f3.symm.trans hlo)
      have b2 : b ≠ ls := ne_of_none e (g5.symm.trans hls)
      have b3 : b ≠ ld := ne_of_none e (g7.symm.trans hld)
      have b4 : b ≠ lk := ne_of_none e (gb.symm.trans hlk)
      rw [ke b hbp, kd b hbp, kc b b4, kb b hbp, ka b hbp, k9 b hbp, k8 b b3, k7 b hbp, k6 b b2, k5 b hbp, k4 b b1, k3 b hbp, k2 b hbp, k1 b hbp]
      exact e
    · show He lo = _
      rw [ke lo nlo.symm, kd lo nlo.symm, kc lo nbc]
      exact xb
    · show He ls = _
      rw [ke ls nls.symm, kd ls nls.symm, kc ls mbc]
      exact yb
    · show He ld = _
      rw [ke ld nld.symm, kd ld nld.symm, kc ld obc]
      exact zb
    · show He lk = _
      rw [ke lk nlk.symm, kd lk nlk.symm]
      exact hc
end
end FH
namespace FH
open PySem L2
def spBase (C : Addr) : Sp := fun vs H Q _ => ∃ (κ : Tags) (c : Nat) (p : Addr) (a : PA) (st : PS), vs = [.ref p] ∧ PeerAt C κ H c p a st ∧ Q (.int st.base) H
def spNext (C : Addr) : Sp := fun vs H Q _ => ∃ (κ : Tags) (c : Nat) (p : Addr) (a : PA) (st : PS), vs = [.ref p] ∧ PeerAt C κ H c p a st ∧ Q (.int st.next) H
def spDue (C : Addr) : Sp := fun vs H Q _ => ∃ (κ : Tags) (c : Nat) (p : Addr) (a : PA) (st : PS) (n t : Int), vs = [.ref p, .int n, .int t] ∧ PeerAt C κ H c p a st ∧ Q (.bl (isDue st t n)) H
def spOffer (C : Addr) : Sp := fun vs H Q _ => ∃ (κ : Tags) (c : Nat) (p : Addr) (a : PA) (st : PS) (x : Addr) (d : List Int), vs = [.ref p, .ref x] ∧ PeerAt C κ H c p a st ∧ Tg κ H ∧ 0 < c ∧ H x = some (.lst (d.map V.int)) ∧ st.off.length ≤ 100 ∧
  ∀ H', Ex (Tp c) κ H H' → PeerAt C κ H' c p a { st with off := st.off ++ [d] } → Q (.int ((st.off.length : Nat) : Int)) H'
def spMask (C : Addr) : Sp := fun vs H Q _ => ∃ (κ : Tags) (c : Nat) (p : Addr) (a : PA) (st : PS), vs = [.ref p] ∧ PeerAt C κ H c p a st ∧ Bd st ∧ ∀ m H', MaskOk st m → Ex T0 κ H H' → Q (.int m) H'
def spOpen (C : Addr) : Sp := fun vs H Q _ => ∃ (κ : Tags) (c : Nat) (p : Addr) (a : PA) (st : PS), vs = [.ref p] ∧ PeerAt C κ H c p a st ∧ Bd st ∧
  ∀ l H', Ex T0 κ H H' → H l = none → H' l = some (.lst ((openL st).map V.int)) → Q (.ref l) H'
section
variable {P : Program} {w : World} {K : PySem.W.Frag} {mg : Str → Option Value} {base : Heap}
theorem PeerAt.ins {C κ H c p a st} (h : PeerAt C κ H c p a st) : H p = some (.ins C a.dx (pf st.W st.T (nowV st.now) a.lo a.ls a.ld st.base st.next a.lk st.owed)) := h.ob
theorem scBase : FnScope ["self"] ["self"] (defScope sBase) := ⟨rfl, rfl, rfl, by decide +kernel, rfl, by decide +kernel, by decide +kernel⟩
theorem ok_base {f C : Addr} {fd : FuncData} (F : Fun K "base_number" "Peer.base_number" sBase f fd) (T : Txt K mg C) : FnOk P w K mg base CX0 1 f fd ["self"] (spBase C) := by
  refine F.ok scBase (fun vs H Q E h => ?_) (fun cdv A outer s H vs Q E hr h => ?_)
  · obtain ⟨κ, c, p, a, st, rfl, _⟩ := h
    rfl
  · obtain ⟨κ, c, p, a, st, rfl, hp, k⟩ := h
    refine ⟨_, (pss_one (ps_ret (pe_fld (pv 0) rfl))), ?_⟩
    exact ⟨_, rfl, p, C, _, _, _, rfl, hp.ins, T.cl, T.nA 6 rfl, f_base, k⟩
theorem scNext : FnScope ["self"] ["self"] (defScope sNext) := ⟨rfl, rfl, rfl, by decide +kernel, rfl, by decide +kernel, by decide +kernel⟩
theorem ok_next {f C : Addr} {fd : FuncData} (F : Fun K "next_number" "Peer.next_number" sNext f fd) (T : Txt K mg C) : FnOk P w K mg base CX0 1 f fd ["self"] (spNext C) := by
  refine F.ok scNext (fun vs H Q E h => ?_) (fun cdv A outer s H vs Q E hr h => ?_)
  · obtain ⟨κ, c, p, a, st, rfl, _⟩ := h
    rfl
  · obtain ⟨κ, c, p, a, st, rfl, hp, k⟩ := h
    refine ⟨_, (pss_one (ps_ret (pe_fld (pv 0) rfl))), ?_⟩
    exact ⟨_, rfl, p, C, _, _, _, rfl, hp.ins, T.cl, T.nA 7 rfl, f_next, k⟩
theorem scDue : FnScope ["self", "number", "now"] ["self", "number", "now"] (defScope sDue) := ⟨rfl, rfl, rfl, by decide +kernel, rfl, by decide +kernel, by decide +kernel⟩
theorem ok_due {f C : Addr} {fd : FuncData} (F : Fun K "_is_due" "Peer._is_due" sDue f fd) (T : Txt K mg C) : FnOk P w K mg base CX0 1 f fd ["self", "number", "now"] (spDue C) := by
  refine F.ok scDue (fun vs H Q E h => ?_) (fun cdv A outer s H vs Q E hr h => ?_)
  · obtain ⟨κ, c, p, a, st, n, t, rfl, _⟩ := h
    rfl
  · obtain ⟨κ, c, p, a, st, n, t, rfl, hp, k⟩ := h
    have hu := hu_of hr
    obtain ⟨nd, hd⟩ := hp.ld
    refine ⟨_, (pss_cons (ps_if (pt_cmp (pc_din (by exact hu) (pv 1) (pe_fld (pv 0) rfl))) (pss_one (ps_ret pe_bl)) pss_nil)
      (pss_one (ps_ret (pe_or (pe_cmp (pc_dnotin (by exact hu) (pv 1) (pe_fld (pv 0) rfl))) (pe_one (pe_cmpR op_ge (pe_op op_sub (pv 2) (pe_dget (by exact hu) (pe_fld (pv 0) rfl) (pv 1) (fun _ _ => rfl))) (pe_fld (pv 0) rfl) (nomark _))))))), ?_⟩
    refine ⟨_, rfl, _, rfl, p, C, _, _, _, rfl, hp.ins, T.cl, T.nA 5 rfl, f_done, _, _, rfl, hd.get n, _, rfl, ?_⟩
    unfold isDue at k
    by_cases e : st.done n = true
    · rw [if_pos e] at k ⊢
      exact k
    · rw [if_neg e] at k ⊢
      refine ⟨_, rfl, _, rfl, p, C, _, _, _, rfl, hp.ins, T.cl, T.nA 4 rfl, f_sent, _, _, rfl, hp.ls.get n, ?_⟩
      cases es : st.sent n with
      | none =>
        rw [es] at k
        exact ⟨true, rfl, k⟩
      | some s =>
        rw [es] at k
        refine ⟨false, rfl, ?_⟩
        have hg := hp.ls.get n
        rw [es] at hg
        exact ⟨_, rfl, _, rfl, p, C, _, _, _, rfl, hp.ins, T.cl, T.nA 4 rfl, f_sent, _, rfl, _, _, rfl, hg, _, _, rfl, rfl, _, rfl, p, C, _, _, _, rfl, hp.ins, T.cl, T.nA 1 rfl, f_wait, _, _, rfl, rfl, k⟩
theorem scOffer : FnScope ["self", "data"] ["self", "data"] (defScope sOffer) := ⟨rfl, rfl, rfl, by decide +kernel, rfl, by decide +kernel, by decide +kernel⟩
theorem ok_offer {f C : Addr} {fd : FuncData} (F : Fun K "offer" "Peer.offer" sOffer f fd) (T : Txt K mg C) : FnOk P w K mg base CX0 1 f fd ["self", "data"] (spOffer C) := by
  refine F.ok scOffer (fun vs H Q E h => ?_) (fun cdv A outer s H vs Q E hr h => ?_)
  · obtain ⟨κ, c, p, a, st, x, d, rfl, _⟩ := h
    rfl
  · obtain ⟨κ, c, p, a, st, x, d, rfl, hp, tg, c0, hx, hl, k⟩ := h
    obtain ⟨oa, ho, hdat⟩ := hp.lo
    refine ⟨_, (pss_cons (ps_expr (pe_bm PySem.F.plainAttrs_list PySem.F.slot_list_append PySem.F.type_list_append mt_append (pe_fld (pv 0) rfl) (pa_cons (pe_callTy call_list_of (by rfl) T.list (by decide +kernel) (pa_cons (pv 1) pa_nil)) pa_nil)))
      (pss_one (ps_ret (pe_op op_sub (pe_callB call_len_seq (by rfl) T.len PySem.boot_len (pa_cons (pe_fld (pv 0) rfl) pa_nil)) pe_int)))), ?_⟩
    refine ⟨_, rfl, p, C, _, _, _, rfl, hp.ins, T.cl, T.nA 3 rfl, f_offered, .inl ⟨rfl, _, SqL.of ho⟩, _, rfl, x, _, rfl, .inl (SqL.of hx), fun y hy => ?_⟩
    have nlo : a.lo ≠ y := ne_of_none ho hy
    have npy : p ≠ y := ne_of_none hp.ins hy
    have nlp : p ≠ a.lo := ne_of hp.ins ho (by intro z; cases z)
    have ky : κ y = 0 := tg.free hy
    refine ⟨a.lo, _, _, rfl, rfl, (upd_ne nlo).trans ho, ?_, ?_⟩
    · rw [List.length_map, hdat.1]
      exact Nat.lt_of_le_of_lt hl (by decide)
    have e1 : Ex (Tp c) κ H (upd H y (.lst (d.map V.int))) := Ex.new hy
    have e2 : Ex (Tp c) κ (upd H y (.lst (d.map V.int))) (upd (upd H y (.lst (d.map V.int))) a.lo (.lst (oa.map V.ref ++ [.ref y]))) := Ex.put (by rw [hp.kO]; exact ⟨by omega, by omega⟩)
    have e := e1.trans e2
    have hins : (upd (upd H y (.lst (d.map V.int))) a.lo (.lst (oa.map V.ref ++ [.ref y]))) p = _ := (upd_ne nlp).trans ((upd_ne npy).trans hp.ins)
    have hlo : (upd (upd H y (.lst (d.map V.int))) a.lo (.lst (oa.map V.ref ++ [.ref y]))) a.lo = _ := upd_same
    have hyd : (upd (upd H y (.lst (d.map V.int))) a.lo (.lst (oa.map V.ref ++ [.ref y]))) y = _ := (upd_ne nlo.symm).trans upd_same
    obtain ⟨nd, hd⟩ := hp.ld
    obtain ⟨g, ng, hg, hg2⟩ := hp.lk
    have w0 : ∀ (b : Addr) (i : Nat), κ b = c + i → i ≠ 1 → ∀ o, H b = some o → (upd (upd H y (.lst (d.map V.int))) a.lo (.lst (oa.map V.ref ++ [.ref y]))) b = some o := fun b i hb hi o ho => by
      have h1 : b ≠ a.lo := fun z => by
        rw [z, hp.kO] at hb
        omega
      rw [upd_ne h1, upd_ne (ne_of_none ho hy)]
      exact ho
    have t0 : ¬ Tp c 0 := fun z => by have := z.1; omega
    refine ⟨_, rfl, p, C, _, _, _, rfl, hins, T.cl, T.nA 3 rfl, f_offered, _, _, rfl, .inl (SqL.of hlo), _, _, rfl, rfl, ?_⟩
    have ek : (((oa.map V.ref ++ [V.ref y]).length : Nat) : Int) - 1 = ((st.off.length : Nat) : Int) := by
      rw [List.length_append, List.length_map, hdat.1, List.length_singleton]
      omega
    have := k _ e ⟨hp.kP, hp.kO, hp.kS, hp.kD, hp.kK, hins, ⟨oa ++ [y], by rw [List.map_append]; exact hlo, (hdat.ex t0 e).snoc ⟨ky, hyd⟩⟩, hp.ls.of (w0 _ 2 hp.kS (by decide)), ⟨nd, hd.of (w0 _ 3 hp.kD (by decide))⟩, ⟨g, ng, hg.of (w0 _ 4 hp.kK (by decide)), fun k => (hg2 k).ex t0 e⟩⟩
    rw [← ek] at this
    exact this
end
end FH
namespace FH
open PySem L2
/-! ### sums of powers of two -/
theorem add_pow_hi (S a i : Nat) (h : S / 2 ^ a % 2 = 0) (hi : i ≠ a) : (S + 2 ^ a) / 2 ^ i % 2 = S / 2 ^ i % 2 := by
  have p : 0 < 2 ^ a := Nat.two_pow_pos a
  by_cases hlt : i < a
  · have e : 2 ^ a = 2 ^ i * (2 * 2 ^ (a - i - 1)) := by
      rw [← Nat.mul_assoc, ← Nat.pow_succ, ← Nat.pow_add]
      congr 1
      omega
    rw [e, Nat.add_mul_div_left _ _ (Nat.two_pow_pos i), Nat.add_mul_mod_self_left]
  · have e : 2 ^ i = 2 ^ (a + 1) * 2 ^ (i - a - 1) := by
      rw [← Nat.pow_add]
      congr 1
      omega
    have q : (S + 2 ^ a) / 2 ^ (a + 1) = S / 2 ^ (a + 1) := by
      rw [Nat.pow_succ, ← Nat.div_div_eq_div_mul, ← Nat.div_div_eq_div_mul, Nat.add_div_right _ p]
      omega
    rw [e, ← Nat.div_div_eq_div_mul, ← Nat.div_div_eq_div_mul, q]
theorem bit_sum : ∀ (l : List Nat), l.Nodup → ∀ i, (l.map fun s => 2 ^ s).sum / 2 ^ i % 2 = if i ∈ l then 1 else 0
  | [], _, i => by simp
  | a :: r, n, i => by
    obtain ⟨n1, n2⟩ := List.nodup_cons.mp n
    have ih := bit_sum r n2
    rw [List.map_cons, List.sum_cons, Nat.add_comm]
    have ha := ih a
    rw [if_neg n1] at ha
    by_cases e : i = a
    · subst e
      rw [if_pos (List.mem_cons.mpr (.inl rfl)), Nat.add_div_right _ (Nat.two_pow_pos i)]
      omega
    · rw [add_pow_hi _ _ _ ha e, ih i]
      by_cases m : i ∈ r
      · rw [if_pos m, if_pos (List.mem_cons.mpr (.inr m))]
      · rw [if_neg m, if_neg fun z => by
          rcases List.mem_cons.mp z with z | z
          · exact e z
          · exact m z]
theorem sum_cast : ∀ l : List Nat, (l.map fun s => ((1 : Int) * 2 ^ s)).sum = (((l.map fun s => 2 ^ s).sum : Nat) : Int)
  | [] => rfl
  | a :: r => by
    rw [List.map_cons, List.map_cons, List.sum_cons, List.sum_cons, sum_cast r, Int.one_mul, Int.natCast_add]
    exact congrArg (· + _) (Int.natCast_pow 2 a).symm
theorem Bit_nat (N i : Nat) : Bit ((N : Nat) : Int) i ↔ N / 2 ^ i % 2 = 1 := by
  unfold Bit
  have e : ((N : Nat) : Int) / 2 ^ i % 2 = ((N / 2 ^ i % 2 : Nat) : Int) := by
    rw [Int.natCast_emod, Int.natCast_ediv, Int.natCast_pow]
    rfl
  rw [e]
  omega
section
variable {P : Program} {w : World} {K : PySem.W.Frag} {mg : Str → Option Value} {base : Heap}
abbrev NscOpen : List Str := ["self", "number"]
theorem scOpen : FnScope NscOpen ["self"] (defScope sOpen) := ⟨rfl, rfl, rfl, by decide +kernel, rfl, by decide +kernel, by decide +kernel⟩
theorem ok_open {f C : Addr} {fd : FuncData} (F : Fun K "open_numbers" "Peer.open_numbers" sOpen f fd) (T : Txt K mg C) : FnOk P w K mg base CX0 1 f fd ["self"] (spOpen C) := by
  refine F.ok scOpen (fun vs H Q E h => ?_) (fun cdv A outer s H vs Q E hr h => ?_)
  · obtain ⟨κ, c, p, a, st, rfl, _⟩ := h
    rfl
  · obtain ⟨κ, c, p, a, st, rfl, hp, bd, k⟩ := h
    have hu := hu_of hr
    obtain ⟨oa, ho, hdat⟩ := hp.lo
    have b0 := bd.b0
    have bo := bd.bo
    have b9 := bd.o9
    refine ⟨_, (pss_one (ps_ret (pe_lc (own := [("number", 1)]) (g := gName 1)  rfl scOpen.nd (pi_range2 (by rfl) T.range (pa_cons (pe_fld (pv 0) rfl) (pa_cons (pe_callB call_len_seq (by rfl) T.len PySem.boot_len (pa_cons (pe_fld (pv 0) rfl) pa_nil)) pa_nil))) (blkOk_by (own := [("number", 1)]) (N := NscOpen) (sc := defScope sOpen) (by decide +kernel)) (fun _ _ _ _ _ => pg_name (i := 1) scOpen.nd rfl (Or.inl rfl)) (fun _ _ _ _ _ => pts_one (pt_cmp (pc_dnotin (by exact hu) (pv 1) (pe_fldK (K := K) rfl (pv 0) rfl)))) (fun _ _ _ _ _ => (pv 1))))), ?_⟩
    refine ⟨_, rfl, p, C, _, _, _, rfl, hp.ins, T.cl, T.nA 6 rfl, f_base, _, rfl, p, C, _, _, _, rfl, hp.ins, T.cl, T.nA 3 rfl, f_offered, _, _, rfl, .inl (SqL.of ho), _, _, rfl, ?_⟩
    have el : (((oa.map V.ref).length : Nat) : Int) = ((st.off.length : Nat) : Int) := by rw [List.length_map, hdat.1]
    rw [el]
    refine ⟨⟨by omega, by omega, by omega, by omega⟩, fun D hD => ?_⟩
    refine lc_range (fun i H' => Ex T0 κ H H' ∧ H' D = some (.lst ((((List.range i).map fun k => st.base + ((k : Nat) : Int)).filter fun n => !st.done n).map V.int))) ?_ ?_ ?_
    · exact ⟨Ex.new hD, upd_same⟩
    · rintro i H' hi ⟨e, hd⟩
      have hp' := hp.ex0 e
      obtain ⟨nd, hdn⟩ := hp'.ld
      refine ⟨rfl, _, rfl, _, rfl, p, C, _, _, _, rfl, hp'.ins, T.cl, T.nA 5 rfl, f_done, _, _, rfl, hdn.get _, _, rfl, ?_⟩
      rw [List.range_succ, List.map_append, List.filter_append, List.map_append]
      cases e2 : st.done (st.base + ((i : Nat) : Int)) with
      | true =>
        refine iteF ⟨e, ?_⟩
        have : List.filter (fun n => !st.done n) (List.map (fun (k : Nat) => st.base + (k : Int)) [i]) = [] := by
          rw [List.map_singleton, List.filter_cons, e2]
          rfl
        rw [this, List.map_nil, List.append_nil]
        exact hd
      | false =>
        refine iteT ⟨_, rfl, _, hd, ?_, ?_, ?_⟩
        · rw [List.length_map]
          refine Nat.lt_of_le_of_lt (List.length_filter_le _ _) ?_
          rw [List.length_map, List.length_range]
          exact Nat.lt_of_lt_of_le (show i < 9 by omega) (by decide)
        · exact e.over hD
        · rw [upd_same]
          have : List.filter (fun n => !st.done n) (List.map (fun (k : Nat) => st.base + (k : Int)) [i]) = [st.base + ((i : Nat) : Int)] := by
            rw [List.map_singleton, List.filter_cons, e2]
            rfl
          rw [this]
          rfl
    · rintro H' ⟨e, hd⟩
      exact k D H' e hD hd
/-- what a kept key gives to the mask -/
def shv (nx : Int) (q : Key × V) : Nat := match q.1 with | .inl k => (k - nx - 1).toNat | .inr _ => 0
abbrev NscMask : List Str := ["self", "number"]
theorem scMask : FnScope NscMask ["self"] (defScope sMask) := ⟨rfl, rfl, rfl, by decide +kernel, rfl, by decide +kernel, by decide +kernel⟩
theorem ok_mask {f C : Addr} {fd : FuncData} (F : Fun K "_mask" "Peer._mask" sMask f fd) (T : Txt K mg C) : FnOk P w K mg base CX0 1 f fd ["self"] (spMask C) := by
  refine F.ok scMask (fun vs H Q E h => ?_) (fun cdv A outer s H vs Q E hr h => ?_)
  · obtain ⟨κ, c, p, a, st, rfl, _⟩ := h
    rfl
  · obtain ⟨κ, c, p, a, st, rfl, hp, bd, k⟩ := h
    obtain ⟨g, ng, hg, hg2⟩ := hp.lk
    obtain ⟨kvs, q1, q2, q3, q4, q5⟩ := id hg
    -- every key is behind the next one
    have key : ∀ q ∈ kvs, ∃ j : Int, q.1 = .inl j ∧ st.kept j ≠ none := fun q hq => by
      obtain ⟨j, hj⟩ := q4 q hq
      refine ⟨j, hj, fun z => ?_⟩
      have h1 : (valV kvs (.inl j)).isSome = true := by
        rw [← valV_any]
        exact List.any_eq_true.mpr ⟨q, hq, decide_eq_true hj⟩
      rw [q5] at h1
      have h1 : ((g j).map V.ref).isSome = true := h1
      have h2 := hg2 j
      rw [z] at h2
      cases e : g j with
      | none =>
        rw [e] at h1
        cases h1
      | some x =>
        rw [e] at h2
        exact h2
    have key2 : ∀ q ∈ kvs, ∃ j : Int, q.1 = .inl j ∧ st.kept j ≠ none ∧ st.next < j ∧ j < 9 := fun q hq => by
      obtain ⟨j, h1, h2⟩ := key q hq
      cases e : st.kept j with
      | none => exact absurd e h2
      | some d => exact ⟨j, h1, by rw [e]; simp, (bd.kI j d e).1, (bd.kI j d e).2.2⟩
    have npk : p ≠ a.lk := ne_of hp.ins q1 (by intro z; cases z)
    have klen : kvs.length ≤ 9 := by
      rw [q2]
      exact hg.size fun j v hv => by
        have h2 := hg2 j
        have hv : (g j).map V.ref = some v := hv
        cases e : g j with
        | none =>
          rw [e] at hv
          cases hv
        | some x =>
          rw [e] at h2
          cases e2 : st.kept j with
          | none =>
            rw [e2] at h2
            exact h2.elim
          | some d =>
            have := bd.kI j d e2
            have := bd.n0
            exact ⟨by omega, by omega⟩
    refine ⟨_, (pss_one (ps_ret (pe_callB (cr_sum rfl) (by rfl) T.sum (by decide +kernel) (pa_cons (pe_lock (pe_lc (own := [("number", 1)]) (g := gName 1) (tt := tYes) rfl scMask.nd (pi_keys (pe_fld (pv 0) rfl)) (blkOk_by (own := [("number", 1)]) (N := NscMask) (sc := defScope sMask) (by decide +kernel)) (fun _ _ _ _ _ => pg_name (i := 1) scMask.nd rfl (Or.inl rfl)) (fun _ _ _ _ _ => pts_nil) (fun _ _ _ _ _ => (pe_op op_shl pe_int (pe_op op_sub (pe_op op_sub (pv 1) (pe_fldK (K := K) rfl (pv 0) rfl)) pe_int))))) pa_nil)))), ?_⟩
    refine ⟨a.lk, _, q1, trivial, fun od => ?_⟩
    have hins : (upd H a.lk (.frz od (.dK kvs))) p = _ := (upd_ne npk).trans hp.ins
    refine ⟨_, rfl, p, C, _, _, _, rfl, hins, T.cl, T.nA 8 rfl, f_kept, a.lk, od, rfl, .inl ⟨kvs, upd_same, fun D hD => ?_⟩⟩
    have nD : a.lk ≠ D := ne_of_none (H := upd H a.lk (.frz od (.dK kvs))) upd_same hD
    have hD0 : H D = none := by
      rw [upd_ne nD.symm] at hD
      exact hD
    refine lc_it walk_keys (fun i H' => (∀ b o, b ≠ D → (upd H a.lk (.frz od (.dK kvs))) b = some o → H' b = some o) ∧ H' D = some (.lst (((kvs.take i).map fun q => (1 : Int) * 2 ^ shv st.next q).map V.int))) ?_ (fun i H' _ h => h.1 _ _ nD upd_same) ?_ ?_
    · exact ⟨fun b o hb e => by rw [upd_ne hb]; exact e, upd_same⟩
    · rintro i x H' H2 hi ⟨e, hd⟩ ⟨rfl, ky, v, hk, rfl⟩
      obtain ⟨j, hj, h1, h2, h3⟩ := key2 (ky, v) (List.mem_of_getElem? hk)
      have hj : ky = .inl j := hj
      subst hj
      have := bd.n0
      refine ⟨rfl, _, rfl, _, rfl, p, C, _, _, _, rfl, e p _ (ne_of_none hp.ins hD0) hins, T.cl, T.nA 7 rfl, f_next, _, _, rfl, rfl, _, _, rfl, rfl, _, _, rfl, rfl, ⟨by omega, by omega, by decide⟩, _, hd, ?_, ?_, ?_⟩
      · rw [List.length_map, List.length_map, List.length_take]
        exact Nat.lt_of_le_of_lt (Nat.min_le_right _ _) (Nat.lt_of_le_of_lt klen (by decide))
      · exact fun b o hb h => by rw [upd_ne hb]; exact e b o hb h
      · rw [upd_same, List.take_add_one, hk, List.map_append, List.map_append]
        rfl
    · rintro H' ⟨e, hd⟩
      rw [List.take_length] at hd
      have hD2 : (upd H' a.lk (.dK kvs)) D = _ := (upd_ne nD.symm).trans hd
      refine ⟨e _ _ nD upd_same, D, _, rfl, SqL.of hD2, ?_⟩
      have em : (kvs.map fun q => (1 : Int) * 2 ^ shv st.next q).sum = (((kvs.map (shv st.next)).map fun s => 2 ^ s).sum : Nat) := by
        rw [← sum_cast, List.map_map]
        rfl
      refine k _ _ ⟨?_, fun i b => ?_⟩ ⟨fun b o hb _ => ?_, fun b hb => ?_⟩
      · rw [em]
        omega
      · rw [em, Bit_nat, bit_sum] at b
        · split at b
          · rename_i m
            obtain ⟨q, hq, eq⟩ := List.mem_map.mp m
            obtain ⟨j, hj, h1, h2, h3⟩ := key2 q hq
            unfold shv at eq
            rw [hj] at eq
            have ej : st.next + 1 + ((i : Nat) : Int) = j := by
              have : (j - st.next - 1).toNat = i := eq
              omega
            rw [ej]
            exact h1
          · cases b
        · refine (List.pairwise_map).mpr ((List.pairwise_map.mp q3).imp_of_mem fun {x y} hx hy ne z => ?_)
          obtain ⟨j, hj, _, h2, _⟩ := key2 x hx
          obtain ⟨l, hl, _, h4, _⟩ := key2 y hy
          unfold shv at z
          rw [hj, hl] at z
          have z : (j - st.next - 1).toNat = (l - st.next - 1).toNat := z
          apply ne
          rw [hj, hl]
          congr 1
          omega
      · by_cases hb2 : b = a.lk
        · rw [hb2, upd_same, ← q1, ← hb2, hb]
        · rw [upd_ne hb2]
          exact e b o (ne_of_none hb hD0) (by rw [upd_ne hb2]; exact hb)
      · by_cases hb2 : b = a.lk
        · rw [hb2, upd_same]; simp
        · rw [upd_ne hb2]
          cases hq : H b with
          | none => exact absurd hq hb
          | some o =>
            rw [e b o (ne_of_none hq hD0) (by rw [upd_ne hb2]; exact hq)]
            simp
end
end FH
namespace FH
open PySem L2
def spAck (C : Addr) : Sp := fun vs H Q _ => ∃ (κ : Tags) (c : Nat) (p : Addr) (a : PA) (st : PS) (ak m : Int), vs = [.ref p, .int ak, .int m] ∧ PeerAt C κ H c p a st ∧ Tg κ H ∧ 0 < c ∧ Bd st ∧ 0 ≤ m ∧
  ∀ H' st', AckR st ak m st' → Ex (Tp c) κ H H' → PeerAt C κ H' c p a st' → Q .non H'
/-- number < ack or (0 <= bit < MASK_BITS and mask >> bit & 1 == 1) -/
def tSeen : TE := fun σ H Q => ∃ n a m : Int, σ[3]? = some (some (.int n)) ∧ σ[1]? = some (some (.int a)) ∧ σ[2]? = some (some (.int m)) ∧ σ[4]? = some (some (.int (n - a - 1))) ∧ 0 ≤ m ∧ ∀ b : Bool, (b = true ↔ Seen a m n) → Q (.bl b) H
section
variable {P : Program} {w : World} {K : PySem.W.Frag} {mg : Str → Option Value} {base : Heap}
theorem scAck : FnScope ["self", "ack", "mask", "number", "bit", "seen"] ["self", "ack", "mask"] (defScope sAck) := ⟨rfl, rfl, rfl, by decide +kernel, rfl, by decide +kernel, by decide +kernel⟩
theorem ok_ack {f C : Addr} {fd : FuncData} (F : Fun K "_acknowledged" "Peer._acknowledged" sAck f fd) (T : Txt K mg C) : FnOk P w K mg base CX0 1 f fd ["self", "ack", "mask"] (spAck C) := by
  refine F.ok scAck (fun vs H Q E h => ?_) (fun cdv A outer s H vs Q E hr h => ?_)
  · obtain ⟨κ, c, p, a, st, ak, m, rfl, _⟩ := h
    rfl
  · obtain ⟨κ, c, p, a, st, ak, m, rfl, hp, tg, c0, bd, m0, k⟩ := h
    have hu := hu_of hr
    obtain ⟨tM, mM⟩ := T.mM
    obtain ⟨oa, ho, hdat⟩ := hp.lo
    have b0 := bd.b0
    have bo := bd.bo
    have b9 := bd.o9
    refine ⟨_, (pss_cons (ps_for PassesOwn.never rfl (pi_range2 (by rfl) T.range (pa_cons (pe_fld (pv 0) rfl) (pa_cons (pe_callB call_len_seq (by rfl) T.len PySem.boot_len (pa_cons (pe_fld (pv 0) rfl) pa_nil)) pa_nil))) (pg_name (i := 3) scAck.nd rfl (Or.inl rfl)) (pss_cons (ps_set (i := 4) scAck.nd rfl (Or.inl rfl) (pe_op op_sub (pe_op op_sub (pv 3) (pv 1)) pe_int))
      (pss_cons (ps_set (i := 5) scAck.nd rfl (Or.inl rfl) (PE_imp (t' := tSeen) (pe_or (pe_cmpR op_lt (pv 3) (pv 1) (nomark _)) (pe_one (pe_and (pe_chain op_le op_lt pe_int (pv 4) (pe_glob (v := .int 32) (by rfl) mM ⟨_, rfl⟩)) (pe_one (pe_cmpR op_eq (pe_op op_odd (pe_op op_shr (pv 2) (pv 4)) pe_int) pe_int (nomark _)))))) ?seen_imp))
      (pss_one (ps_if (PW.pt (pw_and (pt_val (pv 5)) (pw_and1 (pt_cmp (pc_din (by exact hu) (pv 3) (pe_fld (pv 0) rfl)))))) (pss_one (ps_dput (by exact hu) (pe_fld (pv 0) rfl) (pv 3) pe_bl rfl)) pss_nil)))))
      (pss_one (ps_while PassesOwn.never (pt_cmp (pc_din (by exact hu) (pe_fld (pv 0) rfl) (pe_fld (pv 0) rfl))) (pss_one (ps_fldaug (pv 0) pe_int in_add))))), ?_⟩
    case seen_imp =>
      rintro σ H Q ⟨n, ak, m, s3, s1, s2, s4, m0, k⟩
      refine ⟨_, s3, _, s1, _, _, rfl, rfl, _, rfl, ?_⟩
      by_cases h1 : n < ak
      · rw [decide_eq_true h1]
        refine iteT (k true ⟨fun _ => .inl h1, fun _ => rfl⟩)
      · rw [decide_eq_false h1]
        refine iteF ⟨_, s4, _, _, rfl, rfl, _, rfl, ?_⟩
        by_cases h2 : 0 ≤ n - ak - 1
        · rw [decide_eq_true h2]
          refine iteT ⟨_, _, rfl, rfl, _, rfl, ?_⟩
          by_cases h3 : n - ak - 1 < 32
          · rw [decide_eq_true h3]
            obtain ⟨N, rfl⟩ := Int.eq_ofNat_of_zero_le m0
            have eN : ((N : Nat) : Int) / 2 ^ (n - ak - 1).toNat = ((N / 2 ^ (n - ak - 1).toNat : Nat) : Int) := by
              rw [Int.natCast_ediv, Int.natCast_pow]
              rfl
            refine iteT ⟨_, s2, _, s4, _, _, rfl, rfl, h2, N / 2 ^ (n - ak - 1).toNat, congrArg V.int eN, rfl, rfl, ?_⟩
            have := k (decide (N / 2 ^ (n - ak - 1).toNat % 2 = 1)) (by
              rw [decide_eq_true_iff]
              constructor
              · intro z
                exact .inr ⟨h2, h3, (Bit_nat _ _).mpr z⟩
              · rintro (z | ⟨_, _, z⟩)
                · exact absurd z h1
                · exact (Bit_nat _ _).mp z)
            have ed : decide (V.int ((N / 2 ^ (n - ak - 1).toNat % 2 : Nat) : Int) = V.int 1) = decide (N / 2 ^ (n - ak - 1).toNat % 2 = 1) := by
              rw [decide_eq_decide]
              constructor
              · intro z
                have z := V.int.inj z
                omega
              · intro z
                rw [z]
                rfl
            rw [← ed] at this
            exact this
          · rw [decide_eq_false h3]
            refine iteF (k false ⟨(fun z => nomatch z), ?_⟩)
            rintro (z | ⟨_, z, _⟩)
            · exact absurd z h1
            · exact absurd z h3
        · rw [decide_eq_false h2]
          refine iteF ⟨_, rfl, iteF (k false ⟨(fun z => nomatch z), ?_⟩)⟩
          rintro (z | ⟨z, _, _⟩)
          · exact absurd z h1
          · exact absurd z h2
    refine ⟨_, rfl, p, C, _, _, _, rfl, hp.ins, T.cl, T.nA 6 rfl, f_base, _, rfl, p, C, _, _, _, rfl, hp.ins, T.cl, T.nA 3 rfl, f_offered, _, _, rfl, .inl (SqL.of ho), _, _, rfl, ?_⟩
    have el : (((oa.map V.ref).length : Nat) : Int) = ((st.off.length : Nat) : Int) := by rw [List.length_map, hdat.1]
    rw [el]
    refine ⟨⟨by omega, by omega, by omega, by omega⟩, for_range (fun i σ H' => ∃ (dn : Int → Bool) (v3 v4 v5 : Option V), σ = [some (.ref p), some (.int ak), some (.int m), v3, v4, v5] ∧ Ex (Tp c) κ H H' ∧ PeerAt C κ H' c p a { st with done := dn } ∧
      ∀ n, dn n = true ↔ st.done n = true ∨ (st.base ≤ n ∧ n < st.base + ((i : Nat) : Int) ∧ Seen ak m n ∧ st.sent n ≠ none)) ?_ ?_ ?_⟩
    · refine ⟨st.done, none, none, none, rfl, Ex.refl, hp, fun n => ⟨Or.inl, fun h => ?_⟩⟩
      rcases h with h | h
      · exact h
      · omega
    · rintro i σ H' hi ⟨dn, v3, v4, v5, rfl, e, hp', hdn⟩
      refine ⟨_, rfl, _, rfl, _, _, rfl, rfl, _, _, rfl, rfl, ?_⟩
      refine ⟨_, ak, m, rfl, rfl, rfl, rfl, m0, fun b hb => ?_⟩
      refine ⟨_, rfl, b, rfl, ?_⟩
      have same : ∀ x : Int → Bool, (∀ n, x n = true ↔ dn n = true ∨ (n = st.base + ((i : Nat) : Int) ∧ Seen ak m n ∧ st.sent n ≠ none)) → ∀ n, x n = true ↔ st.done n = true ∨ (st.base ≤ n ∧ n < st.base + ((i + 1 : Nat) : Int) ∧ Seen ak m n ∧ st.sent n ≠ none) := fun x hx n => by
        rw [hx, hdn]
        constructor
        · rintro ((z | ⟨z1, z2, z3⟩) | ⟨rfl, z3⟩)
          · exact .inl z
          · exact .inr ⟨z1, by omega, z3⟩
          · exact .inr ⟨by omega, by omega, z3⟩
        · rintro (z | ⟨z1, z2, z3⟩)
          · exact .inl (.inl z)
          · by_cases q : n = st.base + ((i : Nat) : Int)
            · exact .inr ⟨q, z3⟩
            · exact .inl (.inr ⟨z1, by omega, z3⟩)
      cases b with
      | false =>
        refine iteF (iteF ?_)
        refine ⟨dn, _, _, _, rfl, e, hp', same dn fun n => ⟨Or.inl, ?_⟩⟩
        rintro (z | ⟨rfl, z, _⟩)
        · exact z
        · exact absurd (hb.mpr z) (by decide)
      | true =>
        refine iteT ⟨_, rfl, _, rfl, p, C, _, _, _, rfl, hp'.ins, T.cl, T.nA 4 rfl, f_sent, _, _, rfl, hp'.ls.get _, _, rfl, ?_⟩
        cases es : st.sent (st.base + ((i : Nat) : Int)) with
        | none =>
          refine iteF ?_
          refine ⟨dn, _, _, _, rfl, e, hp', same dn fun n => ⟨Or.inl, ?_⟩⟩
          rintro (z | ⟨rfl, _, z⟩)
          · exact z
          · exact absurd es z
        | some z0 =>
          refine iteT ?_
          obtain ⟨nd, hd⟩ := hp'.ld
          have hsz : nd ≤ 9 := hd.size fun k v hv => by
            have hv : (if dn k = true then some (V.bl true) else none) = some v := hv
            by_cases q : dn k = true
            · rcases (hdn k).mp q with q | ⟨_, _, _, q⟩
              · have := bd.dI k q
                have := bd.so
                exact ⟨by omega, by omega⟩
              · have := (bd.sI k).mp q
                have := bd.so
                exact ⟨by omega, by omega⟩
            · rw [if_neg q] at hv
              cases hv
          obtain ⟨o, h1, h2⟩ := hd.put (st.base + ((i : Nat) : Int)) (.bl true) (Nat.lt_of_le_of_lt hsz (by decide))
          refine ⟨_, rfl, p, C, _, _, _, rfl, hp'.ins, T.cl, T.nA 5 rfl, f_done, _, rfl, a.ld, _, rfl, h1, ?_⟩
          obtain ⟨n3, h3⟩ : ∃ n3, DictI (upd H' a.ld o) a.ld (fun k => if (decide (k = st.base + ((i : Nat) : Int)) || dn k) = true then some (V.bl true) else none) n3 := by
            have : (fun j => if j = st.base + ((i : Nat) : Int) then some (V.bl true) else if dn j = true then some (V.bl true) else none) = (fun k => if (decide (k = st.base + ((i : Nat) : Int)) || dn k) = true then some (V.bl true) else none) := by
              funext j
              by_cases q : j = st.base + ((i : Nat) : Int)
              · simp [q]
              · simp [q]
            rw [← this]
            exact ⟨_, h2⟩
          refine ⟨_, _, _, _, rfl, e.trans (Ex.put (by rw [hp'.kD]; exact Tp.has (by decide))), hp'.setDone c0 _ h3, same _ fun n => ?_⟩
          rw [Bool.or_eq_true, decide_eq_true_iff]
          constructor
          · rintro (z | z)
            · exact .inr ⟨z, by rw [z]; exact hb.mp rfl, by rw [z, es]; simp⟩
            · exact .inl z
          · rintro (z | z)
            · exact .inr z
            · exact .inl z.1
    · rintro σ H' ⟨dn, v3, v4, v5, rfl, e, hp', hdn⟩
      have hdn : ∀ n, dn n = true ↔ st.done n = true ∨ (st.base ≤ n ∧ n < ((st.off.length : Nat) : Int) ∧ Seen ak m n ∧ st.sent n ≠ none) := fun n => by
        rw [hdn, show st.base + (((((st.off.length : Nat) : Int) - st.base).toNat : Nat) : Int) = ((st.off.length : Nat) : Int) by omega]
      have dlt : ∀ n, dn n = true → n < ((st.off.length : Nat) : Int) := fun n q => by
        rcases (hdn n).mp q with q | ⟨_, q, _⟩
        · have := bd.dI n q
          have := bd.so
          omega
        · exact q
      refine ⟨fun mm σ H' => ∃ b : Int, mm = (((st.off.length : Nat) : Int) - b).toNat ∧ σ = [some (.ref p), some (.int ak), some (.int m), v3, v4, v5] ∧ st.base ≤ b ∧ (∀ k, st.base ≤ k → k < b → dn k = true) ∧ Ex (Tp c) κ H H' ∧ PeerAt C κ H' c p a { st with done := dn, base := b },
        ⟨_, st.base, rfl, rfl, Int.le_refl _, fun k h1 h2 => by omega, e, hp'⟩, ?_⟩
      rintro mm σ H2 ⟨b, rfl, rfl, h1, h2, e2, hp2⟩
      obtain ⟨nd, hd⟩ := hp2.ld
      have hg : DGet H2 a.ld (.int b) (if dn b = true then some (.bl true) else none) := hd.get b
      refine ⟨_, rfl, p, C, _, _, _, rfl, hp2.ins, T.cl, T.nA 6 rfl, f_base, _, rfl, p, C, _, _, _, rfl, hp2.ins, T.cl, T.nA 5 rfl, f_done, _, _, rfl, hg, _, rfl, ?_⟩
      cases eb : dn b with
      | false =>
        exact iteF (k H2 _ ⟨dn, b, rfl, hdn, h1, h2, eb⟩ e2 hp2)
      | true =>
        have := dlt b eb
        refine iteT ⟨fun σ' H3 => σ' = [some (.ref p), some (.int ak), some (.int m), v3, v4, v5] ∧ Ex (Tp c) κ H H3 ∧ PeerAt C κ H3 c p a { st with done := dn, base := b + 1 }, ?_, ?_⟩
        · rintro σ' H3 ⟨rfl, e3, hp3⟩
          exact ⟨_, by omega, b + 1, rfl, rfl, by omega, fun k k1 k2 => by
            by_cases q : k = b
            · rw [q]; exact eb
            · exact h2 k k1 (by omega), e3, hp3⟩
        · refine ⟨_, rfl, p, C, _, _, _, rfl, hp2.ins, T.cl, T.nA 6 rfl, f_base, _, _, rfl, rfl, _, _, hp2.ins, f_len, ?_⟩
          rw [p_base]
          exact ⟨rfl, e2.trans (Ex.put (by rw [hp2.kP]; exact Tp.has (i := 0) (by decide))), hp2.obj c0 { st with done := dn, base := b + 1 } rfl rfl rfl rfl rfl⟩
end
end FH
namespace FH
open PySem L2
def PkV (κ : Tags) (H : Hp) (pk : Pk) (vs : List V) : Prop := match pk.msg with
  | none => vs = [.non, .non, .int pk.ack, .int pk.mask]
  | some (n, d) => ∃ x, vs = [.int n, .ref x, .int pk.ack, .int pk.mask] ∧ Dat κ H x d
/-- a packet's tuple -/
def PkAt (κ : Tags) (H : Hp) (q : Addr) (pk : Pk) : Prop := κ q = 0 ∧ ∃ vs, H q = some (.tup vs) ∧ PkV κ H pk vs
theorem PkV.ex {T : Nat → Prop} {κ : Tags} {H H' : Hp} {pk : Pk} {vs : List V} (h : PkV κ H pk vs) (t0 : ¬ T 0) (e : Ex T κ H H') : PkV κ H' pk vs := by
  unfold PkV at h ⊢
  cases em : pk.msg with
  | none =>
    rw [em] at h
    exact h
  | some nd =>
    rw [em] at h
    obtain ⟨x, h1, h2⟩ := h
    exact ⟨x, h1, h2.ex t0 e⟩
theorem PkAt.ex {T : Nat → Prop} {κ : Tags} {H H' : Hp} {q : Addr} {pk : Pk} (h : PkAt κ H q pk) (t0 : ¬ T 0) (e : Ex T κ H H') : PkAt κ H' q pk := by
  obtain ⟨h1, vs, h2, h3⟩ := h
  exact ⟨h1, vs, e.kp _ _ h2 (by rw [h1]; exact t0), h3.ex t0 e⟩
theorem PkV.four {κ : Tags} {H : Hp} {pk : Pk} {vs : List V} (h : PkV κ H pk vs) : ∃ v1 v2, vs = [v1, v2, .int pk.ack, .int pk.mask] := by
  unfold PkV at h
  cases em : pk.msg with
  | none =>
    rw [em] at h
    exact ⟨_, _, h⟩
  | some nd =>
    rw [em] at h
    obtain ⟨x, h1, h2⟩ := h
    exact ⟨_, _, h1⟩
def spReceive (C : Addr) : Sp := fun vs H Q _ => ∃ (κ : Tags) (c : Nat) (p : Addr) (a : PA) (st : PS) (q : Addr) (pk : Pk), vs = [.ref p, .ref q] ∧ PeerAt C κ H c p a st ∧ Tg κ H ∧ 0 < c ∧ Bd st ∧ PkAt κ H q pk ∧ 0 ≤ pk.mask ∧ (∀ n d, pk.msg = some (n, d) → 0 ≤ n ∧ n < 9) ∧
  ∀ H' st' gs l oa, RecR st pk st' gs → Ex (Tp c) κ H H' → PeerAt C κ H' c p a st' → H l = none → H' l = some (.lst (oa.map V.ref)) → DatsAt κ H' oa gs → Q (.ref l) H'
section
variable {P : Program} {w : World} {K : PySem.W.Frag} {mg : Str → Option Value} {base : Heap}
theorem scReceive : FnScope ["self", "packet", "number", "data", "ack", "mask", "given"] ["self", "packet"] (defScope sReceive) := ⟨rfl, rfl, rfl, by decide +kernel, rfl, by decide +kernel, by decide +kernel⟩
theorem ok_receive {f fA C : Addr} {fd fdA : FuncData} (F : Fun K "receive" "Peer.receive" sReceive f fd) (T : Txt K mg C) (m_acknowledged : Meth K C "_acknowledged" fA) (FA : Fun K "_acknowledged" "Peer._acknowledged" sAck fA fdA) (b_acknowledged : Binds K fdA ["self", "ack", "mask"] []) :
    FnOk P w K mg base CX0 2 f fd ["self", "packet"] (spReceive C) := by
  have G_acknowledged : FnOk P w K mg base CX0 1 fA fdA ["self", "ack", "mask"] (spAck C) := ok_ack FA T
  refine F.ok scReceive (fun vs H Q E h => ?_) (fun cdv A outer s H vs Q E hr h => ?_)
  · obtain ⟨κ, c, p, a, st, q, pk, rfl, _⟩ := h
    rfl
  · obtain ⟨κ, c, p, a, st, q, pk, rfl, hp, tg, c0, bd, hq, m0, h9, k⟩ := h
    have hu := hu_of hr
    have hr_acknowledged : Room 1 _ := hr
    obtain ⟨kq, qs, hq1, hq2⟩ := id hq
    obtain ⟨v1, v2, rfl⟩ := hq2.four
    have t0 : ¬ Tp c 0 := Tp.no0 c0
    let tA : TS := fun D σ H0 => H0 = H ∧ σ = [some (.ref p), some (.ref q), some v1, some v2, some (.int pk.ack), some (.int pk.mask), none] ∧
      ∀ H1 st1, (if pk.ack ≤ ((st.ns : Nat) : Int) then AckR st pk.ack pk.mask st1 else st1 = st) → Ex (Tp c) κ H H1 → PeerAt C κ H1 c p a st1 → D.nx σ H1
    let tB2 : TS := fun D σ H0 => ∃ (n : Int) (x : Addr) (d : List Int) (st1 : PS), σ = [some (.ref p), some (.ref q), some (.int n), some (.ref x), some (.int pk.ack), some (.int pk.mask), none] ∧ Dat κ H0 x d ∧ PeerAt C κ H0 c p a { st1 with owed := true } ∧ (∀ k d, st1.kept k = some d → 0 ≤ k ∧ k < 9) ∧ Tg κ H0 ∧
      ∀ H1, Ex (Tp c) κ H0 H1 → PeerAt C κ H1 c p a (keep1 st1 n d) → D.nx σ H1
    refine ⟨_, (pss_cons (ps_asg (pv 1) (pg_tup rfl (pgs_cons (pg_name (i := 2) scReceive.nd rfl (Or.inl rfl)) (pgs_cons (pg_name (i := 3) scReceive.nd rfl (Or.inl rfl)) (pgs_cons (pg_name (i := 4) scReceive.nd rfl (Or.inl rfl)) (pgs_cons (pg_name (i := 5) scReceive.nd rfl (Or.inl rfl)) pgs_nil))))))
      (pss_cons (PS_imp (t' := tA) (ps_if (pt_cmpR op_le (pv 4) (pe_callB call_lenD (by rfl) T.len PySem.boot_len (pa_cons (pe_fld (pv 0) rfl) pa_nil)) (nomark _)) (pss_one (ps_expr (pe_meth (pv 0) T.cl m_acknowledged G_acknowledged hr_acknowledged b_acknowledged .nil pass0 (pa_cons (pv 4) (pa_cons (pv 5) pa_nil))))) pss_nil) ?impA)
      (pss_cons (ps_if (pt_cmpR op_isN (pv 2) pe_non (nomark _)) (pss_one (ps_ret (pe_lst pa_nil))) pss_nil)
      (pss_cons (ps_fld (pv 0) pe_bl rfl)
      (pss_cons (PS_imp (t' := tB2) (ps_if (PW.pt (pw_and (pt_chain op_le op_lt (pe_fld (pv 0) rfl) (pv 2) (pe_op op_add (pe_fld (pv 0) rfl) (pe_fld (pv 0) rfl))) (pw_and1 (pt_cmp (pc_dnotin (by exact hu) (pv 2) (pe_fld (pv 0) rfl)))))) (pss_one (ps_dput (by exact hu) (pe_fld (pv 0) rfl) (pv 2) (pe_callTy call_list_of (by rfl) T.list (by decide +kernel) (pa_cons (pv 3) pa_nil)) rfl)) pss_nil) ?impB)
      (pss_cons (ps_set (i := 6) scReceive.nd rfl (Or.inl rfl) (pe_lst pa_nil))
      (pss_cons (ps_while PassesOwn.never (pt_cmp (pc_din (by exact hu) (pe_fld (pv 0) rfl) (pe_fld (pv 0) rfl))) (pss_cons (ps_expr (pe_bm PySem.F.plainAttrs_list PySem.F.slot_list_append PySem.F.type_list_append mt_append (pv 6) (pa_cons (pe_dpop1 (pe_fld (pv 0) rfl) (pe_fld (pv 0) rfl) ⟨rfl, rfl, rfl, rfl⟩) pa_nil)))
      (pss_one (ps_fldaug (pv 0) pe_int in_add))))
      (pss_one (ps_ret (pv 6)))))))))), ?_⟩
    case impA =>
      rintro D σ H0 ⟨rfl, rfl, k⟩
      obtain ⟨kvs, s1, s2, s3⟩ := id hp.ls
      refine ⟨_, rfl, _, rfl, p, C, _, _, _, rfl, hp.ins, T.cl, T.nA 4 rfl, f_sent, a.ls, kvs, rfl, s1, _, _, rfl, rfl, _, rfl, ?_⟩
      rw [s2]
      by_cases h1 : pk.ack ≤ ((st.ns : Nat) : Int)
      · rw [decide_eq_true h1]
        refine iteT ⟨_, rfl, p, _, _, rfl, hp.ins, f_no (by decide +kernel), _, rfl, _, rfl, κ, c, p, a, st, _, _, rfl, hp, tg, c0, bd, m0, fun H1 st1 hA e1 hp1 => ?_⟩
        exact k H1 st1 (by rw [if_pos h1]; exact hA) e1 hp1
      · rw [decide_eq_false h1]
        exact iteF (k _ st (by rw [if_neg h1]) Ex.refl hp)
    case impB =>
      rintro D σ H0 ⟨n, x, d, st1, rfl, hx, hp1, h9, tg, k⟩
      obtain ⟨g, ng, hg, hg2⟩ := hp1.lk
      have same : ¬ (st1.next ≤ n ∧ n < st1.next + st1.W ∧ st1.kept n = none) → keep1 st1 n d = { st1 with owed := true } := fun z => by
        unfold keep1
        congr 1
        funext j
        rw [if_neg]
        rintro ⟨rfl, h⟩
        exact z h
      refine ⟨_, rfl, p, C, _, _, _, rfl, hp1.ins, T.cl, T.nA 7 rfl, f_next, _, rfl, _, _, rfl, rfl, _, rfl, ?_⟩
      by_cases h1 : st1.next ≤ n
      · rw [decide_eq_true h1]
        refine iteT ⟨_, rfl, p, C, _, _, _, rfl, hp1.ins, T.cl, T.nA 7 rfl, f_next, _, rfl, p, C, _, _, _, rfl, hp1.ins, T.cl, T.nA 0 rfl, f_window, _, _, rfl, rfl, _, _, rfl, rfl, _, rfl, ?_⟩
        by_cases h2 : n < st1.next + st1.W
        · rw [decide_eq_true h2]
          refine iteT ⟨_, rfl, _, rfl, p, C, _, _, _, rfl, hp1.ins, T.cl, T.nA 8 rfl, f_kept, a.lk, _, rfl, hg.get n, _, rfl, ?_⟩
          have o := hg2 n
          have o : OD κ H0 (g n) (st1.kept n) := o
          cases eg : g n with
          | some x0 =>
            refine iteF ?_
            have := same (by
              rintro ⟨_, _, z⟩
              rw [eg, z] at o
              exact o)
            rw [← this] at hp1
            exact k H0 Ex.refl hp1
          | none =>
            have kn : st1.kept n = none := by
              cases e : st1.kept n with
              | none => rfl
              | some d0 =>
                rw [eg, e] at o
                exact o.elim
            refine iteT ⟨_, rfl, x, _, rfl, .inl (SqL.of hx.2), fun y hy => ?_⟩
            have ey : Ex (Tp c) κ H0 (upd H0 y (.lst (d.map V.int))) := Ex.new hy
            have hp2 : PeerAt C κ (upd H0 y (.lst (d.map V.int))) c p a { st1 with owed := true } := hp1.ex0 (Ex.new hy)
            have hy2 : Dat κ (upd H0 y (.lst (d.map V.int))) y d := ⟨tg.free hy, upd_same⟩
            have t0 : ¬ Tp c 0 := Tp.no0 c0
            have hg2' : ∀ k, OD κ (upd H0 y (.lst (d.map V.int))) (g k) (st1.kept k) := fun k => (hg2 k).ex t0 ey
            have hg' := hg.ex (T := T0) (κ := κ) (fun z => z) (Ex.new hy (o := .lst (d.map V.int)))
            have hsz : ng ≤ 9 := hg.size fun k v hv => by
              have hv : (g k).map V.ref = some v := hv
              have o := hg2 k
              cases e : g k with
              | none =>
                rw [e] at hv
                cases hv
              | some x =>
                rw [e] at o
                cases e2 : st1.kept k with
                | none =>
                  have o : OD κ H0 (some x) (st1.kept k) := o
                  rw [e2] at o
                  exact o.elim
                | some d => exact h9 k d e2
            obtain ⟨o2, p1, p2⟩ := hg'.put n (.ref y) (Nat.lt_of_le_of_lt hsz (by decide))
            refine ⟨_, rfl, p, C, _, _, _, rfl, hp2.ins, T.cl, T.nA 8 rfl, f_kept, _, rfl, a.lk, _, rfl, p1, ?_⟩
            have e2 : Ex (Tp c) κ (upd H0 y (.lst (d.map V.int))) (upd (upd H0 y (.lst (d.map V.int))) a.lk o2) := Ex.put (by rw [hp1.kK]; exact Tp.has (by decide))
            refine k _ (ey.trans e2) ?_
            obtain ⟨n3, h3⟩ : ∃ n3, DictI (upd (upd H0 y (.lst (d.map V.int))) a.lk o2) a.lk (fun k => (if k = n then some y else g k).map V.ref) n3 := by
              have : (fun j => if j = n then some (V.ref y) else (g j).map V.ref) = (fun k => (if k = n then some y else g k).map V.ref) := by
                funext j
                by_cases q : j = n
                · simp [q]
                · simp [q]
              rw [← this]
              exact ⟨_, p2⟩
            exact hp2.setKept c0 (fun k => if k = n ∧ st1.next ≤ n ∧ n < st1.next + st1.W ∧ st1.kept n = none then some d else st1.kept k) h3 fun j => by
              by_cases q : j = n
              · rw [if_pos q, if_pos ⟨q, h1, h2, kn⟩]
                exact hy2.ex t0 e2
              · rw [if_neg q, if_neg fun z => q z.1]
                exact (hg2' j).ex t0 e2
        · rw [decide_eq_false h2]
          refine iteF ?_
          have := same fun z => h2 z.2.1
          rw [← this] at hp1
          exact k H0 Ex.refl hp1
      · rw [decide_eq_false h1]
        refine iteF ⟨_, rfl, iteF ?_⟩
        have := same fun z => h1 z.1
        rw [← this] at hp1
        exact k H0 Ex.refl hp1
    refine ⟨_, rfl, q, _, rfl, SqT.of hq1, rfl, _, _, rfl, _, _, rfl, _, _, rfl, _, _, rfl, rfl, rfl, rfl, fun H1 st1 hA e1 hp1 => ?_⟩
    have hk1 : st1.kept = st.kept := by
      split at hA
      · exact hA.stays.2.2
      · rw [hA]
    have hk9 : ∀ k d, st1.kept k = some d → 0 ≤ k ∧ k < 9 := fun k d e => by
      rw [hk1] at e
      have := bd.kI k d e
      have := bd.n0
      exact ⟨by omega, by omega⟩
    have hn0 : 0 ≤ st1.next := by
      have : st1.next = st.next := by
        split at hA
        · exact hA.stays.2.1
        · rw [hA]
      rw [this]
      exact bd.n0
    refine ⟨_, rfl, rfl, _, rfl, ?_⟩
    cases em : pk.msg with
    | none =>
      unfold PkV at hq2
      rw [em] at hq2
      have hq2 : [v1, v2, V.int pk.ack, V.int pk.mask] = [.non, .non, .int pk.ack, .int pk.mask] := hq2
      have ev : v1 = .non := (List.cons.inj hq2).1
      rw [decide_eq_true ev]
      refine iteT ⟨Nat.zero_le _, fun l hl => ?_⟩
      exact k _ st1 [] l [] ⟨st1, hA, by rw [em]; exact ⟨rfl, rfl⟩⟩ (e1.over (e1.nof hl)) (hp1.ex0 (Ex.new hl)) (e1.nof hl) upd_same DatsAt.nil
    | some nd =>
      obtain ⟨n, d⟩ := nd
      unfold PkV at hq2
      rw [em] at hq2
      obtain ⟨x, ex, hx⟩ := hq2
      have ev : v1 = .int n := (List.cons.inj ex).1
      have ev2 : v2 = .ref x := (List.cons.inj (List.cons.inj ex).2).1
      subst ev ev2
      rw [decide_eq_false (by intro z; cases z)]
      refine iteF ⟨_, rfl, p, C, _, _, rfl, hp1.ins, T.cl, T.nA 9 rfl, f_len, ?_⟩
      rw [p_owed]
      have hp2 := hp1.obj c0 { st1 with owed := true } rfl rfl rfl rfl rfl
      have e2 : Ex (Tp c) κ H1 (upd H1 p (PObj C a { st1 with owed := true })) := Ex.put (by rw [hp1.kP]; exact Tp.has (i := 0) (by decide))
      have e12 := e1.trans e2
      refine ⟨n, x, d, st1, rfl, hx.ex t0 e12, hp2, hk9, e12.tg tg, fun H3 e3 hp3 => ?_⟩
      have e13 := e12.trans e3
      refine ⟨Nat.zero_le _, fun l hl => ?_⟩
      have l0 : H l = none := e13.nof hl
      have kl : κ l = 0 := tg.free l0
      have hl3 : H3 l = none := hl
      let κl := ktag κ l (c + 5)
      have kll : κl l = c + 5 := ktag_same
      let WW : Nat → St → Hp → Prop := fun mm σ H' => ∃ gs st2 oa, mm = (9 - st2.next).toNat ∧ σ = [some (.ref p), some (.ref q), some (.int n), some (.ref x), some (.int pk.ack), some (.int pk.mask), some (.ref l)] ∧ Gives (keep1 st1 n d) gs st2 ∧ Ex (Tp c) κ H H' ∧ PeerAt C κl H' c p a st2 ∧
        H' l = some (.lst (oa.map V.ref)) ∧ DatsAt κl H' oa gs ∧ (∀ k d, st2.kept k = some d → 0 ≤ k ∧ k < 9) ∧ ((gs.length : Nat) : Int) = st2.next - st1.next
      refine ⟨WW, ⟨_, [], keep1 st1 n d, [], rfl, rfl, .zero, e13.over l0, (hp3.retag fun b hb _ => ktag_old hl3 hb).ex0 (Ex.new hl), upd_same, DatsAt.nil, fun k d' e => ?_, ?_⟩, ?_⟩
      · have e : (if k = n ∧ st1.next ≤ n ∧ n < st1.next + st1.W ∧ st1.kept n = none then some d else st1.kept k) = some d' := e
        by_cases z : k = n ∧ st1.next ≤ n ∧ n < st1.next + st1.W ∧ st1.kept n = none
        · rw [z.1]
          exact h9 n d em
        · rw [if_neg z] at e
          exact hk9 k d' e
      · show (0 : Int) = st1.next - st1.next
        omega
      · rintro mm σ H4 ⟨gs, st2, oa2, rfl, rfl, hG, e4, hp4, hl4, hd4, hk4, hlen⟩
        obtain ⟨g4, n4, hg4, hg42⟩ := hp4.lk
        refine ⟨_, rfl, p, C, _, _, _, rfl, hp4.ins, T.cl, T.nA 7 rfl, f_next, _, rfl, p, C, _, _, _, rfl, hp4.ins, T.cl, T.nA 8 rfl, f_kept, a.lk, _, rfl, hg4.get st2.next, _, rfl, ?_⟩
        have o := hg42 st2.next
        cases eg : g4 st2.next with
        | none =>
          have kn : st2.kept st2.next = none := by
            cases e : st2.kept st2.next with
            | none => rfl
            | some d0 =>
              rw [eg, e] at o
              exact o.elim
          exact iteF ⟨_, rfl, k H4 st2 gs l oa2 ⟨st1, hA, by rw [em]; exact ⟨hG, kn⟩⟩ e4 (hp4.retag fun b _ hb => (ktag_ne fun z => by
            rw [z, kll] at hb
            rcases hb with hb | hb
            · omega
            · have := hb.2
              omega).symm) l0 hl4 (hd4.retag fun b _ hb => (ktag_ne fun z => by
            rw [z, kll] at hb
            omega).symm)⟩
        | some x2 =>
          cases ek : st2.kept st2.next with
          | none =>
            rw [eg, ek] at o
            exact o.elim
          | some d2 =>
            rw [eg, ek] at o
            have o : Dat κl H4 x2 d2 := o
            have n9 := hk4 _ _ ek
            refine iteT ⟨fun σ' H' => ∃ m', m' < (9 - st2.next).toNat ∧ WW m' σ' H', fun _ _ z => z, ?_⟩
            obtain ⟨kvs, q1, q2, n5, q3⟩ := hg4.pop st2.next (v := .ref x2) (by rw [eg]; rfl)
            have nlk : l ≠ a.lk := ne_of hl4 q1 (by intro z; cases z)
            have npl : p ≠ l := ne_of hp4.ins hl4 (by intro z; cases z)
            have npk : p ≠ a.lk := ne_of hp4.ins q1 (by intro z; cases z)
            have e5 : Ex (Tp c) κl H4 (upd H4 a.lk (.dK (dropK kvs (.inl st2.next)))) := Ex.put (by rw [hp4.kK]; exact Tp.has (by decide))
            have hp5 : PeerAt C κl (upd H4 a.lk (.dK (dropK kvs (.inl st2.next)))) c p a { st2 with kept := fun k => if k = st2.next then none else st2.kept k } := by
              refine hp4.setKept c0 _ (g := fun k => if k = st2.next then none else g4 k) (n := n5) ?_ fun j => ?_
              · have : (fun j => if j = st2.next then none else (g4 j).map V.ref) = (fun k => (if k = st2.next then none else g4 k).map V.ref) := by
                  funext j
                  by_cases q : j = st2.next
                  · simp [q]
                  · simp [q]
                rw [← this]
                exact q3
              · by_cases q : j = st2.next
                · rw [if_pos q, if_pos q]
                  trivial
                · rw [if_neg q, if_neg q]
                  exact (hg42 j).ex t0 e5
            refine ⟨_, rfl, .inl ⟨rfl, _, SqL.of hl4⟩, _, rfl, p, C, _, _, _, rfl, hp4.ins, T.cl, T.nA 8 rfl, f_kept, a.lk, rfl, .inl ⟨kvs, .inl q1⟩, _, rfl, p, C, _, _, _, rfl, hp4.ins, T.cl, T.nA 7 rfl, f_next, kvs, .inl st2.next, _, q1, rfl, q2, l, _, _, rfl, rfl, (upd_ne nlk).trans hl4, ?_, ?_⟩
            · rw [List.length_map, hd4.1]
              exact Nat.lt_of_lt_of_le (show gs.length < 10 by omega) (by decide)
            have hl5 : (upd H4 a.lk (.dK (dropK kvs (.inl st2.next)))) l = _ := (upd_ne nlk).trans hl4
            have e6 : Ex (fun t => t = c + 5) κl (upd H4 a.lk (.dK (dropK kvs (.inl st2.next)))) (upd (upd H4 a.lk (.dK (dropK kvs (.inl st2.next)))) l (.lst (oa2.map V.ref ++ [.ref x2]))) := Ex.put kll
            have hp6 := hp5.ex (by omega) (fun i hi => by omega) e6
            have hd6 : DatsAt κl _ (oa2 ++ [x2]) (gs ++ [d2]) := ((hd4.snoc o).ex t0 e5).ex (by omega) e6
            have hl6 : (upd (upd H4 a.lk (.dK (dropK kvs (.inl st2.next)))) l (.lst (oa2.map V.ref ++ [.ref x2]))) l = _ := upd_same
            have kk : κ a.lk = c + 4 := by
              have := hp4.kK
              rw [show κl a.lk = κ a.lk from ktag_ne nlk.symm] at this
              exact this
            have e46 : Ex (Tp c) κ H (upd (upd H4 a.lk (.dK (dropK kvs (.inl st2.next)))) l (.lst (oa2.map V.ref ++ [.ref x2]))) := (e4.trans (Ex.put (by rw [kk]; exact Tp.has (by decide)))).over l0
            have kp : κ p = c := by
              have := hp4.kP
              rw [show κl p = κ p from ktag_ne npl] at this
              exact this
            generalize upd (upd H4 a.lk (.dK (dropK kvs (.inl st2.next)))) l (.lst (oa2.map V.ref ++ [.ref x2])) = H6 at *
            refine ⟨_, rfl, p, C, _, _, _, rfl, hp6.ins, T.cl, T.nA 7 rfl, f_next, _, _, rfl, rfl, _, _, hp6.ins, f_len, ?_⟩
            rw [p_next]
            have e7 : Ex (Tp c) κl H6 (upd H6 p (PObj C a (pop st2))) := Ex.put (by rw [hp6.kP]; exact Tp.has (i := 0) (by decide))
            refine ⟨_, ?_, gs ++ [d2], pop st2, oa2 ++ [x2], rfl, rfl, .more hG ek, e46.trans (Ex.put (by rw [kp]; exact Tp.has (i := 0) (by decide))), hp6.obj c0 (pop st2) rfl rfl rfl rfl rfl, ?_, hd6.ex t0 e7, fun j d' e => ?_, ?_⟩
            · show (9 - (st2.next + 1)).toNat < (9 - st2.next).toNat
              omega
            · rw [List.map_append]
              exact (upd_ne npl.symm).trans hl6
            · have e : (if j = st2.next then none else st2.kept j) = some d' := e
              split at e
              · cases e
              · exact hk4 j d' e
            · show (((gs ++ [d2]).length : Nat) : Int) = st2.next + 1 - st1.next
              rw [List.length_append, List.length_singleton]
              omega
end
end FH
namespace FH
open PySem L2
theorem Ex.anyK {κ κ2 : Tags} {H H' : Hp} (e : Ex T0 κ H H') : Ex T0 κ2 H H' := ⟨fun b o h _ => e.kp b o h (fun z => z), e.lv⟩
def HdV (κ : Tags) (H : Hp) (h : Option (Int × List Int)) (vs : List V) : Prop := match h with
  | none => vs = [.non, .non]
  | some (n, d) => ∃ x, vs = [.int n, .ref x] ∧ Dat κ H x d
def HdAt (κ : Tags) (H : Hp) (q : Addr) (h : Option (Int × List Int)) : Prop := κ q = 0 ∧ ∃ vs, H q = some (.tup vs) ∧ HdV κ H h vs
/-- a list of things, item by item -/
def AllAt {α : Type} (P : Addr → α → Prop) (qs : List Addr) (hs : List α) : Prop := qs.length = hs.length ∧ ∀ (i : Nat) (h : α), hs[i]? = some h → ∃ q : Addr, qs[i]? = some q ∧ P q h
theorem AllAt.imp {α : Type} {P P' : Addr → α → Prop} {qs hs} (h : AllAt P qs hs) (f : ∀ q x, P q x → P' q x) : AllAt P' qs hs := ⟨h.1, fun i x e => by
  obtain ⟨q, h1, h2⟩ := h.2 i x e
  exact ⟨q, h1, f q x h2⟩⟩
theorem AllAt.nil {α : Type} {P : Addr → α → Prop} : AllAt P [] ([] : List α) := ⟨rfl, fun i d q => by simp at q⟩
theorem AllAt.app {α : Type} {P : Addr → α → Prop} {qs qs2 : List Addr} {hs hs2 : List α} (h : AllAt P qs hs) (h2 : AllAt P qs2 hs2) : AllAt P (qs ++ qs2) (hs ++ hs2) := by
  refine ⟨by rw [List.length_append, List.length_append, h.1, h2.1], fun i d' q => ?_⟩
  by_cases hi : i < hs.length
  · rw [List.getElem?_append_left hi] at q
    rw [List.getElem?_append_left (by rw [h.1]; exact hi)]
    exact h.2 i d' q
  · rw [List.getElem?_append_right (by omega)] at q
    rw [List.getElem?_append_right (by rw [h.1]; omega), h.1]
    exact h2.2 _ d' q
theorem AllAt.one {α : Type} {P : Addr → α → Prop} {q : Addr} {h : α} (x : P q h) : AllAt P [q] [h] := ⟨rfl, fun i d e => by
  cases i with
  | zero =>
    have e : h = d := Option.some.inj e
    subst e
    exact ⟨q, rfl, x⟩
  | succ i => simp at e⟩
theorem AllAt.snoc {α : Type} {P : Addr → α → Prop} {qs : List Addr} {hs : List α} {q : Addr} {h : α} (a : AllAt P qs hs) (x : P q h) : AllAt P (qs ++ [q]) (hs ++ [h]) := a.app (.one x)
theorem HdV.ex {T : Nat → Prop} {κ : Tags} {H H' : Hp} {h : Option (Int × List Int)} {vs : List V} (x : HdV κ H h vs) (t0 : ¬ T 0) (e : Ex T κ H H') : HdV κ H' h vs := by
  cases h with
  | none => exact x
  | some nd =>
    obtain ⟨a, h1, h2⟩ := x
    exact ⟨a, h1, h2.ex t0 e⟩
theorem HdV.two {κ : Tags} {H : Hp} {h : Option (Int × List Int)} {vs : List V} (x : HdV κ H h vs) : ∃ v1 v2, vs = [v1, v2] := by
  cases h with
  | none => exact ⟨_, _, x⟩
  | some nd =>
    obtain ⟨a, h1, h2⟩ := x
    exact ⟨_, _, h1⟩
theorem HdAt.ex {T : Nat → Prop} {κ : Tags} {H H' : Hp} {q : Addr} {h : Option (Int × List Int)} (x : HdAt κ H q h) (t0 : ¬ T 0) (e : Ex T κ H H') : HdAt κ H' q h := by
  obtain ⟨h1, vs, h2, h3⟩ := x
  exact ⟨h1, vs, e.kp _ _ h2 (by rw [h1]; exact t0), h3.ex t0 e⟩
theorem HdAt.retag {κ κ2 : Tags} {H : Hp} {q : Addr} {h : Option (Int × List Int)} (x : HdAt κ H q h) (e : ∀ b, H b ≠ none → κ b = 0 → κ2 b = κ b) : HdAt κ2 H q h := by
  obtain ⟨h1, vs, h2, h3⟩ := x
  refine ⟨(e q (by rw [h2]; simp) h1).trans h1, vs, h2, ?_⟩
  cases h with
  | none => exact h3
  | some nd =>
    obtain ⟨a, h4, h5⟩ := h3
    exact ⟨a, h4, h5.retag e⟩
theorem PkAt.retag {κ κ2 : Tags} {H : Hp} {q : Addr} {pk : Pk} (x : PkAt κ H q pk) (e : ∀ b, H b ≠ none → κ b = 0 → κ2 b = κ b) : PkAt κ2 H q pk := by
  obtain ⟨h1, vs, h2, h3⟩ := x
  refine ⟨(e q (by rw [h2]; simp) h1).trans h1, vs, h2, ?_⟩
  unfold PkV at h3 ⊢
  cases em : pk.msg with
  | none =>
    rw [em] at h3
    exact h3
  | some nd =>
    rw [em] at h3
    obtain ⟨a, h4, h5⟩ := h3
    exact ⟨a, h4, h5.retag e⟩
def spPackets (C : Addr) : Sp := fun vs H Q _ => ∃ (κ : Tags) (c : Nat) (p : Addr) (a : PA) (st : PS) (t : Int), vs = [.ref p, .int t] ∧ PeerAt C κ H c p a st ∧ Tg κ H ∧ 0 < c ∧ Bd st ∧ Bd (sendS st t) ∧ (∀ s, st.now = some s → s ≤ t) ∧
  ∀ H' l qs pks st', SendR st t st' pks → Ex (Tp c) κ H H' → PeerAt C κ H' c p a st' → H l = none → H' l = some (.lst (qs.map V.ref)) → AllAt (PkAt κ H') qs pks → Q (.ref l) H'
/-- while the due ones are noted -/
def sentOf (st : PS) (t : Int) (due : List Int) : PS := { st with now := some t, sent := fun n => if n ∈ due then some t else st.sent n, ns := st.ns + (due.filter fun n => (st.sent n).isNone).length }
theorem rangeI_nodup (lo hi : Int) : (rangeI lo hi).Nodup := by
  unfold rangeI
  refine (List.pairwise_map).mpr (List.nodup_range.imp fun {x y} ne => ?_)
  omega
theorem due_nodup (st : PS) (t : Int) : (dueL st t).Nodup := (rangeI_nodup _ _).filter _
theorem due_len {st : PS} (bd : Bd st) (t : Int) : (dueL st t).length ≤ 9 := by
  refine Nat.le_trans (List.length_filter_le _ _) ?_
  unfold rangeI
  rw [List.length_map, List.length_range]
  have := end_le st
  have := bd.b0
  have := bd.o9
  omega
section
variable {P : Program} {w : World} {K : PySem.W.Frag} {mg : Str → Option Value} {base : Heap}
abbrev NscPackets : List Str := ["self", "now", "end", "number", "due", "heads", "data"]
theorem scPackets : FnScope NscPackets ["self", "now"] (defScope sPackets) := ⟨rfl, rfl, rfl, by decide +kernel, rfl, by decide +kernel, by decide +kernel⟩
theorem ok_packets {f fD fM C : Addr} {fd fdD fdM : FuncData} (F : Fun K "packets" "Peer.packets" sPackets f fd) (T : Txt K mg C) (m_is_due : Meth K C "_is_due" fD) (FD : Fun K "_is_due" "Peer._is_due" sDue fD fdD) (b_is_due : Binds K fdD ["self", "number", "now"] [])
    (m_mask : Meth K C "_mask" fM) (FM : Fun K "_mask" "Peer._mask" sMask fM fdM) (b_mask : Binds K fdM ["self"] []) :
    FnOk P w K mg base CX0 2 f fd ["self", "now"] (spPackets C) := by
  have G_is_due : FnOk P w K mg base CX0 1 fD fdD ["self", "number", "now"] (spDue C) := ok_due FD T
  have G_mask : FnOk P w K mg base CX0 1 fM fdM ["self"] (spMask C) := ok_mask FM T
  refine F.ok scPackets (fun vs H Q E h => ?_) (fun cdv A outer s H vs Q E hr h => ?_)
  · obtain ⟨κ, c, p, a, st, t, rfl, _⟩ := h
    rfl
  · obtain ⟨κ, c, p, a, st, t, rfl, hp, tg, c0, bd, bd', hnow, k⟩ := h
    have hu := hu_of hr
    have hr_is_due : Room 1 _ := hr
    have hr_mask : Room 1 _ := hr
    have t0 : ¬ Tp c 0 := Tp.no0 c0
    let σ0 : L2.St := [some (.ref p), some (.int t), none, none, none, none, none]
    let tA : TS := fun D σ H0 => H0 = H ∧ σ = σ0 ∧ D.nx σ0 H
    let tB2 : TS := fun D σ H0 => ∃ (D1 D2 : Addr) (ve v3 : Option V) (hs : List Addr), σ = [some (.ref p), some (.int t), ve, v3, some (.ref D1), some (.ref D2), none] ∧ H0 D1 = some (.lst ((dueL st t).map V.int)) ∧ H0 D2 = some (.lst (hs.map V.ref)) ∧ AllAt (HdAt κ H0) hs ((dueL st t).map (headOf st)) ∧
      Tg κ H0 ∧ PeerAt C κ H0 c p a (sentOf st t (dueL st t)) ∧ ∀ (H1 : Hp) (l : Addr) (hs : List Addr), Ex T0 κ H0 H1 → H1 l = some (.lst (hs.map V.ref)) → AllAt (HdAt κ H1) hs (heads st t) → D.nx [some (.ref p), some (.int t), ve, v3, some (.ref D1), some (.ref l), none] H1
    let tO : TE := fun σ H0 Q => ∃ (l : Addr) (hs : List Addr), σ[0]? = some (some (.ref p)) ∧ σ[5]? = some (some (.ref l)) ∧ PeerAt C κ H0 c p a (sentOf st t (dueL st t)) ∧ H0 l = some (.lst (hs.map V.ref)) ∧ hs.length = (heads st t).length ∧ Q (.bl false) H0
    refine ⟨_, (pss_cons (PS_imp (t' := tA) (ps_if (PW.pt (pw_and (pt_cmpR op_notN (pe_fld (pv 0) rfl) pe_non (nomark _)) (pw_and1 (pt_cmpR op_lt (pv 1) (pe_fld (pv 0) rfl) (nomark _))))) pss_never pss_nil) ?impA)
      (pss_cons (ps_fld (pv 0) (pv 1) rfl)
      (pss_cons (ps_set (i := 2) scPackets.nd rfl (Or.inl rfl) (pe_callB (call_min2 rfl) (by rfl) T.min (by decide +kernel) (pa_cons (pe_callB call_len_seq (by rfl) T.len PySem.boot_len (pa_cons (pe_fld (pv 0) rfl) pa_nil)) (pa_cons (pe_op op_add (pe_fld (pv 0) rfl) (pe_fld (pv 0) rfl)) pa_nil))))
      (pss_cons (ps_setLc (i := 4) (own := [("number", 3)]) (g := gName 3)  rfl scPackets.nd rfl rfl (sw_true rfl rfl rfl (by decide +kernel)) (pi_range2 (by rfl) T.range (pa_cons (pe_fld (pv 0) rfl) (pa_cons (pv 2) pa_nil))) (blkOk_by (own := [("number", 3)]) (N := NscPackets) (sc := defScope sPackets) (by decide +kernel)) (fun _ _ _ _ _ => pg_name (i := 3) scPackets.nd rfl (Or.inl rfl)) (fun _ _ _ _ _ => pts_one (pt_val (pe_meth (pv 0) T.cl m_is_due G_is_due hr_is_due b_is_due .nil pass0 (pa_cons (pv 3) (pa_cons (pv 1) pa_nil))))) (fun _ _ _ _ _ => (pv 3)))
      (pss_cons (ps_for PassesOwn.never rfl (pi_list (pv 4)) (pg_name (i := 3) scPackets.nd rfl (Or.inl rfl)) (pss_one (ps_dput (by exact hu) (pe_fld (pv 0) rfl) (pv 3) (pv 1) rfl)))
      (pss_cons (ps_setLc (i := 5) (own := [("number", 3)]) (g := gName 3) (tt := tYes) rfl scPackets.nd rfl rfl (sw_true rfl rfl rfl (by decide +kernel)) (pi_list (pv 4)) (blkOk_by (own := [("number", 3)]) (N := NscPackets) (sc := defScope sPackets) (by decide +kernel)) (fun _ _ _ _ _ => pg_name (i := 3) scPackets.nd rfl (Or.inl rfl)) (fun _ _ _ _ _ => pts_nil) (fun _ _ _ _ _ => (pe_tup (pa_cons (pv 3) (pa_cons (pe_callTy (call_list_ofK (K := K) rfl) (by rfl) T.list (by decide +kernel) (pa_cons (pe_ix (ix_listK (K := K) rfl) (pe_fldK (K := K) rfl (pv 0) rfl) (pv 3) (fun _ _ => rfl)) pa_nil)) pa_nil)))))
      (pss_cons (PS_imp (t' := tB2) (ps_if (PW.pt (pw_and (pt_cmpR op_eq (pe_callB call_len_seq (by rfl) T.len PySem.boot_len (pa_cons (pv 4) pa_nil)) pe_int (nomark _)) (pw_and1 (pt_val (pe_fld (pv 0) rfl))))) (pss_one (ps_set (i := 5) scPackets.nd rfl (Or.inl rfl) (pe_lst (pa_cons (pe_tup (pa_cons pe_non (pa_cons pe_non pa_nil))) pa_nil)))) pss_nil) ?impB)
      (pss_cons (ps_fld (pv 0) (PE_imp (t' := tO) (pe_and (pe_fld (pv 0) rfl) (pe_one (pe_cmpR op_eq (pe_callB call_len_seq (by rfl) T.len PySem.boot_len (pa_cons (pv 5) pa_nil)) pe_int (nomark _)))) ?impO) rfl)
      (pss_one (ps_ret (pe_lc (own := [("number", 3), ("data", 6)])  (tt := tYes) rfl scPackets.nd (pi_list (pv 5)) (blkOk_by (own := [("number", 3), ("data", 6)]) (N := NscPackets) (sc := defScope sPackets) (by decide +kernel)) (fun _ _ _ _ _ => pg_tupK (K := K) (n := 2) rfl rfl (pgs_cons (pg_name (i := 3) scPackets.nd rfl (Or.inl rfl)) (pgs_cons (pg_name (i := 6) scPackets.nd rfl (Or.inl rfl)) pgs_nil))) (fun _ _ _ _ _ => pts_nil) (fun _ _ _ _ _ => (pe_tup (pa_cons (pv 3) (pa_cons (pv 6) (pa_cons (pe_fldK (K := K) rfl (pv 0) rfl) (pa_cons (pe_meth0 (pv 0) T.cl m_mask G_mask hr_mask b_mask .nil pass0) pa_nil))))))))))))))))), ?_⟩
    case impA =>
      rintro D σ H0 ⟨rfl, rfl, k⟩
      refine ⟨_, rfl, p, C, _, _, _, rfl, hp.ins, T.cl, T.nA 2 rfl, f_now, rfl, _, rfl, ?_⟩
      cases en : st.now with
      | none => exact iteF (iteF k)
      | some s =>
        have := hnow s en
        refine iteT ⟨_, rfl, _, rfl, p, C, _, _, _, rfl, hp.ins, T.cl, T.nA 2 rfl, by rw [en]; exact f_now, _, _, rfl, rfl, _, rfl, ?_⟩
        rw [decide_eq_false (show ¬ t < s by omega)]
        exact iteF k
    case impO =>
      rintro σ H0 Q ⟨l, hs, s0, s5, hp, hl, hlen, k⟩
      refine ⟨_, s0, p, C, _, _, _, rfl, hp.ins, T.cl, T.nA 9 rfl, f_owed, _, rfl, ?_⟩
      cases eo : st.owed with
      | false =>
        have eo' : (sentOf st t (dueL st t)).owed = false := eo
        rw [eo']
        exact iteF k
      | true =>
        have eo' : (sentOf st t (dueL st t)).owed = true := eo
        rw [eo']
        refine iteT ⟨_, s5, l, _, rfl, .inl (SqL.of hl), rfl, ?_⟩
        have ne : heads st t ≠ [] := by
          unfold heads
          split
          · simp
          · rename_i h
            intro z
            exact h (List.map_eq_nil_iff.mp z)
        have hz : ¬ V.int (((hs.map V.ref).length : Nat) : Int) = V.int 0 := fun z => by
          have z := V.int.inj z
          rw [List.length_map, hlen] at z
          exact ne (List.length_eq_zero_iff.mp (by omega))
        rw [decide_eq_false hz]
        exact k
    case impB =>
      rintro D σ H0 ⟨D1, D2, ve, v3, hs, rfl, hD1, hD2, hh, tg, hp, k⟩
      refine ⟨_, rfl, D1, _, rfl, .inl (SqL.of hD1), rfl, _, rfl, ?_⟩
      by_cases hd : dueL st t = []
      · have hz : V.int ((((dueL st t).map V.int).length : Nat) : Int) = V.int 0 := by
          rw [hd]
          rfl
        rw [decide_eq_true hz]
        refine iteT ⟨_, rfl, p, C, _, _, _, rfl, hp.ins, T.cl, T.nA 9 rfl, f_owed, _, rfl, ?_⟩
        cases eo : st.owed with
        | false =>
          have eo' : (sentOf st t (dueL st t)).owed = false := eo
          rw [eo']
          refine iteF (k H0 D2 hs Ex.refl hD2 ?_)
          have : heads st t = (dueL st t).map (headOf st) := by
            unfold heads
            rw [if_pos hd, hd, eo]
            rfl
          rw [this]
          exact hh
        | true =>
          have eo' : (sentOf st t (dueL st t)).owed = true := eo
          rw [eo']
          refine iteT ⟨by show 2 ≤ sizeLine; decide, fun q hq => ⟨by show 1 ≤ sizeLine; decide, fun l hl => ?_⟩⟩
          have e1 : Ex T0 κ H0 (upd H0 q (.tup [.non, .non])) := Ex.new hq
          have e2 : Ex T0 κ (upd H0 q (.tup [.non, .non])) (upd (upd H0 q (.tup [.non, .non])) l (.lst [.ref q])) := Ex.new hl
          refine k _ l [q] (e1.trans e2) upd_same ?_
          have : heads st t = [none] := by
            unfold heads
            rw [if_pos hd, eo, if_pos rfl]
          rw [this]
          refine .one ?_
          have hq1 : HdAt κ (upd H0 q (.tup [.non, .non])) q none := ⟨tg.free hq, _, upd_same, rfl⟩
          exact hq1.ex (fun z => z) e2
      · have hz : ¬ V.int ((((dueL st t).map V.int).length : Nat) : Int) = V.int 0 := fun z => by
          have z := V.int.inj z
          rw [List.length_map] at z
          exact hd (List.length_eq_zero_iff.mp (by omega))
        rw [decide_eq_false hz]
        refine iteF (iteF (k H0 D2 hs Ex.refl hD2 ?_))
        have : heads st t = (dueL st t).map (headOf st) := by
          unfold heads
          rw [if_neg hd]
        rw [this]
        exact hh
    refine ⟨rfl, rfl, ?_⟩
    refine ⟨_, rfl, _, rfl, p, C, _, _, rfl, hp.ins, T.cl, T.nA 2 rfl, f_len, ?_⟩
    rw [p_now]
    have hp1 := hp.obj c0 { st with now := some t } rfl rfl rfl rfl rfl
    have e1 : Ex (Tp c) κ H (upd H p (PObj C a { st with now := some t })) := Ex.put (by rw [hp.kP]; exact Tp.has (i := 0) (by decide))
    have g1 : (upd H p (.ins C a.dx (pf st.W st.T (.int t) a.lo a.ls a.ld st.base st.next a.lk st.owed))) = upd H p (PObj C a { st with now := some t }) := rfl
    rw [g1]
    generalize upd H p (PObj C a { st with now := some t }) = H1 at *
    obtain ⟨oa, ho, hdat⟩ := hp1.lo
    refine ⟨_, rfl, p, C, _, _, _, rfl, hp1.ins, T.cl, T.nA 3 rfl, f_offered, _, _, rfl, .inl (SqL.of ho), _, rfl, p, C, _, _, _, rfl, hp1.ins, T.cl, T.nA 6 rfl, f_base, _, rfl, p, C, _, _, _, rfl, hp1.ins, T.cl, T.nA 0 rfl, f_window, _, _, rfl, rfl, _, _, rfl, ?_⟩
    have el : (((oa.map V.ref).length : Nat) : Int) = ((st.off.length : Nat) : Int) := by rw [List.length_map, hdat.1]
    rw [el]
    have ee : (if st.base + st.W < ((st.off.length : Nat) : Int) then st.base + st.W else ((st.off.length : Nat) : Int)) = endI st := rfl
    have hend := end_le st
    have b0 := bd.b0
    have b9 := bd.o9
    have he1 : st.base ≤ endI st := by
      have := bd.bo
      have := bd.w1
      unfold endI
      split <;> omega
    have d9 := due_len bd t
    show gName 2 (V.int (endI st)) σ0 H1 _
    refine ⟨_, rfl, p, C, _, _, _, rfl, hp1.ins, T.cl, T.nA 6 rfl, f_base, _, rfl, _, _, rfl, ⟨?_, ?_, ?_, ?_⟩, fun D1 hD1 => ?_⟩
    · show -(2 ^ 62) ≤ st.base
      omega
    · show st.base < 2 ^ 62
      omega
    · omega
    · omega
    have kD1 : κ D1 = 0 := tg.free (e1.nof hD1)
    refine lc_range (fun i H' => Ex T0 κ H1 H' ∧ H' D1 = some (.lst ((((List.range i).map fun k => st.base + ((k : Nat) : Int)).filter (isDue st t)).map V.int))) ?_ ?_ ?_
    · exact ⟨Ex.new hD1, upd_same⟩
    · rintro i H' hi ⟨e, hd⟩
      have hi : i < (endI st - st.base).toNat := hi
      have hp' := hp1.ex0 e
      refine ⟨rfl, _, rfl, p, _, _, rfl, hp'.ins, f_no (by decide +kernel), _, rfl, _, rfl, κ, c, p, a, _, _, _, rfl, hp', _, rfl, ?_⟩
      rw [List.range_succ, List.map_append, List.filter_append, List.map_append]
      have et : isDue { st with now := some t } t (st.base + ((i : Nat) : Int)) = isDue st t (st.base + ((i : Nat) : Int)) := rfl
      have e1' : List.map (fun (k : Nat) => st.base + (k : Int)) [i] = [st.base + ((i : Nat) : Int)] := rfl
      rw [e1']
      cases e2 : isDue st t (st.base + ((i : Nat) : Int)) with
      | false =>
        rw [et.trans e2]
        refine iteF ⟨e, ?_⟩
        rw [List.filter_cons, e2, if_neg (by decide), List.filter_nil, List.map_nil, List.append_nil]
        exact hd
      | true =>
        rw [et.trans e2]
        refine iteT ⟨_, rfl, _, hd, ?_, e.over hD1, ?_⟩
        · rw [List.length_map]
          refine Nat.lt_of_le_of_lt (List.length_filter_le _ _) ?_
          rw [List.length_map, List.length_range]
          exact Nat.lt_of_lt_of_le (show i < 9 by omega) (by decide)
        · rw [upd_same, List.filter_cons, e2, if_pos rfl]
          rfl
    · rintro H2 ⟨e2, hd2⟩
      have hd2 : H2 D1 = some (.lst ((dueL st t).map V.int)) := hd2
      have hp2 := hp1.ex0 e2
      have e12 : Ex (Tp c) κ H H2 := e1.trans e2.up
      have tg2 := e12.tg tg
      refine ⟨_, rfl, D1, rfl, ⟨_, SqL.of hd2⟩, for_list (K := K) (a := D1) (xs := (dueL st t).map V.int) (fun i σ H' => ∃ v3, σ = [some (.ref p), some (.int t), some (.int (endI st)), v3, some (.ref D1), none, none] ∧ Ex (Tp c) κ H2 H' ∧ H' D1 = some (.lst ((dueL st t).map V.int)) ∧ PeerAt C κ H' c p a (sentOf st t ((dueL st t).take i)))
        ⟨none, rfl, Ex.refl, hd2, ?_⟩ (fun i σ H' _ h => by obtain ⟨_, _, _, h, _⟩ := h; exact SqL.of h) ?_ ?_⟩
      · have : sentOf st t ((dueL st t).take 0) = { st with now := some t } := by
          unfold sentOf
          simp
        rw [this]
        exact hp2
      · rintro i y σ H' hy ⟨v3, rfl, e, hd, hp'⟩
        rw [List.getElem?_map] at hy
        cases ey : (dueL st t)[i]? with
        | none =>
          rw [ey] at hy
          cases hy
        | some n =>
          rw [ey] at hy
          have hy := Option.some.inj hy
          subst hy
          have hi := (List.getElem?_eq_some_iff.mp ey).1
          have nin : ¬ n ∈ (dueL st t).take i := fun z => by
            obtain ⟨j, hj⟩ := List.mem_iff_getElem?.mp z
            have hj' := (List.getElem?_eq_some_iff.mp hj).1
            rw [List.length_take] at hj'
            rw [List.getElem?_take_of_lt (by omega)] at hj
            have := nd_ix (due_nodup st t) hj ey
            omega
          have fcl : (((dueL st t).take i).filter fun n => (st.sent n).isNone).length ≤ 9 := Nat.le_trans (List.length_filter_le _ _) (by rw [List.length_take]; omega)
          have hsz : st.ns + (((dueL st t).take i).filter fun n => (st.sent n).isNone).length ≤ 100 := by
            have := bd.so
            omega
          have hls := hp'.ls
          obtain ⟨o, h1, h2⟩ := hls.put n (.int t) (Nat.lt_of_le_of_lt hsz (by decide))
          refine ⟨_, rfl, _, rfl, p, C, _, _, _, rfl, hp'.ins, T.cl, T.nA 4 rfl, f_sent, _, rfl, a.ls, _, rfl, h1, ?_⟩
          have ep : Ex (Tp c) κ H' (upd H' a.ls o) := Ex.put (by rw [hp'.kS]; exact Tp.has (by decide))
          refine ⟨_, rfl, e.trans ep, ep.kp _ _ hd (by rw [kD1]; exact t0), ?_⟩
          have es : (fun j => if j = n then some (V.int t) else ((if j ∈ (dueL st t).take i then some t else st.sent j).map V.int)) = fun j => ((if j ∈ (dueL st t).take (i + 1) then some t else st.sent j).map V.int) := by
            funext j
            rw [List.take_add_one, ey]
            show _ = (if j ∈ (dueL st t).take i ++ [n] then some t else st.sent j).map V.int
            by_cases q : j = n
            · rw [if_pos q, if_pos (List.mem_append.mpr (.inr (by rw [q]; exact List.mem_singleton.mpr rfl)))]
              rfl
            · rw [if_neg q]
              by_cases q2 : j ∈ (dueL st t).take i
              · rw [if_pos q2, if_pos (List.mem_append.mpr (.inl q2))]
              · rw [if_neg q2, if_neg fun z => by
                  rcases List.mem_append.mp z with z | z
                  · exact q2 z
                  · exact q (List.mem_singleton.mp z)]
          have h2 : DictI (upd H' a.ls o) a.ls (fun j => if j = n then some (V.int t) else ((if j ∈ (dueL st t).take i then some t else st.sent j).map V.int)) _ := h2
          rw [es] at h2
          have en : (if (Option.map V.int ((sentOf st t ((dueL st t).take i)).sent n)).isSome = true then (sentOf st t ((dueL st t).take i)).ns else (sentOf st t ((dueL st t).take i)).ns + 1) = (sentOf st t ((dueL st t).take (i + 1))).ns := by
            show (if (Option.map V.int (if n ∈ (dueL st t).take i then some t else st.sent n)).isSome = true then st.ns + (((dueL st t).take i).filter fun n => (st.sent n).isNone).length else st.ns + (((dueL st t).take i).filter fun n => (st.sent n).isNone).length + 1) = st.ns + (((dueL st t).take (i + 1)).filter fun n => (st.sent n).isNone).length
            rw [if_neg nin, List.take_add_one, ey, List.filter_append, List.length_append]
            show _ = st.ns + ((((dueL st t).take i).filter fun n => (st.sent n).isNone).length + ([n].filter fun n => (st.sent n).isNone).length)
            cases es : st.sent n with
            | none =>
              have : ([n].filter fun n => (st.sent n).isNone) = [n] := by rw [List.filter_cons, es]; rfl
              rw [this]
              rfl
            | some s0 =>
              have : ([n].filter fun n => (st.sent n).isNone) = [] := by rw [List.filter_cons, es]; rfl
              rw [this]
              rfl
          rw [en] at h2
          exact hp'.setSent c0 _ _ h2
      · rintro σ H3 ⟨v3, rfl, e3, hd3, hp3⟩
        have htk : (dueL st t).take ((dueL st t).map V.int).length = dueL st t := by rw [List.length_map, List.take_length]
        rw [htk] at hp3
        have e13 := e12.trans e3
        have tg3 := e13.tg tg
        refine ⟨_, rfl, D1, rfl, ⟨_, SqL.of hd3⟩, fun D2 hD2 => ?_⟩
        have kD2 : κ D2 = 0 := tg3.free hD2
        have n12 : D1 ≠ D2 := ne_of_none hd3 hD2
        let κ2 := ktag κ D2 (c + 5)
        have k22 : κ2 D2 = c + 5 := ktag_same
        refine lc_list (K := K) (a := D1) (xs := (dueL st t).map V.int) (fun i H' => ∃ hs : List Addr, Ex T0 κ H3 H' ∧ H' D2 = some (.lst (hs.map V.ref)) ∧ AllAt (HdAt κ2 H') hs (((dueL st t).take i).map (headOf st)))
          ⟨[], Ex.new hD2, upd_same, AllAt.nil⟩ (fun i H' _ h => by obtain ⟨_, h, _⟩ := h; exact SqL.of (h.kp _ _ hd3 (fun z => z))) ?_ ?_
        · rintro i y H' hy ⟨hs, e, hd, hh⟩
          rw [List.getElem?_map] at hy
          cases ey : (dueL st t)[i]? with
          | none =>
            rw [ey] at hy
            cases hy
          | some n =>
            rw [ey] at hy
            have hy := Option.some.inj hy
            subst hy
            have hi := (List.getElem?_eq_some_iff.mp ey).1
            have hin := (mem_dueL.mp (List.mem_of_getElem? ey)).1
            have hp' := hp3.ex0 e
            obtain ⟨oa', ho', hdat'⟩ := hp'.lo
            have hlt : n.toNat < st.off.length := by omega
            obtain ⟨x, hx1, hx2⟩ := hdat'.2 n.toNat _ (List.getElem?_eq_getElem hlt)
            have hx1' : atI (oa'.map V.ref) n = some (.ref x) := at_of (j := n.toNat) (by omega) (by rw [List.getElem?_map, hx1]; rfl)
            refine ⟨rfl, _, rfl, _, rfl, p, C, _, _, _, rfl, hp'.ins, T.cl, T.nA 3 rfl, f_offered, _, rfl, _, _, _, _, rfl, rfl, SqL.of ho', hx1', x, _, rfl, .inl (SqL.of hx2.2), fun y hy => ⟨by show 2 ≤ sizeLine; decide, fun q hq => ?_⟩⟩
            have tg' := e.tg tg3
            have yD : y ≠ D2 := fun z => by rw [z, hd] at hy; cases hy
            have ky : κ2 y = 0 := (ktag_ne yD).trans (tg'.free hy)
            have hq0 : H' q = none := (Ex.new (T := T0) (κ := κ) (o := .lst (st.off[n.toNat].map V.int)) hy).nof hq
            have qD : q ≠ D2 := fun z => by rw [z, hd] at hq0; cases hq0
            have kq : κ2 q = 0 := (ktag_ne qD).trans (tg'.free hq0)
            have yq : y ≠ q := ne_of_none (H := upd H' y (.lst (st.off[n.toNat].map V.int))) upd_same hq
            have f1 : Ex T0 κ2 H' (upd H' y (.lst (st.off[n.toNat].map V.int))) := Ex.new hy
            have f2 : Ex T0 κ2 (upd H' y (.lst (st.off[n.toNat].map V.int))) (upd (upd H' y (.lst (st.off[n.toNat].map V.int))) q (.tup [.int n, .ref y])) := Ex.new hq
            have g1 : Ex T0 κ H' (upd H' y (.lst (st.off[n.toNat].map V.int))) := Ex.new hy
            have g2 : Ex T0 κ (upd H' y (.lst (st.off[n.toNat].map V.int))) (upd (upd H' y (.lst (st.off[n.toNat].map V.int))) q (.tup [.int n, .ref y])) := Ex.new hq
            have hy2 : Dat κ2 (upd (upd H' y (.lst (st.off[n.toNat].map V.int))) q (.tup [.int n, .ref y])) y st.off[n.toNat] := ⟨ky, (upd_ne yq).trans upd_same⟩
            have hq2 : HdAt κ2 (upd (upd H' y (.lst (st.off[n.toNat].map V.int))) q (.tup [.int n, .ref y])) q (headOf st n) := ⟨kq, _, upd_same, y, rfl, by rw [List.getD_eq_getElem?_getD, List.getElem?_eq_getElem hlt]; exact hy2⟩
            refine ⟨hs.map V.ref, (upd_ne qD.symm).trans ((upd_ne yD.symm).trans hd), ?_, hs ++ [q], (e.trans (g1.trans g2)).over hD2, ?_, ?_⟩
            · rw [List.length_map, hh.1, List.length_map, List.length_take]
              exact Nat.lt_of_le_of_lt (Nat.min_le_left _ _) (Nat.lt_of_lt_of_le (show i < 9 by omega) (by decide))
            · rw [upd_same, List.map_append]
              rfl
            · rw [List.take_add_one, ey, List.map_append]
              have f3 : Ex (fun t => t = c + 5) κ2 (upd (upd H' y (.lst (st.off[n.toNat].map V.int))) q (.tup [.int n, .ref y])) (upd (upd (upd H' y (.lst (st.off[n.toNat].map V.int))) q (.tup [.int n, .ref y])) D2 (.lst (hs.map V.ref ++ [.ref q]))) := Ex.put k22
              have t5 : ¬ (0 : Nat) = c + 5 := by omega
              exact (hh.imp fun q x h => (h.ex (fun z => z) (f1.trans f2)).ex t5 f3).snoc (hq2.ex t5 f3)
        · rintro H4 ⟨hs, e4, hd4, hh4⟩
          rw [htk] at hh4
          have hp4 := hp3.ex0 e4
          have hd4' := e4.kp D1 _ hd3 (fun z => z)
          have e14 : Ex (Tp c) κ H H4 := e13.trans e4.up
          have hh4' : AllAt (HdAt κ H4) hs ((dueL st t).map (headOf st)) := hh4.imp fun q x h => h.retag fun b _ hb => (ktag_ne fun z => by
            rw [z, k22] at hb
            omega).symm
          refine ⟨D1, D2, _, _, hs, rfl, hd4', hd4, hh4', e14.tg tg, hp4, fun H5 l hs5 e5 hl5 hh5 => ?_⟩
          have hp5 := hp4.ex0 e5
          have e15 : Ex (Tp c) κ H H5 := e14.trans e5.up
          refine ⟨l, hs5, rfl, rfl, hp5, hl5, hh5.1, _, rfl, p, C, _, _, rfl, hp5.ins, T.cl, T.nA 9 rfl, f_len, ?_⟩
          rw [p_owed]
          have e6 : Ex (Tp c) κ H5 (upd H5 p (PObj C a (sendS st t))) := Ex.put (by rw [hp5.kP]; exact Tp.has (i := 0) (by decide))
          have hp6 := hp5.obj c0 (sendS st t) rfl rfl rfl rfl rfl
          have g6 : (upd H5 p (.ins C a.dx (pf (sentOf st t (dueL st t)).W (sentOf st t (dueL st t)).T (nowV (sentOf st t (dueL st t)).now) a.lo a.ls a.ld (sentOf st t (dueL st t)).base (sentOf st t (dueL st t)).next a.lk false))) = upd H5 p (PObj C a (sendS st t)) := rfl
          rw [g6]
          have npl : l ≠ p := ne_of hl5 hp5.ins (by intro z; cases z)
          have hl6 : (upd H5 p (PObj C a (sendS st t))) l = _ := (upd_ne npl).trans hl5
          have hh6 := hh5.imp fun q x h => h.ex t0 e6
          generalize upd H5 p (PObj C a (sendS st t)) = H6 at *
          have e16 : Ex (Tp c) κ H H6 := e15.trans e6
          have tg6 := e16.tg tg
          refine ⟨_, rfl, l, rfl, ⟨_, SqL.of hl6⟩, fun D3 hD3 => ?_⟩
          have D30 : H D3 = none := e16.nof hD3
          let κ3 := ktag κ D3 (c + 5)
          have k33 : κ3 D3 = c + 5 := ktag_same
          have t5 : ¬ (0 : Nat) = c + 5 := by omega
          refine lc_list (K := K) (a := l) (xs := hs5.map V.ref) (fun i H' => ∃ (qs : List Addr) (pks : List Pk), Ex T0 κ H6 H' ∧ H' D3 = some (.lst (qs.map V.ref)) ∧ AllAt (PkAt κ3 H') qs pks ∧ pks.map (·.msg) = (heads st t).take i ∧ ∀ pk ∈ pks, pk.ack = st.next ∧ MaskOk st pk.mask)
            ⟨[], [], Ex.new hD3, upd_same, AllAt.nil, rfl, fun _ h => by cases h⟩ (fun i H' _ h => by obtain ⟨_, _, h, _⟩ := h; exact SqL.of (h.kp _ _ hl6 (fun z => z))) ?_ ?_
          · rintro i y H' hy ⟨qs, pks, e, hd, hk, hms, ha⟩
            rw [List.getElem?_map] at hy
            cases ey : hs5[i]? with
            | none =>
              rw [ey] at hy
              cases hy
            | some q0 =>
              rw [ey] at hy
              have hy := Option.some.inj hy
              subst hy
              have hi : i < (heads st t).length := by
                have := (List.getElem?_eq_some_iff.mp ey).1
                rw [hh6.1] at this
                exact this
              obtain ⟨q', hq1, hq2⟩ := hh6.2 i _ (List.getElem?_eq_getElem hi)
              rw [ey] at hq1
              have hq1 := Option.some.inj hq1
              subst hq1
              have hh9 : (heads st t).length ≤ 9 := by
                unfold heads
                split
                · split <;> decide
                · rw [List.length_map]; exact d9
              have hpl : pks.length = i := by
                have := congrArg List.length hms
                rw [List.length_map, List.length_take] at this
                omega
              have hp' := hp6.ex0 e
              obtain ⟨kq0, vs0, hv1, hv2⟩ := (hq2.retag (κ2 := κ3) fun b hb _ => ktag_old hD3 hb).ex (fun z => z) e.anyK
              obtain ⟨v1, v2, rfl⟩ := hv2.two
              refine ⟨q0, _, rfl, SqT.of hv1, rfl, _, _, rfl, _, _, rfl, rfl, rfl, _, rfl, _, rfl, _, rfl, p, C, _, _, _, rfl, hp'.ins, T.cl, T.nA 7 rfl, f_next, _, rfl, p, _, _, rfl, hp'.ins, f_no (by decide +kernel), κ, c, p, a, sendS st t, rfl, hp', bd', fun m H8 hm e8 => ⟨by show 4 ≤ sizeLine; decide, fun q hq => ?_⟩⟩
              have e68 := e.trans e8
              have tg8 := e68.tg tg6
              have hd8 := e8.kp D3 _ hd (fun z => z)
              have qD : q ≠ D3 := fun z => by rw [z, hd8] at hq; cases hq
              have kq : κ3 q = 0 := (ktag_ne qD).trans (tg8.free hq)
              have g1 : Ex T0 κ H8 (upd H8 q (.tup [v1, v2, .int st.next, .int m])) := Ex.new hq
              have g3 : Ex T0 κ3 H8 (upd H8 q (.tup [v1, v2, .int st.next, .int m])) := Ex.new hq
              have e83 : Ex T0 κ3 H' H8 := ⟨fun b o h _ => e8.kp b o h (fun z => z), e8.lv⟩
              have f3 : Ex (fun t => t = c + 5) κ3 (upd H8 q (.tup [v1, v2, .int st.next, .int m])) (upd (upd H8 q (.tup [v1, v2, .int st.next, .int m])) D3 (.lst (qs.map V.ref ++ [.ref q]))) := Ex.put k33
              have hpk : PkAt κ3 (upd H8 q (.tup [v1, v2, .int st.next, .int m])) q ⟨(heads st t)[i], st.next, m⟩ := by
                refine ⟨kq, _, upd_same, ?_⟩
                unfold PkV
                cases eh : (heads st t)[i] with
                | none =>
                  rw [eh] at hv2
                  have hv2 : [v1, v2] = [.non, .non] := hv2
                  show [v1, v2, V.int st.next, V.int m] = [.non, .non, .int st.next, .int m]
                  rw [(List.cons.inj hv2).1, (List.cons.inj (List.cons.inj hv2).2).1]
                | some nd =>
                  obtain ⟨n, d⟩ := nd
                  rw [eh] at hv2
                  obtain ⟨x, hx1, hx2⟩ := hv2
                  refine ⟨x, ?_, (hx2.ex (fun z => z) (e83.trans g3))⟩
                  show [v1, v2, V.int st.next, V.int m] = [.int n, .ref x, .int st.next, .int m]
                  rw [(List.cons.inj hx1).1, (List.cons.inj (List.cons.inj hx1).2).1]
              refine ⟨qs.map V.ref, (upd_ne qD.symm).trans hd8, ?_, qs ++ [q], pks ++ [⟨(heads st t)[i], st.next, m⟩], (e68.trans g1).over hD3, ?_, ?_, ?_, ?_⟩
              · rw [List.length_map, hk.1, hpl]
                exact Nat.lt_of_lt_of_le (show i < 9 by omega) (by decide)
              · rw [upd_same, List.map_append]
                rfl
              · exact (hk.imp fun q x h => (h.ex (fun z => z) (e83.trans g3)).ex t5 f3).snoc (hpk.ex t5 f3)
              · rw [List.map_append, hms, List.take_add_one, List.getElem?_eq_getElem hi]
                rfl
              · intro pk hpk
                rcases List.mem_append.mp hpk with z | z
                · exact ha pk z
                · rw [List.mem_singleton.mp z]
                  exact ⟨rfl, hm⟩
          · rintro H7 ⟨qs, pks, e7, hd7, hk7, hm7, ha7⟩
            have hm7 : pks.map (·.msg) = heads st t := by
              rw [hm7, List.length_map, hh6.1, List.take_length]
            exact k H7 D3 qs pks (sendS st t) ⟨rfl, hm7, ha7⟩ (e16.trans e7.up) (hp6.ex0 e7) D30 hd7 (hk7.imp fun q x h => h.retag fun b _ hb => (ktag_ne fun z => by
              rw [z, k33] at hb
              omega).symm)
end
end FH
namespace FH
open PySem L2
def spDraws (K : PySem.W.Frag) : Sp := fun vs H Q _ => ∃ (as : Addr) (ns : List Int), vs = [.ref as] ∧ SqL K H as (ns.map V.int) ∧ ns.length ≤ 63 ∧ ∀ H' l ds, Same H H' → H l = none → H' l = some (.lst ((ds : List Int).map V.int)) → Q (.ref l) H'
def spMix : Sp := fun vs H Q _ => ∃ (ad : Addr) (ds : List Int) (k many : Int), vs = [.ref ad, .int k, .int many] ∧ H ad = some (.lst (ds.map V.int)) ∧ 0 < many ∧ ∀ r, 0 ≤ r → r < many → Q (.int r) H
def spFates : Sp := fun vs H Q _ => ∃ (ad : Addr) (ds : List Int) (k : Int) (fair : Bool), vs = [.ref ad, .int k, .bl fair] ∧ H ad = some (.lst (ds.map V.int)) ∧ ∀ H' l ls, Same H H' → H l = none → H' l = some (.lst ((ls : List Int).map V.int)) → (∀ x ∈ ls, 0 ≤ x ∧ x ≤ 9) → (fair = true → ∃ x ∈ ls, x ≤ 2) → ls.length ≤ 2 → Q (.ref l) H'
section
variable {P : Program} {w : World} {K : PySem.W.Frag} {mg : Str → Option Value} {base : Heap}
theorem scMix : FnScope ["_law_draws_here", "_law_k", "_law_many", "_law_value"] ["_law_draws_here", "_law_k", "_law_many"] (defScope sMix) := ⟨rfl, rfl, rfl, by decide +kernel, rfl, by decide +kernel, by decide +kernel⟩
theorem ok_mix {f C : Addr} {fd : FuncData} (F : Fun K "_law_mix" "_law_mix" sMix f fd) (T : Txt K mg C) : FnOk P w K mg base CX0 1 f fd ["_law_draws_here", "_law_k", "_law_many"] spMix := by
  refine F.ok scMix (fun vs H Q E h => ?_) (fun cdv A outer s H vs Q E hr h => ?_)
  · obtain ⟨ad, ds, k, many, rfl, _⟩ := h
    rfl
  · obtain ⟨ad, ds, k, many, rfl, hd, hm, kk⟩ := h
    have mod : ∀ x : Int, 0 ≤ x % many ∧ x % many < many := fun x => ⟨Int.emod_nonneg _ (by omega), Int.emod_lt_of_pos _ hm⟩
    let tIf : TS := fun D σ H0 => H0 = H ∧ σ = [some (.ref ad), some (.int k), some (.int many), some (.int 0)] ∧ ∀ v : Int, D.nx [some (.ref ad), some (.int k), some (.int many), some (.int v)] H
    refine ⟨_, (pss_cons (ps_set (i := 3) scMix.nd rfl (Or.inl rfl) pe_int)
      (pss_cons (PS_imp (t' := tIf) (ps_if (pt_cmpR op_gt (pe_callB call_len_seq (by rfl) T.len PySem.boot_len (pa_cons (pv 0) pa_nil)) pe_int (nomark _)) (pss_one (ps_set (i := 3) scMix.nd rfl (Or.inl rfl) (pe_ix ix_list (pv 0) (pe_op op_mod (pe_callTy call_int1 (by rfl) T.int (by decide +kernel) (pa_cons (pv 1) pa_nil)) (pe_callB call_len_seq (by rfl) T.len PySem.boot_len (pa_cons (pv 0) pa_nil))) (fun _ _ => rfl)))) pss_nil) ?impI)
      (pss_cons (ps_if (pt_cmpR op_lt (pv 1) (pe_callB call_len_seq (by rfl) T.len PySem.boot_len (pa_cons (pv 0) pa_nil)) (nomark _)) (pss_one (ps_ret (pe_op op_mod (pe_callTy call_int1 (by rfl) T.int (by decide +kernel) (pa_cons (pv 3) pa_nil)) (pv 2)))) pss_nil)
      (pss_one (ps_ret (pe_op op_mod (pe_callTy call_int1 (by rfl) T.int (by decide +kernel) (pa_cons (pe_op op_fdiv (pe_callTy call_int1 (by rfl) T.int (by decide +kernel) (pa_cons (pe_op op_add (pe_op op_mul (pv 3) pe_int) (pe_op op_mul (pv 1) pe_int)) pa_nil)) pe_int) pa_nil)) (pv 2))))))), ?_⟩
    case impI =>
      rintro D σ H0 ⟨rfl, rfl, k1⟩
      refine ⟨_, rfl, ad, _, rfl, .inl (SqL.of hd), _, _, rfl, rfl, _, rfl, ?_⟩
      by_cases h : (0 : Int) < (((ds.map V.int).length : Nat) : Int)
      · rw [decide_eq_true h]
        rw [List.length_map] at h
        have h1 : 0 ≤ k % ((ds.length : Nat) : Int) := Int.emod_nonneg _ (by omega)
        have h2 : k % ((ds.length : Nat) : Int) < ((ds.length : Nat) : Int) := Int.emod_lt_of_pos _ h
        have h3 : (k % ((ds.length : Nat) : Int)).toNat < ds.length := by omega
        have ha : atI (ds.map V.int) (k % (((ds.map V.int).length : Nat) : Int)) = some (.int ds[(k % ((ds.length : Nat) : Int)).toNat]) := at_of (j := (k % ((ds.length : Nat) : Int)).toNat) (by rw [List.length_map]; omega) (by rw [List.getElem?_map, List.getElem?_eq_getElem h3]; rfl)
        refine iteT ⟨_, rfl, _, rfl, .inl ⟨_, rfl, _, rfl, ad, _, rfl, .inl (SqL.of hd), _, _, rfl, rfl, by rw [List.length_map]; exact h, ad, _, _, _, rfl, rfl, SqL.of hd, ha, k1 _⟩⟩
      · rw [decide_eq_false h]
        exact iteF (k1 0)
    refine ⟨rfl, rfl, fun v => ?_⟩
    refine ⟨_, rfl, _, rfl, ad, _, rfl, .inl (SqL.of hd), _, _, rfl, rfl, _, rfl, ?_⟩
    refine ite2 (fun _ => ?_) (fun _ => ?_)
    · exact ⟨_, rfl, .inl ⟨_, rfl, _, rfl, _, _, rfl, rfl, hm, kk _ (mod _).1 (mod _).2⟩⟩
    · exact ⟨_, rfl, _, _, rfl, rfl, .inr ⟨by decide, by decide⟩, _, rfl, _, _, rfl, rfl, .inr ⟨by decide, by decide⟩, _, _, rfl, rfl, .inl ⟨_, rfl, _, _, rfl, rfl, ⟨by decide, by decide⟩, .inl ⟨_, rfl, _, rfl, _, _, rfl, rfl, hm, kk _ (mod _).1 (mod _).2⟩⟩⟩
theorem new2 (H : Hp) (l : Addr) (o : HO) (h : H l = none) : ∃ H1, upd H l o = H1 ∧ H1 l = some o ∧ Same H H1 := ⟨_, rfl, upd_same, fun b u e => by rw [upd_ne (ne_of_none e h)]; exact e⟩
theorem list6 {α : Type} {P : Addr → α → Prop} {a0 a1 a2 a3 a4 a5 : Addr} {x0 x1 x2 x3 x4 x5 : α} (h0 : P a0 x0) (h1 : P a1 x1) (h2 : P a2 x2) (h3 : P a3 x3) (h4 : P a4 x4) (h5 : P a5 x5) {r : Int} (hr : 0 ≤ r) (h6 : r < 6) :
    ∃ a x, atI ([a0, a1, a2, a3, a4, a5].map V.ref) r = some (.ref a) ∧ P a x ∧ x ∈ [x0, x1, x2, x3, x4, x5] := by
  obtain ⟨n, rfl⟩ := Int.eq_ofNat_of_zero_le hr
  have hn : n = 0 ∨ n = 1 ∨ n = 2 ∨ n = 3 ∨ n = 4 ∨ n = 5 := by omega
  rcases hn with rfl | rfl | rfl | rfl | rfl | rfl
  · exact ⟨a0, x0, rfl, h0, by simp⟩
  · exact ⟨a1, x1, rfl, h1, by simp⟩
  · exact ⟨a2, x2, rfl, h2, by simp⟩
  · exact ⟨a3, x3, rfl, h3, by simp⟩
  · exact ⟨a4, x4, rfl, h4, by simp⟩
  · exact ⟨a5, x5, rfl, h5, by simp⟩
theorem scFates : FnScope ["_law_draws_here", "_law_k", "_law_is_fair", "_law_way"] ["_law_draws_here", "_law_k", "_law_is_fair"] (defScope sFates) := ⟨rfl, rfl, rfl, by decide +kernel, rfl, by decide +kernel, by decide +kernel⟩
theorem ok_fates {f fM C : Addr} {fd fdM : FuncData} (F : Fun K "_law_fates" "_law_fates" sFates f fd) (T : Txt K mg C) (mg_law_mix : mg "_law_mix" = some (.ref fM)) (FM : Fun K "_law_mix" "_law_mix" sMix fM fdM) (b_law_mix : Binds K fdM ["_law_draws_here", "_law_k", "_law_many"] []) :
    FnOk P w K mg base CX0 2 f fd ["_law_draws_here", "_law_k", "_law_is_fair"] spFates := by
  have G_law_mix : FnOk P w K mg base CX0 1 fM fdM ["_law_draws_here", "_law_k", "_law_many"] spMix := ok_mix FM T
  have k_law_mix := FM.kp
  refine F.ok scFates (fun vs H Q E h => ?_) (fun cdv A outer s H vs Q E hr h => ?_)
  · obtain ⟨ad, ds, k, fair, rfl, _⟩ := h
    rfl
  · obtain ⟨ad, ds, k, fair, rfl, hd, kk⟩ := h
    have hr_law_mix : Room 1 _ := hr
    refine ⟨_, (pss_cons (ps_set (i := 3) scFates.nd rfl (Or.inl rfl) (pe_call G_law_mix hr_law_mix (by rfl) mg_law_mix k_law_mix b_law_mix .nil pass0 (pa_cons (pv 0) (pa_cons (pv 1) (pa_cons pe_int pa_nil)))))
      (pss_cons (ps_if (pt_val (pv 2)) (pss_one (ps_ret (pe_ix ix_list (pe_lst (pa_cons (pe_lst (pa_cons pe_int pa_nil)) (pa_cons (pe_lst (pa_cons pe_int pa_nil)) (pa_cons (pe_lst (pa_cons pe_int pa_nil)) (pa_cons (pe_lst (pa_cons pe_int pa_nil)) (pa_cons (pe_lst (pa_cons pe_int pa_nil)) (pa_cons (pe_lst (pa_cons pe_int (pa_cons pe_int pa_nil))) pa_nil))))))) (pv 3) (fun _ _ => rfl)))) pss_nil)
      (pss_one (ps_ret (pe_ix ix_list (pe_lst (pa_cons (pe_lst pa_nil) (pa_cons (pe_lst pa_nil) (pa_cons (pe_lst (pa_cons pe_int pa_nil)) (pa_cons (pe_lst (pa_cons (pe_op op_add pe_int (pe_call G_law_mix hr_law_mix (by rfl) mg_law_mix k_law_mix b_law_mix .nil pass0 (pa_cons (pv 0) (pa_cons (pe_op op_add (pv 1) pe_int) (pa_cons pe_int pa_nil))))) pa_nil)) (pa_cons (pe_lst (pa_cons pe_int (pa_cons pe_int pa_nil))) (pa_cons (pe_lst (pa_cons (pe_op op_add pe_int (pe_call G_law_mix hr_law_mix (by rfl) mg_law_mix k_law_mix b_law_mix .nil pass0 (pa_cons (pv 0) (pa_cons (pe_op op_add (pv 1) pe_int) (pa_cons pe_int pa_nil))))) (pa_cons pe_int pa_nil))) pa_nil))))))) (pv 3) (fun _ _ => rfl)))))), ?_⟩
    refine ⟨_, rfl, _, rfl, ad, ds, k, 6, rfl, hd, by decide, fun r r0 r6 => ?_⟩
    refine ⟨_, rfl, fair, rfl, ?_⟩
    cases fair with
    | true =>
      refine iteT ⟨by show 1 ≤ sizeLine; decide, fun a0 n0 => ?_⟩
      obtain ⟨H0, e0, h0, s0⟩ := new2 H a0 (.lst [.int (0)]) n0
      rw [e0]
      refine ⟨by show 1 ≤ sizeLine; decide, fun a1 n1 => ?_⟩
      obtain ⟨H1, e1, h1, s1⟩ := new2 H0 a1 (.lst [.int (0)]) n1
      rw [e1]
      refine ⟨by show 1 ≤ sizeLine; decide, fun a2 n2 => ?_⟩
      obtain ⟨H2, e2, h2, s2⟩ := new2 H1 a2 (.lst [.int (1)]) n2
      rw [e2]
      refine ⟨by show 1 ≤ sizeLine; decide, fun a3 n3 => ?_⟩
      obtain ⟨H3, e3, h3, s3⟩ := new2 H2 a3 (.lst [.int (2)]) n3
      rw [e3]
      refine ⟨by show 1 ≤ sizeLine; decide, fun a4 n4 => ?_⟩
      obtain ⟨H4, e4, h4, s4⟩ := new2 H3 a4 (.lst [.int (0)]) n4
      rw [e4]
      refine ⟨by show 2 ≤ sizeLine; decide, fun a5 n5 => ?_⟩
      obtain ⟨H5, e5, h5, s5⟩ := new2 H4 a5 (.lst [.int (0), .int (3)]) n5
      rw [e5]
      refine ⟨by show 6 ≤ sizeLine; decide, fun aD nD => ?_⟩
      obtain ⟨HD, eD, hD, sD⟩ := new2 H5 aD (.lst [.ref a0, .ref a1, .ref a2, .ref a3, .ref a4, .ref a5]) nD
      rw [eD]
      have t5 := sD
      have t4 := s5.trans t5
      have t3 := s4.trans t4
      have t2 := s3.trans t3
      have t1 := s2.trans t2
      have t0 := s1.trans t1
      have u0 := s0
      have u1 := u0.trans s1
      have u2 := u1.trans s2
      have u3 := u2.trans s3
      have u4 := u3.trans s4
      have u5 := u4.trans s5
      obtain ⟨l, ls, hat, ⟨hl0, hl⟩, hin⟩ := list6 (P := fun a (ls : List Int) => H a = none ∧ HD a = some (.lst (ls.map V.int))) (x0 := [0]) (x1 := [0]) (x2 := [1]) (x3 := [2]) (x4 := [0]) (x5 := [0, 3]) (⟨n0, t0 _ _ h0⟩) (⟨u0.free n1, t1 _ _ h1⟩) (⟨u1.free n2, t2 _ _ h2⟩) (⟨u2.free n3, t3 _ _ h3⟩) (⟨u3.free n4, t4 _ _ h4⟩) (⟨u4.free n5, t5 _ _ h5⟩) r0 r6
      refine ⟨_, rfl, aD, _, _, _, rfl, rfl, SqL.of hD, hat, kk HD l ls (u5.trans sD) hl0 hl (fun y hy => ?_) ?_ ?_⟩
      · simp only [List.mem_cons, List.not_mem_nil, or_false] at hin
        rcases hin with rfl | rfl | rfl | rfl | rfl | rfl <;> simp at hy <;> omega
      · intro _
        simp only [List.mem_cons, List.not_mem_nil, or_false] at hin
        rcases hin with rfl | rfl | rfl | rfl | rfl | rfl <;> simp
      · simp only [List.mem_cons, List.not_mem_nil, or_false] at hin
        rcases hin with rfl | rfl | rfl | rfl | rfl | rfl <;> simp
    | false =>
      refine iteF ⟨by show 0 ≤ sizeLine; decide, fun a0 n0 => ?_⟩
      obtain ⟨H0, e0, h0, s0⟩ := new2 H a0 (.lst []) n0
      rw [e0]
      refine ⟨by show 0 ≤ sizeLine; decide, fun a1 n1 => ?_⟩
      obtain ⟨H1, e1, h1, s1⟩ := new2 H0 a1 (.lst []) n1
      rw [e1]
      refine ⟨by show 1 ≤ sizeLine; decide, fun a2 n2 => ?_⟩
      obtain ⟨H2, e2, h2, s2⟩ := new2 H1 a2 (.lst [.int (0)]) n2
      rw [e2]
      refine ⟨_, rfl, _, rfl, _, _, rfl, rfl, ad, ds, _, 5, rfl, ((s0.trans s1).trans s2) _ _ hd, by decide, fun r1 r10 r19 => ⟨_, _, rfl, rfl, ?_⟩⟩
      refine ⟨by show 1 ≤ sizeLine; decide, fun a3 n3 => ?_⟩
      obtain ⟨H3, e3, h3, s3⟩ := new2 H2 a3 (.lst [.int (1 + r1)]) n3
      rw [e3]
      refine ⟨by show 2 ≤ sizeLine; decide, fun a4 n4 => ?_⟩
      obtain ⟨H4, e4, h4, s4⟩ := new2 H3 a4 (.lst [.int (0), .int (2)]) n4
      rw [e4]
      refine ⟨_, rfl, _, rfl, _, _, rfl, rfl, ad, ds, _, 9, rfl, ((((s0.trans s1).trans s2).trans s3).trans s4) _ _ hd, by decide, fun r2 r20 r29 => ⟨_, _, rfl, rfl, ?_⟩⟩
      refine ⟨by show 2 ≤ sizeLine; decide, fun a5 n5 => ?_⟩
      obtain ⟨H5, e5, h5, s5⟩ := new2 H4 a5 (.lst [.int (1 + r2), .int (4)]) n5
      rw [e5]
      refine ⟨by show 6 ≤ sizeLine; decide, fun aD nD => ?_⟩
      obtain ⟨HD, eD, hD, sD⟩ := new2 H5 aD (.lst [.ref a0, .ref a1, .ref a2, .ref a3, .ref a4, .ref a5]) nD
      rw [eD]
      have t5 := sD
      have t4 := s5.trans t5
      have t3 := s4.trans t4
      have t2 := s3.trans t3
      have t1 := s2.trans t2
      have t0 := s1.trans t1
      have u0 := s0
      have u1 := u0.trans s1
      have u2 := u1.trans s2
      have u3 := u2.trans s3
      have u4 := u3.trans s4
      have u5 := u4.trans s5
      obtain ⟨l, ls, hat, ⟨hl0, hl⟩, hin⟩ := list6 (P := fun a (ls : List Int) => H a = none ∧ HD a = some (.lst (ls.map V.int))) (x0 := []) (x1 := []) (x2 := [0]) (x3 := [1 + r1]) (x4 := [0, 2]) (x5 := [1 + r2, 4]) (⟨n0, t0 _ _ h0⟩) (⟨u0.free n1, t1 _ _ h1⟩) (⟨u1.free n2, t2 _ _ h2⟩) (⟨u2.free n3, t3 _ _ h3⟩) (⟨u3.free n4, t4 _ _ h4⟩) (⟨u4.free n5, t5 _ _ h5⟩) r0 r6
      refine ⟨_, rfl, aD, _, _, _, rfl, rfl, SqL.of hD, hat, kk HD l ls (u5.trans sD) hl0 hl (fun y hy => ?_) ?_ ?_⟩
      · simp only [List.mem_cons, List.not_mem_nil, or_false] at hin
        rcases hin with rfl | rfl | rfl | rfl | rfl | rfl <;> simp at hy <;> omega
      · intro z
        cases z
      · simp only [List.mem_cons, List.not_mem_nil, or_false] at hin
        rcases hin with rfl | rfl | rfl | rfl | rfl | rfl <;> simp
end
end FH
namespace FH
open PySem L2
section
variable {P : Program} {w : World} {K : PySem.W.Frag} {mg : Str → Option Value} {base : Heap}
theorem scDraws : FnScope ["_law_script", "_law_draws_here", "_law_k", "_law_rest", "_law_turn", "_law_mixed"] ["_law_script"] (defScope sDraws) := ⟨rfl, rfl, rfl, by decide +kernel, rfl, by decide +kernel, by decide +kernel⟩
theorem app1 {H' : Hp} {H : Hp} {l : Addr} {ds : List Int} (x : Int) (l0 : H l = none) (e : Same H H') : Same H (upd H' l (.lst (ds.map V.int ++ [V.int x]))) ∧ (upd H' l (.lst (ds.map V.int ++ [V.int x]))) l = some (.lst ((ds ++ [x]).map V.int)) :=
  ⟨fun b o h => by rw [upd_ne (ne_of_none h l0)]; exact e b o h, by rw [upd_same, List.map_append]; rfl⟩
theorem ok_draws {f C : Addr} {fd : FuncData} (F : Fun K "_law_draws" "_law_draws" sDraws f fd) (T : Txt K mg C) : FnOk P w K mg base CX0 1 f fd ["_law_script"] (spDraws K) := by
  refine F.ok scDraws (fun vs H Q E h => ?_) (fun cdv A outer s H vs Q E hr h => ?_)
  · obtain ⟨as, ns, rfl, _⟩ := h
    rfl
  · obtain ⟨as, ns, rfl, hs, h63, k⟩ := h
    have P65 : (0 : Int) < 65536 := by decide
    have P32 : (0 : Int) < 32768 := by decide
    have PA : (0 : Int) < 2147483647 := by decide
    have PB : (0 : Int) < 2147483629 := by decide
    refine ⟨_, (pss_cons (ps_set (i := 1) scDraws.nd rfl (Or.inl rfl) (pe_lst pa_nil))
      (pss_cons (ps_for PassesOwn.never rfl (pi_range1 (by rfl) T.range (pa_cons (pe_callB (call_min2 rfl) (by rfl) T.min (by decide +kernel) (pa_cons pe_int (pa_cons (pe_callB call_len_seq (by rfl) T.len PySem.boot_len (pa_cons (pv 0) pa_nil)) pa_nil))) pa_nil)) (pg_name (i := 2) scDraws.nd rfl (Or.inl rfl)) (pss_cons (ps_set (i := 3) scDraws.nd rfl (Or.inl rfl) (pe_callB call_abs (by rfl) T.abs (by decide +kernel) (pa_cons (pe_ix ix_list (pv 0) (pv 2) (fun _ _ => rfl)) pa_nil)))
      (pss_one (ps_if (pt_cmpR op_ge (pv 3) (pe_op op_pow pe_int pe_int) (nomark _)) (pss_one (ps_for PassesOwn.never rfl (pi_range1 (by rfl) T.range (pa_cons pe_int pa_nil)) (pg_name (i := 4) scDraws.nd rfl (Or.inl rfl)) (pss_one (ps_if (pt_cmpR op_gt (pv 3) pe_int (nomark _)) (pss_cons (ps_expr (pe_bm PySem.F.plainAttrs_list PySem.F.slot_list_append PySem.F.type_list_append mt_append (pv 1) (pa_cons (pe_op op_mod (pe_callTy call_int1 (by rfl) T.int (by decide +kernel) (pa_cons (pv 3) pa_nil)) pe_int) pa_nil)))
      (pss_one (ps_set (i := 3) scDraws.nd rfl (Or.inl rfl) (pe_op op_fdiv (pv 3) pe_int)))) pss_nil)))) (pss_cons (ps_set (i := 5) scDraws.nd rfl (Or.inl rfl) (pe_op op_mod (pe_callTy call_int1 (by rfl) T.int (by decide +kernel) (pa_cons (pe_op op_add (pe_op op_mul (pv 3) pe_int) (pe_op op_mul (pe_op op_add (pv 2) pe_int) pe_int)) pa_nil)) pe_int))
      (pss_cons (ps_set (i := 5) scDraws.nd rfl (Or.inl rfl) (pe_op op_mod (pe_callTy call_int1 (by rfl) T.int (by decide +kernel) (pa_cons (pe_op op_add (pe_op op_add (pe_op op_mul (pv 5) pe_int) (pe_op op_mul pe_int (pv 2))) pe_int) pa_nil)) pe_int))
      (pss_cons (ps_expr (pe_bm PySem.F.plainAttrs_list PySem.F.slot_list_append PySem.F.type_list_append mt_append (pv 1) (pa_cons (pe_op op_mod (pe_callTy call_int1 (by rfl) T.int (by decide +kernel) (pa_cons (pv 5) pa_nil)) pe_int) pa_nil)))
      (pss_one (ps_expr (pe_bm PySem.F.plainAttrs_list PySem.F.slot_list_append PySem.F.type_list_append mt_append (pv 1) (pa_cons (pe_op op_mod (pe_callTy call_int1 (by rfl) T.int (by decide +kernel) (pa_cons (pe_op op_fdiv (pv 5) pe_int) pa_nil)) pe_int) pa_nil)))))))))))
      (pss_one (ps_ret (pv 1))))), ?_⟩
    refine ⟨Nat.zero_le _, fun l hl => ?_⟩
    have s0 : Same H (upd H l (.lst [])) := fun b o h => by rw [upd_ne (ne_of_none h hl)]; exact h
    refine ⟨_, rfl, as, _, rfl, .inl (s0.seq hs), _, _, rfl, ?_⟩
    have el : (((ns.map V.int).length : Nat) : Int) = ((ns.length : Nat) : Int) := by rw [List.length_map]
    rw [el]
    have em : (if ((ns.length : Nat) : Int) < 63 then ((ns.length : Nat) : Int) else 63) = ((ns.length : Nat) : Int) := by
      split <;> omega
    rw [em]
    refine ⟨_, rfl, by omega, by omega, for_range (fun i σ H' => ∃ (v2 v3 v4 v5 : Option V) (ds : List Int), σ = [some (.ref as), some (.ref l), v2, v3, v4, v5] ∧ Same H H' ∧ H' l = some (.lst (ds.map V.int)) ∧ ds.length ≤ 62 * i) ?_ ?_ ?_⟩
    · exact ⟨none, none, none, none, [], rfl, s0, upd_same, Nat.zero_le _⟩
    · rintro i σ H' hi ⟨v2, v3, v4, v5, ds, rfl, e, hd, hlen⟩
      have hi : i < ns.length := by
        have hi : i < (((ns.length : Nat) : Int)).toNat := hi
        omega
      have ha : atI (ns.map V.int) (0 + ((i : Nat) : Int)) = some (.int ns[i]) := at_of (j := i) (by omega) (by rw [List.getElem?_map, List.getElem?_eq_getElem hi]; rfl)
      refine ⟨_, rfl, _, rfl, as, _, _, _, rfl, rfl, e.seq hs, ha, _, rfl, ?_⟩
      generalize (if ns[i] < 0 then -ns[i] else ns[i]) = r
      have big : 62 * i + 62 < sizeLine := Nat.lt_of_le_of_lt (show 62 * i + 62 ≤ 4000 by omega) (by decide)
      refine ⟨_, rfl, _, _, rfl, rfl, ⟨by decide, by decide, by decide⟩, _, _, rfl, rfl, _, rfl, ?_⟩
      refine ite2 (fun _ => ?_) (fun _ => ?_)
      · refine ⟨_, rfl, by decide, by decide, for_range (fun j σ H' => ∃ (r : Int) (v4 : Option V) (ds : List Int), σ = [some (.ref as), some (.ref l), some (.int (0 + ((i : Nat) : Int))), some (.int r), v4, v5] ∧ Same H H' ∧ H' l = some (.lst (ds.map V.int)) ∧ ds.length ≤ 62 * i + j) ?_ ?_ ?_⟩
        · exact ⟨r, v4, ds, rfl, e, hd, by omega⟩
        · rintro j σ H2 hj ⟨r, v4, ds, rfl, e, hd, hlen⟩
          have hj : j < 60 := hj
          refine ⟨_, rfl, _, _, rfl, rfl, _, rfl, ?_⟩
          refine ite2 (fun _ => ?_) (fun _ => ?_)
          · obtain ⟨x1, x2⟩ := app1 (r % 65536) hl e (ds := ds) (H' := H2)
            refine ⟨_, rfl, .inl ⟨rfl, _, SqL.of hd⟩, _, rfl, .inl ⟨_, rfl, _, _, rfl, rfl, P65, l, _, _, rfl, rfl, hd, by rw [List.length_map]; omega, _, rfl, _, _, rfl, rfl, ⟨by decide, by decide⟩, ?_⟩⟩
            exact ⟨_, _, ds ++ [r % 65536], rfl, x1, x2, by rw [List.length_append, List.length_singleton]; omega⟩
          · exact ⟨r, _, ds, rfl, e, hd, by omega⟩
        · rintro σ H2 ⟨r, v4, ds, rfl, e, hd, hlen⟩
          exact ⟨_, _, _, _, ds, rfl, e, hd, by
            have hlen : ds.length ≤ 62 * i + 60 := hlen
            omega⟩
      · refine ⟨_, rfl, _, _, rfl, rfl, .inr ⟨by decide, by decide⟩, _, rfl, _, _, rfl, rfl, _, _, rfl, rfl, .inr ⟨by decide, by decide⟩, _, _, rfl, rfl, .inl ⟨_, rfl, _, _, rfl, rfl, PA, ?_⟩⟩
        refine ⟨_, rfl, _, _, rfl, rfl, .inr ⟨by decide, by decide⟩, _, rfl, _, _, rfl, rfl, .inl ⟨by decide, by decide⟩, _, _, rfl, rfl, _, _, rfl, rfl, .inl ⟨_, rfl, _, _, rfl, rfl, PB, ?_⟩⟩
        let m : Int := ((r * 48271 + (0 + ((i : Nat) : Int) + 1) * 69621) % 2147483647 * 16807 + 11 * (0 + ((i : Nat) : Int)) + 5) % 2147483629
        obtain ⟨x1, x2⟩ := app1 (m % 65536) hl e (ds := ds) (H' := H')
        refine ⟨_, rfl, .inl ⟨rfl, _, SqL.of hd⟩, _, rfl, .inl ⟨_, rfl, _, _, rfl, rfl, P65, l, _, _, rfl, rfl, hd, by rw [List.length_map]; omega, ?_⟩⟩
        obtain ⟨y1, y2⟩ := app1 (m / 65536 % 32768) hl x1 (ds := ds ++ [m % 65536])
        refine ⟨_, rfl, .inl ⟨rfl, _, SqL.of x2⟩, _, rfl, _, _, rfl, rfl, ⟨by decide, by decide⟩, .inl ⟨_, rfl, _, _, rfl, rfl, P32, l, _, _, rfl, rfl, x2, by rw [List.length_map, List.length_append, List.length_singleton]; omega, ?_⟩⟩
        exact ⟨_, _, _, _, ds ++ [m % 65536] ++ [m / 65536 % 32768], rfl, y1, y2, by rw [List.length_append, List.length_append, List.length_singleton, List.length_singleton]; omega⟩
    · rintro σ H' ⟨v2, v3, v4, v5, ds, rfl, e, hd, hlen⟩
      exact ⟨_, rfl, k H' l ds e hl hd⟩
end
end FH
namespace FH
open PySem L2
/-- a road's row: a tuple of a time and a packet -/
def RowAt (κ : Tags) (H : Hp) (q : Addr) (r : Row) : Prop := κ q = 0 ∧ ∃ qp : Addr, H q = some (.tup [.int r.1, .ref qp]) ∧ PkAt κ H qp r.2
theorem RowAt.ex {T : Nat → Prop} {κ : Tags} {H H' : Hp} {q : Addr} {r : Row} (h : RowAt κ H q r) (t0 : ¬ T 0) (e : Ex T κ H H') : RowAt κ H' q r := by
  obtain ⟨h1, qp, h2, h3⟩ := h
  exact ⟨h1, qp, e.kp _ _ h2 (by rw [h1]; exact t0), h3.ex t0 e⟩
theorem RowAt.retag {κ κ2 : Tags} {H : Hp} {q : Addr} {r : Row} (h : RowAt κ H q r) (e : ∀ b, H b ≠ none → κ b = 0 → κ2 b = κ b) : RowAt κ2 H q r := by
  obtain ⟨h1, qp, h2, h3⟩ := h
  exact ⟨(e q (by rw [h2]; simp) h1).trans h1, qp, h2, h3.retag e⟩
def spSent (C : Addr) : Sp := fun vs H Q _ => ∃ (κ : Tags) (c : Nat) (p : Addr) (a : PA) (st : PS) (ad : Addr) (ds : List Int) (k : Int) (rd : Addr) (tr : Nat) (rows : List Row) (rs : List Addr) (now : Int) (fair : Bool),
  vs = [.ref ad, .int k, .ref p, .ref rd, .int now, .int st.W, .bl fair] ∧ PeerAt C κ H c p a st ∧ Tg κ H ∧ 0 < c ∧ Bd st ∧ Bd (sendS st now) ∧ (∀ s, st.now = some s → s ≤ now) ∧ κ ad = 0 ∧ H ad = some (.lst (ds.map V.int)) ∧
  κ rd = tr ∧ tr ≠ 0 ∧ ¬ Tp c tr ∧ H rd = some (.lst (rs.map V.ref)) ∧ AllAt (RowAt κ H) rs rows ∧ rows.length ≤ 100000 ∧
  ∀ H' st' pks new rs', SendR st now st' pks → RowsOk now (fair = true) pks new → Ex (fun n => Tp c n ∨ n = tr) κ H H' → PeerAt C κ H' c p a st' → H' rd = some (.lst ((rs' : List Addr).map V.ref)) → AllAt (RowAt κ H') rs' (rows ++ new) → new.length ≤ 18 → Q (.bl true) H'
theorem heads_len {st : PS} (bd : Bd st) (t : Int) : (heads st t).length ≤ 9 := by
  unfold heads
  split
  · split <;> decide
  · rw [List.length_map]; exact due_len bd t
theorem inV_int {n : Int} {l : List Int} (h : n ∈ l) : inV (.int n) (l.map V.int) = true := by
  unfold inV
  exact List.any_eq_true.mpr ⟨.int n, List.mem_map.mpr ⟨n, h, rfl⟩, by simp [eqV]⟩
theorem RowsOk.more {t : Int} {fair : Prop} {pks : List Pk} {new : List Row} {pk : Pk} {ls : List Int} (h : RowsOk t fair pks new) (h9 : ∀ x ∈ ls, 0 ≤ x ∧ x ≤ 9) (h2 : fair → ∃ x ∈ ls, x ≤ 2) : RowsOk t fair (pks ++ [pk]) (new ++ ls.map fun x => (t + x, pk)) := by
  constructor
  · intro r hr
    rcases List.mem_append.mp hr with q | q
    · obtain ⟨a, b⟩ := h.1 r q
      exact ⟨List.mem_append.mpr (.inl a), b⟩
    · obtain ⟨x, hx, rfl⟩ := List.mem_map.mp q
      have := h9 x hx
      refine ⟨List.mem_append.mpr (.inr (List.mem_singleton.mpr rfl)), ?_, ?_⟩
      · show t ≤ t + x
        omega
      · show t + x ≤ t + 9
        omega
  · intro f p hp
    rcases List.mem_append.mp hp with q | q
    · obtain ⟨a, b, c⟩ := h.2 f p q
      exact ⟨a, List.mem_append.mpr (.inl b), c⟩
    · obtain ⟨x, hx, hx2⟩ := h2 f
      rw [List.mem_singleton.mp q]
      exact ⟨t + x, List.mem_append.mpr (.inr (List.mem_map.mpr ⟨x, hx, rfl⟩)), by omega⟩
section
variable {P : Program} {w : World} {K : PySem.W.Frag} {mg : Str → Option Value} {base : Heap}
abbrev NscSent : List Str := ["_law_draws_here", "_law_k", "_law_peer", "_law_road", "_law_now", "_law_window", "_law_is_fair", "_law_base", "_law_shut", "_law_packets", "_law_j", "_law_number", "_law_late"]
theorem scSent : FnScope NscSent ["_law_draws_here", "_law_k", "_law_peer", "_law_road", "_law_now", "_law_window", "_law_is_fair"] (defScope sSent) := ⟨rfl, rfl, rfl, by decide +kernel, rfl, by decide +kernel, by decide +kernel⟩
theorem ok_sent {f fF fB fO fP C : Addr} {fd fdF fdB fdO fdP : FuncData} (F : Fun K "_law_sent" "_law_sent" sSent f fd) (T : Txt K mg C)
    (mg_law_fates : mg "_law_fates" = some (.ref fF)) (k_law_fates : PySem.W.keepIn K (.ref fF) = true) (G_law_fates : FnOk P w K mg base CX0 2 fF fdF ["_law_draws_here", "_law_k", "_law_is_fair"] spFates) (b_law_fates : Binds K fdF ["_law_draws_here", "_law_k", "_law_is_fair"] [])
    (mbase_number : Meth K C "base_number" fB) (Gbase_number : FnOk P w K mg base CX0 1 fB fdB ["self"] (spBase C)) (bbase_number : Binds K fdB ["self"] [])
    (mopen_numbers : Meth K C "open_numbers" fO) (Gopen_numbers : FnOk P w K mg base CX0 1 fO fdO ["self"] (spOpen C)) (bopen_numbers : Binds K fdO ["self"] [])
    (mpackets : Meth K C "packets" fP) (Gpackets : FnOk P w K mg base CX0 2 fP fdP ["self", "now"] (spPackets C)) (bpackets : Binds K fdP ["self", "now"] []) :
    FnOk P w K mg base CX0 3 f fd ["_law_draws_here", "_law_k", "_law_peer", "_law_road", "_law_now", "_law_window", "_law_is_fair"] (spSent C) := by
  refine F.ok scSent (fun vs H Q E h => ?_) (fun cdv A outer s H vs Q E hr h => ?_)
  · obtain ⟨_, _, _, _, _, _, _, _, _, _, _, _, _, _, rfl, _⟩ := h
    rfl
  · obtain ⟨κ, c, p, a, st, ad, ds, k, rd, tr, rows, rs, now, fair, rfl, hp, tg, c0, bd, bd', hnow, kad, had, krd, tr0, trp, hrd, hrows, hlen, kk⟩ := h
    have hr_law_fates : Room 2 _ := hr
    have hrbase_number : Room 1 _ := hr.mono (by decide)
    have hropen_numbers : Room 1 _ := hr.mono (by decide)
    have hrpackets : Room 2 _ := hr
    have t0 : ¬ Tp c 0 := Tp.no0 c0
    have r0 : ¬ (0 : Nat) = tr := fun z => tr0 z.symm
    let tN : TS := fun D σ H0 => ∃ (v1 : V) (lsh : Addr), σ[11]? = some (some v1) ∧ σ[7]? = some (some (.int st.base)) ∧ σ[8]? = some (some (.ref lsh)) ∧ σ[5]? = some (some (.int st.W)) ∧ H0 lsh = some (.lst ((openL st).map V.int)) ∧ (v1 = .non ∨ ∃ n, v1 = .int n ∧ n ∈ dueL st now) ∧ D.nx σ H0
    refine ⟨_, (pss_cons (ps_set (i := 7) scSent.nd rfl (Or.inl rfl) (pe_meth0 (pv 2) T.cl mbase_number Gbase_number hrbase_number bbase_number .nil pass0))
      (pss_cons (ps_set (i := 8) scSent.nd rfl (Or.inl rfl) (pe_meth0 (pv 2) T.cl mopen_numbers Gopen_numbers hropen_numbers bopen_numbers .nil pass0))
      (pss_cons (ps_set (i := 9) scSent.nd rfl (Or.inl rfl) (pe_meth (pv 2) T.cl mpackets Gpackets hrpackets bpackets .nil pass0 (pa_cons (pv 4) pa_nil)))
      (pss_cons (ps_for PassesOwn.never rfl (pi_range1 (by rfl) T.range (pa_cons (pe_callB call_len_seq (by rfl) T.len PySem.boot_len (pa_cons (pv 9) pa_nil)) pa_nil)) (pg_name (i := 10) scSent.nd rfl (Or.inl rfl)) (pss_cons (ps_set (i := 11) scSent.nd rfl (Or.inl rfl) (pe_ix ix_tup (pe_ix ix_list (pv 9) (pv 10) (fun _ _ => rfl)) pe_int (fun _ _ => rfl)))
      (pss_cons (PS_imp (t' := tN) (ps_if (PW.pt (pw_and (pt_cmpR op_notN (pv 11) pe_non (nomark _)) (pw_and1 (PW.pt (pw_or (pt_cmpR op_notIn_seq (pv 11) (pv 8) (by with_unfolding_all rfl)) (pw_or1 (pt_not (pt_chain op_le op_lt (pv 7) (pv 11) (pe_op op_add (pv 7) (pv 5)))))))))) (pss_one (ps_ret pe_bl)) pss_nil) ?impN)
      (pss_one (ps_for PassesOwn.never rfl (pi_list (pe_call G_law_fates hr_law_fates (by rfl) mg_law_fates k_law_fates b_law_fates .nil pass0 (pa_cons (pv 0) (pa_cons (pe_op op_add (pv 1) (pe_op op_mul pe_int (pv 10))) (pa_cons (pv 6) pa_nil))))) (pg_name (i := 12) scSent.nd rfl (Or.inl rfl)) (pss_one (ps_expr (pe_bm PySem.F.plainAttrs_list PySem.F.slot_list_append PySem.F.type_list_append mt_append (pv 3) (pa_cons (pe_tup (pa_cons (pe_op op_add (pv 4) (pv 12)) (pa_cons (pe_ix ix_list (pv 9) (pv 10) (fun _ _ => rfl)) pa_nil))) pa_nil)))))))))
      (pss_one (ps_ret pe_bl)))))), ?_⟩
    case impN =>
      rintro D σ H0 ⟨v1, lsh, s11, s7, s8, s5, hsh, hv, k⟩
      rcases hv with rfl | ⟨n, rfl, hn⟩
      · exact ⟨_, s11, rfl, _, rfl, iteF (iteF k)⟩
      · obtain ⟨h1, h2, h3⟩ := due_open hn
        refine ⟨_, s11, rfl, _, rfl, iteT ⟨_, s11, _, s8, lsh, _, rfl, .inl (SqL.of hsh), rfl, ?_, _, rfl, ?_⟩⟩
        · rw [List.all_map]
          exact List.all_eq_true.mpr fun x _ => rfl
        · rw [if_pos rfl, inV_int h1]
          refine iteF ⟨_, s7, _, s11, _, _, rfl, rfl, _, rfl, ?_⟩
          rw [decide_eq_true h2]
          refine iteT ⟨_, s7, _, s5, _, _, rfl, rfl, _, _, rfl, rfl, _, rfl, ?_⟩
          rw [decide_eq_true h3]
          exact iteF k
    refine ⟨_, rfl, p, _, _, rfl, hp.ins, f_no (by decide +kernel), κ, c, p, a, st, rfl, hp, ?_⟩
    refine ⟨_, rfl, p, _, _, rfl, hp.ins, f_no (by decide +kernel), κ, c, p, a, st, rfl, hp, bd, fun lsh H1 e1 lsh0 hsh => ?_⟩
    have hp1 := hp.ex0 e1
    have tg1 := e1.tg tg
    refine ⟨_, rfl, p, _, _, rfl, hp1.ins, f_no (by decide +kernel), _, rfl, κ, c, p, a, st, now, rfl, hp1, tg1, c0, bd, bd', hnow, fun H2 lq qs pks st' hS e2 hp2 lq0 hlq hqs => ?_⟩
    have klsh : κ lsh = 0 := tg.free lsh0
    have klq : κ lq = 0 := tg1.free lq0
    have hsh2 := e2.kp _ _ hsh (by rw [klsh]; exact t0)
    have e02 : Ex (Tp c) κ H H2 := e1.up.trans e2
    have tg2 := e02.tg tg
    have had2 := e02.kp _ _ had (by rw [kad]; exact t0)
    have hrd2 := e02.kp _ _ hrd (by rw [krd]; exact trp)
    have hrows2 := hrows.imp fun q x h => h.ex t0 e02
    have hpl : pks.length ≤ 9 := by
      have := congrArg List.length hS.msgs
      rw [List.length_map] at this
      have := heads_len bd now
      omega
    refine ⟨_, rfl, lq, _, rfl, .inl (SqL.of hlq), _, rfl, ?_, ?_, for_range (fun i σ H' => ∃ (v10 v11 v12 : Option V) (new : List Row) (rs' : List Addr), σ = [some (.ref ad), some (.int k), some (.ref p), some (.ref rd), some (.int now), some (.int st.W), some (.bl fair), some (.int st.base), some (.ref lsh), some (.ref lq), v10, v11, v12] ∧
      Ex (fun n => n = tr) κ H2 H' ∧ H' rd = some (.lst (rs'.map V.ref)) ∧ AllAt (RowAt κ H') rs' (rows ++ new) ∧ RowsOk now (fair = true) (pks.take i) new ∧ new.length ≤ 2 * i) ?_ ?_ ?_⟩
    · rw [List.length_map, hqs.1]
      omega
    · rw [List.length_map, hqs.1]
      omega
    · refine ⟨none, none, none, [], rs, rfl, Ex.refl, hrd2, by rw [List.append_nil]; exact hrows2, ⟨fun _ h => (by cases h), fun _ _ h => (by cases h)⟩, Nat.zero_le _⟩
    · rintro i σ H' hi ⟨v10, v11, v12, new, rs', rfl, e, hrd', hrows', hok, hnl⟩
      have hi : i < ((((qs.map V.ref).length : Nat) : Int)).toNat := hi
      have hi : i < pks.length := by
        rw [List.length_map, hqs.1] at hi
        omega
      obtain ⟨q, hq1, hq2⟩ := hqs.2 i _ (List.getElem?_eq_getElem hi)
      have hq2 := hq2.ex r0 e
      obtain ⟨kq, vs4, hv1, hv2⟩ := id hq2
      obtain ⟨v1, v2, rfl⟩ := hv2.four
      have hlq' := e.kp _ _ hlq (by rw [klq]; exact r0)
      have hsh' := e.kp _ _ hsh2 (by rw [klsh]; exact r0)
      have had' := e.kp _ _ had2 (by rw [kad]; exact r0)
      have hat : atI (qs.map V.ref) (0 + ((i : Nat) : Int)) = some (.ref q) := at_of (j := i) (by omega) (by rw [List.getElem?_map, hq1]; rfl)
      refine ⟨_, rfl, _, rfl, lq, _, _, _, rfl, rfl, SqL.of hlq', hat, q, _, _, v1, rfl, rfl, SqT.of hv1, rfl, ?_⟩
      refine ⟨v1, lsh, rfl, rfl, rfl, rfl, hsh', ?_, ?_⟩
      · have hm : pks[i].msg ∈ heads st now := by
          rw [← hS.msgs]
          exact List.mem_map.mpr ⟨_, List.getElem_mem hi, rfl⟩
        unfold PkV at hv2
        cases em : pks[i].msg with
        | none =>
          rw [em] at hv2
          have hv2 : [v1, v2, V.int pks[i].ack, V.int pks[i].mask] = [.non, .non, .int pks[i].ack, .int pks[i].mask] := hv2
          exact .inl (List.cons.inj hv2).1
        | some nd =>
          obtain ⟨n, d⟩ := nd
          rw [em] at hv2
          obtain ⟨x, hx, _⟩ := hv2
          refine .inr ⟨n, (List.cons.inj hx).1, ?_⟩
          rw [em] at hm
          unfold heads at hm
          split at hm
          · split at hm
            · simp at hm
            · cases hm
          · obtain ⟨m, h1, h2⟩ := List.mem_map.mp hm
            unfold headOf at h2
            have h3 : m = n := congrArg Prod.fst (Option.some.inj h2)
            rw [← h3]
            exact h1
      refine ⟨_, rfl, _, rfl, _, rfl, _, _, rfl, rfl, .inl ⟨by decide, by decide⟩, _, _, rfl, rfl, _, rfl, ad, ds, _, fair, rfl, had', fun H3 l ls s3 l0 hl h9 h2 hll => ?_⟩
      refine ⟨l, rfl, ⟨_, SqL.of hl⟩, ?_⟩
      have tg' := e.tg tg2
      have kl : κ l = 0 := tg'.free l0
      have e3 : Ex T0 κ H' H3 := Ex.of_same s3
      refine for_list (K := K) (a := l) (xs := ls.map V.int) (fun i2 σ H4 => ∃ (v12 : Option V) (rs'' : List Addr), σ = [some (.ref ad), some (.int k), some (.ref p), some (.ref rd), some (.int now), some (.int st.W), some (.bl fair), some (.int st.base), some (.ref lsh), some (.ref lq), some (.int (0 + ((i : Nat) : Int))), some v1, v12] ∧
        Ex (fun n => n = tr) κ H3 H4 ∧ H4 rd = some (.lst (rs''.map V.ref)) ∧ AllAt (RowAt κ H4) rs'' (rows ++ (new ++ (ls.take i2).map fun x => (now + x, pks[i])))) ?_ ?_ ?_ ?_
      · refine ⟨_, rs', rfl, Ex.refl, s3 _ _ hrd', ?_⟩
        rw [List.take_zero, List.map_nil, List.append_nil]
        exact hrows'.imp fun q x h => h.ex (fun z => z) e3
      · rintro i2 σ H4 _ ⟨_, _, _, e4, _⟩
        exact SqL.of (e4.kp _ _ hl (by rw [kl]; exact r0))
      · rintro i2 y σ H4 hy ⟨v12', rs'', rfl, e4, hrd4, hrows4⟩
        rw [List.getElem?_map] at hy
        cases ey : ls[i2]? with
        | none =>
          rw [ey] at hy
          cases hy
        | some x =>
          rw [ey] at hy
          have hy := Option.some.inj hy
          subst hy
          have e34 : Ex (fun n => n = tr) κ H' H4 := e3.up.trans e4
          have hlq4 := e34.kp _ _ hlq' (by rw [klq]; exact r0)
          have tg4 := e34.tg tg'
          refine ⟨_, rfl, .inl ⟨rfl, _, SqL.of hrd4⟩, _, rfl, _, rfl, _, _, rfl, rfl, _, rfl, _, rfl, lq, _, _, _, rfl, rfl, SqL.of hlq4, hat, by show 2 ≤ sizeLine; decide, fun qt hqt => ?_⟩
          have nq : rd ≠ qt := ne_of_none hrd4 hqt
          have kqt : κ qt = 0 := tg4.free hqt
          have f1 : Ex (fun n => n = tr) κ H4 (upd H4 qt (.tup [.int (now + x), .ref q])) := Ex.new hqt
          have f2 : Ex (fun n => n = tr) κ (upd H4 qt (.tup [.int (now + x), .ref q])) (upd (upd H4 qt (.tup [.int (now + x), .ref q])) rd (.lst (rs''.map V.ref ++ [.ref qt]))) := Ex.put krd
          refine ⟨rd, _, _, rfl, rfl, (upd_ne nq).trans hrd4, ?_, _, rs'' ++ [qt], rfl, e4.trans (f1.trans f2), ?_, ?_⟩
          · rw [List.length_map, hrows4.1, List.length_append, List.length_append, List.length_map, List.length_take]
            exact Nat.lt_of_le_of_lt (show _ ≤ 200000 by omega) (by decide)
          · rw [upd_same, List.map_append]
            rfl
          · rw [List.take_add_one, ey, List.map_append, ← List.append_assoc, ← List.append_assoc]
            refine AllAt.snoc (by rw [List.append_assoc]; exact hrows4.imp fun q x h => (h.ex r0 f1).ex r0 f2) ?_
            have : RowAt κ (upd H4 qt (.tup [.int (now + x), .ref q])) qt (now + x, pks[i]) := ⟨kqt, q, upd_same, (hq2.ex r0 e34).ex r0 f1⟩
            exact this.ex r0 f2
      · rintro σ H4 ⟨v12', rs'', rfl, e4, hrd4, hrows4⟩
        have e34 : Ex (fun n => n = tr) κ H' H4 := e3.up.trans e4
        rw [List.length_map, List.take_length] at hrows4
        refine ⟨_, _, _, new ++ ls.map fun x => (now + x, pks[i]), rs'', rfl, e.trans e34, hrd4, hrows4, ?_, ?_⟩
        · rw [List.take_add_one, List.getElem?_eq_getElem hi]
          exact hok.more h9 h2
        · rw [List.length_append, List.length_map]
          omega
    · rintro σ H' ⟨v10, v11, v12, new, rs', rfl, e, hrd', hrows', hok, hnl⟩
      have ek : ((((qs.map V.ref).length : Nat) : Int)).toNat = pks.length := by
        rw [List.length_map, hqs.1]
        omega
      rw [ek] at hok hnl
      rw [List.take_length] at hok
      exact kk H' st' pks new rs' hS hok ((e02.mono fun n h => .inl h).trans (e.mono fun n h => .inr h)) (hp2.ex r0 (fun i hi z => trp (by rw [← show c + i = tr from z]; exact Tp.has hi)) e) hrd' hrows' (by omega)
end
end FH
namespace FH
open PySem L2
def spArrived (C : Addr) : Sp := fun vs H Q _ => ∃ (κ : Tags) (c : Nat) (p : Addr) (a : PA) (st : PS) (ad : Addr) (ds : List Int) (k : Int) (rd : Addr) (rows : List Row) (rs : List Addr) (now : Int),
  vs = [.ref ad, .int k, .ref p, .ref rd, .int now] ∧ PeerAt C κ H c p a st ∧ Tg κ H ∧ 0 < c ∧ κ ad = 0 ∧ H ad = some (.lst (ds.map V.int)) ∧
  ¬ Tp c (κ rd) ∧ H rd = some (.lst (rs.map V.ref)) ∧ AllAt (RowAt κ H) rs rows ∧ rows.length ≤ 100000 ∧
  (∀ L st' gs, (∀ pk ∈ L, pk ∈ dueRows now rows) → RecAll st L st' gs → Bd st' ∧ gs.length ≤ 9) ∧ (∀ pk ∈ dueRows now rows, 0 ≤ pk.mask ∧ ∀ n d, pk.msg = some (n, d) → 0 ≤ n ∧ n < 9) ∧
  ∀ (H1 H' : Hp) st' L gs (l : Addr) (oa : List Addr) (rd' : Addr) (rs' : List Addr) (tq : Addr), L.Perm (dueRows now rows) → RecAll st L st' gs → Ex (Tp c) κ H H1 → PeerAt C κ H1 c p a st' → κ l = 0 → H1 l = some (.lst (oa.map V.ref)) → DatsAt κ H1 oa gs → Ex T0 κ H1 H' → H1 rd' = none → H' rd' = some (.lst (rs'.map V.ref)) →
    AllAt (RowAt κ H1) rs' (rows.filter fun r => decide (now < r.1)) → H' tq = some (.tup [.ref l, .ref rd']) → κ tq = 0 → Q (.ref tq) H'
theorem cut_erase (qs : List Addr) (n : Nat) (hn : n < qs.length) : cutV (qs.map V.ref) none (some ((n : Nat) : Int)) ++ cutV (qs.map V.ref) (some (((n : Nat) : Int) + 1)) none = (qs.eraseIdx n).map V.ref := by
  unfold cutV
  rw [show (((n : Nat) : Int) + 1) = ((n + 1 : Nat) : Int) by omega, HT.sIx_none, HT.sIx_nat, HT.sIx_nat, HT.sIx_none, List.length_map, List.drop_zero, List.eraseIdx_eq_take_drop_succ, List.map_append, ← List.map_take, ← List.map_drop, ← List.map_take]
  rw [show min n qs.length - 0 = n by omega, show min (n + 1) qs.length = n + 1 by omega]
  congr 2
  rw [List.take_of_length_le (by rw [List.length_drop]; omega)]
theorem AllAt.erase {α : Type} {P : Addr → α → Prop} {qs : List Addr} {hs : List α} (h : AllAt P qs hs) (n : Nat) : AllAt P (qs.eraseIdx n) (hs.eraseIdx n) := by
  refine ⟨by rw [List.length_eraseIdx, List.length_eraseIdx, h.1], fun i x e => ?_⟩
  rw [List.getElem?_eraseIdx] at e ⊢
  split at e
  · rename_i q
    rw [if_pos q]
    exact h.2 _ _ e
  · rename_i q
    rw [if_neg q]
    exact h.2 _ _ e
theorem erase_perm {α : Type} : ∀ (l : List α) (n : Nat) (h : n < l.length), ([l[n]] ++ l.eraseIdx n).Perm l
  | a :: r, 0, _ => List.Perm.refl _
  | a :: r, n + 1, h => by
    have h' : n < r.length := by simpa using h
    have ih := erase_perm r n h'
    show (r[n] :: a :: r.eraseIdx n).Perm (a :: r)
    exact (List.Perm.swap a r[n] (r.eraseIdx n)).trans (ih.cons a)
theorem dueRows_snoc (now : Int) (rows : List Row) (r : Row) : dueRows now (rows ++ [r]) = dueRows now rows ++ (if r.1 ≤ now then [r.2] else []) := by
  unfold dueRows
  rw [List.filter_append, List.map_append]
  congr 1
  by_cases h : r.1 ≤ now
  · rw [if_pos h, List.filter_cons, decide_eq_true h]
    rfl
  · rw [if_neg h, List.filter_cons, decide_eq_false h]
    rfl
section
variable {P : Program} {w : World} {K : PySem.W.Frag} {mg : Str → Option Value} {base : Heap}
abbrev NscArrived : List Str := ["_law_draws_here", "_law_k", "_law_peer", "_law_road", "_law_now", "_law_given", "_law_due", "_law_turn", "_law_at", "_law_row"]
theorem scArrived : FnScope NscArrived ["_law_draws_here", "_law_k", "_law_peer", "_law_road", "_law_now"] (defScope sArrived) := ⟨rfl, rfl, rfl, by decide +kernel, rfl, by decide +kernel, by decide +kernel⟩
theorem ok_arrived {f fM fR C : Addr} {fd fdM fdR : FuncData} (F : Fun K "_law_arrived" "_law_arrived" sArrived f fd) (T : Txt K mg C)
    (mg_law_mix : mg "_law_mix" = some (.ref fM)) (k_law_mix : PySem.W.keepIn K (.ref fM) = true) (G_law_mix : FnOk P w K mg base CX0 1 fM fdM ["_law_draws_here", "_law_k", "_law_many"] spMix) (b_law_mix : Binds K fdM ["_law_draws_here", "_law_k", "_law_many"] [])
    (mreceive : Meth K C "receive" fR) (Greceive : FnOk P w K mg base CX0 2 fR fdR ["self", "packet"] (spReceive C)) (breceive : Binds K fdR ["self", "packet"] []) :
    FnOk P w K mg base CX0 3 f fd ["_law_draws_here", "_law_k", "_law_peer", "_law_road", "_law_now"] (spArrived C) := by
  refine F.ok scArrived (fun vs H Q E h => ?_) (fun cdv A outer s H vs Q E hr h => ?_)
  · obtain ⟨_, _, _, _, _, _, _, _, _, _, _, _, rfl, _⟩ := h
    rfl
  · obtain ⟨κ, c, p, a, st, ad, ds, k, rd, rows, rs, now, rfl, hp, tg, c0, kad, had, trd, hrd, hrows, hlen, hB, hM, kk⟩ := h
    have hr_law_mix : Room 1 _ := hr.mono (by decide)
    have hrreceive : Room 2 _ := hr
    have t0 : ¬ Tp c 0 := Tp.no0 c0
    refine ⟨_, (pss_cons (ps_set (i := 5) scArrived.nd rfl (Or.inl rfl) (pe_lst pa_nil))
      (pss_cons (ps_setLc (i := 6) (own := [("_law_row", 9)]) (g := gName 9)  rfl scArrived.nd rfl rfl (sw_true rfl rfl rfl (by decide +kernel)) (pi_list (pv 3)) (blkOk_by (own := [("_law_row", 9)]) (N := NscArrived) (sc := defScope sArrived) (by decide +kernel)) (fun _ _ _ _ _ => pg_name (i := 9) scArrived.nd rfl (Or.inl rfl)) (fun _ _ _ _ _ => pts_one (pt_cmpR op_le (pe_ix (ix_tupK (K := K) rfl) (pv 9) pe_int (fun _ _ => rfl)) (pv 4) (nomark _))) (fun _ _ _ _ _ => (pe_ix (ix_tupK (K := K) rfl) (pv 9) pe_int (fun _ _ => rfl))))
      (pss_cons (ps_for PassesOwn.never rfl (pi_range1 (by rfl) T.range (pa_cons (pe_callB call_len_seq (by rfl) T.len PySem.boot_len (pa_cons (pv 6) pa_nil)) pa_nil)) (pg_name (i := 7) scArrived.nd rfl (Or.inl rfl)) (pss_cons (ps_set (i := 8) scArrived.nd rfl (Or.inl rfl) (pe_call G_law_mix hr_law_mix (by rfl) mg_law_mix k_law_mix b_law_mix .nil pass0 (pa_cons (pv 0) (pa_cons (pe_op op_add (pv 1) (pv 7)) (pa_cons (pe_callB call_len_seq (by rfl) T.len PySem.boot_len (pa_cons (pv 6) pa_nil)) pa_nil)))))
      (pss_cons (ps_set (i := 5) scArrived.nd rfl (Or.inl rfl) (pe_op op_cat (pv 5) (pe_meth (pv 2) T.cl mreceive Greceive hrreceive breceive .nil pass0 (pa_cons (pe_ix ix_list (pv 6) (pv 8) (fun _ _ => rfl)) pa_nil))))
      (pss_one (ps_set (i := 6) scArrived.nd rfl (Or.inl rfl) (pe_op op_cat (pe_slice sl_list (pv 6) po_none (po_some (pv 8))) (pe_slice sl_list (pv 6) (po_some (pe_op op_add (pv 8) pe_int)) po_none)))))))
      (pss_one (ps_ret (pe_tup (pa_cons (pv 5) (pa_cons (pe_lc (own := [("_law_row", 9)]) (g := gName 9)  rfl scArrived.nd (pi_list (pv 3)) (blkOk_by (own := [("_law_row", 9)]) (N := NscArrived) (sc := defScope sArrived) (by decide +kernel)) (fun _ _ _ _ _ => pg_name (i := 9) scArrived.nd rfl (Or.inl rfl)) (fun _ _ _ _ _ => pts_one (pt_cmpR op_gt (pe_ix (ix_tupK (K := K) rfl) (pv 9) pe_int (fun _ _ => rfl)) (pv 4) (nomark _))) (fun _ _ _ _ _ => (pv 9))) pa_nil)))))))), ?_⟩
    refine ⟨Nat.zero_le _, fun lg0 hlg0 => ?_⟩
    obtain ⟨Ha, ea, ha, sa⟩ := new2 H lg0 (.lst []) hlg0
    rw [ea]
    have e1 : Ex T0 κ H Ha := Ex.of_same sa
    have tga := e1.tg tg
    have klg0 : κ lg0 = 0 := tg.free hlg0
    have hrda := sa _ _ hrd
    refine ⟨_, rfl, rd, rfl, ⟨_, SqL.of hrda⟩, fun D hD => ?_⟩
    have kD : κ D = 0 := tga.free hD
    refine lc_list (K := K) (a := rd) (xs := rs.map V.ref) (fun i H' => ∃ qs : List Addr, Ex T0 κ Ha H' ∧ H' D = some (.lst (qs.map V.ref)) ∧ AllAt (PkAt κ Ha) qs (dueRows now (rows.take i))) ⟨[], Ex.new hD, upd_same, AllAt.nil⟩ (fun i H' _ h => by obtain ⟨_, h, _⟩ := h; exact SqL.of (h.kp _ _ hrda (fun z => z))) ?_ ?_
    · rintro i y H' hy ⟨qs, e, hd, hq⟩
      rw [List.getElem?_map] at hy
      cases ey : rs[i]? with
      | none =>
        rw [ey] at hy
        cases hy
      | some q =>
        rw [ey] at hy
        have hy := Option.some.inj hy
        subst hy
        have hi : i < rows.length := by
          have := (List.getElem?_eq_some_iff.mp ey).1
          rw [hrows.1] at this
          exact this
        obtain ⟨q', hq1, hq2⟩ := hrows.2 i _ (List.getElem?_eq_getElem hi)
        rw [ey] at hq1
        have hq1 := Option.some.inj hq1
        subst hq1
        obtain ⟨kq, qp, hv1, hv2⟩ := hq2.ex (fun z => z) e1
        have hv1' := e.kp _ _ hv1 (fun z => z)
        refine ⟨rfl, _, rfl, q, _, _, _, rfl, rfl, SqT.of hv1', rfl, _, rfl, _, _, rfl, rfl, _, rfl, ?_⟩
        rw [List.take_add_one, List.getElem?_eq_getElem hi]
        show if decide (rows[i].1 ≤ now) = true then _ else ∃ qs : List Addr, Ex T0 κ Ha H' ∧ H' D = some (.lst (qs.map V.ref)) ∧ AllAt (PkAt κ Ha) qs (dueRows now (rows.take i ++ [rows[i]]))
        by_cases h : rows[i].1 ≤ now
        · rw [decide_eq_true h]
          refine iteT ⟨_, rfl, q, _, _, _, rfl, rfl, SqT.of hv1', rfl, _, hd, ?_, qs ++ [qp], e.over hD, ?_, ?_⟩
          · rw [List.length_map, hq.1]
            refine Nat.lt_of_le_of_lt (?_ : _ ≤ 100000) (by decide)
            unfold dueRows
            rw [List.length_map]
            refine Nat.le_trans (List.length_filter_le _ _) ?_
            rw [List.length_take]
            omega
          · rw [upd_same, List.map_append]
            rfl
          · show AllAt (PkAt κ Ha) _ (dueRows now (rows.take i ++ [rows[i]]))
            rw [dueRows_snoc, if_pos h]
            exact hq.snoc hv2
        · rw [decide_eq_false h]
          refine iteF ⟨qs, e, hd, ?_⟩
          rw [dueRows_snoc, if_neg h, List.append_nil]
          exact hq
    · rintro Hb ⟨qs0, eb, hdb, hq0⟩
      rw [List.length_map, hrows.1, List.take_length] at hq0
      have hq0 := hq0.imp fun q x h => PkAt.ex h (fun z => z) eb
      have e2 : Ex T0 κ H Hb := e1.trans eb
      have tgb := e2.tg tg
      have hpb := hp.ex0 e2
      have dl : (dueRows now rows).length ≤ 100000 := by
        unfold dueRows
        rw [List.length_map]
        exact Nat.le_trans (List.length_filter_le _ _) hlen
      have elen : (((qs0.map V.ref).length : Nat) : Int) = (((dueRows now rows).length : Nat) : Int) := by rw [List.length_map, hq0.1]
      refine ⟨_, rfl, D, _, rfl, .inl (SqL.of hdb), _, rfl, ?_, ?_, ?_⟩
      · rw [elen]; omega
      · rw [elen]; omega
      rw [elen]
      refine for_range (fun i σ H' => ∃ (v7 v8 : Option V) (L rest : List Pk) (st' : PS) (gs : List (List Int)) (lg ld : Addr) (oa qs : List Addr), σ = [some (.ref ad), some (.int k), some (.ref p), some (.ref rd), some (.int now), some (.ref lg), some (.ref ld), v7, v8, none] ∧
        Ex (Tp c) κ H H' ∧ PeerAt C κ H' c p a st' ∧ κ lg = 0 ∧ H' lg = some (.lst (oa.map V.ref)) ∧ DatsAt κ H' oa gs ∧ κ ld = 0 ∧ H' ld = some (.lst (qs.map V.ref)) ∧ AllAt (PkAt κ H') qs rest ∧ (L ++ rest).Perm (dueRows now rows) ∧ RecAll st L st' gs ∧ rest.length + i = (dueRows now rows).length) ?_ ?_ ?_
      · exact ⟨none, none, [], dueRows now rows, st, [], lg0, D, [], qs0, rfl, e2.up, hpb, klg0, eb.kp _ _ ha (fun z => z), DatsAt.nil, kD, hdb, hq0, List.Perm.refl _, .zero, rfl⟩
      · rintro i σ H' hi ⟨v7, v8, L, rest, st', gs, lg, ld, oa, qs, rfl, e, hp', klg, hlg, hdat, kld, hld, hqs, hperm, hrec, hcnt⟩
        have hi : i < ((((dueRows now rows).length : Nat) : Int)).toNat := hi
        have tg' := e.tg tg
        have had' := e.kp _ _ had (by rw [kad]; exact t0)
        have el2 : (((qs.map V.ref).length : Nat) : Int) = ((rest.length : Nat) : Int) := by rw [List.length_map, hqs.1]
        refine ⟨_, rfl, _, rfl, _, rfl, _, _, rfl, rfl, _, rfl, ld, _, rfl, .inl (SqL.of hld), ad, ds, _, _, rfl, had', ?_, fun at_ a0 a1 => ?_⟩
        · rw [elen.symm.trans elen] at *
          rw [el2]
          omega
        rw [el2] at a1
        obtain ⟨n, rfl⟩ := Int.eq_ofNat_of_zero_le a0
        have hn : n < rest.length := by omega
        obtain ⟨q, hq1, hq2⟩ := hqs.2 n _ (List.getElem?_eq_getElem hn)
        have hat : atI (qs.map V.ref) ((n : Nat) : Int) = some (.ref q) := atI_nat (by rw [List.getElem?_map, hq1]; rfl)
        have hin : rest[n] ∈ dueRows now rows := hperm.mem_iff.mp (List.mem_append.mpr (.inr (List.getElem_mem hn)))
        have hLin : ∀ pk ∈ L, pk ∈ dueRows now rows := fun pk h => hperm.mem_iff.mp (List.mem_append.mpr (.inl h))
        obtain ⟨bd', gl⟩ := hB L st' gs hLin hrec
        refine ⟨_, rfl, _, rfl, p, _, _, rfl, hp'.ins, f_no (by decide +kernel), _, rfl, _, rfl, ld, _, _, _, rfl, rfl, SqL.of hld, hat, κ, c, p, a, st', q, rest[n], rfl, hp', tg', c0, bd', hq2, (hM _ hin).1, (hM _ hin).2, fun H2 st2 g2 l2 oa2 hR er hp2 l20 hl2 hd2 => ?_⟩
        have hrec2 : RecAll st (L ++ [rest[n]]) st2 (gs ++ g2) := .more hrec hR
        have gl2 := (hB (L ++ [rest[n]]) st2 (gs ++ g2) (fun pk h => by
          rcases List.mem_append.mp h with h | h
          · exact hLin pk h
          · rw [List.mem_singleton.mp h]; exact hin) hrec2).2
        have hlg2 := er.kp _ _ hlg (by rw [klg]; exact t0)
        have hld2 := er.kp _ _ hld (by rw [kld]; exact t0)
        have hdat2 := hdat.ex t0 er
        have hqs2 := hqs.imp fun q x h => PkAt.ex h t0 er
        have e02 := e.trans er
        have tg2 := e02.tg tg
        refine ⟨lg, l2, _, _, rfl, rfl, hlg2, hl2, ?_, fun lg3 hlg3 => ?_⟩
        · rw [List.length_map, List.length_map, hdat2.1, hd2.1]
          rw [List.length_append] at gl2
          exact Nat.le_trans (show _ ≤ 9 by omega) (by decide)
        obtain ⟨H3, e3, h3, s3⟩ := new2 H2 lg3 (.lst (oa.map V.ref ++ oa2.map V.ref)) hlg3
        rw [e3]
        refine ⟨_, rfl, _, rfl, _, rfl, ld, _, rfl, SqL.of (s3 _ _ hld2), fun p1 hp1 => ?_⟩
        obtain ⟨H4, e4, h4, s4⟩ := new2 H3 p1 (.lst (cutV (qs.map V.ref) none (some ((n : Nat) : Int)))) hp1
        rw [e4]
        refine ⟨_, rfl, _, rfl, _, _, rfl, rfl, _, rfl, ld, _, rfl, SqL.of (s4 _ _ (s3 _ _ hld2)), fun p2 hp2' => ?_⟩
        obtain ⟨H5, e5, h5, s5⟩ := new2 H4 p2 (.lst (cutV (qs.map V.ref) (some (((n : Nat) : Int) + 1)) none)) hp2'
        rw [e5]
        have hnq : n < qs.length := by rw [hqs.1]; exact hn
        have ecut := cut_erase qs n hnq
        refine ⟨p1, p2, _, _, rfl, rfl, s5 _ _ h4, h5, ?_, fun p3 hp3 => ?_⟩
        · rw [← List.length_append, ecut, List.length_map, List.length_eraseIdx, hqs.1]
          refine Nat.le_trans (?_ : _ ≤ 100000) (by decide)
          split <;> omega
        obtain ⟨H6, e6, h6, s6⟩ := new2 H5 p3 (.lst (cutV (qs.map V.ref) none (some ((n : Nat) : Int)) ++ cutV (qs.map V.ref) (some (((n : Nat) : Int) + 1)) none)) hp3
        rw [e6]
        have s36 : Same H3 H6 := (s4.trans s5).trans s6
        have s26 : Same H2 H6 := s3.trans s36
        have e26 : Ex T0 κ H2 H6 := Ex.of_same s26
        have s25 : Same H2 H5 := s3.trans (s4.trans s5)
        refine ⟨_, _, L ++ [rest[n]], rest.eraseIdx n, st2, gs ++ g2, lg3, p3, oa ++ oa2, qs.eraseIdx n, rfl, e02.trans e26.up, hp2.ex0 e26, tg2.free hlg3, ?_, ?_, tg2.free (s25.free hp3), ?_, ?_, ?_, hrec2, ?_⟩
        · rw [List.map_append]
          exact s36 _ _ h3
        · exact (hdat2.app hd2).ex (fun z => z) e26
        · rw [h6, ecut]
        · exact (hqs2.imp fun q x h => PkAt.ex h (fun z => z) e26).erase n
        · refine List.Perm.trans ?_ hperm
          rw [List.append_assoc]
          exact (erase_perm rest n hn).append_left L
        · rw [List.length_eraseIdx, if_pos hn]
          omega
      · rintro σ H' ⟨v7, v8, L, rest, st', gs, lg, ld, oa, qs, rfl, e, hp', klg, hlg, hdat, kld, hld, hqs, hperm, hrec, hcnt⟩
        have hcnt : rest.length + ((((dueRows now rows).length : Nat) : Int)).toNat = (dueRows now rows).length := hcnt
        have hr0 : rest = [] := List.length_eq_zero_iff.mp (by omega)
        rw [hr0, List.append_nil] at hperm
        have hrd' := e.kp _ _ hrd trd
        have hrows' := hrows.imp fun q x h => RowAt.ex h t0 e
        have tg' := e.tg tg
        refine ⟨_, rfl, _, rfl, rd, rfl, ⟨_, SqL.of hrd'⟩, fun D2 hD2 => ?_⟩
        refine lc_list (K := K) (a := rd) (xs := rs.map V.ref) (fun i H2 => ∃ qs : List Addr, Ex T0 κ H' H2 ∧ H2 D2 = some (.lst (qs.map V.ref)) ∧ AllAt (RowAt κ H') qs ((rows.take i).filter fun r => decide (now < r.1))) ⟨[], Ex.new hD2, upd_same, AllAt.nil⟩ (fun i H2 _ h => by obtain ⟨_, h, _⟩ := h; exact SqL.of (h.kp _ _ hrd' (fun z => z))) ?_ ?_
        · rintro i y H2 hy ⟨qs2, e2, hd, hq⟩
          rw [List.getElem?_map] at hy
          cases ey : rs[i]? with
          | none =>
            rw [ey] at hy
            cases hy
          | some q =>
            rw [ey] at hy
            have hy := Option.some.inj hy
            subst hy
            have hi : i < rows.length := by
              have := (List.getElem?_eq_some_iff.mp ey).1
              rw [hrows.1] at this
              exact this
            obtain ⟨q', hq1, hq2⟩ := hrows'.2 i _ (List.getElem?_eq_getElem hi)
            rw [ey] at hq1
            have hq1 := Option.some.inj hq1
            subst hq1
            obtain ⟨kq, qp, hv1, hv2⟩ := id hq2
            have hv1' := e2.kp _ _ hv1 (fun z => z)
            refine ⟨rfl, _, rfl, q, _, _, _, rfl, rfl, SqT.of hv1', rfl, _, rfl, _, _, rfl, rfl, _, rfl, ?_⟩
            have tk : rows.take (i + 1) = rows.take i ++ [rows[i]] := by
              rw [List.take_add_one, List.getElem?_eq_getElem hi]
              rfl
            rw [tk, List.filter_append]
            show if decide (now < rows[i].1) = true then _ else ∃ qs : List Addr, Ex T0 κ H' H2 ∧ H2 D2 = some (.lst (qs.map V.ref)) ∧ AllAt (RowAt κ H') qs ((rows.take i).filter (fun r => decide (now < r.1)) ++ [rows[i]].filter (fun r => decide (now < r.1)))
            by_cases h : now < rows[i].1
            · rw [decide_eq_true h]
              refine iteT ⟨_, rfl, _, hd, ?_, qs2 ++ [q], e2.over hD2, ?_, ?_⟩
              · rw [List.length_map, hq.1]
                refine Nat.lt_of_le_of_lt (?_ : _ ≤ 100000) (by decide)
                refine Nat.le_trans (List.length_filter_le _ _) ?_
                rw [List.length_take]
                omega
              · rw [upd_same, List.map_append]
                rfl
              · rw [List.filter_cons, decide_eq_true h, if_pos rfl, List.filter_nil]
                exact hq.snoc hq2
            · rw [decide_eq_false h]
              refine iteF ⟨qs2, e2, hd, ?_⟩
              rw [List.filter_cons, decide_eq_false h, if_neg (by decide), List.filter_nil, List.append_nil]
              exact hq
        · rintro H2 ⟨qs2, e2, hd, hq⟩
          rw [List.length_map, hrows.1, List.take_length] at hq
          refine ⟨by show 2 ≤ sizeLine; decide, fun tq htq => ?_⟩
          have ntq : D2 ≠ tq := ne_of_none hd htq
          exact kk H' _ st' L gs lg oa D2 qs2 tq hperm hrec e hp' klg hlg hdat (e2.trans (Ex.new htq)) hD2 ((upd_ne ntq).trans hd) hq upd_same ((e2.tg tg').free htq)
end
end FH
namespace FH
open PySem L2
/-! ### data as Python sees it -/
def dI (d : List Int) : PyData := .list (d.map PyData.int)
def dL (ls : List (List Int)) : PyData := .list (ls.map dI)
theorem ints_ok : ∀ d : List Int, PyData.canLayAll0 (d.map PyData.int) = true ∧ PyData.depthAll (d.map PyData.int) = 0
  | [] => ⟨rfl, rfl⟩
  | a :: r => by
    obtain ⟨h1, h2⟩ := ints_ok r
    constructor
    · show (PyData.canLay0 (.int a) && PyData.canLayAll0 (r.map PyData.int)) = true
      rw [h1]
      rfl
    · show max (PyData.depth (.int a)) (PyData.depthAll (r.map PyData.int)) = 0
      rw [h2]
      rfl
theorem lists_ok : ∀ ls : List (List Int), PyData.canLayAll0 (ls.map dI) = true ∧ PyData.depthAll (ls.map dI) ≤ 1
  | [] => ⟨rfl, Nat.zero_le _⟩
  | a :: r => by
    obtain ⟨h1, h2⟩ := lists_ok r
    obtain ⟨h3, h4⟩ := ints_ok a
    constructor
    · show (PyData.canLayAll0 (a.map PyData.int) && PyData.canLayAll0 (r.map dI)) = true
      rw [h1, h3]
      rfl
    · show max (PyData.depthAll (a.map PyData.int) + 1) (PyData.depthAll (r.map dI)) ≤ 1
      rw [h4]
      omega
theorem shaped_dL (ls : List (List Int)) : SeqAt.shaped (dL ls) = true := by
  obtain ⟨h1, h2⟩ := lists_ok ls
  show (PyData.canLayAll0 (ls.map dI) && decide (PyData.depthAll (ls.map dI) + 1 ≤ 64)) = true
  rw [h1, decide_eq_true (by omega)]
  rfl
theorem eqvAll_ints : ∀ d : List Int, PyData.eqvAll (d.map PyData.int) (d.map PyData.int) = true
  | [] => by simp [PyData.eqvAll]
  | a :: r => by
    have := eqvAll_ints r
    simp [PyData.eqvAll, PyData.eqv, this]
theorem eqvAll_lists : ∀ ls : List (List Int), PyData.eqvAll (ls.map dI) (ls.map dI) = true
  | [] => by simp [PyData.eqvAll]
  | a :: r => by
    have h1 := eqvAll_lists r
    have h2 := eqvAll_ints a
    simp [PyData.eqvAll, PyData.eqv, h1, h2, dI]
theorem eqv_dL (ls : List (List Int)) : PyData.eqv (dL ls) (dL ls) = true := by
  have := eqvAll_lists ls
  simp [PyData.eqv, dL, this]
section
variable {K : PySem.W.Frag} {κ : Tags} {H : Hp}
theorem DpAll_ints : ∀ d : List Int, DpAll K H (d.map V.int) (d.map PyData.int)
  | [] => .nil
  | a :: r => .cons (.int a) (DpAll_ints r)
theorem Dp_dat {x : Addr} {d : List Int} (h : H x = some (.lst (d.map V.int))) : Dp K H (.ref x) (dI d) := .lst (SqL.of h) (DpAll_ints d)
theorem DpAll_dats : ∀ {oa : List Addr} {off : List (List Int)}, DatsAt κ H oa off → DpAll K H (oa.map V.ref) (off.map dI)
  | [], [], _ => .nil
  | [], _ :: _, h => absurd h.1 (by simp)
  | _ :: _, [], h => absurd h.1 (by simp)
  | x :: oa, d :: off, h => by
    obtain ⟨y, h1, h2⟩ := h.2 0 d rfl
    have e : x = y := Option.some.inj h1
    subst e
    refine .cons (Dp_dat h2.2) (DpAll_dats ⟨by simpa using h.1, fun i d' e => ?_⟩)
    obtain ⟨z, h3, h4⟩ := h.2 (i + 1) d' e
    exact ⟨z, h3, h4⟩
theorem Dp_dats {l : Addr} {oa : List Addr} {off : List (List Int)} (hl : H l = some (.lst (oa.map V.ref))) (h : DatsAt κ H oa off) : Dp K H (.ref l) (dL off) := .lst (SqL.of hl) (DpAll_dats h)
theorem Dp_nil {l : Addr} (hl : H l = some (.lst [])) : Dp K H (.ref l) (dL []) := .lst (SqL.of hl) .nil
end
theorem DatsAt.take {κ : Tags} {H : Hp} {oa off} (h : DatsAt κ H oa off) (n : Nat) : DatsAt κ H (oa.take n) (off.take n) := by
  refine ⟨by rw [List.length_take, List.length_take, h.1], fun i d e => ?_⟩
  have hi : i < n := by
    have := (List.getElem?_eq_some_iff.mp e).1
    rw [List.length_take] at this
    omega
  rw [List.getElem?_take_of_lt hi] at e ⊢
  exact h.2 i d e
/-! ### the law's things -/
structure LE where
  as : Addr
  ad : Addr
  wl : Addr
  pl : Addr
  ml : Addr
  ol : Addr
  gl : Addr
  rl : Addr
  p : Nat → Addr
  a : Nat → PA
  o : Nat → Addr
  ds : List Int
  Ws : Nat → Int
  Ts : Nat → Int
  many : Nat → Nat
  rough : Nat
structure Good (L : LE) : Prop where
  ws : ∀ j, j < 2 → 1 ≤ L.Ws j ∧ L.Ws j ≤ 8
  ts : ∀ j, j < 2 → 1 ≤ L.Ts j ∧ L.Ts j ≤ 5
  many : ∀ j, j < 2 → L.many j ≤ 9
  rough : L.rough ≤ 25
def sg (L : LE) (v2 v10 v11 v12 v13 : Option V) : L2.St := [some (.ref L.as), some (.ref L.ad), v2, some (.ref L.wl), some (.ref L.pl), some (.ref L.ml), some (.ref L.ol), some (.ref L.gl), some (.ref L.rl), some (.int ((L.rough : Nat) : Int)), v10, v11, v12, v13, none]
def cT (j : Nat) : Nat := 10 * (j + 1)
structure WFix (L : LE) (κ : Tags) (H : Hp) : Prop where
  kd : κ L.ad = 0
  ad : H L.ad = some (.lst (L.ds.map V.int))
  kw : κ L.wl = 0
  wl : H L.wl = some (.lst [.int (L.Ws 0), .int (L.Ws 1)])
  kp : κ L.pl = 0
  pl : H L.pl = some (.lst [.ref (L.p 0), .ref (L.p 1)])
  km : κ L.ml = 0
  ml : H L.ml = some (.lst [.int ((L.many 0 : Nat) : Int), .int ((L.many 1 : Nat) : Int)])
  ko : κ L.ol = 0
  ol : H L.ol = some (.lst [.ref (L.o 0), .ref (L.o 1)])
theorem WFix.ex {T : Nat → Prop} {L : LE} {κ : Tags} {H H' : Hp} (h : WFix L κ H) (t0 : ¬ T 0) (e : Ex T κ H H') : WFix L κ H' :=
  ⟨h.kd, e.kp _ _ h.ad (by rw [h.kd]; exact t0), h.kw, e.kp _ _ h.wl (by rw [h.kw]; exact t0), h.kp, e.kp _ _ h.pl (by rw [h.kp]; exact t0), h.km, e.kp _ _ h.ml (by rw [h.km]; exact t0), h.ko, e.kp _ _ h.ol (by rw [h.ko]; exact t0)⟩
theorem WFix.retag {L : LE} {κ κ2 : Tags} {H : Hp} (h : WFix L κ H) (e : ∀ b, H b ≠ none → κ2 b = κ b) : WFix L κ2 H :=
  ⟨(e _ (by rw [h.ad]; simp)).trans h.kd, h.ad, (e _ (by rw [h.wl]; simp)).trans h.kw, h.wl, (e _ (by rw [h.pl]; simp)).trans h.kp, h.pl, (e _ (by rw [h.ml]; simp)).trans h.km, h.ml, (e _ (by rw [h.ol]; simp)).trans h.ko, h.ol⟩
/-- a list of data that has the tag t -/
def WDat (κ : Tags) (H : Hp) (t : Nat) (l : Addr) (off : List (List Int)) : Prop := κ l = t ∧ ∃ oa : List Addr, H l = some (.lst (oa.map V.ref)) ∧ DatsAt κ H oa off
theorem WDat.ex {T : Nat → Prop} {κ : Tags} {H H' : Hp} {t : Nat} {l : Addr} {off} (h : WDat κ H t l off) (t0 : ¬ T 0) (tt : ¬ T t) (e : Ex T κ H H') : WDat κ H' t l off := by
  obtain ⟨h1, oa, h2, h3⟩ := h
  exact ⟨h1, oa, e.kp _ _ h2 (by rw [h1]; exact tt), h3.ex t0 e⟩
theorem WDat.retag {κ κ2 : Tags} {H : Hp} {t : Nat} {l : Addr} {off} (h : WDat κ H t l off) (e : ∀ b, H b ≠ none → κ2 b = κ b) : WDat κ2 H t l off := by
  obtain ⟨h1, oa, h2, h3⟩ := h
  exact ⟨(e _ (by rw [h2]; simp)).trans h1, oa, h2, h3.retag fun b x _ => e b x⟩
def WRow (κ : Tags) (H : Hp) (t : Nat) (l : Addr) (rows : List Row) : Prop := κ l = t ∧ ∃ rs : List Addr, H l = some (.lst (rs.map V.ref)) ∧ AllAt (RowAt κ H) rs rows
theorem WRow.ex {T : Nat → Prop} {κ : Tags} {H H' : Hp} {t : Nat} {l : Addr} {rows} (h : WRow κ H t l rows) (t0 : ¬ T 0) (tt : ¬ T t) (e : Ex T κ H H') : WRow κ H' t l rows := by
  obtain ⟨h1, oa, h2, h3⟩ := h
  exact ⟨h1, oa, e.kp _ _ h2 (by rw [h1]; exact tt), h3.imp fun q x y => y.ex t0 e⟩
theorem WRow.retag {κ κ2 : Tags} {H : Hp} {t : Nat} {l : Addr} {rows} (h : WRow κ H t l rows) (e : ∀ b, H b ≠ none → κ2 b = κ b) : WRow κ2 H t l rows := by
  obtain ⟨h1, oa, h2, h3⟩ := h
  exact ⟨(e _ (by rw [h2]; simp)).trans h1, oa, h2, h3.imp fun q x y => y.retag fun b z _ => e b z⟩
/-- a list of two -/
def WTwo (κ : Tags) (H : Hp) (t : Nat) (l : Addr) (f : Nat → Addr) : Prop := κ l = t ∧ H l = some (.lst [.ref (f 0), .ref (f 1)])
structure WAt (C : Addr) (L : LE) (κ : Tags) (H : Hp) (V : Wd) : Prop where
  fix : WFix L κ H
  pe : ∀ j, j < 2 → PeerAt C κ H (cT j) (L.p j) (L.a j) (V.p j)
  of : ∀ j, j < 2 → WDat κ H (40 + j) (L.o j) (V.p j).off
  gv : ∃ g, WTwo κ H 50 L.gl g ∧ ∀ j, j < 2 → WDat κ H 0 (g j) (V.g j)
  rd : ∃ r, WTwo κ H 51 L.rl r ∧ ∀ j, j < 2 → WRow κ H (30 + j) (r j) (V.r j)
  tg : Tg κ H
theorem WTwo.ex {T : Nat → Prop} {κ : Tags} {H H' : Hp} {t : Nat} {l : Addr} {f} (h : WTwo κ H t l f) (tt : ¬ T t) (e : Ex T κ H H') : WTwo κ H' t l f := ⟨h.1, e.kp _ _ h.2 (by rw [h.1]; exact tt)⟩
theorem WTwo.retag {κ κ2 : Tags} {H : Hp} {t : Nat} {l : Addr} {f} (h : WTwo κ H t l f) (e : ∀ b, H b ≠ none → κ2 b = κ b) : WTwo κ2 H t l f := ⟨(e _ (by rw [h.2]; simp)).trans h.1, h.2⟩
theorem WAt.ex0 {C : Addr} {L : LE} {κ : Tags} {H H' : Hp} {V : Wd} (h : WAt C L κ H V) (e : Ex T0 κ H H') : WAt C L κ H' V := by
  have z : ∀ n, ¬ T0 n := fun _ x => x
  obtain ⟨g, g1, g2⟩ := h.gv
  obtain ⟨r, r1, r2⟩ := h.rd
  exact ⟨h.fix.ex (z _) e, fun j hj => (h.pe j hj).ex0 e, fun j hj => (h.of j hj).ex (z _) (z _) e, ⟨g, g1.ex (z _) e, fun j hj => (g2 j hj).ex (z _) (z _) e⟩, ⟨r, r1.ex (z _) e, fun j hj => (r2 j hj).ex (z _) (z _) e⟩, e.tg h.tg⟩
/-- a new tag at an address that is not tracked (laws' lists) -/
theorem WAt.retag {C : Addr} {L : LE} {κ κ2 : Tags} {H : Hp} {V : Wd} (h : WAt C L κ H V) (e : ∀ b, H b ≠ none → κ2 b = κ b) (tg : Tg κ2 H) : WAt C L κ2 H V := by
  obtain ⟨g, g1, g2⟩ := h.gv
  obtain ⟨r, r1, r2⟩ := h.rd
  exact ⟨h.fix.retag e, fun j hj => (h.pe j hj).retag fun b x _ => e b x, fun j hj => (h.of j hj).retag e, ⟨g, g1.retag e, fun j hj => (g2 j hj).retag e⟩, ⟨r, r1.retag e, fun j hj => (r2 j hj).retag e⟩, tg⟩
/-- items of a list of two -/
theorem at2 {f : Nat → V} {j : Nat} (hj : j < 2) {x : Int} (e : x = ((j : Nat) : Int)) : atI [f 0, f 1] x = some (f j) := by
  have : j = 0 ∨ j = 1 := by omega
  rcases this with rfl | rfl
  · exact at_of e rfl
  · exact at_of e rfl
theorem ix2 {j : Nat} (hj : j < 2) {x : Int} (e : x = ((j : Nat) : Int)) : ixN 2 x = some j := by
  unfold ixN
  rw [if_pos (by omega), if_pos (by omega)]
  congr 1
  omega
theorem set2 {f : Nat → Addr} {j : Nat} (hj : j < 2) (x : Addr) : [V.ref (f 0), V.ref (f 1)].set j (.ref x) = [V.ref (at1 f j x 0), V.ref (at1 f j x 1)] := by
  have : j = 0 ∨ j = 1 := by omega
  rcases this with rfl | rfl <;> rfl
def forBody : Stmt → List Stmt
  | .For _ _ b _ _ => b
  | _ => []
abbrev lawFor : Stmt := (defBody sLaw).getD 8 (.Pass ⟨0, 0, 0, 0⟩)
abbrev lawIn1 : Stmt := (forBody lawFor).getD 1 (.Pass ⟨0, 0, 0, 0⟩)
abbrev lawIn2 : Stmt := (forBody lawFor).getD 2 (.Pass ⟨0, 0, 0, 0⟩)
abbrev lawFin : Stmt := (defBody sLaw).getD 9 (.Pass ⟨0, 0, 0, 0⟩)
abbrev lawOff : Stmt := (forBody lawIn1).getD 0 (.Pass ⟨0, 0, 0, 0⟩)
abbrev lawSnd : Stmt := (forBody lawIn1).getD 1 (.Pass ⟨0, 0, 0, 0⟩)
abbrev lawArr : List Stmt := forBody lawIn2
abbrev NscLaw : List Str := ["_law_script", "_law_draws_here", "_law_j", "_law_windows", "_law_peers", "_law_many", "_law_offered", "_law_given", "_law_roads", "_law_rough", "_law_now", "_law_k", "_law_data", "_law_more", "_law_i"]
theorem scLaw : FnScope NscLaw ["_law_script"] (defScope sLaw) := ⟨rfl, rfl, rfl, by decide +kernel, rfl, by decide +kernel, by decide +kernel⟩
abbrev XL (P : Program) (w : World) (K : PySem.W.Frag) (mg : Str → Option Value) (base : Heap) (f : Addr) (cdv : Value) (A : Around) (outer : List Env) (s : Shared) (H : Hp) (E : XK) : Cx := (cxOf CX0 P w K mg base NscLaw "law" (defScope sLaw) f cdv A outer s H E).nox
/-- a def of the law's, a method -/
def HasFn (P : Program) (w : World) (K : PySem.W.Frag) (mg : Str → Option Value) (base : Heap) (x : Str) (k : Nat) (ps : List Str) (sp : Sp) : Prop := ∃ f fd, mg x = some (.ref f) ∧ PySem.W.keepIn K (.ref f) = true ∧ FnOk P w K mg base CX0 k f fd ps sp ∧ Binds K fd ps []
def HasMt (P : Program) (w : World) (K : PySem.W.Frag) (mg : Str → Option Value) (base : Heap) (C : Addr) (x : Str) (k : Nat) (ps : List Str) (sp : Sp) : Prop := ∃ f fd, Meth K C x f ∧ FnOk P w K mg base CX0 k f fd ps sp ∧ Binds K fd ps []
structure Facts (P : Program) (w : World) (K : PySem.W.Frag) (mg : Str → Option Value) (base : Heap) (C : Addr) : Prop where
  draws : HasFn P w K mg base "_law_draws" 1 ["_law_script"] (spDraws K)
  mix : HasFn P w K mg base "_law_mix" 1 ["_law_draws_here", "_law_k", "_law_many"] spMix
  sent : HasFn P w K mg base "_law_sent" 3 ["_law_draws_here", "_law_k", "_law_peer", "_law_road", "_law_now", "_law_window", "_law_is_fair"] (spSent C)
  arrived : HasFn P w K mg base "_law_arrived" 3 ["_law_draws_here", "_law_k", "_law_peer", "_law_road", "_law_now"] (spArrived C)
  init : ∃ f fd, Mk K C f ∧ FnOk P w K mg base CX0 1 f fd ["self", "window", "wait"] (spInit C) ∧ Binds K fd ["self", "window", "wait"] []
  offer : HasMt P w K mg base C "offer" 1 ["self", "data"] (spOffer C)
  base_ : HasMt P w K mg base C "base_number" 1 ["self"] (spBase C)
  next_ : HasMt P w K mg base C "next_number" 1 ["self"] (spNext C)
  open_ : HasMt P w K mg base C "open_numbers" 1 ["self"] (spOpen C)
  packets : HasMt P w K mg base C "packets" 2 ["self", "now"] (spPackets C)
end FH
namespace FH
open PySem L2
/-- maybe an offer -/
def tOff (C : Addr) : TS := fun D σ H0 => ∃ (L : LE) (κ : Tags) (U : Wd) (j now : Nat) (kk : Int) (v12 v13 : Option V), Good L ∧ j < 2 ∧ σ = sg L (some (.int (0 + ((j : Nat) : Int)))) (some (.int (0 + ((now : Nat) : Int)))) (some (.int kk)) v12 v13 ∧ WAt C L κ H0 U ∧ (∀ j, j < 2 → (U.p j).off.length ≤ 9) ∧
  ∀ H1 V1 v12', OffR L.rough L.many now j U V1 → WAt C L κ H1 V1 → D.nx (sg L (some (.int (0 + ((j : Nat) : Int)))) (some (.int (0 + ((now : Nat) : Int)))) (some (.int kk)) v12' v13) H1
section
variable {P : Program} {w : World} {K : PySem.W.Frag} {mg : Str → Option Value} {base : Heap} {f : Addr} {cdv : Value} {A : Around} {outer : List Env} {s : Shared} {H : Hp} {E : XK} {C : Addr}
theorem off_ok (T : Txt K mg C) (Fc : Facts P w K mg base C) (hr : Room 3 (XL P w K mg base f cdv A outer s H E).A) : L2.PS (XL P w K mg base f cdv A outer s H E) lawOff (tOff C) := by
  obtain ⟨fM, fdM, mg_law_mix, k_law_mix, G_law_mix, b_law_mix⟩ := Fc.mix
  obtain ⟨fO, fdO, moffer, Goffer, boffer⟩ := Fc.offer
  have hr_law_mix : Room 1 _ := hr.mono (by decide)
  have hroffer : Room 1 _ := hr.mono (by decide)
  let tB2 : TS := fun D σ H0 => ∃ (L : LE) (κ : Tags) (U : Wd) (j now : Nat) (kk : Int) (v12 v13 : Option V), Good L ∧ j < 2 ∧ σ = sg L (some (.int (0 + ((j : Nat) : Int)))) (some (.int (0 + ((now : Nat) : Int)))) (some (.int kk)) v12 v13 ∧ WAt C L κ H0 U ∧ (U.p j).off.length < L.many j ∧
    ∀ H1 d v12', WAt C L κ H1 { U with p := at1 U.p j { U.p j with off := (U.p j).off ++ [d] } } → D.nx (sg L (some (.int (0 + ((j : Nat) : Int)))) (some (.int (0 + ((now : Nat) : Int)))) (some (.int kk)) v12' v13) H1
  refine PS_imp (ps_if (PW.pt (pw_and (pt_cmpR op_lt (pe_callB call_len_seq (by rfl) T.len PySem.boot_len (pa_cons (pe_ix ix_list (pv 6) (pv 2) (fun _ _ => rfl)) pa_nil)) (pe_ix ix_list (pv 5) (pv 2) (fun _ _ => rfl)) (nomark _)) (pw_and1 (PW.pt (pw_or (pt_cmpR op_eq (pe_call G_law_mix hr_law_mix (by rfl) mg_law_mix k_law_mix b_law_mix .nil pass0 (pa_cons (pv 1) (pa_cons (pe_op op_add (pv 11) (pv 2)) (pa_cons pe_int pa_nil)))) pe_int (nomark _)) (pw_or1 (pt_cmpR op_ge (pv 10) (pv 9) (nomark _)))))))) (PSs_imp (t' := tB2) (pss_cons (ps_setLc (i := 12) (own := [("_law_i", 14)]) (g := gName 14) (tt := tYes) rfl scLaw.nd rfl rfl (sw_true rfl rfl rfl (by decide +kernel)) (pi_range1 (by rfl) T.range (pa_cons (pe_call G_law_mix hr_law_mix (by rfl) mg_law_mix k_law_mix b_law_mix .nil pass0 (pa_cons (pv 1) (pa_cons (pe_op op_add (pe_op op_add (pv 11) pe_int) (pv 2)) (pa_cons pe_int pa_nil)))) pa_nil)) (blkOk_by (own := [("_law_i", 14)]) (N := NscLaw) (sc := defScope sLaw) (by decide +kernel)) (fun _ _ _ _ _ => pg_name (i := 14) scLaw.nd rfl (Or.inl rfl)) (fun _ _ _ _ _ => pts_nil) (fun _ _ _ _ _ => (pe_call G_law_mix hr_law_mix (by rfl) mg_law_mix k_law_mix b_law_mix .nil pass0 (pa_cons (pv 1) (pa_cons (pe_op op_add (pe_op op_add (pv 11) pe_int) (pv 14)) (pa_cons pe_int pa_nil))))))
      (pss_cons (ps_if (pt_cmpR op_ne (pe_meth (pe_ix ix_list (pv 4) (pv 2) (fun _ _ => rfl)) T.cl moffer Goffer hroffer boffer .nil pass0 (pa_cons (pv 12) pa_nil)) (pe_callB call_len_seq (by rfl) T.len PySem.boot_len (pa_cons (pe_ix ix_list (pv 6) (pv 2) (fun _ _ => rfl)) pa_nil)) (nomark _)) (pss_one (ps_ret pe_bl)) pss_nil)
      (pss_one (ps_expr (pe_bm PySem.F.plainAttrs_list PySem.F.slot_list_append PySem.F.type_list_append mt_append (pe_ix ix_list (pv 6) (pv 2) (fun _ _ => rfl)) (pa_cons (pv 12) pa_nil)))))) ?impB) pss_nil) ?_
  case impB =>
    rintro D σ H0 ⟨L, κ, U, j, now, kk, v12, v13, G, hj, rfl, W, hlt, k⟩
    have m9 := G.many j hj
    refine ⟨_, rfl, _, rfl, _, _, rfl, rfl, _, rfl, _, _, rfl, rfl, L.ad, L.ds, _, _, rfl, W.fix.ad, by decide, fun r r0 r4 => ⟨_, rfl, by omega, by omega, fun D hD => ?_⟩⟩
    have kD : κ D = 0 := W.tg.free hD
    refine lc_range (fun i H' => ∃ d : List Int, Ex T0 κ H0 H' ∧ H' D = some (.lst (d.map V.int)) ∧ d.length = i) ⟨[], Ex.new hD, upd_same, rfl⟩ ?_ ?_
    · rintro i H' hi ⟨d, e, hd, hl⟩
      have hi : i < r.toNat := hi
      refine ⟨rfl, _, rfl, _, rfl, _, _, rfl, rfl, _, rfl, _, _, rfl, rfl, L.ad, L.ds, _, _, rfl, (W.fix.ex (fun z => z) e).ad, by decide, fun x x0 x1 => ⟨_, hd, ?_, d ++ [x], e.over hD, ?_, ?_⟩⟩
      · rw [List.length_map, hl]
        exact Nat.lt_of_lt_of_le (show i < 4 by omega) (by decide)
      · rw [upd_same, List.map_append]
        rfl
      · rw [List.length_append, hl]
        rfl
    · rintro H1 ⟨d, e, hd, hl⟩
      have W1 := W.ex0 e
      obtain ⟨ko, oa, ho, hdat⟩ := W1.of j hj
      have ao : atI [V.ref (L.o 0), V.ref (L.o 1)] (0 + ((j : Nat) : Int)) = some (.ref (L.o j)) := at2 (f := fun j => .ref (L.o j)) hj (by omega)
      have ap : atI [V.ref (L.p 0), V.ref (L.p 1)] (0 + ((j : Nat) : Int)) = some (.ref (L.p j)) := at2 (f := fun j => .ref (L.p j)) hj (by omega)
      have hp1 := W1.pe j hj
      have c0 : 0 < cT j := by unfold cT; omega
      have cj : cT j = 10 ∨ cT j = 20 := by unfold cT; omega
      refine ⟨_, rfl, _, rfl, L.pl, _, _, _, rfl, rfl, SqL.of W1.fix.pl, ap, L.p j, _, _, rfl, hp1.ins, f_no (by decide +kernel), _, rfl, κ, cT j, L.p j, L.a j, U.p j, D, d, rfl, hp1, W1.tg, c0, hd, by omega, fun H2 e2 hp2 => ?_⟩
      have tp : ∀ n, (n < 10 ∨ 25 ≤ n) → ¬ Tp (cT j) n := fun n hn z => by
        have := z.1
        have := z.2
        omega
      have ho2 := e2.kp _ _ ho (by rw [ko]; exact tp _ (by omega))
      have hdat2 := hdat.ex (tp 0 (by omega)) e2
      have fix2 := W1.fix.ex (tp 0 (by omega)) e2
      have hd2 := e2.kp _ _ hd (by rw [kD]; exact tp 0 (by omega))
      refine ⟨_, rfl, _, rfl, L.ol, _, _, _, rfl, rfl, SqL.of fix2.ol, ao, L.o j, _, rfl, .inl (SqL.of ho2), rfl, _, rfl, ?_⟩
      have eq : V.int ((((U.p j).off.length : Nat)) : Int) = V.int (((oa.map V.ref).length : Nat) : Int) := by rw [List.length_map, hdat2.1]
      refine iteNS eq ?_
      refine ⟨_, rfl, _, rfl, L.ol, _, _, _, rfl, rfl, SqL.of fix2.ol, ao, .inl ⟨rfl, _, SqL.of ho2⟩, _, rfl, L.o j, _, _, rfl, rfl, ho2, ?_, ?_⟩
      · rw [List.length_map, hdat2.1]
        exact Nat.lt_of_lt_of_le (show _ < 10 by omega) (by decide)
      have e3 : Ex (fun n => n = 40 + j) κ H2 (upd H2 (L.o j) (.lst (oa.map V.ref ++ [.ref D]))) := Ex.put ko
      have ho3 : (upd H2 (L.o j) (.lst (oa.map V.ref ++ [.ref D]))) (L.o j) = _ := upd_same
      generalize upd H2 (L.o j) (.lst (oa.map V.ref ++ [.ref D])) = H3 at *
      have z3 : ∀ n, n < 40 ∨ 42 ≤ n → ¬ n = 40 + j := fun n hn => by omega
      have e13 : Ex (fun n => Tp (cT j) n ∨ n = 40 + j) κ H1 H3 := (e2.mono fun n h => .inl h).trans (e3.mono fun n h => .inr h)
      have nn : ∀ n, (n < 10 ∨ 25 ≤ n) → (n < 40 ∨ 42 ≤ n) → ¬ (Tp (cT j) n ∨ n = 40 + j) := fun n h1 h2 z => by
        rcases z with z | z
        · exact tp n h1 z
        · exact z3 n h2 z
      obtain ⟨g, g1, g2⟩ := W1.gv
      obtain ⟨r, r1, r2⟩ := W1.rd
      have hp3 := hp2.ex (z3 0 (by omega)) (fun i hi => z3 _ (by omega)) e3
      refine k H3 d _ ⟨W1.fix.ex (nn 0 (by omega) (by omega)) e13, fun i hi => ?_, fun i hi => ?_, ⟨g, g1.ex (nn _ (by omega) (by omega)) e13, fun i hi => (g2 i hi).ex (nn 0 (by omega) (by omega)) (nn 0 (by omega) (by omega)) e13⟩,
        ⟨r, r1.ex (nn _ (by omega) (by omega)) e13, fun i hi => (r2 i hi).ex (nn 0 (by omega) (by omega)) (nn _ (by omega) (by omega)) e13⟩, e13.tg W1.tg⟩
      · show PeerAt C κ H3 (cT i) (L.p i) (L.a i) (at1 U.p j _ i)
        rcases two hj hi with rfl | ⟨rfl, h1, h2, h3⟩
        · rw [at1_same]
          exact hp3
        · rw [at1_ne h1]
          refine (W1.pe _ hi).ex (nn 0 (by omega) (by omega)) (fun i5 hi5 z => ?_) e13
          unfold Tp cT at z
          rcases z with z | z <;> omega
      · show WDat κ H3 (40 + i) (L.o i) (at1 U.p j _ i).off
        rcases two hj hi with rfl | ⟨rfl, h1, h2, h3⟩
        · rw [at1_same]
          refine ⟨ko, oa ++ [D], ?_, ?_⟩
          · rw [List.map_append]
            exact ho3
          · exact (hdat2.ex (z3 0 (by omega)) e3).snoc (Dat.ex (κ := κ) ⟨kD, hd2⟩ (z3 0 (by omega)) e3)
        · rw [at1_ne h1]
          refine (W1.of _ hi).ex (nn 0 (by omega) (by omega)) (fun z => ?_) e13
          rcases z with z | z
          · exact tp _ (by omega) z
          · omega
  rintro D σ H0 ⟨L, κ, U, j, now, kk, v12, v13, G, hj, rfl, W, hl9, k⟩
  obtain ⟨ko, oa, ho, hdat⟩ := W.of j hj
  have ao : atI [V.ref (L.o 0), V.ref (L.o 1)] (0 + ((j : Nat) : Int)) = some (.ref (L.o j)) := at2 (f := fun j => .ref (L.o j)) hj (by omega)
  have am : atI [V.int ((L.many 0 : Nat) : Int), V.int ((L.many 1 : Nat) : Int)] (0 + ((j : Nat) : Int)) = some (.int ((L.many j : Nat) : Int)) := at2 (f := fun j => .int ((L.many j : Nat) : Int)) hj (by omega)
  refine ⟨_, rfl, _, rfl, L.ol, _, _, _, rfl, rfl, SqL.of W.fix.ol, ao, L.o j, _, rfl, .inl (SqL.of ho), _, rfl, _, rfl, L.ml, _, _, _, rfl, rfl, SqL.of W.fix.ml, am, _, _, rfl, rfl, _, rfl, ?_⟩
  have el : (((oa.map V.ref).length : Nat) : Int) = (((U.p j).off.length : Nat) : Int) := by rw [List.length_map, hdat.1]
  rw [el]
  by_cases h1 : (((U.p j).off.length : Nat) : Int) < ((L.many j : Nat) : Int)
  · rw [decide_eq_true h1]
    have h1 : (U.p j).off.length < L.many j := by omega
    refine iteT ⟨_, rfl, _, rfl, _, rfl, _, _, rfl, rfl, L.ad, L.ds, _, _, rfl, W.fix.ad, by decide, fun r r0 r3 => ⟨rfl, _, rfl, ?_⟩⟩
    refine ite2 (fun _ => iteT ?_) (fun _ => ⟨_, rfl, _, rfl, _, _, rfl, rfl, _, rfl, ?_⟩)
    · exact ⟨L, κ, U, j, now, kk, v12, v13, G, hj, rfl, W, h1, fun H1 d v12' W1 => k H1 _ v12' (.inr ⟨d, h1, rfl⟩) W1⟩
    · by_cases h2 : ((L.rough : Nat) : Int) ≤ 0 + ((now : Nat) : Int)
      · rw [decide_eq_true h2]
        refine iteT ⟨L, κ, U, j, now, kk, v12, v13, G, hj, rfl, W, h1, fun H1 d v12' W1 => k H1 _ v12' (.inr ⟨d, h1, rfl⟩) W1⟩
      · rw [decide_eq_false h2]
        exact iteF (k H0 U v12 (.inl ⟨rfl, fun _ => by omega⟩) W)
  · rw [decide_eq_false h1]
    exact iteF (iteF (k H0 U v12 (.inl ⟨rfl, fun z => by omega⟩) W))
end
end FH
namespace FH
open PySem L2
theorem SI.bdSend {many : Nat → Nat} {Ws Ts : Nat → Int} {t : Nat} {U : Wd} (I : SI many Ws Ts ((t : Nat) : Int) U) {j : Nat} (hj : j < 2) (hW : Ws j ≤ 8) (hm : ∀ j, j < 2 → many j ≤ 9) : Bd (sendS (U.p j) ((t : Nat) : Int)) := by
  have h : SendR (U.p j) ((t : Nat) : Int) (sendS (U.p j) ((t : Nat) : Int)) ((heads (U.p j) ((t : Nat) : Int)).map fun h => ⟨h, (U.p j).next, 0⟩) := by
    refine ⟨rfl, ?_, fun pk hp => ?_⟩
    · rw [List.map_map]
      exact List.map_id _
    · obtain ⟨h, _, rfl⟩ := List.mem_map.mp hp
      refine ⟨rfl, Int.le_refl _, fun i b => ?_⟩
      unfold Bit at b
      rw [Int.zero_ediv] at b
      cases b
  have h2 : SndR 0 t j U { U with p := at1 U.p j (sendS (U.p j) ((t : Nat) : Int)), r := at1 U.r j (U.r j ++ ((heads (U.p j) ((t : Nat) : Int)).map fun h => (⟨h, (U.p j).next, 0⟩ : Pk)).map fun pk => (((t : Nat) : Int), pk)) } := by
    refine ⟨_, _, _, h, ⟨fun r hr => ?_, fun _ pk hp => ?_⟩, rfl⟩
    · obtain ⟨pk, hp, rfl⟩ := List.mem_map.mp hr
      refine ⟨hp, Int.le_refl _, ?_⟩
      show ((t : Nat) : Int) ≤ ((t : Nat) : Int) + 9
      omega
    · exact ⟨_, List.mem_map.mpr ⟨pk, hp, rfl⟩, by omega⟩
  have := (I.snd hj h2).bd hj hW hm
  have e : (at1 U.p j (sendS (U.p j) ((t : Nat) : Int)) j) = sendS (U.p j) ((t : Nat) : Int) := at1_same
  rw [← e]
  exact this
/-- peer j sends -/
def tSnd (C : Addr) : TS := fun D σ H0 => ∃ (L : LE) (κ : Tags) (U : Wd) (j now : Nat) (kk : Int) (v12 v13 : Option V), Good L ∧ j < 2 ∧ σ = sg L (some (.int (0 + ((j : Nat) : Int)))) (some (.int (0 + ((now : Nat) : Int)))) (some (.int kk)) v12 v13 ∧ WAt C L κ H0 U ∧ SI L.many L.Ws L.Ts ((now : Nat) : Int) U ∧ (U.r j).length ≤ 100000 ∧
  ∀ H1 U1, SndR L.rough now j U U1 → WAt C L κ H1 U1 → (U1.r j).length ≤ (U.r j).length + 18 → (∀ i, i ≠ j → U1.r i = U.r i) → D.nx (sg L (some (.int (0 + ((j : Nat) : Int)))) (some (.int (0 + ((now : Nat) : Int)))) (some (.int kk)) v12 v13) H1
section
variable {P : Program} {w : World} {K : PySem.W.Frag} {mg : Str → Option Value} {base : Heap} {f : Addr} {cdv : Value} {A : Around} {outer : List Env} {s : Shared} {H : Hp} {E : XK} {C : Addr}
theorem snd_ok (T : Txt K mg C) (Fc : Facts P w K mg base C) (hr : Room 3 (XL P w K mg base f cdv A outer s H E).A) : L2.PS (XL P w K mg base f cdv A outer s H E) lawSnd (tSnd C) := by
  obtain ⟨fS, fdS, mg_law_sent, k_law_sent, G_law_sent, b_law_sent⟩ := Fc.sent
  have hr_law_sent : Room 3 _ := hr
  refine PS_imp (ps_if (pt_not (pt_val (pe_call G_law_sent hr_law_sent (by rfl) mg_law_sent k_law_sent b_law_sent .nil pass0 (pa_cons (pv 1) (pa_cons (pe_op op_add (pe_op op_add (pv 11) pe_int) (pv 2)) (pa_cons (pe_ix ix_list (pv 4) (pv 2) (fun _ _ => rfl)) (pa_cons (pe_ix ix_list (pv 8) (pv 2) (fun _ _ => rfl)) (pa_cons (pv 10) (pa_cons (pe_ix ix_list (pv 3) (pv 2) (fun _ _ => rfl)) (pa_cons (pe_cmpR op_ge (pv 10) (pv 9) (nomark _)) pa_nil)))))))))) (pss_one (ps_ret pe_bl)) pss_nil) ?_
  rintro D σ H0 ⟨L, κ, U, j, now, kk, v12, v13, G, hj, rfl, W, I, hl, k⟩
  have z0 : (0 : Int) + ((now : Nat) : Int) = ((now : Nat) : Int) := Int.zero_add _
  have ap : atI [V.ref (L.p 0), V.ref (L.p 1)] (0 + ((j : Nat) : Int)) = some (.ref (L.p j)) := at2 (f := fun j => .ref (L.p j)) hj (by omega)
  have aw : atI [V.int (L.Ws 0), V.int (L.Ws 1)] (0 + ((j : Nat) : Int)) = some (.int (L.Ws j)) := at2 (f := fun j => .int (L.Ws j)) hj (by omega)
  obtain ⟨g, g1, g2⟩ := W.gv
  obtain ⟨r, r1, r2⟩ := W.rd
  have ar : atI [V.ref (r 0), V.ref (r 1)] (0 + ((j : Nat) : Int)) = some (.ref (r j)) := at2 (f := fun j => .ref (r j)) hj (by omega)
  obtain ⟨kr, rs, hrs, hrows⟩ := r2 j hj
  have c0 : 0 < cT j := by unfold cT; omega
  have cj : cT j = 10 ∨ cT j = 20 := by unfold cT; omega
  have ws := (I.ws j hj).1
  have tp : ∀ n, (n < 10 ∨ 25 ≤ n) → ¬ Tp (cT j) n := fun n hn z => by
    have := z.1
    have := z.2
    omega
  refine ⟨_, rfl, _, rfl, _, _, rfl, rfl, _, rfl, _, _, rfl, rfl, _, rfl, _, rfl, L.pl, _, _, _, rfl, rfl, SqL.of W.fix.pl, ap, _, rfl, _, rfl, L.rl, _, _, _, rfl, rfl, SqL.of r1.2, ar, _, rfl, _, rfl, _, rfl, L.wl, _, _, _, rfl, rfl, SqL.of W.fix.wl, aw, _, rfl, _, rfl, _, _, rfl, rfl,
    κ, cT j, L.p j, L.a j, U.p j, L.ad, L.ds, _, r j, 30 + j, U.r j, rs, _, _, by rw [ws]; rfl, W.pe j hj, W.tg, c0, I.bd hj (G.ws j hj).2 G.many, by rw [z0]; exact I.bdSend hj (G.ws j hj).2 G.many, by rw [z0]; exact I.now j hj, W.fix.kd, W.fix.ad, kr, by omega, tp _ (by omega), hrs, hrows, hl, fun H1 st' pks new rs' hS hR e hp' hrs' hrows' hnl => ?_⟩
  rw [z0] at hS hR
  refine ⟨true, rfl, iteF ?_⟩
  have nn : ∀ n, (n < 10 ∨ 25 ≤ n) → (n < 30 ∨ 32 ≤ n) → ¬ (Tp (cT j) n ∨ n = 30 + j) := fun n h1 h2 z => by
    rcases z with z | z
    · exact tp n h1 z
    · omega
  refine k H1 { U with p := at1 U.p j st', r := at1 U.r j (U.r j ++ new) } ⟨st', pks, new, hS, ⟨hR.1, fun hf => hR.2 (decide_eq_true (by omega))⟩, rfl⟩ ⟨W.fix.ex (nn 0 (by omega) (by omega)) e, fun i hi => ?_, fun i hi => ?_, ⟨g, g1.ex (nn _ (by omega) (by omega)) e, fun i hi => (g2 i hi).ex (nn 0 (by omega) (by omega)) (nn 0 (by omega) (by omega)) e⟩,
      ⟨r, r1.ex (nn _ (by omega) (by omega)) e, fun i hi => ?_⟩, e.tg W.tg⟩ ?_ ?_
  · show PeerAt C κ H1 (cT i) (L.p i) (L.a i) (at1 U.p j _ i)
    rcases two hj hi with rfl | ⟨rfl, h1, h2, h3⟩
    · rw [at1_same]
      exact hp'
    · rw [at1_ne h1]
      refine (W.pe _ hi).ex (nn 0 (by omega) (by omega)) (fun i5 hi5 z => ?_) e
      unfold Tp cT at z
      rcases z with z | z <;> omega
  · show WDat κ H1 (40 + i) (L.o i) (at1 U.p j _ i).off
    have : (at1 U.p j st' i).off = (U.p i).off := by
      rcases two hj hi with rfl | ⟨rfl, h1, h2, h3⟩
      · rw [at1_same, hS.eq]
        rfl
      · rw [at1_ne h1]
    rw [this]
    exact (W.of i hi).ex (nn 0 (by omega) (by omega)) (nn _ (by omega) (by omega)) e
  · show WRow κ H1 (30 + i) (r i) (at1 U.r j (U.r j ++ new) i)
    rcases two hj hi with rfl | ⟨rfl, h1, h2, h3⟩
    · rw [at1_same]
      exact ⟨kr, rs', hrs', hrows'⟩
    · rw [at1_ne h1]
      refine (r2 _ hi).ex (nn 0 (by omega) (by omega)) (fun z => ?_) e
      rcases z with z | z
      · exact tp _ (by omega) z
      · omega
  · show (at1 U.r j (U.r j ++ new) j).length ≤ _
    rw [at1_same, List.length_append]
    omega
  · intro i hi
    exact at1_ne hi
end
end FH
namespace FH
open PySem L2
theorem Bd.of {X Y : PS} {gX gY} (D : Dir X Y gY) (D2 : Dir Y X gX) (n : NoNext X) (w8 : X.W ≤ 8) (o1 : X.off.length ≤ 9) (o2 : Y.off.length ≤ 9) : Bd X := by
  have := D.bns
  have := D.nsOff
  have := D2.nsOff
  exact ⟨D.w1, w8, o1, D.b0, by omega, D.sentI, D.nsOff, fun n h => ⟨(D.doneR n h).1, (D.doneR n h).2.1⟩, D2.n0, fun k d e => ⟨D2.keptLt n e, (D2.keptI k d e).2.2.1, by have := (D2.keptI k d e).2.1; omega⟩⟩
theorem cut_take (oa : List Addr) (n : Nat) : cutV (oa.map V.ref) none (some ((n : Nat) : Int)) = (oa.take n).map V.ref := by
  unfold cutV
  rw [HT.sIx_none, HT.sIx_nat, List.length_map, List.drop_zero, ← List.map_take]
  by_cases h : n ≤ oa.length
  · rw [show min n oa.length - 0 = n by omega]
  · rw [List.take_of_length_le (show oa.length ≤ min n oa.length - 0 by omega), List.take_of_length_le (show oa.length ≤ n by omega)]
/-- peer j receives what is due -/
def tArr (C : Addr) : TS := fun D σ H0 => ∃ (L : LE) (κ : Tags) (U : Wd) (j now : Nat) (kk : Int) (v12 v13 : Option V), Good L ∧ j < 2 ∧ σ = sg L (some (.int (0 + ((j : Nat) : Int)))) (some (.int (0 + ((now : Nat) : Int)))) (some (.int kk)) v12 v13 ∧ WAt C L κ H0 U ∧ SI L.many L.Ws L.Ts ((now : Nat) : Int) U ∧ (∀ i, i < 2 → (U.r i).length ≤ 100000) ∧
  ∀ κ1 H1 U1 v13', ArrR now j U U1 → WAt C L κ1 H1 U1 → (∀ i, (U1.r i).length ≤ (U.r i).length) → D.nx (sg L (some (.int (0 + ((j : Nat) : Int)))) (some (.int (0 + ((now : Nat) : Int)))) (some (.int kk)) v12 v13') H1
section
variable {P : Program} {w : World} {K : PySem.W.Frag} {mg : Str → Option Value} {base : Heap} {f : Addr} {cdv : Value} {A : Around} {outer : List Env} {s : Shared} {H : Hp} {E : XK} {C : Addr}
theorem arr_ok (T : Txt K mg C) (Fc : Facts P w K mg base C) (hr : Room 3 (XL P w K mg base f cdv A outer s H E).A) : L2.PSs (XL P w K mg base f cdv A outer s H E) lawArr (tArr C) := by
  obtain ⟨fA, fdA, mg_law_arrived, k_law_arrived, G_law_arrived, b_law_arrived⟩ := Fc.arrived
  obtain ⟨fN, fdN, mnext_number, Gnext_number, bnext_number⟩ := Fc.next_
  have hr_law_arrived : Room 3 _ := hr
  have hrnext_number : Room 1 _ := hr.mono (by decide)
  have hu64 := hr.units
  refine PSs_imp (pss_cons (ps_asg (pe_call G_law_arrived hr_law_arrived (by rfl) mg_law_arrived k_law_arrived b_law_arrived .nil pass0 (pa_cons (pv 1) (pa_cons (pe_op op_add (pe_op op_add (pv 11) pe_int) (pv 2)) (pa_cons (pe_ix ix_list (pv 4) (pv 2) (fun _ _ => rfl)) (pa_cons (pe_ix ix_list (pv 8) (pe_op op_sub pe_int (pv 2)) (fun _ _ => rfl)) (pa_cons (pv 10) pa_nil)))))) (pg_tup rfl (pgs_cons (pg_name (i := 13) scLaw.nd rfl (Or.inl rfl)) (pgs_cons (pg_sub (pv 8) (pe_op op_sub pe_int (pv 2)) set_list) pgs_nil))))
      (pss_cons (ps_asg (pe_op op_cat (pe_ix ix_list (pv 7) (pv 2) (fun _ _ => rfl)) (pv 13)) (pg_sub (pv 7) (pv 2) set_list))
      (pss_one (ps_if (PW.pt (pw_or (pt_cmpR (op_neD hu64) (pe_ix ix_list (pv 7) (pv 2) (fun _ _ => rfl)) (pe_slice sl_list (pe_ix ix_list (pv 6) (pe_op op_sub pe_int (pv 2)) (fun _ _ => rfl)) po_none (po_some (pe_callB call_len_seq (by rfl) T.len PySem.boot_len (pa_cons (pe_ix ix_list (pv 7) (pv 2) (fun _ _ => rfl)) pa_nil)))) (nomark _)) (pw_or1 (pt_cmpR op_ne (pe_meth0 (pe_ix ix_list (pv 4) (pv 2) (fun _ _ => rfl)) T.cl mnext_number Gnext_number hrnext_number bnext_number .nil pass0) (pe_callB call_len_seq (by rfl) T.len PySem.boot_len (pa_cons (pe_ix ix_list (pv 7) (pv 2) (fun _ _ => rfl)) pa_nil)) (nomark _))))) (pss_one (ps_ret pe_bl)) pss_nil)))) ?_
  rintro D σ H0 ⟨L, κ, U, j, now, kk, v12, v13, G, hj, rfl, W, I, hl, k⟩
  have z0 : (0 : Int) + ((now : Nat) : Int) = ((now : Nat) : Int) := Int.zero_add _
  have hi : 1 - j < 2 := by omega
  have hb : 1 - (1 - j) = j := by omega
  have ej : (1 : Int) - (0 + ((j : Nat) : Int)) = ((1 - j : Nat) : Int) := by omega
  have ap : atI [V.ref (L.p 0), V.ref (L.p 1)] (0 + ((j : Nat) : Int)) = some (.ref (L.p j)) := at2 (f := fun j => .ref (L.p j)) hj (by omega)
  have ao : atI [V.ref (L.o 0), V.ref (L.o 1)] (1 - (0 + ((j : Nat) : Int))) = some (.ref (L.o (1 - j))) := at2 (f := fun j => .ref (L.o j)) hi ej
  obtain ⟨g, g1, g2⟩ := W.gv
  obtain ⟨r, r1, r2⟩ := W.rd
  have ar : atI [V.ref (r 0), V.ref (r 1)] (1 - (0 + ((j : Nat) : Int))) = some (.ref (r (1 - j))) := at2 (f := fun j => .ref (r j)) hi ej
  have ag : atI [V.ref (g 0), V.ref (g 1)] (0 + ((j : Nat) : Int)) = some (.ref (g j)) := at2 (f := fun j => .ref (g j)) hj (by omega)
  obtain ⟨kr, rs, hrs, hrows⟩ := r2 (1 - j) hi
  have c0 : 0 < cT j := by unfold cT; omega
  have cj : cT j = 10 ∨ cT j = 20 := by unfold cT; omega
  have tp : ∀ n, (n < 10 ∨ 25 ≤ n) → ¬ Tp (cT j) n := fun n hn z => by
    have := z.1
    have := z.2
    omega
  have o1 := I.offs j hj
  have o2 := I.offs (1 - j) hi
  have m1 := G.many j hj
  have m2 := G.many (1 - j) hi
  have hB : ∀ Lp st' gs, (∀ pk ∈ Lp, pk ∈ dueRows (0 + ((now : Nat) : Int)) (U.r (1 - j))) → RecAll (U.p j) Lp st' gs → Bd st' ∧ gs.length ≤ 9 := fun Lp st' gs h1 h2 => by
    rw [z0] at h1
    obtain ⟨E1, E2, E3, E4⟩ := I.part hj h1 h2
    refine ⟨Bd.of E1 E2 E3 (by rw [E4.W, (I.ws j hj).1]; exact (G.ws j hj).2) (by rw [E4.off]; omega) (by omega), ?_⟩
    have := congrArg List.length E2.giv
    rw [List.length_append, List.length_take] at this
    omega
  have hM : ∀ pk ∈ dueRows (0 + ((now : Nat) : Int)) (U.r (1 - j)), 0 ≤ pk.mask ∧ ∀ n d, pk.msg = some (n, d) → 0 ≤ n ∧ n < 9 := fun pk h => by
    obtain ⟨a, _, h2⟩ := mem_dueRows.mp h
    obtain ⟨x, y⟩ := I.rows (1 - j) hi _ h2
    refine ⟨y.2.1, fun n d e => ?_⟩
    obtain ⟨q1, q2, q3⟩ := x n d e
    have := (List.getElem?_eq_some_iff.mp q3).1
    exact ⟨q1, by omega⟩
  refine ⟨_, rfl, _, rfl, _, _, rfl, rfl, _, rfl, _, _, rfl, rfl, _, rfl, _, rfl, L.pl, _, _, _, rfl, rfl, SqL.of W.fix.pl, ap, _, rfl, _, rfl, _, _, rfl, rfl, L.rl, _, _, _, rfl, rfl, SqL.of r1.2, ar, _, rfl,
    κ, cT j, L.p j, L.a j, U.p j, L.ad, L.ds, _, r (1 - j), U.r (1 - j), rs, _, rfl, W.pe j hj, W.tg, c0, W.fix.kd, W.fix.ad, by rw [kr]; exact tp _ (by omega), hrs, hrows, hl _ hi, hB, hM, fun H1 H2 st' Lp gs l oa rd' rs' tq hperm hrec e1 hp1 kl hl1 hdat1 e2 rd0 hrd2 hrows1 htq ktq => ?_⟩
  rw [z0] at hperm hrows1
  -- at H1
  have fix1 := W.fix.ex (tp 0 (by omega)) e1
  have pe1 : ∀ i, i < 2 → PeerAt C κ H1 (cT i) (L.p i) (L.a i) (at1 U.p j st' i) := fun i hi => by
    rcases two hj hi with rfl | ⟨rfl, h1, h2, h3⟩
    · rw [at1_same]
      exact hp1
    · rw [at1_ne h1]
      refine (W.pe _ hi).ex (tp 0 (by omega)) (fun i5 hi5 z => ?_) e1
      unfold Tp cT at z
      omega
  have of1 : ∀ i, i < 2 → WDat κ H1 (40 + i) (L.o i) (at1 U.p j st' i).off := fun i hi => by
    have : (at1 U.p j st' i).off = (U.p i).off := by
      rcases two hj hi with rfl | ⟨rfl, h1, h2, h3⟩
      · rw [at1_same]
        have h := (I.part hj (fun pk h => hperm.mem_iff.mp h) hrec).2.2.2
        exact h.off
      · rw [at1_ne h1]
    rw [this]
    exact (W.of i hi).ex (tp 0 (by omega)) (tp _ (by omega)) e1
  have gl1 := g1.ex (tp _ (by omega)) e1
  have gd1 : ∀ i, i < 2 → WDat κ H1 0 (g i) (U.g i) := fun i hi => (g2 i hi).ex (tp 0 (by omega)) (tp 0 (by omega)) e1
  have rl1 := r1.ex (tp _ (by omega)) e1
  have rj1 := (r2 j hj).ex (tp 0 (by omega)) (tp _ (by omega)) e1
  have tg1 := e1.tg W.tg
  -- the new tag
  let κ1 := ktag κ rd' (30 + (1 - j))
  have kk1 : ∀ b, H1 b ≠ none → κ1 b = κ b := fun b hb => ktag_old rd0 hb
  have krd : κ1 rd' = 30 + (1 - j) := ktag_same
  have fix2 := (fix1.retag kk1).ex (fun z => z) e2.anyK
  have pe2 := fun i hi => ((pe1 i hi).retag fun b hb _ => kk1 b hb).ex0 e2.anyK
  have of2 := fun i hi => ((of1 i hi).retag kk1).ex (fun z => z) (fun z => z) e2.anyK
  have gl2 := (gl1.retag kk1).ex (fun z => z) e2.anyK
  have gd2 := fun i hi => ((gd1 i hi).retag kk1).ex (fun z => z) (fun z => z) e2.anyK
  have rl2 := (rl1.retag kk1).ex (fun z => z) e2.anyK
  have rj2 := (rj1.retag kk1).ex (fun z => z) (fun z => z) e2.anyK
  have rows2 := (hrows1.imp fun q x h => h.retag fun b hb _ => kk1 b hb).imp fun q x h => RowAt.ex h (fun z => z) e2.anyK
  have dat2 := (hdat1.retag fun b hb _ => kk1 b hb).ex (fun z => z) e2.anyK
  have hl2 := e2.kp _ _ hl1 (fun z => z)
  have kl1 : κ1 l = 0 := (kk1 l (by rw [hl1]; simp)).trans kl
  have tg2 : Tg κ1 H2 := fun b hb => by
    by_cases q : b = rd'
    · rw [q, hrd2]; simp
    · have : κ b ≠ 0 := by
        rw [show κ1 b = κ b from ktag_ne q] at hb
        exact hb
      exact e2.lv b (tg1 b this)
  refine ⟨tq, _, rfl, SqT.of htq, rfl, _, _, rfl, _, _, rfl, _, rfl, _, rfl, _, _, rfl, rfl, L.rl, _, _, _, rfl, rfl, rl2.2, ix2 hi ej, rfl, ?_⟩
  rw [set2 hi]
  have e3 : Ex (fun n => n = 51) κ1 H2 (upd H2 L.rl (.lst [.ref (at1 r (1 - j) rd' 0), .ref (at1 r (1 - j) rd' 1)])) := Ex.put rl2.1
  have hrl3 : (upd H2 L.rl (.lst [.ref (at1 r (1 - j) rd' 0), .ref (at1 r (1 - j) rd' 1)])) L.rl = _ := upd_same
  generalize upd H2 L.rl (.lst [.ref (at1 r (1 - j) rd' 0), .ref (at1 r (1 - j) rd' 1)]) = H3 at *
  obtain ⟨kg, og, hg2, hgd2⟩ := gd2 j hj
  have hg3 := e3.kp _ _ hg2 (by rw [kg]; omega)
  have hl3 := e3.kp _ _ hl2 (by rw [kl1]; omega)
  have hgl3 := e3.kp _ _ gl2.2 (by rw [gl2.1]; omega)
  have E2 := (I.part hj (fun pk h => hperm.mem_iff.mp h) hrec).2.1
  have glen : (U.g j).length + gs.length ≤ 9 := by
    have := congrArg List.length E2.giv
    rw [List.length_append, List.length_take] at this
    omega
  refine ⟨_, rfl, _, rfl, L.gl, _, _, _, rfl, rfl, SqL.of hgl3, ag, _, rfl, g j, l, _, _, rfl, rfl, hg3, hl3, ?_, fun gn hgn => ?_⟩
  · rw [List.length_map, List.length_map, hgd2.1, dat2.1]
    exact Nat.le_trans (show _ ≤ 9 by omega) (by decide)
  have tg3 := e3.tg tg2
  have kgn : κ1 gn = 0 := tg3.free hgn
  obtain ⟨H4, e4, h4, s4⟩ := new2 H3 gn (.lst (og.map V.ref ++ oa.map V.ref)) hgn
  rw [e4]
  have x4 : Ex T0 κ1 H3 H4 := Ex.of_same s4
  refine ⟨_, rfl, _, rfl, L.gl, _, _, _, rfl, rfl, s4 _ _ hgl3, ix2 hj (by omega), ?_⟩
  rw [set2 hj]
  have e5 : Ex (fun n => n = 50) κ1 H4 (upd H4 L.gl (.lst [.ref (at1 g j gn 0), .ref (at1 g j gn 1)])) := Ex.put gl2.1
  have hgl5 : (upd H4 L.gl (.lst [.ref (at1 g j gn 0), .ref (at1 g j gn 1)])) L.gl = _ := upd_same
  generalize upd H4 L.gl (.lst [.ref (at1 g j gn 0), .ref (at1 g j gn 1)]) = H5 at *
  have e25 : Ex (fun n => n = 50 ∨ n = 51) κ1 H2 H5 := ((e3.mono fun n h => .inr h).trans x4.up).trans (e5.mono fun n h => .inl h)
  have e35 : Ex (fun n => n = 50) κ1 H3 H5 := x4.up.trans e5
  have nn : ∀ n, n < 50 → ¬ (n = 50 ∨ n = 51) := fun n h z => by omega
  have hgn5 : WDat κ1 H5 0 gn (U.g j ++ gs) := ⟨kgn, og ++ oa, by rw [List.map_append]; exact e5.kp _ _ h4 (by rw [kgn]; omega), (hgd2.app dat2).ex (nn 0 (by omega)) e25⟩
  have W5 : WAt C L κ1 H5 ⟨at1 U.p j st', at1 U.r (1 - j) ((U.r (1 - j)).filter fun r => decide (((now : Nat) : Int) < r.1)), at1 U.g j (U.g j ++ gs)⟩ := by
    refine ⟨fix2.ex (nn 0 (by omega)) e25, fun i hi => (pe2 i hi).ex (nn 0 (by omega)) (fun i5 hi5 => nn _ (by unfold cT; omega)) e25, fun i hi => (of2 i hi).ex (nn 0 (by omega)) (nn _ (by omega)) e25, ⟨at1 g j gn, ⟨gl2.1, hgl5⟩, fun i hi => ?_⟩, ⟨at1 r (1 - j) rd', ⟨rl2.1, e35.kp _ _ hrl3 (by rw [rl2.1]; omega)⟩, fun i hi => ?_⟩, e25.tg tg2⟩
    · rcases two hj hi with rfl | ⟨rfl, h1, h2, h3⟩
      · rw [at1_same]
        show WDat κ1 H5 0 gn (at1 U.g i (U.g i ++ gs) i)
        rw [at1_same]
        exact hgn5
      · rw [at1_ne h1]
        show WDat κ1 H5 0 (g (1 - j)) (at1 U.g j (U.g j ++ gs) (1 - j))
        rw [at1_ne h1]
        exact (gd2 _ hi).ex (nn 0 (by omega)) (nn 0 (by omega)) e25
    · rcases two hj hi with rfl | ⟨rfl, h1, h2, h3⟩
      · have ne : i ≠ 1 - i := by omega
        rw [at1_ne ne]
        show WRow κ1 H5 (30 + i) (r i) (at1 U.r (1 - i) _ i)
        rw [at1_ne ne]
        exact rj2.ex (nn 0 (by omega)) (nn _ (by omega)) e25
      · rw [at1_same]
        show WRow κ1 H5 (30 + (1 - j)) rd' (at1 U.r (1 - j) _ (1 - j))
        rw [at1_same]
        exact ⟨krd, rs', e25.kp _ _ hrd2 (by rw [krd]; omega), rows2.imp fun q x h => RowAt.ex h (nn 0 (by omega)) e25⟩
  have AR : ArrR now j U ⟨at1 U.p j st', at1 U.r (1 - j) ((U.r (1 - j)).filter fun r => decide (((now : Nat) : Int) < r.1)), at1 U.g j (U.g j ++ gs)⟩ := ⟨Lp, st', gs, hperm, hrec, rfl⟩
  have ne1 : 1 - j ≠ j := by omega
  -- the law's own look
  have hg_eq : U.g j ++ gs = (U.p (1 - j)).off.take (U.g j ++ gs).length := by
    conv => lhs; rw [E2.giv]
    rw [E2.giv, List.length_take]
    have a1 := E2.nns
    have a2 := E2.nsOff
    rw [show min st'.next.toNat (U.p (1 - j)).off.length = st'.next.toNat by omega]
  have hnext : st'.next = (((U.g j ++ gs).length : Nat) : Int) := by
    rw [E2.giv, List.length_take]
    have a0 := E2.n0
    have a1 := E2.nns
    have a2 := E2.nsOff
    omega
  obtain ⟨_, og5, hgn5a, hgn5b⟩ := hgn5
  obtain ⟨_, oo5, ho5a, ho5b⟩ := W5.of (1 - j) hi
  have ho5b : DatsAt κ1 H5 oo5 (U.p (1 - j)).off := by
    have h : DatsAt κ1 H5 oo5 (at1 U.p j st' (1 - j)).off := ho5b
    rw [at1_ne ne1] at h
    exact h
  have ag5 : atI [V.ref (at1 g j gn 0), V.ref (at1 g j gn 1)] (0 + ((j : Nat) : Int)) = some (.ref gn) := by
    have := at2 (f := fun i => V.ref (at1 g j gn i)) hj (x := 0 + ((j : Nat) : Int)) (by omega)
    rw [this]
    show some (V.ref (at1 g j gn j)) = _
    rw [at1_same]
  have el5 : (((og5.map V.ref).length : Nat) : Int) = (((U.g j ++ gs).length : Nat) : Int) := by rw [List.length_map, hgn5b.1]
  refine ⟨_, rfl, _, rfl, L.gl, _, _, _, rfl, rfl, SqL.of hgl5, ag5, _, rfl, _, rfl, _, _, rfl, rfl, L.ol, _, _, _, rfl, rfl, SqL.of W5.fix.ol, ao, _, rfl, _, rfl, L.gl, _, _, _, rfl, rfl, SqL.of hgl5, ag5, gn, _, rfl, .inl (SqL.of hgn5a), _, rfl, L.o (1 - j), _, rfl, SqL.of ho5a, fun ps hps => ?_⟩
  rw [el5, cut_take]
  obtain ⟨H6, e6, h6, s6⟩ := new2 H5 ps (.lst ((oo5.take (U.g j ++ gs).length).map V.ref)) hps
  rw [e6]
  have x6 : Ex T0 κ1 H5 H6 := Ex.of_same s6
  have W6 := W5.ex0 x6
  have dp1 : Dp (XL P w K mg base f cdv A outer s H E).K H6 (.ref gn) (dL (U.g j ++ gs)) := Dp_dats (s6 _ _ hgn5a) (hgn5b.ex (fun z => z) x6)
  have dp2 : Dp (XL P w K mg base f cdv A outer s H E).K H6 (.ref ps) (dL (U.g j ++ gs)) := by
    have := Dp_dats (K := (XL P w K mg base f cdv A outer s H E).K) h6 ((ho5b.take (U.g j ++ gs).length).ex (fun z => z) x6)
    rw [← hg_eq] at this
    exact this
  refine ⟨_, _, dp1, dp2, shaped_dL _, shaped_dL _, _, rfl, ?_⟩
  rw [eqv_dL]
  have hp6 : PeerAt C κ1 H6 (cT j) (L.p j) (L.a j) st' := by
    have h : PeerAt C κ1 H6 (cT j) (L.p j) (L.a j) (at1 U.p j st' j) := W6.pe j hj
    rw [at1_same] at h
    exact h
  refine iteF ⟨_, rfl, _, rfl, L.pl, _, _, _, rfl, rfl, SqL.of W6.fix.pl, ap, L.p j, _, _, rfl, hp6.ins, f_no (by decide +kernel), κ1, cT j, L.p j, L.a j, st', rfl, hp6, _, rfl, _, rfl, L.gl, _, _, _, rfl, rfl, SqL.of (s6 _ _ hgl5), ag5, gn, _, rfl, .inl (SqL.of (s6 _ _ hgn5a)), rfl, _, rfl, ?_⟩
  have eq : V.int st'.next = V.int (((og5.map V.ref).length : Nat) : Int) := by rw [el5, hnext]
  refine iteNS eq ?_
  refine k κ1 H6 _ _ AR W6 fun i => ?_
  show (at1 U.r (1 - j) _ i).length ≤ _
  by_cases q : i = 1 - j
  · rw [q, at1_same]
    exact List.length_filter_le _ _
  · rw [at1_ne q]
    exact Nat.le_refl _
end
end FH
namespace FH
open PySem L2
/-- how all stands in the end -/
structure Ended (L : LE) (U : Wd) : Prop where
  off : ∀ j, j < 2 → (U.p j).off.length = L.many j
  base : ∀ j, j < 2 → (U.p j).base = ((L.many j : Nat) : Int)
  owed : ∀ j, j < 2 → (U.p j).owed = false
  giv : ∀ j, j < 2 → U.g j = (U.p (1 - j)).off
  rds : ∀ j, j < 2 → U.r j = []
  bd : ∀ j, j < 2 → Bd (U.p j)
  now : ∀ j, j < 2 → ∀ s, (U.p j).now = some s → s ≤ 1000000
theorem Bd.sendQuiet {st : PS} {t : Int} (b : Bd st) (h : dueL st t = []) : Bd (sendS st t) := by
  have hs : ∀ n, (sendS st t).sent n = st.sent n := fun n => by
    show (if n ∈ dueL st t then some t else st.sent n) = st.sent n
    rw [h]
    rfl
  have hn : (sendS st t).ns = st.ns := by
    show st.ns + _ = st.ns
    rw [h]
    rfl
  exact ⟨b.w1, b.w8, b.o9, b.b0, b.bo, fun n => by rw [hs, hn]; exact b.sI n, by rw [hn]; exact b.so, fun n e => by rw [hn]; exact b.dI n e, b.n0, b.kI⟩
theorem Ended.due {L : LE} {U : Wd} (h : Ended L U) {j : Nat} (hj : j < 2) (t : Int) : dueL (U.p j) t = [] := dueL_nil (by rw [h.off j hj, h.base j hj]; exact Int.le_refl _)
theorem Ended.send {L : LE} {U : Wd} (h : Ended L U) {j : Nat} (hj : j < 2) : Ended L { U with p := at1 U.p j (sendS (U.p j) 1000000) } := by
  have e : ∀ i, i < 2 → (at1 U.p j (sendS (U.p j) 1000000) i = U.p i) ∨ (i = j ∧ at1 U.p j (sendS (U.p j) 1000000) i = sendS (U.p i) 1000000) := fun i hi => by
    by_cases q : i = j
    · rw [q, at1_same]
      exact .inr ⟨rfl, rfl⟩
    · rw [at1_ne q]
      exact .inl rfl
  have o : ∀ i, i < 2 → (at1 U.p j (sendS (U.p j) 1000000) i).off = (U.p i).off := fun i hi => by
    rcases e i hi with q | ⟨_, q⟩ <;> rw [q] <;> rfl
  constructor
  · intro i hi
    show (at1 U.p j _ i).off.length = _
    rw [o i hi]
    exact h.off i hi
  · intro i hi
    show (at1 U.p j _ i).base = _
    rcases e i hi with q | ⟨_, q⟩ <;> rw [q] <;> exact h.base i hi
  · intro i hi
    show (at1 U.p j _ i).owed = _
    rcases e i hi with q | ⟨_, q⟩ <;> rw [q]
    · exact h.owed i hi
    · rfl
  · intro i hi
    show U.g i = (at1 U.p j _ (1 - i)).off
    rw [o (1 - i) (by omega)]
    exact h.giv i hi
  · exact h.rds
  · intro i hi
    show Bd (at1 U.p j _ i)
    rcases e i hi with q | ⟨_, q⟩ <;> rw [q]
    · exact h.bd i hi
    · exact (h.bd i hi).sendQuiet (h.due hi _)
  · intro i hi s
    show (at1 U.p j _ i).now = some s → _
    rcases e i hi with q | ⟨_, q⟩ <;> rw [q]
    · exact h.now i hi s
    · intro z
      have z : some (1000000 : Int) = some s := z
      rw [← Option.some.inj z]
      exact Int.le_refl _
def tFin (C : Addr) : TS := fun D σ H0 => ∃ (L : LE) (κ : Tags) (U : Wd) (j : Nat) (v10 v11 v12 v13 : Option V), Good L ∧ j < 2 ∧ σ = sg L (some (.int (0 + ((j : Nat) : Int)))) v10 v11 v12 v13 ∧ WAt C L κ H0 U ∧ Ended L U ∧
  ∀ H1 U1, WAt C L κ H1 U1 → Ended L U1 → D.nx (sg L (some (.int (0 + ((j : Nat) : Int)))) v10 v11 v12 v13) H1
section
variable {P : Program} {w : World} {K : PySem.W.Frag} {mg : Str → Option Value} {base : Heap} {f : Addr} {cdv : Value} {A : Around} {outer : List Env} {s : Shared} {H : Hp} {E : XK} {C : Addr}
theorem fin_ok (T : Txt K mg C) (Fc : Facts P w K mg base C) (hr : Room 3 (XL P w K mg base f cdv A outer s H E).A) : L2.PSs (XL P w K mg base f cdv A outer s H E) (forBody lawFin) (tFin C) := by
  obtain ⟨fB, fdB, mbase_number, Gbase_number, bbase_number⟩ := Fc.base_
  obtain ⟨fO, fdO, mopen_numbers, Gopen_numbers, bopen_numbers⟩ := Fc.open_
  obtain ⟨fP, fdP, mpackets, Gpackets, bpackets⟩ := Fc.packets
  have hrbase_number : Room 1 _ := hr.mono (by decide)
  have hropen_numbers : Room 1 _ := hr.mono (by decide)
  have hrpackets : Room 2 _ := hr.mono (by decide)
  have hu64 := hr.units
  refine PSs_imp (pss_cons (ps_if (PW.pt (pw_or (pt_cmpR (op_neD hu64) (pe_ix ix_list (pv 7) (pv 2) (fun _ _ => rfl)) (pe_ix ix_list (pv 6) (pe_op op_sub pe_int (pv 2)) (fun _ _ => rfl)) (nomark _)) (pw_or (pt_cmpR op_ne (pe_callB call_len_seq (by rfl) T.len PySem.boot_len (pa_cons (pe_ix ix_list (pv 6) (pv 2) (fun _ _ => rfl)) pa_nil)) (pe_ix ix_list (pv 5) (pv 2) (fun _ _ => rfl)) (nomark _)) (pw_or1 (pt_cmpR (op_neD hu64) (pe_meth0 (pe_ix ix_list (pv 4) (pv 2) (fun _ _ => rfl)) T.cl mopen_numbers Gopen_numbers hropen_numbers bopen_numbers .nil pass0) (pe_lst pa_nil) (nomark _)))))) (pss_one (ps_ret pe_bl)) pss_nil)
      (pss_one (ps_if (PW.pt (pw_or (pt_cmpR (op_neD hu64) (pe_meth (pe_ix ix_list (pv 4) (pv 2) (fun _ _ => rfl)) T.cl mpackets Gpackets hrpackets bpackets .nil pass0 (pa_cons (pe_op op_pow pe_int pe_int) pa_nil)) (pe_lst pa_nil) (nomark _)) (pw_or1 (pt_cmpR op_ne (pe_meth0 (pe_ix ix_list (pv 4) (pv 2) (fun _ _ => rfl)) T.cl mbase_number Gbase_number hrbase_number bbase_number .nil pass0) (pe_ix ix_list (pv 5) (pv 2) (fun _ _ => rfl)) (nomark _))))) (pss_one (ps_ret pe_bl)) pss_nil))) ?_
  rintro D σ H0 ⟨L, κ, U, j, v10, v11, v12, v13, G, hj, rfl, W, En, k⟩
  have hi : 1 - j < 2 := by omega
  have ej : (1 : Int) - (0 + ((j : Nat) : Int)) = ((1 - j : Nat) : Int) := by omega
  have ap : atI [V.ref (L.p 0), V.ref (L.p 1)] (0 + ((j : Nat) : Int)) = some (.ref (L.p j)) := at2 (f := fun j => .ref (L.p j)) hj (by omega)
  have ao : atI [V.ref (L.o 0), V.ref (L.o 1)] (1 - (0 + ((j : Nat) : Int))) = some (.ref (L.o (1 - j))) := at2 (f := fun j => .ref (L.o j)) hi ej
  have ao' : atI [V.ref (L.o 0), V.ref (L.o 1)] (0 + ((j : Nat) : Int)) = some (.ref (L.o j)) := at2 (f := fun j => .ref (L.o j)) hj (by omega)
  have am : atI [V.int ((L.many 0 : Nat) : Int), V.int ((L.many 1 : Nat) : Int)] (0 + ((j : Nat) : Int)) = some (.int ((L.many j : Nat) : Int)) := at2 (f := fun j => .int ((L.many j : Nat) : Int)) hj (by omega)
  obtain ⟨g, g1, g2⟩ := W.gv
  have ag : atI [V.ref (g 0), V.ref (g 1)] (0 + ((j : Nat) : Int)) = some (.ref (g j)) := at2 (f := fun j => .ref (g j)) hj (by omega)
  obtain ⟨_, og, hg, hgd⟩ := g2 j hj
  obtain ⟨_, oo, ho, hod⟩ := W.of (1 - j) hi
  obtain ⟨_, oj, hoj, hojd⟩ := W.of j hj
  have c0 : 0 < cT j := by unfold cT; omega
  have cj : cT j = 10 ∨ cT j = 20 := by unfold cT; omega
  have dp1 : Dp (XL P w K mg base f cdv A outer s H E).K H0 (.ref (g j)) (dL (U.g j)) := Dp_dats hg hgd
  have dp2 : Dp (XL P w K mg base f cdv A outer s H E).K H0 (.ref (L.o (1 - j))) (dL (U.g j)) := by
    rw [En.giv j hj]
    exact Dp_dats ho hod
  refine ⟨_, rfl, _, rfl, L.gl, _, _, _, rfl, rfl, SqL.of g1.2, ag, _, rfl, _, rfl, _, _, rfl, rfl, L.ol, _, _, _, rfl, rfl, SqL.of W.fix.ol, ao, _, _, dp1, dp2, shaped_dL _, shaped_dL _, _, rfl, ?_⟩
  rw [eqv_dL]
  refine iteF ⟨_, rfl, _, rfl, L.ol, _, _, _, rfl, rfl, SqL.of W.fix.ol, ao', L.o j, _, rfl, .inl (SqL.of hoj), _, rfl, _, rfl, L.ml, _, _, _, rfl, rfl, SqL.of W.fix.ml, am, rfl, _, rfl, ?_⟩
  have e1 : V.int (((oj.map V.ref).length : Nat) : Int) = V.int ((L.many j : Nat) : Int) := by rw [List.length_map, hojd.1, En.off j hj]
  refine iteNS e1 ?_
  have hp := W.pe j hj
  refine ⟨_, rfl, _, rfl, L.pl, _, _, _, rfl, rfl, SqL.of W.fix.pl, ap, L.p j, _, _, rfl, hp.ins, f_no (by decide +kernel), κ, cT j, L.p j, L.a j, U.p j, rfl, hp, En.bd j hj, fun l H1 x1 l0 hl => ⟨Nat.zero_le _, fun q hq => ?_⟩⟩
  have op : openL (U.p j) = [] := by
    unfold openL rangeI
    rw [En.base j hj, En.off j hj]
    rw [show (((L.many j : Nat) : Int) - ((L.many j : Nat) : Int)).toNat = 0 by omega]
    rfl
  rw [op] at hl
  have nlq : l ≠ q := ne_of_none hl hq
  have x2 : Ex T0 κ H1 (upd H1 q (.lst [])) := Ex.new hq
  have W2 := W.ex0 (x1.trans x2)
  have dq1 : Dp (XL P w K mg base f cdv A outer s H E).K (upd H1 q (.lst [])) (.ref l) (dL []) := Dp_nil ((upd_ne nlq).trans hl)
  have dq2 : Dp (XL P w K mg base f cdv A outer s H E).K (upd H1 q (.lst [])) (.ref q) (dL []) := Dp_nil upd_same
  refine ⟨_, _, dq1, dq2, shaped_dL _, shaped_dL _, _, rfl, ?_⟩
  rw [eqv_dL]
  refine iteF ?_
  generalize upd H1 q (.lst []) = H2 at *
  have hp2 := W2.pe j hj
  have p6 : (10 : Int) ^ (6 : Int).toNat = 1000000 := by decide
  have bq := (En.bd j hj).sendQuiet (En.due hj 1000000)
  refine ⟨_, rfl, _, rfl, L.pl, _, _, _, rfl, rfl, SqL.of W2.fix.pl, ap, L.p j, _, _, rfl, hp2.ins, f_no (by decide +kernel), _, _, rfl, rfl, ⟨by decide, by decide, by decide⟩, κ, cT j, L.p j, L.a j, U.p j, _, rfl, hp2, W2.tg, c0, En.bd j hj, by rw [p6]; exact bq, by rw [p6]; exact En.now j hj, fun H3 lq qs pks st' hS e3 hp3 lq0 hlq hqs => ⟨Nat.zero_le _, fun q3 hq3 => ?_⟩⟩
  rw [p6] at hS
  have pk0 : pks = [] := by
    have hm := hS.msgs
    have : heads (U.p j) 1000000 = [] := by
      unfold heads
      rw [if_pos (En.due hj _), En.owed j hj]
      rfl
    rw [this] at hm
    exact List.map_eq_nil_iff.mp hm
  have qs0 : qs = [] := by
    have := hqs.1
    rw [pk0] at this
    exact List.length_eq_zero_iff.mp this
  rw [qs0] at hlq
  have tp : ∀ n, (n < 10 ∨ 25 ≤ n) → ¬ Tp (cT j) n := fun n hn z => by
    have := z.1
    have := z.2
    omega
  have W3 : WAt C L κ H3 { U with p := at1 U.p j (sendS (U.p j) 1000000) } := by
    obtain ⟨g, g1, g2⟩ := W2.gv
    obtain ⟨r, r1, r2⟩ := W2.rd
    refine ⟨W2.fix.ex (tp 0 (by omega)) e3, fun i hi => ?_, fun i hi => ?_, ⟨g, g1.ex (tp _ (by omega)) e3, fun i hi => (g2 i hi).ex (tp 0 (by omega)) (tp 0 (by omega)) e3⟩, ⟨r, r1.ex (tp _ (by omega)) e3, fun i hi => (r2 i hi).ex (tp 0 (by omega)) (tp _ (by omega)) e3⟩, e3.tg W2.tg⟩
    · show PeerAt C κ H3 (cT i) (L.p i) (L.a i) (at1 U.p j _ i)
      rcases two hj hi with rfl | ⟨rfl, h1, h2, h3⟩
      · rw [at1_same, ← hS.eq]
        exact hp3
      · rw [at1_ne h1]
        refine (W2.pe _ hi).ex (tp 0 (by omega)) (fun i5 hi5 z => ?_) e3
        unfold Tp cT at z
        omega
    · show WDat κ H3 (40 + i) (L.o i) (at1 U.p j _ i).off
      have : (at1 U.p j (sendS (U.p j) 1000000) i).off = (U.p i).off := by
        rcases two hj hi with rfl | ⟨rfl, h1, h2, h3⟩
        · rw [at1_same]
          rfl
        · rw [at1_ne h1]
      rw [this]
      exact (W2.of i hi).ex (tp 0 (by omega)) (tp _ (by omega)) e3
  have nl3 : lq ≠ q3 := ne_of_none hlq hq3
  have x4 : Ex T0 κ H3 (upd H3 q3 (.lst [])) := Ex.new hq3
  have W4 := W3.ex0 x4
  have dr1 : Dp (XL P w K mg base f cdv A outer s H E).K (upd H3 q3 (.lst [])) (.ref lq) (dL []) := Dp_nil ((upd_ne nl3).trans hlq)
  have dr2 : Dp (XL P w K mg base f cdv A outer s H E).K (upd H3 q3 (.lst [])) (.ref q3) (dL []) := Dp_nil upd_same
  refine ⟨_, _, dr1, dr2, shaped_dL _, shaped_dL _, _, rfl, ?_⟩
  rw [eqv_dL]
  generalize upd H3 q3 (.lst []) = H4 at *
  have hp4 : PeerAt C κ H4 (cT j) (L.p j) (L.a j) (sendS (U.p j) 1000000) := by
    have h : PeerAt C κ H4 (cT j) (L.p j) (L.a j) (at1 U.p j _ j) := W4.pe j hj
    rw [at1_same] at h
    exact h
  refine iteF ⟨_, rfl, _, rfl, L.pl, _, _, _, rfl, rfl, SqL.of W4.fix.pl, ap, L.p j, _, _, rfl, hp4.ins, f_no (by decide +kernel), κ, cT j, L.p j, L.a j, _, rfl, hp4, _, rfl, _, rfl, L.ml, _, _, _, rfl, rfl, SqL.of W4.fix.ml, am, rfl, _, rfl, ?_⟩
  have e5 : V.int (sendS (U.p j) 1000000).base = V.int ((L.many j : Nat) : Int) := congrArg V.int (En.base j hj)
  refine iteNS e5 ?_
  exact k H4 _ W4 (En.send hj)
end
end FH
namespace FH
open PySem L2
def w0 (L : LE) : Wd := ⟨fun j => fresh0 (L.Ws j) (L.Ts j), fun _ => [], fun _ => []⟩
/-- within a tick: the peers below j have offered and sent; have received -/
def P1 (rough : Nat) (many : Nat → Nat) (t : Nat) (U0 : Wd) : Nat → Wd → Prop
  | 0, U => U = U0
  | j + 1, U => ∃ U1 U2, P1 rough many t U0 j U1 ∧ OffR rough many t j U1 U2 ∧ SndR rough t j U2 U
def P2 (t : Nat) (U0 : Wd) : Nat → Wd → Prop
  | 0, U => U = U0
  | j + 1, U => ∃ U1, P2 t U0 j U1 ∧ ArrR t j U1 U
theorem P1.si {rough : Nat} {many : Nat → Nat} {Ws Ts : Nat → Int} {t : Nat} {U0 : Wd} (I : SI many Ws Ts ((t : Nat) : Int) U0) : ∀ {j : Nat} {U : Wd}, j ≤ 2 → P1 rough many t U0 j U → SI many Ws Ts ((t : Nat) : Int) U
  | 0, U, _, h => by
    have h : U = U0 := h
    rw [h]
    exact I
  | j + 1, U, hj, h => by
    obtain ⟨U1, U2, h1, h2, h3⟩ := h
    exact ((P1.si I (by omega) h1).off (by omega) h2).snd (by omega) h3
theorem P2.si {many : Nat → Nat} {Ws Ts : Nat → Int} {t : Nat} {U0 : Wd} (I : SI many Ws Ts ((t : Nat) : Int) U0) : ∀ {j : Nat} {U : Wd}, j ≤ 2 → P2 t U0 j U → SI many Ws Ts ((t : Nat) : Int) U
  | 0, U, _, h => by
    have h : U = U0 := h
    rw [h]
    exact I
  | j + 1, U, hj, h => by
    obtain ⟨U1, h1, h2⟩ := h
    exact (P2.si I (by omega) h1).arr (by omega) h2
theorem tick_of {rough : Nat} {many : Nat → Nat} {t : Nat} {U0 U1 U2 : Wd} (h1 : P1 rough many t U0 2 U1) (h2 : P2 t U1 2 U2) : Tick rough many t U0 U2 := by
  obtain ⟨A, B, ⟨A', B', e, o1, s1⟩, o2, s2⟩ := h1
  obtain ⟨Cc, ⟨Dd, e2, a1⟩, a2⟩ := h2
  have e : A' = U0 := e
  have e2 : Dd = U1 := e2
  subst e e2
  exact ⟨_, _, _, _, _, o1, s1, o2, s2, a1, a2⟩
def tLoop (C : Addr) : TS := fun D σ H0 => ∃ (L : LE) (κ : Tags) (v2 : Option V), Good L ∧ σ = sg L v2 none none none none ∧ WAt C L κ H0 (w0 L) ∧ ∀ H', D.rt (.bl true) H'
section
variable {P : Program} {w : World} {K : PySem.W.Frag} {mg : Str → Option Value} {base : Heap} {fL : Addr} {cdv : Value} {A : Around} {outer : List Env} {s : Shared} {H : Hp} {E : XK} {C : Addr}
theorem loop_ok (T : Txt K mg C) (Fc : Facts P w K mg base C) (hr : Room 3 (XL P w K mg base fL cdv A outer s H E).A) : PSs (XL P w K mg base fL cdv A outer s H E) ((defBody sLaw).drop 8) (tLoop C) := by
  have hu64 := hr.units
  refine PSs_imp (pss_cons (ps_for PassesOwn.never rfl (pi_range1 (by rfl) T.range (pa_cons (pe_op op_add (pv 9) pe_int) pa_nil)) (pg_name (i := 10) scLaw.nd rfl (Or.inl rfl)) (pss_cons (ps_set (i := 11) scLaw.nd rfl (Or.inr rfl) (pe_op op_add pe_int (pe_op op_mul pe_int (pv 10))))
      (pss_cons (ps_for PassesOwn.never rfl (pi_range1 (by rfl) T.range (pa_cons pe_int pa_nil)) (pg_name (i := 2) scLaw.nd rfl (Or.inl rfl)) (pss_cons (off_ok T Fc hr) (pss_one (snd_ok T Fc hr))))
      (pss_one (ps_for PassesOwn.never rfl (pi_range1 (by rfl) T.range (pa_cons pe_int pa_nil)) (pg_name (i := 2) scLaw.nd rfl (Or.inl rfl)) (arr_ok T Fc hr))))))
    (pss_cons (ps_for PassesOwn.never rfl (pi_range1 (by rfl) T.range (pa_cons pe_int pa_nil)) (pg_name (i := 2) scLaw.nd rfl (Or.inl rfl)) (fin_ok T Fc hr))
      (pss_one (ps_ret (pe_cmpR (op_eqD hu64) (pv 8) (pe_lst (pa_cons (pe_lst pa_nil) (pa_cons (pe_lst pa_nil) pa_nil))) (nomark _)))))) ?_
  rintro D σ H0 ⟨L, κ, v2, G, rfl, W, k⟩
  have hR := G.rough
  refine ⟨_, rfl, _, _, rfl, rfl, _, rfl, by omega, by omega, for_range (fun i σ H' => ∃ (κ : Tags) (v2 v10 v11 v12 v13 : Option V) (f : Nat → Wd), σ = sg L v2 v10 v11 v12 v13 ∧ WAt C L κ H' (f i) ∧ f 0 = w0 L ∧ (∀ t, t < i → Tick L.rough L.many t (f t) (f (t + 1))) ∧ ∀ j, j < 2 → ((f i).r j).length ≤ 18 * i) ?_ ?_ ?_⟩
  · exact ⟨κ, v2, none, none, none, none, fun _ => w0 L, rfl, W, rfl, fun t h => by omega, fun j _ => Nat.zero_le _⟩
  · rintro i σ H1 hi ⟨κ1, v2, v10, v11, v12, v13, f, rfl, W1, f0, ft, fl⟩
    have hi : i < (((L.rough : Nat) : Int) + 160).toNat := hi
    have hi : i < 185 := by omega
    have F : Traj L.rough L.many L.Ws L.Ts i f := ⟨f0, ft, fun j hj => (G.ws j hj).1, G.ts⟩
    have I0 := F.si i (Nat.le_refl _)
    refine ⟨_, rfl, _, _, rfl, rfl, .inl ⟨by decide, by decide⟩, _, _, rfl, rfl, ?_⟩
    refine ⟨_, rfl, by decide, by decide, for_range (fun j σ H' => ∃ (κ : Tags) (v2 v12 v13 : Option V) (U : Wd), σ = sg L v2 (some (.int (0 + ((i : Nat) : Int)))) (some (.int (20 + 60 * (0 + ((i : Nat) : Int))))) v12 v13 ∧ WAt C L κ H' U ∧ P1 L.rough L.many i (f i) j U ∧ ∀ j', j' < 2 → (U.r j').length ≤ 18 * i + if j' < j then 18 else 0) ?_ ?_ ?_⟩
    · exact ⟨κ1, v2, v12, v13, f i, rfl, W1, rfl, fun j' hj' => by have := fl j' hj'; omega⟩
    · rintro j σ H2 hj ⟨κ2, v2, v12, v13, U, rfl, W2, hP, hl⟩
      have hj : j < 2 := hj
      have I2 := P1.si I0 (by omega) hP
      refine ⟨L, κ2, U, j, i, _, v12, v13, G, hj, rfl, W2, fun j hj => by have := I2.offs j hj; have := G.many j hj; omega, fun H3 U3 v12' hO W3 => ?_⟩
      have I3 := I2.off hj hO
      have r3 : U3.r = U.r := by
        rcases hO with ⟨rfl, _⟩ | ⟨d, _, rfl⟩ <;> rfl
      have hlj := hl j hj
      rw [if_neg (by omega)] at hlj
      refine ⟨L, κ2, U3, j, i, _, v12', v13, G, hj, rfl, W3, I3, by rw [r3]; omega, fun H4 U4 hS W4 hn ho => ?_⟩
      refine ⟨κ2, _, v12', v13, U4, rfl, W4, ⟨U, U3, hP, hO, hS⟩, fun j' hj' => ?_⟩
      by_cases q : j' = j
      · subst q
        rw [if_pos (by omega)]
        rw [r3] at hn
        omega
      · rw [ho j' q, r3]
        have := hl j' hj'
        by_cases q2 : j' < j
        · rw [if_pos q2] at this
          rw [if_pos (by omega)]
          exact this
        · rw [if_neg q2] at this
          omega
    · rintro σ H2 ⟨κ2, v2, v12, v13, U, rfl, W2, hP, hl⟩
      have hP : P1 L.rough L.many i (f i) 2 U := hP
      have I2 := P1.si I0 (by omega) hP
      have hl : ∀ j', j' < 2 → (U.r j').length ≤ 18 * i + 18 := fun j' hj' => by
        have := hl j' hj'
        rw [if_pos (show j' < (2 : Int).toNat from hj')] at this
        exact this
      refine ⟨_, rfl, by decide, by decide, for_range (fun j σ H' => ∃ (κ : Tags) (v2 v12 v13 : Option V) (U' : Wd), σ = sg L v2 (some (.int (0 + ((i : Nat) : Int)))) (some (.int (20 + 60 * (0 + ((i : Nat) : Int))))) v12 v13 ∧ WAt C L κ H' U' ∧ P2 i U j U' ∧ ∀ j', j' < 2 → (U'.r j').length ≤ 18 * i + 18) ?_ ?_ ?_⟩
      · exact ⟨κ2, v2, v12, v13, U, rfl, W2, rfl, hl⟩
      · rintro j σ H3 hj ⟨κ3, v2, v12, v13, U3, rfl, W3, hP2, hl3⟩
        have hj : j < 2 := hj
        have I3 := P2.si I2 (by omega) hP2
        refine ⟨L, κ3, U3, j, i, _, v12, v13, G, hj, rfl, W3, I3, fun j' hj' => by have := hl3 j' hj'; omega, fun κ4 H4 U4 v13' hA W4 hn => ?_⟩
        exact ⟨κ4, _, v12, v13', U4, rfl, W4, ⟨U3, hP2, hA⟩, fun j' hj' => by have := hl3 j' hj'; have := hn j'; omega⟩
      · rintro σ H3 ⟨κ3, v2, v12, v13, U3, rfl, W3, hP2, hl3⟩
        have hP2 : P2 i U 2 U3 := hP2
        have tk := tick_of hP hP2
        refine ⟨κ3, v2, _, _, v12, v13, fun t => if t ≤ i then f t else U3, rfl, ?_, ?_, fun t ht => ?_, fun j hj => ?_⟩
        · show WAt C L κ3 H3 (if i + 1 ≤ i then f (i + 1) else U3)
          rw [if_neg (by omega)]
          exact W3
        · show (if 0 ≤ i then f 0 else U3) = _
          rw [if_pos (by omega)]
          exact f0
        · show Tick L.rough L.many t (if t ≤ i then f t else U3) (if t + 1 ≤ i then f (t + 1) else U3)
          rw [if_pos (by omega)]
          by_cases q : t = i
          · rw [if_neg (by omega), q]
            exact tk
          · rw [if_pos (by omega)]
            exact ft t (by omega)
        · show ((if i + 1 ≤ i then f (i + 1) else U3).r j).length ≤ 18 * (i + 1)
          rw [if_neg (by omega)]
          have := hl3 j hj
          omega
  · rintro σ H1 ⟨κ1, v2, v10, v11, v12, v13, f, rfl, W1, f0, ft, fl⟩
    have en : (((L.rough : Nat) : Int) + 160).toNat = L.rough + 160 := by omega
    rw [en] at W1 ft
    have F : Traj L.rough L.many L.Ws L.Ts (L.rough + 160) f := ⟨f0, ft, fun j hj => (G.ws j hj).1, G.ts⟩
    have I0 := F.si _ (Nat.le_refl _)
    have fin := fun j hj => F.final (j := j) G.many hj
    have En : Ended L (f (L.rough + 160)) := by
      refine ⟨fun j hj => (fin j hj).1, fun j hj => (fin j hj).2.1, fun j hj => (fin j hj).2.2.1, fun j hj => ?_, fun j hj => (fin j hj).2.2.2.2, fun j hj => I0.bd hj (G.ws j hj).2 G.many, fun j hj s e => ?_⟩
      · have := (fin (1 - j) (by omega)).2.2.2.1
        rw [show 1 - (1 - j) = j by omega] at this
        exact this
      · have := I0.now j hj s e
        omega
    refine ⟨_, rfl, by decide, by decide, for_range (fun j σ H' => ∃ (v2 : Option V) (U : Wd), σ = sg L v2 v10 v11 v12 v13 ∧ WAt C L κ1 H' U ∧ Ended L U) ?_ ?_ ?_⟩
    · exact ⟨v2, _, rfl, W1, En⟩
    · rintro j σ H2 hj ⟨v2, U, rfl, W2, En2⟩
      have hj : j < 2 := hj
      exact ⟨L, κ1, U, j, v10, v11, v12, v13, G, hj, rfl, W2, En2, fun H3 U3 W3 En3 => ⟨_, U3, rfl, W3, En3⟩⟩
    · rintro σ H2 ⟨v2, U, rfl, W2, En2⟩
      obtain ⟨r, r1, r2⟩ := W2.rd
      obtain ⟨_, rs0, hr0, ha0⟩ := r2 0 (by decide)
      obtain ⟨_, rs1, hr1, ha1⟩ := r2 1 (by decide)
      rw [En2.rds 0 (by decide)] at ha0
      rw [En2.rds 1 (by decide)] at ha1
      have z0 : rs0 = [] := List.length_eq_zero_iff.mp ha0.1
      have z1 : rs1 = [] := List.length_eq_zero_iff.mp ha1.1
      rw [z0] at hr0
      rw [z1] at hr1
      refine ⟨_, rfl, Nat.zero_le _, fun a ha => ?_⟩
      obtain ⟨H3, e3, h3, s3⟩ := new2 H2 a (.lst []) ha
      rw [e3]
      refine ⟨Nat.zero_le _, fun b hb => ?_⟩
      obtain ⟨H4, e4, h4, s4⟩ := new2 H3 b (.lst []) hb
      rw [e4]
      refine ⟨by show 2 ≤ sizeLine; decide, fun c hc => ?_⟩
      obtain ⟨H5, e5, h5, s5⟩ := new2 H4 c (.lst [.ref a, .ref b]) hc
      rw [e5]
      have s25 := (s3.trans s4).trans s5
      have nil : ∀ {x : Addr}, H5 x = some (.lst []) → Dp (XL P w K mg base fL cdv A outer s H E).K H5 (.ref x) (dI []) := fun {x} h => .lst (SqL.of h) .nil
      refine ⟨dL [[], []], dL [[], []], .lst (SqL.of (s25 _ _ r1.2)) (.cons (nil (s25 _ _ hr0)) (.cons (nil (s25 _ _ hr1)) .nil)), .lst (SqL.of h5) (.cons (nil (s5 _ _ (s4 _ _ h3))) (.cons (nil (s5 _ _ h4)) .nil)), shaped_dL _, shaped_dL _, ?_⟩
      rw [eqv_dL]
      exact k H5
end
end FH
namespace FH
open PySem L2
/-- what stood with a tag below 60 stands -/
structure Stp (C : Addr) (κ : Tags) (H : Hp) (κ' : Tags) (H' : Hp) : Prop where
  ka : ∀ a t o, t < 60 → κ a = t → H a = some o → κ' a = t ∧ H' a = some o
  pe : ∀ c p a st, c + 5 ≤ 60 → PeerAt C κ H c p a st → PeerAt C κ' H' c p a st
  tg : Tg κ H → Tg κ' H'
section
variable {C : Addr} {κ κ' κ2 : Tags} {H H' H2 : Hp} {x : Addr} {o : HO} {t : Nat}
theorem Stp.refl : Stp C κ H κ H := ⟨fun _ _ _ _ h1 h2 => ⟨h1, h2⟩, fun _ _ _ _ _ h => h, fun h => h⟩
theorem Stp.trans (a : Stp C κ H κ' H') (b : Stp C κ' H' κ2 H2) : Stp C κ H κ2 H2 := ⟨fun y t o ht h1 h2 => by
  obtain ⟨q1, q2⟩ := a.ka y t o ht h1 h2
  exact b.ka y t o ht q1 q2, fun c p y st hc h => b.pe c p y st hc (a.pe c p y st hc h), fun h => b.tg (a.tg h)⟩
theorem Stp.ex0 (e : Ex T0 κ H H') : Stp C κ H κ H' := ⟨fun y t o ht h1 h2 => ⟨h1, e.kp _ _ h2 (fun z => z)⟩, fun c p y st hc h => h.ex0 e, e.tg⟩
theorem Stp.same (e : ∀ b, H b ≠ none → κ' b = κ b) (tg : Tg κ H → Tg κ' H) : Stp C κ H κ' H := ⟨fun y t o ht h1 h2 => ⟨(e y (by rw [h2]; simp)).trans h1, h2⟩, fun c p y st hc h => h.retag fun b z _ => e b z, tg⟩
theorem Stp.new (hx : H x = none) : Stp C κ H (ktag κ x t) (upd H x o) := by
  refine ⟨fun y t o ht h1 h2 => ⟨(ktag_old hx (by rw [h2]; simp)).trans h1, by rw [upd_ne (ne_of_none h2 hx)]; exact h2⟩, fun c p y st hc h => (h.retag fun b hb _ => ktag_old hx hb).ex0 (Ex.new hx), fun tg b hb => ?_⟩
  by_cases q : b = x
  · rw [q, upd_same]; simp
  · rw [ktag_ne q] at hb
    rw [upd_ne q]
    exact tg b hb
theorem Stp.put60 (hx : κ x = 60) : Stp C κ H κ (upd H x o) := by
  have e : Ex (fun n => n = 60) κ H (upd H x o) := Ex.put hx
  exact ⟨fun y t o ht h1 h2 => ⟨h1, e.kp _ _ h2 (by omega)⟩, fun c p y st hc h => h.ex (by omega) (fun i hi => by omega) e, e.tg⟩
theorem Stp.untag (hx : κ x = 60) : Stp C κ H (ktag κ x 0) H := by
  refine ⟨fun y t o ht h1 h2 => ⟨(ktag_ne fun z => by rw [z, hx] at h1; omega).trans h1, h2⟩, fun c p y st hc h => h.retag fun b _ hb => ktag_ne fun z => ?_, fun tg b hb => ?_⟩
  · rw [z, hx] at hb
    rcases hb with hb | hb
    · omega
    · have := hb.2
      omega
  · by_cases q : b = x
    · rw [q, ktag_same] at hb
      exact absurd rfl hb
    · rw [ktag_ne q] at hb
      exact tg b hb
end
theorem new_at (κ : Tags) {H : Hp} {x : Addr} {t : Nat} {o : HO} (_ : H x = none) : ktag κ x t x = t ∧ (upd H x o) x = some o := ⟨ktag_same, upd_same⟩
/-- a peer is made -/
theorem made {C : Addr} {κ : Tags} {H H3 : Hp} {x dx : Addr} {a : PA} {W T : Int} {c : Nat} (tg : Tg κ H) (nx : H x = none) (ndx : H dx = none)
    (l1 : (upd (upd H dx (.own x)) x (.ins C dx [])) a.lo = none) (l2 : (upd (upd H dx (.own x)) x (.ins C dx [])) a.ls = none) (l3 : (upd (upd H dx (.own x)) x (.ins C dx [])) a.ld = none) (l4 : (upd (upd H dx (.own x)) x (.ins C dx [])) a.lk = none)
    (n1 : a.ls ≠ a.ld) (n2 : a.ls ≠ a.lk) (n3 : a.ld ≠ a.lk) (keep : ∀ b o, (upd (upd H dx (.own x)) x (.ins C dx [])) b = some o → b ≠ x → H3 b = some o)
    (ob : H3 x = some (PObj C a (fresh0 W T))) (hlo : H3 a.lo = some (.lst [])) (hls : H3 a.ls = some (.dK [])) (hld : H3 a.ld = some (.dK [])) (hlk : H3 a.lk = some (.dK [])) :
    ∃ κ' : Tags, Stp C κ H κ' H3 ∧ PeerAt C κ' H3 c x a (fresh0 W T) ∧ (∀ b, H b ≠ none → κ' b = κ b) ∧ Same H H3 := by
  have un : ∀ {b : Addr}, (upd (upd H dx (.own x)) x (.ins C dx [])) b = none → b ≠ x ∧ H b = none := fun {b} h => by
    have b1 : b ≠ x := fun z => by rw [z, upd_same] at h; cases h
    rw [upd_ne b1] at h
    have b2 : b ≠ dx := fun z => by rw [z, upd_same] at h; cases h
    rw [upd_ne b2] at h
    exact ⟨b1, h⟩
  obtain ⟨x1, y1⟩ := un l1
  obtain ⟨x2, y2⟩ := un l2
  obtain ⟨x3, y3⟩ := un l3
  obtain ⟨x4, y4⟩ := un l4
  have m1 : a.lo ≠ a.ls := ne_of hlo hls (by intro z; cases z)
  have m2 : a.lo ≠ a.ld := ne_of hlo hld (by intro z; cases z)
  have m3 : a.lo ≠ a.lk := ne_of hlo hlk (by intro z; cases z)
  have same : Same H H3 := fun b o h => keep b o (by rw [upd_ne (ne_of_none h nx), upd_ne (ne_of_none h ndx)]; exact h) (ne_of_none h nx)
  let κ' := ktag (ktag (ktag (ktag (ktag κ x c) a.lo (c + 1)) a.ls (c + 2)) a.ld (c + 3)) a.lk (c + 4)
  have old : ∀ b, H b ≠ none → κ' b = κ b := fun b hb => by
    show ktag (ktag (ktag (ktag (ktag κ x c) a.lo (c + 1)) a.ls (c + 2)) a.ld (c + 3)) a.lk (c + 4) b = κ b
    rw [ktag_old y4 hb, ktag_old y3 hb, ktag_old y2 hb, ktag_old y1 hb, ktag_old nx hb]
  have e0 : Ex T0 κ' H H3 := Ex.of_same same
  refine ⟨κ', ⟨fun y t o ht h1 h2 => ⟨(old y (by rw [h2]; simp)).trans h1, same _ _ h2⟩, fun c2 p y st hc h => (h.retag fun b hb _ => old b hb).ex0 e0, fun _ b hb => ?_⟩, ⟨?_, ?_, ?_, ?_, ?_, ob, ⟨[], hlo, DatsAt.nil⟩, DictI.nil hls, ⟨0, ?_⟩, ⟨fun _ => none, 0, DictI.nil hlk, fun _ => trivial⟩⟩, old, same⟩
  · by_cases q1 : b = x
    · rw [q1, ob]; simp
    by_cases q2 : b = a.lo
    · rw [q2, hlo]; simp
    by_cases q3 : b = a.ls
    · rw [q3, hls]; simp
    by_cases q4 : b = a.ld
    · rw [q4, hld]; simp
    by_cases q5 : b = a.lk
    · rw [q5, hlk]; simp
    have : κ' b = κ b := by
      show ktag (ktag (ktag (ktag (ktag κ x c) a.lo (c + 1)) a.ls (c + 2)) a.ld (c + 3)) a.lk (c + 4) b = κ b
      rw [ktag_ne q5, ktag_ne q4, ktag_ne q3, ktag_ne q2, ktag_ne q1]
    rw [this] at hb
    exact e0.lv b (tg b hb)
  · show ktag (ktag (ktag (ktag (ktag κ x c) a.lo (c + 1)) a.ls (c + 2)) a.ld (c + 3)) a.lk (c + 4) x = c
    rw [ktag_ne x4.symm, ktag_ne x3.symm, ktag_ne x2.symm, ktag_ne x1.symm, ktag_same]
  · show ktag (ktag (ktag (ktag (ktag κ x c) a.lo (c + 1)) a.ls (c + 2)) a.ld (c + 3)) a.lk (c + 4) a.lo = c + 1
    rw [ktag_ne m3, ktag_ne m2, ktag_ne m1, ktag_same]
  · show ktag (ktag (ktag (ktag (ktag κ x c) a.lo (c + 1)) a.ls (c + 2)) a.ld (c + 3)) a.lk (c + 4) a.ls = c + 2
    rw [ktag_ne n2, ktag_ne n1, ktag_same]
  · show ktag (ktag (ktag (ktag (ktag κ x c) a.lo (c + 1)) a.ls (c + 2)) a.ld (c + 3)) a.lk (c + 4) a.ld = c + 3
    rw [ktag_ne n3, ktag_same]
  · exact ktag_same
  · have : (fun k => if (fresh0 W T).done k = true then some (V.bl true) else none) = fun _ => none := by
      funext k
      exact if_neg (show ¬ (false = true) by decide)
    rw [this]
    exact DictI.nil hld
def spLaw (K : PySem.W.Frag) : Sp := fun vs H Q _ => ∃ (a : Addr) (ns : List Int), vs = [.ref a] ∧ SqL K H a (ns.map V.int) ∧ ns.length ≤ 63 ∧ ∀ H', Q (.bl true) H'
theorem len2 {α : Type} : ∀ {l : List α}, l.length = 2 → ∃ a b, l = [a, b]
  | [a, b], _ => ⟨a, b, rfl⟩
def two2 {α : Type} (a b : α) : Nat → α := fun j => if j = 0 then a else b
section
variable {P : Program} {w : World} {K : PySem.W.Frag} {mg : Str → Option Value} {base : Heap}
theorem ok_law {f C : Addr} {fd : FuncData} (F : Fun K "law" "law" sLaw f fd) (T : Txt K mg C) (Fc : Facts P w K mg base C) : FnOk P w K mg base CX0 4 f fd ["_law_script"] (spLaw K) := by
  refine F.ok scLaw (fun vs H Q E h => ?_) (fun cdv A outer s H vs Q E hr h => ?_)
  · obtain ⟨a, ns, rfl, _⟩ := h
    rfl
  · obtain ⟨as, ns, rfl, hS, hlen, k⟩ := h
    obtain ⟨fD, fdD, mg_law_draws, k_law_draws, G_law_draws, b_law_draws⟩ := Fc.draws
    obtain ⟨fM, fdM, mg_law_mix, k_law_mix, G_law_mix, b_law_mix⟩ := Fc.mix
    obtain ⟨fI, fdI, MPeer, GPeer, bPeer⟩ := Fc.init
    have hr_law_draws : Room 1 _ := hr.mono (by decide)
    have hr_law_mix : Room 1 _ := hr.mono (by decide)
    have hrPeer : Room 2 _ := hr.mono (by decide)
    refine ⟨_, (pss_cons (ps_set (i := 1) scLaw.nd rfl (Or.inr rfl) (pe_call G_law_draws hr_law_draws (by rfl) mg_law_draws k_law_draws b_law_draws .nil pass0 (pa_cons (pv 0) pa_nil)))
      (pss_cons (ps_set (i := 3) scLaw.nd rfl (Or.inr rfl) (pe_lc (own := [("_law_j", 2)]) (g := gName 2) (tt := tYes) rfl scLaw.nd (pi_range1 (by rfl) T.range (pa_cons pe_int pa_nil)) (blkOk_by (own := [("_law_j", 2)]) (N := NscLaw) (sc := defScope sLaw) (by decide +kernel)) (fun _ _ _ _ _ => pg_name (i := 2) scLaw.nd rfl (Or.inl rfl)) (fun _ _ _ _ _ => pts_nil) (fun _ _ _ _ _ => (pe_op op_add pe_int (pe_call G_law_mix hr_law_mix (by rfl) mg_law_mix k_law_mix b_law_mix .nil pass0 (pa_cons (pv 1) (pa_cons (pv 2) (pa_cons pe_int pa_nil))))))))
      (pss_cons (ps_setLc (i := 4) (own := [("_law_j", 2)]) (g := gName 2) (tt := tYes) rfl scLaw.nd rfl rfl (sw_true rfl rfl rfl (by decide +kernel)) (pi_range1 (by rfl) T.range (pa_cons pe_int pa_nil)) (blkOk_by (own := [("_law_j", 2)]) (N := NscLaw) (sc := defScope sLaw) (by decide +kernel)) (fun _ _ _ _ _ => pg_name (i := 2) scLaw.nd rfl (Or.inl rfl)) (fun _ _ _ _ _ => pts_nil) (fun _ _ _ _ _ => (pe_make MPeer GPeer hrPeer (by rfl) T.mgC bPeer .nil pass0 (pa_cons (pe_ix (ix_listK (K := K) rfl) (pv 3) (pv 2) (fun _ _ => rfl)) (pa_cons (pe_op op_add pe_int (pe_call G_law_mix hr_law_mix (by rfl) mg_law_mix k_law_mix b_law_mix .nil pass0 (pa_cons (pv 1) (pa_cons (pe_op op_add pe_int (pv 2)) (pa_cons pe_int pa_nil))))) pa_nil)))))
      (pss_cons (ps_setLc (i := 5) (own := [("_law_j", 2)]) (g := gName 2) (tt := tYes) rfl scLaw.nd rfl rfl (sw_true rfl rfl rfl (by decide +kernel)) (pi_range1 (by rfl) T.range (pa_cons pe_int pa_nil)) (blkOk_by (own := [("_law_j", 2)]) (N := NscLaw) (sc := defScope sLaw) (by decide +kernel)) (fun _ _ _ _ _ => pg_name (i := 2) scLaw.nd rfl (Or.inl rfl)) (fun _ _ _ _ _ => pts_nil) (fun _ _ _ _ _ => (pe_call G_law_mix hr_law_mix (by rfl) mg_law_mix k_law_mix b_law_mix .nil pass0 (pa_cons (pv 1) (pa_cons (pe_op op_add pe_int (pv 2)) (pa_cons pe_int pa_nil))))))
      (pss_cons (ps_set (i := 6) scLaw.nd rfl (Or.inl rfl) (pe_lst (pa_cons (pe_lst pa_nil) (pa_cons (pe_lst pa_nil) pa_nil))))
      (pss_cons (ps_set (i := 7) scLaw.nd rfl (Or.inl rfl) (pe_lst (pa_cons (pe_lst pa_nil) (pa_cons (pe_lst pa_nil) pa_nil))))
      (pss_cons (ps_set (i := 8) scLaw.nd rfl (Or.inl rfl) (pe_lst (pa_cons (pe_lst pa_nil) (pa_cons (pe_lst pa_nil) pa_nil))))
      (pss_cons (ps_set (i := 9) scLaw.nd rfl (Or.inl rfl) (pe_call G_law_mix hr_law_mix (by rfl) mg_law_mix k_law_mix b_law_mix .nil pass0 (pa_cons (pv 1) (pa_cons pe_int (pa_cons pe_int pa_nil)))))
      (loop_ok T Fc hr))))))))), ?_⟩
    refine ⟨_, rfl, as, ns, rfl, hS, hlen, fun HA ad ds sA ad0 had => ?_⟩
    let κ0 : Tags := fun _ => 0
    have tg0 : Tg κ0 H := fun b h => absurd rfl h
    have tgA : Tg κ0 HA := fun b h => absurd rfl h
    refine ⟨_, rfl, by decide, by decide, fun wl hwl => lc_range (fun i H' => ∃ ws : List Int, Ex T0 κ0 HA H' ∧ H' wl = some (.lst (ws.map V.int)) ∧ ws.length = i ∧ ∀ x ∈ ws, 1 ≤ x ∧ x ≤ 8) ⟨[], Ex.new hwl, upd_same, rfl, fun _ h => by cases h⟩ ?_ ?_⟩
    · rintro i H' hi ⟨ws, e, hd, hl, h8⟩
      have hi : i < 2 := hi
      refine ⟨rfl, _, rfl, _, rfl, ad, ds, _, 8, rfl, e.kp _ _ had (fun z => z), by decide, fun r r0 r8 => ⟨_, _, rfl, rfl, _, hd, ?_, ws ++ [1 + r], e.over hwl, ?_, ?_, fun x hx => ?_⟩⟩
      · rw [List.length_map, hl]
        exact Nat.lt_of_lt_of_le hi (by decide)
      · rw [upd_same, List.map_append]
        rfl
      · rw [List.length_append, hl]
        rfl
      · rcases List.mem_append.mp hx with h | h
        · exact h8 x h
        · rw [List.mem_singleton.mp h]
          omega
    rintro HB ⟨ws, eB, hwlB, hwsl, hws⟩
    have hwsl : ws.length = 2 := hwsl
    obtain ⟨wa, wb, rfl⟩ := len2 hwsl
    have hadB := eB.kp _ _ had (fun z => z)
    have tgB := eB.tg tgA
    have w1 := hws wa (by simp)
    have w2 := hws wb (by simp)
    -- the peers
    refine ⟨_, rfl, by decide, by decide, fun pl hpl => ?_⟩
    let κ1 := ktag κ0 pl 60
    have k1p : κ1 pl = 60 := ktag_same
    have S1 : Stp C κ0 HB κ1 (upd HB pl (.lst [])) := Stp.new hpl
    refine lc_range (fun i H' => ∃ (κ : Tags) (p : Nat → Addr) (a : Nat → PA) (Ts : Nat → Int), Stp C κ0 HB κ H' ∧ κ pl = 60 ∧ H' pl = some (.lst ((List.range i).map fun j => V.ref (p j))) ∧ ∀ j, j < i → PeerAt C κ H' (cT j) (p j) (a j) (fresh0 (two2 wa wb j) (Ts j)) ∧ 1 ≤ Ts j ∧ Ts j ≤ 5)
      ⟨κ1, fun _ => 0, fun _ => ⟨0, 0, 0, 0, 0⟩, fun _ => 0, S1, k1p, upd_same, fun j hj => by omega⟩ ?_ ?_
    · rintro i H' hi ⟨κ, p, a, Ts, St1, kp, hp, hP⟩
      have hi : i < 2 := hi
      have hadB' := (St1.ka ad 0 _ (by decide) rfl hadB).2
      have hwl' := (St1.ka wl 0 _ (by decide) rfl hwlB).2
      have tg' := St1.tg tgB
      have aw : atI [V.int wa, V.int wb] (0 + ((i : Nat) : Int)) = some (.int (two2 wa wb i)) := at2 (f := fun j => .int (two2 wa wb j)) hi (by omega)
      have wi : 1 ≤ two2 wa wb i ∧ two2 wa wb i ≤ 8 := by
        unfold two2
        split
        · exact w1
        · exact w2
      refine ⟨rfl, _, rfl, _, rfl, wl, _, _, _, rfl, rfl, SqL.of hwl', aw, _, rfl, _, rfl, _, _, rfl, rfl, ad, ds, _, 5, rfl, hadB', by decide, fun r r0 r5 => ⟨_, _, rfl, rfl, fun x dx nx ndx nex => ?_⟩⟩
      refine ⟨x, dx, two2 wa wb i, 1 + r, rfl, upd_same, wi, ⟨by omega, by omega⟩, fun b H3 l1 l2 l3 l4 n1 n2 n3 keep ob hlo hls hld hlk => ⟨rfl, ?_⟩⟩
      obtain ⟨κ', St', hpr, old, same⟩ := made (c := cT i) tg' nx ndx l1 l2 l3 l4 n1 n2 n3 keep ob hlo hls hld hlk
      have hp3 := same _ _ hp
      have kp3 : κ' pl = 60 := (old pl (by rw [hp]; simp)).trans kp
      have S60 : Stp C κ' H3 κ' (upd H3 pl (.lst ((List.range i).map (fun j => V.ref (p j)) ++ [.ref x]))) := Stp.put60 kp3
      have ci : ∀ j, j < 2 → cT j + 5 ≤ 60 := fun j hj => by unfold cT; omega
      refine ⟨_, hp3, ?_, κ', at1 p i x, at1 a i b, at1 Ts i (1 + r), St1.trans (St'.trans S60), kp3, ?_, fun j hj => ?_⟩
      · rw [List.length_map, List.length_range]
        exact Nat.lt_of_lt_of_le hi (by decide)
      · rw [upd_same, List.range_succ, List.map_append]
        congr 2
        congr 1
        · apply List.map_congr_left
          intro j hj
          have := List.mem_range.mp hj
          rw [at1_ne (by omega)]
        · show [V.ref x] = [V.ref (at1 p i x i)]
          rw [at1_same]
      · by_cases q : j = i
        · rw [q, at1_same, at1_same, at1_same]
          exact ⟨S60.pe _ _ _ _ (ci i hi) hpr, by omega, by omega⟩
        · rw [at1_ne q, at1_ne q, at1_ne q]
          obtain ⟨z1, z2⟩ := hP j (by omega)
          exact ⟨S60.pe _ _ _ _ (ci j (by omega)) (St'.pe _ _ _ _ (ci j (by omega)) z1), z2⟩
    rintro HC ⟨κC0, p, a, Ts, St2, kp2, hplC, hP2⟩
    have hplC : HC pl = some (.lst [.ref (p 0), .ref (p 1)]) := hplC
    have hP2 : ∀ j, j < 2 → PeerAt C κC0 HC (cT j) (p j) (a j) (fresh0 (two2 wa wb j) (Ts j)) ∧ 1 ≤ Ts j ∧ Ts j ≤ 5 := hP2
    let κC := ktag κC0 pl 0
    have SU : Stp C κC0 HC κC HC := Stp.untag kp2
    have SC := St2.trans SU
    have kplC : κC pl = 0 := ktag_same
    obtain ⟨kadC, hadC⟩ := SC.ka ad 0 _ (by decide) rfl hadB
    obtain ⟨kwlC, hwlC⟩ := SC.ka wl 0 _ (by decide) rfl hwlB
    have tgC := SC.tg tgB
    have ci : ∀ j, j < 2 → cT j + 5 ≤ 60 := fun j hj => by unfold cT; omega
    have hPC := fun j hj => SU.pe _ _ _ _ (ci j hj) (hP2 j hj).1
    -- how many
    refine ⟨_, rfl, by decide, by decide, fun ml hml => lc_range (fun i H' => ∃ ms : List Nat, Ex T0 κC HC H' ∧ H' ml = some (.lst (ms.map fun n => V.int ((n : Nat) : Int))) ∧ ms.length = i ∧ ∀ x ∈ ms, x ≤ 9) ⟨[], Ex.new hml, upd_same, rfl, fun _ h => by cases h⟩ ?_ ?_⟩
    · rintro i H' hi ⟨ms, e, hd, hl, h9⟩
      have hi : i < 2 := hi
      refine ⟨rfl, _, rfl, _, rfl, _, _, rfl, rfl, ad, ds, _, 10, rfl, e.kp _ _ hadC (fun z => z), by decide, fun r r0 r10 => ⟨_, hd, ?_, ms ++ [r.toNat], e.over hml, ?_, ?_, fun x hx => ?_⟩⟩
      · rw [List.length_map, hl]
        exact Nat.lt_of_lt_of_le hi (by decide)
      · rw [upd_same, List.map_append]
        have : ((r.toNat : Nat) : Int) = r := by omega
        show _ = some (HO.lst (_ ++ [V.int ((r.toNat : Nat) : Int)]))
        rw [this]
      · rw [List.length_append, hl]
        rfl
      · rcases List.mem_append.mp hx with h | h
        · exact h9 x h
        · rw [List.mem_singleton.mp h]
          omega
    rintro HD ⟨ms, eD, hmlD, hmsl, hms⟩
    have hmsl : ms.length = 2 := hmsl
    obtain ⟨ma, mb, rfl⟩ := len2 hmsl
    have tgD := eD.tg tgC
    have kmlD : κC ml = 0 := tgC.free hml
    have SD : Stp C κC HC κC HD := Stp.ex0 eD
    -- offered
    refine ⟨Nat.zero_le _, fun o0 no0 => ⟨Nat.zero_le _, fun o1 no1 => ⟨by show 2 ≤ sizeLine; decide, fun ol nol => ?_⟩⟩⟩
    refine ⟨Nat.zero_le _, fun g0 ng0 => ⟨Nat.zero_le _, fun g1 ng1 => ⟨by show 2 ≤ sizeLine; decide, fun gl ngl => ?_⟩⟩⟩
    refine ⟨Nat.zero_le _, fun r0 nr0 => ⟨Nat.zero_le _, fun r1 nr1 => ⟨by show 2 ≤ sizeLine; decide, fun rl nrl => ?_⟩⟩⟩
    have T1 : Stp C κC HD _ _ := Stp.new (t := 40) (o := .lst []) no0
    have F1 := new_at κC no0 (t := 40) (o := .lst [])
    have T2 := Stp.new (C := C) (κ := ktag κC o0 40) (t := 41) (o := .lst []) no1
    have F2 := new_at (ktag κC o0 40) no1 (t := 41) (o := .lst [])
    have T3 := Stp.new (C := C) (κ := ktag (ktag κC o0 40) o1 41) (t := 0) (o := .lst [.ref o0, .ref o1]) nol
    have F3 := new_at (ktag (ktag κC o0 40) o1 41) nol (t := 0) (o := .lst [.ref o0, .ref o1])
    have T4 := Stp.new (C := C) (κ := ktag (ktag (ktag κC o0 40) o1 41) ol 0) (t := 0) (o := .lst []) ng0
    have F4 := new_at (ktag (ktag (ktag κC o0 40) o1 41) ol 0) ng0 (t := 0) (o := .lst [])
    have T5 := Stp.new (C := C) (κ := ktag (ktag (ktag (ktag κC o0 40) o1 41) ol 0) g0 0) (t := 0) (o := .lst []) ng1
    have F5 := new_at (ktag (ktag (ktag (ktag κC o0 40) o1 41) ol 0) g0 0) ng1 (t := 0) (o := .lst [])
    have T6 := Stp.new (C := C) (κ := ktag (ktag (ktag (ktag (ktag κC o0 40) o1 41) ol 0) g0 0) g1 0) (t := 50) (o := .lst [.ref g0, .ref g1]) ngl
    have F6 := new_at (ktag (ktag (ktag (ktag (ktag κC o0 40) o1 41) ol 0) g0 0) g1 0) ngl (t := 50) (o := .lst [.ref g0, .ref g1])
    have T7 := Stp.new (C := C) (κ := ktag (ktag (ktag (ktag (ktag (ktag κC o0 40) o1 41) ol 0) g0 0) g1 0) gl 50) (t := 30) (o := .lst []) nr0
    have F7 := new_at (ktag (ktag (ktag (ktag (ktag (ktag κC o0 40) o1 41) ol 0) g0 0) g1 0) gl 50) nr0 (t := 30) (o := .lst [])
    have T8 := Stp.new (C := C) (κ := ktag (ktag (ktag (ktag (ktag (ktag (ktag κC o0 40) o1 41) ol 0) g0 0) g1 0) gl 50) r0 30) (t := 31) (o := .lst []) nr1
    have F8 := new_at (ktag (ktag (ktag (ktag (ktag (ktag (ktag κC o0 40) o1 41) ol 0) g0 0) g1 0) gl 50) r0 30) nr1 (t := 31) (o := .lst [])
    have T9 := Stp.new (C := C) (κ := ktag (ktag (ktag (ktag (ktag (ktag (ktag (ktag κC o0 40) o1 41) ol 0) g0 0) g1 0) gl 50) r0 30) r1 31) (t := 51) (o := .lst [.ref r0, .ref r1]) nrl
    have F9 := new_at (ktag (ktag (ktag (ktag (ktag (ktag (ktag (ktag κC o0 40) o1 41) ol 0) g0 0) g1 0) gl 50) r0 30) r1 31) nrl (t := 51) (o := .lst [.ref r0, .ref r1])
    have A8 := T9
    have A7 := T8.trans A8
    have A6 := T7.trans A7
    have A5 := T6.trans A6
    have A4 := T5.trans A5
    have A3 := T4.trans A4
    have A2 := T3.trans A3
    have A1 := T2.trans A2
    have A0 := T1.trans A1
    have AC := SD.trans A0
    have z0 : (0 : Nat) < 60 := by decide
    obtain ⟨f1, f1'⟩ := A1.ka _ _ _ (by decide) F1.1 F1.2
    obtain ⟨f2, f2'⟩ := A2.ka _ _ _ (by decide) F2.1 F2.2
    obtain ⟨f3, f3'⟩ := A3.ka _ _ _ (by decide) F3.1 F3.2
    obtain ⟨f4, f4'⟩ := A4.ka _ _ _ (by decide) F4.1 F4.2
    obtain ⟨f5, f5'⟩ := A5.ka _ _ _ (by decide) F5.1 F5.2
    obtain ⟨f6, f6'⟩ := A6.ka _ _ _ (by decide) F6.1 F6.2
    obtain ⟨f7, f7'⟩ := A7.ka _ _ _ (by decide) F7.1 F7.2
    obtain ⟨f8, f8'⟩ := A8.ka _ _ _ (by decide) F8.1 F8.2
    obtain ⟨f9, f9'⟩ := F9
    obtain ⟨kad, had'⟩ := AC.ka _ _ _ z0 kadC hadC
    obtain ⟨kwl, hwl'⟩ := AC.ka _ _ _ z0 kwlC hwlC
    obtain ⟨kpl, hpl'⟩ := AC.ka _ _ _ z0 kplC hplC
    obtain ⟨kml, hml'⟩ := A0.ka _ _ _ z0 kmlD hmlD
    have tgF := A0.tg tgD
    have hPF := fun j hj => AC.pe _ _ _ _ (ci j hj) (hPC j hj)
    refine ⟨_, rfl, ad, ds, 6, 26, rfl, had', by decide, fun rr rr0 rr26 => ?_⟩
    let L : LE := ⟨as, ad, wl, pl, ml, ol, gl, rl, p, a, two2 o0 o1, ds, two2 wa wb, Ts, two2 ma mb, rr.toNat⟩
    have hrr : ((rr.toNat : Nat) : Int) = rr := by omega
    have m1 := hms ma (by simp)
    have m2 := hms mb (by simp)
    have G : Good L := ⟨le1 w1 w2, fun j hj => (hP2 j hj).2, le1 m1 m2, by show rr.toNat ≤ 25; omega⟩
    refine ⟨L, _, none, G, ?_, ⟨⟨kad, had', kwl, hwl', kpl, hpl', kml, hml', f3, f3'⟩, hPF, le1 ⟨f1, [], f1', DatsAt.nil⟩ ⟨f2, [], f2', DatsAt.nil⟩, ⟨two2 g0 g1, ⟨f6, f6'⟩, le1 ⟨f4, [], f4', DatsAt.nil⟩ ⟨f5, [], f5', DatsAt.nil⟩⟩, ⟨two2 r0 r1, ⟨f9, f9'⟩, le1 ⟨f7, [], f7', AllAt.nil⟩ ⟨f8, [], f8', AllAt.nil⟩⟩, tgF⟩, k⟩
    show _ = sg L none none none none none
    unfold sg
    show _ = [some (V.ref as), some (V.ref ad), none, some (V.ref wl), some (V.ref pl), some (V.ref ml), some (V.ref ol), some (V.ref gl), some (V.ref rl), some (V.int ((rr.toNat : Nat) : Int)), none, none, none, none, none]
    rw [hrr]
    rfl
end
end FH
namespace FH
open PySem L2
theorem all_mk {l : PySem.W.OpenLaw} {w : World} {K : PySem.W.Frag} {h : Heap} {mg : Str → Option Value} {fa C f0 f1 f2 f3 f4 f5 f6 f7 f8 f9 f10 f11 f12 f13 f14 f15 : Addr} (X : K.In h) (G : h.Ns mainGlobals mg) (hfa : mg "law" = some (.ref fa))
    {od0 an0 od1 an1 od2 an2 od3 an3 od4 an4 od5 an5 od6 an6 od7 an7 od8 an8 od9 an9 od10 an10 od11 an11 od12 an12 od13 an13 od14 an14 od15 an15 : Option Addr} {sl0 sl1 sl2 sl3 sl4 sl5 sl6 sl7 sl8 sl9 sl10 sl11 sl12 sl13 sl14 sl15 : Array (Option Value)} {oc0 kV0 dc0 pm0 cd0 ct0 oc1 kV1 dc1 pm1 cd1 ct1 oc2 kV2 dc2 pm2 cd2 ct2 oc3 kV3 dc3 pm3 cd3 ct3 oc4 kV4 dc4 pm4 cd4 ct4 oc5 kV5 dc5 pm5 cd5 ct5 oc6 kV6 dc6 pm6 cd6 ct6 oc7 kV7 dc7 pm7 cd7 ct7 oc8 kV8 dc8 pm8 cd8 ct8 oc9 kV9 dc9 pm9 cd9 ct9 oc10 kV10 dc10 pm10 cd10 ct10 oc11 kV11 dc11 pm11 cd11 ct11 oc12 kV12 dc12 pm12 cd12 ct12 oc13 kV13 dc13 pm13 cd13 ct13 oc14 kV14 dc14 pm14 cd14 ct14 oc15 kV15 dc15 pm15 cd15 ct15 : Value} {t0 t1 t2 : Tok}
    (aC : PySem.W.nsIn K mainGlobals "Peer" = some (some (.ref C)))
    (a0 : PySem.W.findIn K (.ref C) "__init__" = some (some (.ref f0)))
    (i0 : PySem.W.isFn K (.ref f0) = true)
    (l0 : K.lookup f0 = some ⟨oc0, od0, .func (PySem.W.fnOf "__init__" "Peer.__init__" (defArgs sInit) (defBody sInit) (defScope sInit) .none kV0 dc0 pm0 an0 cd0 ct0), sl0⟩)
    (c0 : PySem.W.codeIn K cd0 "Peer.__init__" = true)
    (k0 : PySem.W.keepIn K (.ref f0) = true)
    (a1 : PySem.W.findIn K (.ref C) "offer" = some (some (.ref f1)))
    (i1 : PySem.W.isFn K (.ref f1) = true)
    (l1 : K.lookup f1 = some ⟨oc1, od1, .func (PySem.W.fnOf "offer" "Peer.offer" (defArgs sOffer) (defBody sOffer) (defScope sOffer) .none kV1 dc1 pm1 an1 cd1 ct1), sl1⟩)
    (c1 : PySem.W.codeIn K cd1 "Peer.offer" = true)
    (k1 : PySem.W.keepIn K (.ref f1) = true)
    (a2 : PySem.W.findIn K (.ref C) "_is_due" = some (some (.ref f2)))
    (i2 : PySem.W.isFn K (.ref f2) = true)
    (l2 : K.lookup f2 = some ⟨oc2, od2, .func (PySem.W.fnOf "_is_due" "Peer._is_due" (defArgs sDue) (defBody sDue) (defScope sDue) .none kV2 dc2 pm2 an2 cd2 ct2), sl2⟩)
    (c2 : PySem.W.codeIn K cd2 "Peer._is_due" = true)
    (k2 : PySem.W.keepIn K (.ref f2) = true)
    (a3 : PySem.W.findIn K (.ref C) "_mask" = some (some (.ref f3)))
    (i3 : PySem.W.isFn K (.ref f3) = true)
    (l3 : K.lookup f3 = some ⟨oc3, od3, .func (PySem.W.fnOf "_mask" "Peer._mask" (defArgs sMask) (defBody sMask) (defScope sMask) .none kV3 dc3 pm3 an3 cd3 ct3), sl3⟩)
    (c3 : PySem.W.codeIn K cd3 "Peer._mask" = true)
    (k3 : PySem.W.keepIn K (.ref f3) = true)
    (a4 : PySem.W.findIn K (.ref C) "packets" = some (some (.ref f4)))
    (i4 : PySem.W.isFn K (.ref f4) = true)
    (l4 : K.lookup f4 = some ⟨oc4, od4, .func (PySem.W.fnOf "packets" "Peer.packets" (defArgs sPackets) (defBody sPackets) (defScope sPackets) .none kV4 dc4 pm4 an4 cd4 ct4), sl4⟩)
    (c4 : PySem.W.codeIn K cd4 "Peer.packets" = true)
    (k4 : PySem.W.keepIn K (.ref f4) = true)
    (a5 : PySem.W.findIn K (.ref C) "_acknowledged" = some (some (.ref f5)))
    (i5 : PySem.W.isFn K (.ref f5) = true)
    (l5 : K.lookup f5 = some ⟨oc5, od5, .func (PySem.W.fnOf "_acknowledged" "Peer._acknowledged" (defArgs sAck) (defBody sAck) (defScope sAck) .none kV5 dc5 pm5 an5 cd5 ct5), sl5⟩)
    (c5 : PySem.W.codeIn K cd5 "Peer._acknowledged" = true)
    (k5 : PySem.W.keepIn K (.ref f5) = true)
    (a6 : PySem.W.findIn K (.ref C) "receive" = some (some (.ref f6)))
    (i6 : PySem.W.isFn K (.ref f6) = true)
    (l6 : K.lookup f6 = some ⟨oc6, od6, .func (PySem.W.fnOf "receive" "Peer.receive" (defArgs sReceive) (defBody sReceive) (defScope sReceive) .none kV6 dc6 pm6 an6 cd6 ct6), sl6⟩)
    (c6 : PySem.W.codeIn K cd6 "Peer.receive" = true)
    (k6 : PySem.W.keepIn K (.ref f6) = true)
    (a7 : PySem.W.findIn K (.ref C) "base_number" = some (some (.ref f7)))
    (i7 : PySem.W.isFn K (.ref f7) = true)
    (l7 : K.lookup f7 = some ⟨oc7, od7, .func (PySem.W.fnOf "base_number" "Peer.base_number" (defArgs sBase) (defBody sBase) (defScope sBase) .none kV7 dc7 pm7 an7 cd7 ct7), sl7⟩)
    (c7 : PySem.W.codeIn K cd7 "Peer.base_number" = true)
    (k7 : PySem.W.keepIn K (.ref f7) = true)
    (a8 : PySem.W.findIn K (.ref C) "next_number" = some (some (.ref f8)))
    (i8 : PySem.W.isFn K (.ref f8) = true)
    (l8 : K.lookup f8 = some ⟨oc8, od8, .func (PySem.W.fnOf "next_number" "Peer.next_number" (defArgs sNext) (defBody sNext) (defScope sNext) .none kV8 dc8 pm8 an8 cd8 ct8), sl8⟩)
    (c8 : PySem.W.codeIn K cd8 "Peer.next_number" = true)
    (k8 : PySem.W.keepIn K (.ref f8) = true)
    (a9 : PySem.W.findIn K (.ref C) "open_numbers" = some (some (.ref f9)))
    (i9 : PySem.W.isFn K (.ref f9) = true)
    (l9 : K.lookup f9 = some ⟨oc9, od9, .func (PySem.W.fnOf "open_numbers" "Peer.open_numbers" (defArgs sOpen) (defBody sOpen) (defScope sOpen) .none kV9 dc9 pm9 an9 cd9 ct9), sl9⟩)
    (c9 : PySem.W.codeIn K cd9 "Peer.open_numbers" = true)
    (k9 : PySem.W.keepIn K (.ref f9) = true)
    (a10 : PySem.W.nsIn K mainGlobals "_law_draws" = some (some (.ref f10)))
    (l10 : K.lookup f10 = some ⟨oc10, od10, .func (PySem.W.fnOf "_law_draws" "_law_draws" (defArgs sDraws) (defBody sDraws) (defScope sDraws) .none kV10 dc10 pm10 an10 cd10 ct10), sl10⟩)
    (c10 : PySem.W.codeIn K cd10 "_law_draws" = true)
    (k10 : PySem.W.keepIn K (.ref f10) = true)
    (a11 : PySem.W.nsIn K mainGlobals "_law_mix" = some (some (.ref f11)))
    (l11 : K.lookup f11 = some ⟨oc11, od11, .func (PySem.W.fnOf "_law_mix" "_law_mix" (defArgs sMix) (defBody sMix) (defScope sMix) .none kV11 dc11 pm11 an11 cd11 ct11), sl11⟩)
    (c11 : PySem.W.codeIn K cd11 "_law_mix" = true)
    (k11 : PySem.W.keepIn K (.ref f11) = true)
    (a12 : PySem.W.nsIn K mainGlobals "_law_fates" = some (some (.ref f12)))
    (l12 : K.lookup f12 = some ⟨oc12, od12, .func (PySem.W.fnOf "_law_fates" "_law_fates" (defArgs sFates) (defBody sFates) (defScope sFates) .none kV12 dc12 pm12 an12 cd12 ct12), sl12⟩)
    (c12 : PySem.W.codeIn K cd12 "_law_fates" = true)
    (k12 : PySem.W.keepIn K (.ref f12) = true)
    (a13 : PySem.W.nsIn K mainGlobals "_law_sent" = some (some (.ref f13)))
    (l13 : K.lookup f13 = some ⟨oc13, od13, .func (PySem.W.fnOf "_law_sent" "_law_sent" (defArgs sSent) (defBody sSent) (defScope sSent) .none kV13 dc13 pm13 an13 cd13 ct13), sl13⟩)
    (c13 : PySem.W.codeIn K cd13 "_law_sent" = true)
    (k13 : PySem.W.keepIn K (.ref f13) = true)
    (a14 : PySem.W.nsIn K mainGlobals "_law_arrived" = some (some (.ref f14)))
    (l14 : K.lookup f14 = some ⟨oc14, od14, .func (PySem.W.fnOf "_law_arrived" "_law_arrived" (defArgs sArrived) (defBody sArrived) (defScope sArrived) .none kV14 dc14 pm14 an14 cd14 ct14), sl14⟩)
    (c14 : PySem.W.codeIn K cd14 "_law_arrived" = true)
    (k14 : PySem.W.keepIn K (.ref f14) = true)
    (a15 : PySem.W.nsIn K mainGlobals "law" = some (some (.ref f15)))
    (l15 : K.lookup f15 = some ⟨oc15, od15, .func (PySem.W.fnOf "law" "law" (defArgs sLaw) (defBody sLaw) (defScope sLaw) .none kV15 dc15 pm15 an15 cd15 ct15), sl15⟩)
    (c15 : PySem.W.codeIn K cd15 "law" = true)
    (k15 : PySem.W.keepIn K (.ref f15) = true)
    (pg : PySem.W.plainGet K C Str.empty = true)
    (hd : PySem.W.hasDictIn K C = true)
    (po : PySem.W.plainOver K C = true)
    (sa : PySem.W.findIn K (.ref C) "__setattr__" = some (some (.builtin "object.__setattr__")))
    (mk : PySem.W.makesIn K C = true)
    (kc : PySem.W.keepIn K (.ref C) = true)
    (n0 : PySem.W.findIn K (.ref C) "_window" = some none)
    (n1 : PySem.W.findIn K (.ref C) "_wait" = some none)
    (n2 : PySem.W.findIn K (.ref C) "_now" = some none)
    (n3 : PySem.W.findIn K (.ref C) "_offered" = some none)
    (n4 : PySem.W.findIn K (.ref C) "_sent" = some none)
    (n5 : PySem.W.findIn K (.ref C) "_done" = some none)
    (n6 : PySem.W.findIn K (.ref C) "_base" = some none)
    (n7 : PySem.W.findIn K (.ref C) "_next" = some none)
    (n8 : PySem.W.findIn K (.ref C) "_kept" = some none)
    (n9 : PySem.W.findIn K (.ref C) "_owed" = some none)
    (v0 : PySem.W.nsIn K mainGlobals "MOST_WINDOW" = some (some (.int 32 t0)))
    (v1 : PySem.W.nsIn K mainGlobals "MOST_WAIT" = some (some (.int 1000000 t1)))
    (v2 : PySem.W.nsIn K mainGlobals "MASK_BITS" = some (some (.int 32 t2)))
    (z0 : PySem.W.nsIn K mainGlobals "len" = some none)
    (z1 : PySem.W.nsIn K mainGlobals "range" = some none)
    (z2 : PySem.W.nsIn K mainGlobals "list" = some none)
    (z3 : PySem.W.nsIn K mainGlobals "min" = some none)
    (z4 : PySem.W.nsIn K mainGlobals "sum" = some none)
    (z5 : PySem.W.nsIn K mainGlobals "int" = some none)
    (z6 : PySem.W.nsIn K mainGlobals "abs" = some none) :
    ∃ fd : FuncData, (∀ (s : Shared) (v : Value), BindsTo s fd ⟨[v], []⟩ [("_law_script", v)]) ∧ ∀ base : Heap, K.In base → base.Ns mainGlobals mg → FnOk l.prog w K mg base CX0 4 fa fd ["_law_script"] (spLaw K) := by
  have e := hfa.symm.trans (PySem.W.mg_of X G a15)
  cases e
  have nf : ∀ x ∈ pk, NoAttr K C x := by
    intro x hx
    simp only [pk, List.mem_cons, List.not_mem_nil, or_false] at hx
    rcases hx with rfl | rfl | rfl | rfl | rfl | rfl | rfl | rfl | rfl | rfl
    · exact n0
    · exact n1
    · exact n2
    · exact n3
    · exact n4
    · exact n5
    · exact n6
    · exact n7
    · exact n8
    · exact n9
  have T : Txt K mg C := ⟨⟨pg, hd, po, sa⟩, nf, PySem.W.mg_of X G aC, ⟨t0, PySem.W.mg_of X G v0⟩, ⟨t1, PySem.W.mg_of X G v1⟩, ⟨t2, PySem.W.mg_of X G v2⟩, PySem.W.mg_none_of X G z0, PySem.W.mg_none_of X G z1, PySem.W.mg_none_of X G z2, PySem.W.mg_none_of X G z3, PySem.W.mg_none_of X G z4, PySem.W.mg_none_of X G z5, PySem.W.mg_none_of X G z6⟩
  have F0 := fun_mk (st := sInit) l0 c0 k0
  have b0 := F0.binds (ps := ["self", "window", "wait"]) fun _ _ _ _ _ _ us hl => match us, hl with | [_, _, _], _ => rfl
  have F1 := fun_mk (st := sOffer) l1 c1 k1
  have b1 := F1.binds (ps := ["self", "data"]) fun _ _ _ _ _ _ us hl => match us, hl with | [_, _], _ => rfl
  have F2 := fun_mk (st := sDue) l2 c2 k2
  have b2 := F2.binds (ps := ["self", "number", "now"]) fun _ _ _ _ _ _ us hl => match us, hl with | [_, _, _], _ => rfl
  have F3 := fun_mk (st := sMask) l3 c3 k3
  have b3 := F3.binds (ps := ["self"]) fun _ _ _ _ _ _ us hl => match us, hl with | [_], _ => rfl
  have F4 := fun_mk (st := sPackets) l4 c4 k4
  have b4 := F4.binds (ps := ["self", "now"]) fun _ _ _ _ _ _ us hl => match us, hl with | [_, _], _ => rfl
  have F5 := fun_mk (st := sAck) l5 c5 k5
  have b5 := F5.binds (ps := ["self", "ack", "mask"]) fun _ _ _ _ _ _ us hl => match us, hl with | [_, _, _], _ => rfl
  have F6 := fun_mk (st := sReceive) l6 c6 k6
  have b6 := F6.binds (ps := ["self", "packet"]) fun _ _ _ _ _ _ us hl => match us, hl with | [_, _], _ => rfl
  have F7 := fun_mk (st := sBase) l7 c7 k7
  have b7 := F7.binds (ps := ["self"]) fun _ _ _ _ _ _ us hl => match us, hl with | [_], _ => rfl
  have F8 := fun_mk (st := sNext) l8 c8 k8
  have b8 := F8.binds (ps := ["self"]) fun _ _ _ _ _ _ us hl => match us, hl with | [_], _ => rfl
  have F9 := fun_mk (st := sOpen) l9 c9 k9
  have b9 := F9.binds (ps := ["self"]) fun _ _ _ _ _ _ us hl => match us, hl with | [_], _ => rfl
  have F10 := fun_mk (st := sDraws) l10 c10 k10
  have b10 := F10.binds (ps := ["_law_script"]) fun _ _ _ _ _ _ us hl => match us, hl with | [_], _ => rfl
  have F11 := fun_mk (st := sMix) l11 c11 k11
  have b11 := F11.binds (ps := ["_law_draws_here", "_law_k", "_law_many"]) fun _ _ _ _ _ _ us hl => match us, hl with | [_, _, _], _ => rfl
  have F12 := fun_mk (st := sFates) l12 c12 k12
  have b12 := F12.binds (ps := ["_law_draws_here", "_law_k", "_law_is_fair"]) fun _ _ _ _ _ _ us hl => match us, hl with | [_, _, _], _ => rfl
  have F13 := fun_mk (st := sSent) l13 c13 k13
  have b13 := F13.binds (ps := ["_law_draws_here", "_law_k", "_law_peer", "_law_road", "_law_now", "_law_window", "_law_is_fair"]) fun _ _ _ _ _ _ us hl => match us, hl with | [_, _, _, _, _, _, _], _ => rfl
  have F14 := fun_mk (st := sArrived) l14 c14 k14
  have b14 := F14.binds (ps := ["_law_draws_here", "_law_k", "_law_peer", "_law_road", "_law_now"]) fun _ _ _ _ _ _ us hl => match us, hl with | [_, _, _, _, _], _ => rfl
  have F15 := fun_mk (st := sLaw) l15 c15 k15
  have m0 : Meth K C "__init__" f0 := ⟨a0, i0, k0⟩
  have m1 : Meth K C "offer" f1 := ⟨a1, i1, k1⟩
  have m2 : Meth K C "_is_due" f2 := ⟨a2, i2, k2⟩
  have m3 : Meth K C "_mask" f3 := ⟨a3, i3, k3⟩
  have m4 : Meth K C "packets" f4 := ⟨a4, i4, k4⟩
  have m5 : Meth K C "_acknowledged" f5 := ⟨a5, i5, k5⟩
  have m6 : Meth K C "receive" f6 := ⟨a6, i6, k6⟩
  have m7 : Meth K C "base_number" f7 := ⟨a7, i7, k7⟩
  have m8 : Meth K C "next_number" f8 := ⟨a8, i8, k8⟩
  have m9 : Meth K C "open_numbers" f9 := ⟨a9, i9, k9⟩
  have g10 : mg "_law_draws" = some (.ref f10) := PySem.W.mg_of X G a10
  have g11 : mg "_law_mix" = some (.ref f11) := PySem.W.mg_of X G a11
  have g12 : mg "_law_fates" = some (.ref f12) := PySem.W.mg_of X G a12
  have g13 : mg "_law_sent" = some (.ref f13) := PySem.W.mg_of X G a13
  have g14 : mg "_law_arrived" = some (.ref f14) := PySem.W.mg_of X G a14
  refine ⟨PySem.W.fnOf "law" "law" (defArgs sLaw) (defBody sLaw) (defScope sLaw) .none kV15 dc15 pm15 an15 cd15 ct15, fun s v => .of_eq rfl, fun base _ _ => ok_law F15 T ?_⟩
  have hmix := ok_mix (P := l.prog) (w := w) (base := base) F11 T
  have hfates := ok_fates (P := l.prog) (w := w) (base := base) F12 T g11 F11 b11
  have hbase := ok_base (P := l.prog) (w := w) (base := base) F7 T
  have hnext := ok_next (P := l.prog) (w := w) (base := base) F8 T
  have hopen := ok_open (P := l.prog) (w := w) (base := base) F9 T
  have hoffer := ok_offer (P := l.prog) (w := w) (base := base) F1 T
  have hpackets := ok_packets (P := l.prog) (w := w) (base := base) F4 T m2 F2 b2 m3 F3 b3
  have hreceive := ok_receive (P := l.prog) (w := w) (base := base) F6 T m5 F5 b5
  have hinit := ok_init (P := l.prog) (w := w) (base := base) F0 T
  have hdraws := ok_draws (P := l.prog) (w := w) (base := base) F10 T
  have hsent := ok_sent (P := l.prog) (w := w) (base := base) F13 T g12 k12 hfates b12 m7 hbase b7 m9 hopen b9 m4 hpackets b4
  have harrived := ok_arrived (P := l.prog) (w := w) (base := base) F14 T g11 k11 hmix b11 m6 hreceive b6
  exact ⟨⟨f10, _, g10, k10, hdraws, b10⟩, ⟨f11, _, g11, k11, hmix, b11⟩, ⟨f13, _, g13, k13, hsent, b13⟩, ⟨f14, _, g14, k14, harrived, b14⟩, ⟨f0, _, ⟨mk, a0, i0, kc⟩, hinit, b0⟩, ⟨f1, _, m1, hoffer, b1⟩, ⟨f7, _, m7, hbase, b7⟩, ⟨f8, _, m8, hnext, b8⟩, ⟨f9, _, m9, hopen, b9⟩, ⟨f4, _, m4, hpackets, b4⟩⟩
theorem walk {l : PySem.W.OpenLaw} {q : Program} {loose : List Str} {XP : (Str → Option Value) → Heap → Prop} {YP : World → Heap → Prop} {d : DefRec} {K : Params → PySem.W.Frag} (hn : l.most = some 63) (hdf : d.params.defaults = [])
    (hY : ∀ (w : World) (h : Heap), YP w h → (K w.params).In h)
    (F : ∀ (w : World) (mg : Str → Option Value) (fa : Addr) (h : Heap), (K w.params).In h → h.Ns mainGlobals mg → mg d.name = some (.ref fa) →
      ∃ fd : FuncData, (∀ (s : Shared) (u : Value), BindsTo s fd ⟨[u], []⟩ [("_law_script", u)]) ∧ ∀ base : Heap, (K w.params).In base → base.Ns mainGlobals mg → FnOk l.prog w (K w.params) mg base CX0 4 fa fd ["_law_script"] (spLaw (K w.params))) :
    PySem.W.WalkO q loose XP YP l.row.toRowW d [] (fun f vs => PySem.call f vs) :=
  L2.walk_of (n := 63) (k := 4) (x := "_law_script") (CX := fun _ => CX0) (sp := fun w => spLaw (K w.params)) hn (by decide) hdf ⟨rfl, by decide, by decide⟩ hY F (fun _ _ a ns hl _ hS => ⟨a, ns, rfl, hS, hl, fun _ => rfl⟩) fun _ _ _ _ _ z => z
end FH
open PySem PySem.W PyProof.Rows in
set_option maxRecDepth 100000 in
set_option maxHeartbeats 0 in
theorem PySem.Challenge.cw_farhaul_k62_whole_exchanges_lose_nothing_holds : PySem.Challenge.rw_farhaul_k62_whole_exchanges_lose_nothing.Holds := by
  w_on; o_law; k_head; (case hw => w_witness2)
  k_fill
  refine FH.walk (l := PySem.Challenge.rw_farhaul_k62_whole_exchanges_lose_nothing) rfl rfl (fun w h Y => PySem.W.kIn_of Y) ?F
  case F =>
    intro w mg fa h KX G hmg
    refine' FH.all_mk KX G hmg ?aC ?a0 ?i0 ?l0 ?c0 ?k0 ?a1 ?i1 ?l1 ?c1 ?k1 ?a2 ?i2 ?l2 ?c2 ?k2 ?a3 ?i3 ?l3 ?c3 ?k3 ?a4 ?i4 ?l4 ?c4 ?k4 ?a5 ?i5 ?l5 ?c5 ?k5 ?a6 ?i6 ?l6 ?c6 ?k6 ?a7 ?i7 ?l7 ?c7 ?k7 ?a8 ?i8 ?l8 ?c8 ?k8 ?a9 ?i9 ?l9 ?c9 ?k9 ?a10 ?l10 ?c10 ?k10 ?a11 ?l11 ?c11 ?k11 ?a12 ?l12 ?c12 ?k12 ?a13 ?l13 ?c13 ?k13 ?a14 ?l14 ?c14 ?k14 ?a15 ?l15 ?c15 ?k15 ?pg ?hd ?po ?sa ?mk ?kc ?n0 ?n1 ?n2 ?n3 ?n4 ?n5 ?n6 ?n7 ?n8 ?n9 ?v0 ?v1 ?v2 ?z0 ?z1 ?z2 ?z3 ?z4 ?z5 ?z6
    (case aC => k_is)
    (case a0 => k_is)
    (case i0 => k_is)
    (case l0 => k_is)
    (case c0 => k_is)
    (case k0 => k_is)
    (case a1 => k_is)
    (case i1 => k_is)
    (case l1 => k_is)
    (case c1 => k_is)
    (case k1 => k_is)
    (case a2 => k_is)
    (case i2 => k_is)
    (case l2 => k_is)
    (case c2 => k_is)
    (case k2 => k_is)
    (case a3 => k_is)
    (case i3 => k_is)
    (case l3 => k_is)
    (case c3 => k_is)
    (case k3 => k_is)
    (case a4 => k_is)
    (case i4 => k_is)
    (case l4 => k_is)
    (case c4 => k_is)
    (case k4 => k_is)
    (case a5 => k_is)
    (case i5 => k_is)
    (case l5 => k_is)
    (case c5 => k_is)
    (case k5 => k_is)
    (case a6 => k_is)
    (case i6 => k_is)
    (case l6 => k_is)
    (case c6 => k_is)
    (case k6 => k_is)
    (case a7 => k_is)
    (case i7 => k_is)
    (case l7 => k_is)
    (case c7 => k_is)
    (case k7 => k_is)
    (case a8 => k_is)
    (case i8 => k_is)
    (case l8 => k_is)
    (case c8 => k_is)
    (case k8 => k_is)
    (case a9 => k_is)
    (case i9 => k_is)
    (case l9 => k_is)
    (case c9 => k_is)
    (case k9 => k_is)
    (case a10 => k_is)
    (case l10 => k_is)
    (case c10 => k_is)
    (case k10 => k_is)
    (case a11 => k_is)
    (case l11 => k_is)
    (case c11 => k_is)
    (case k11 => k_is)
    (case a12 => k_is)
    (case l12 => k_is)
    (case c12 => k_is)
    (case k12 => k_is)
    (case a13 => k_is)
    (case l13 => k_is)
    (case c13 => k_is)
    (case k13 => k_is)
    (case a14 => k_is)
    (case l14 => k_is)
    (case c14 => k_is)
    (case k14 => k_is)
    (case a15 => k_is)
    (case l15 => k_is)
    (case c15 => k_is)
    (case k15 => k_is)
    (case pg => k_is)
    (case hd => k_is)
    (case po => k_is)
    (case sa => k_is)
    (case mk => k_is)
    (case kc => k_is)
    (case n0 => k_is)
    (case n1 => k_is)
    (case n2 => k_is)
    (case n3 => k_is)
    (case n4 => k_is)
    (case n5 => k_is)
    (case n6 => k_is)
    (case n7 => k_is)
    (case n8 => k_is)
    (case n9 => k_is)
    (case v0 => k_is)
    (case v1 => k_is)
    (case v2 => k_is)
    (case z0 => k_is)
    (case z1 => k_is)
    (case z2 => k_is)
    (case z3 => k_is)
    (case z4 => k_is)
    (case z5 => k_is)
    (case z6 => k_is)
#print axioms PySem.Challenge.cw_farhaul_k62_whole_exchanges_lose_nothing_holds
