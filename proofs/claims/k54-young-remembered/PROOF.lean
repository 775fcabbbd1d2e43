import PyProof.Rows.All
import Wide.All
import OpenK.AllK
import Wide.FinOn
import HandS.ForMost
import HandS.IsInst
import HandS.TupAny
import HandS.Wide
import HandS.SetFor
import HandS.Defaults
import HandS.HeadEnd
import HandS.HeadHook1
import HandS.HeadHook2
import HandS.Head2
import PySem.Challenge.RW_quietbroom_k54_young_remembered
set_option Elab.async false
set_option linter.all false
/-! Mir: the memory as plain data, and what the program's functions make of it (none: outside of what is meant). Core Lean alone. -/
namespace Qb

inductive Ph where
  | idle | marking | moving | updating
  deriving DecidableEq

/-- moving or updating -/
def Ph.late : Ph → Bool
  | .idle => false
  | .marking => false
  | .moving => true
  | .updating => true

structure HS where
  cap : Int
  nur : Int
  words : List Int
  yt : Int
  base : Int
  top : Int
  ob : Int
  ot : Int
  ph : Ph
  cur : Int
  gr : List Int
  rem : List Int
  pend : Int

def rd (l : List Int) (i : Int) : Option Int := if 0 ≤ i then l[i.toNat]? else none
def wr (l : List Int) (i v : Int) : Option (List Int) := if 0 ≤ i ∧ i < (l.length : Int) then some (l.set i.toNat v) else none
def isRef (w : Int) : Bool := decide (w % 2 = 0) && !decide (w = 0)
/-- nil, a number's word, a reference to an address from 0 on -/
def okw (w : Int) : Bool := decide (w % 2 = 1) || decide (0 ≤ w)
def HS.isY (h : HS) (a : Int) : Bool := decide (1 ≤ a) && decide (a ≤ h.nur)
def HS.used (h : HS) : Int := if h.ph.late then h.yt - 1 + h.pend + (h.ot - h.ob) else h.yt - 1 + (h.top - h.base)

def grd (b : Bool) : Option Unit := if b then some () else none

theorem grd_some {b : Bool} (h : grd b = some ()) : b = true := by
  unfold grd at h
  split at h
  · assumption
  · cases h

theorem grd_iff {b : Bool} {u : Unit} : grd b = some u ↔ b = true := by
  cases b <;> simp [grd]

def resolveM (h : HS) (a : Int) : Option Int :=
  if h.ph.late then
    if h.base ≤ a ∧ a < h.base + h.cap then do
      let s ← rd h.words (a + 1)
      if 0 < s / 8 then some (s / 8) else some a
    else some a
  else some a
def resolveW (h : HS) (w : Int) : Option Int :=
  if isRef w then do
    let t ← resolveM h (w / 2)
    some (2 * t)
  else some w
def shadeM (h : HS) (a : Int) : Option HS := do
  let s ← rd h.words (a + 1)
  grd (decide (h.gr.length < 100000))
  let ws ← wr h.words (a + 1) (8 * (s / 8) + 4 * (s / 4 % 2) + 1)
  some { h with words := ws, gr := h.gr ++ [a] }
def rememberM (h : HS) (a : Int) : Option HS := do
  let s ← rd h.words (a + 1)
  if s / 4 % 2 = 0 then do
    grd (decide (h.rem.length < 100000))
    let ws ← wr h.words (a + 1) (8 * (s / 8) + 4 * 1 + s % 4)
    some { h with words := ws, rem := h.rem ++ [a] }
  else some h
def noteM (h : HS) (b t : Int) : Option HS :=
  if h.isY t then rememberM h b
  else if h.ph = .marking then do
    let s ← rd h.words (b + 1)
    if s % 4 = 2 then do
      let u ← rd h.words (t + 1)
      if u % 4 = 0 then shadeM h t else some h
    else some h
  else some h
def writeM (h : HS) (a p w : Int) : Option HS := do
  let b ← resolveM h a
  let v ← resolveW h w
  let _ ← rd h.words b
  let ws ← wr h.words (b + 2 + p) v
  if isRef v && !h.isY b then noteM { h with words := ws } b (v / 2) else some { h with words := ws }
def readM (h : HS) (a p : Int) : Option Int := do
  let b ← resolveM h a
  let _ ← rd h.words b
  let w ← rd h.words (b + 2 + p)
  resolveW h w

/-- size words of the old space that receives blocks -/
def claimM (h : HS) (size : Int) : Int × HS :=
  if h.ph.late then (h.ot, { h with ot := h.ot + size }) else (h.top, { h with top := h.top + size })
/-- the n words from a on, laid at t -/
def blit (l : List Int) (a t n : Nat) : List Int := l.take t ++ (l.drop a).take n ++ l.drop (t + n)
def copyOldM (h : HS) (a : Int) : Option (Int × HS) := do
  let f ← rd h.words a
  let size := f / 64 + 2
  let t := (claimM h size).1
  let h1 := (claimM h size).2
  grd (decide (0 ≤ f / 64) && decide (0 ≤ a) && decide (a + size ≤ t) && decide (t + size ≤ (h.words.length : Int)) && decide (h.words.length ≤ 100000) && decide (h.gr.length < 100000))
  let ws := blit h.words a.toNat t.toNat size.toNat
  let ws2 ← wr ws (t + 1) (if h.ph = .marking then 1 else 0)
  some (t, { h1 with words := ws2, gr := if h.ph = .marking then h.gr ++ [t] else h.gr })
def promoteM (h : HS) (a : Int) (mv : List Int) : Option (Int × HS × List Int) := do
  let s ← rd h.words (a + 1)
  grd (decide (0 ≤ s) && decide (s % 8 = 0))
  if 0 < s / 8 then some (s / 8, h, mv)
  else do
    let p ← copyOldM h a
    let ws ← wr p.2.words (a + 1) (8 * p.1)
    grd (decide (mv.length < 100000))
    some (p.1, { p.2 with words := ws }, mv ++ [p.1])
def oldWordM (h : HS) (w : Int) (mv : List Int) : Option (Int × HS × List Int) := do
  grd (okw w)
  if isRef w && h.isY (w / 2) then do
    let p ← promoteM h (w / 2) mv
    some (2 * p.1, p.2.1, p.2.2)
  else some (w, h, mv)
def liftRowM (h : HS) (mv : List Int) : List Int → Option (List Int × HS × List Int)
  | [] => some ([], h, mv)
  | w :: r => do
    let p ← oldWordM h w mv
    let q ← liftRowM p.2.1 p.2.2 r
    some (p.1 :: q.1, q.2.1, q.2.2)
def liftRowsM (h : HS) (mv : List Int) : List (List Int) → Option (List (List Int) × HS × List Int)
  | [] => some ([], h, mv)
  | r :: rs => do
    let p ← liftRowM h mv r
    let q ← liftRowsM p.2.1 p.2.2 rs
    some (p.1 :: q.1, q.2.1, q.2.2)
/-- n places from spot on -/
def liftSpotsM (h : HS) (mv : List Int) (spot : Int) : Nat → Option (HS × List Int)
  | 0 => some (h, mv)
  | n + 1 => do
    let w ← rd h.words spot
    let p ← oldWordM h w mv
    let ws ← wr p.2.1.words spot p.1
    liftSpotsM { p.2.1 with words := ws } p.2.2 (spot + 1) n
def liftBlockM (h : HS) (a : Int) (mv : List Int) : Option (HS × List Int) := do
  let f ← rd h.words a
  grd (decide (0 ≤ f / 64) && decide (a + 2 + f / 64 ≤ (h.words.length : Int)) && decide (h.words.length ≤ 100000))
  liftSpotsM h mv (a + 2) (f / 64).toNat
def liftRemM (h : HS) (mv : List Int) : List Int → Option (HS × List Int)
  | [] => some (h, mv)
  | a :: r => do
    let b ← resolveM h a
    let p ← liftBlockM h b mv
    let s ← rd p.1.words (b + 1)
    grd (decide (s / 4 % 2 = 1))
    let ws ← wr p.1.words (b + 1) (8 * (s / 8) + 4 * 0 + s % 4)
    liftRemM { p.1 with words := ws } p.2 r
/-- the payloads of the promoted blocks from the i-th on, at most n of them -/
def scanM (h : HS) (mv : List Int) (i : Nat) : Nat → Option (HS × List Int)
  | 0 => if mv.length ≤ i then some (h, mv) else none
  | n + 1 =>
    match mv[i]? with
    | none => some (h, mv)
    | some a => do
      let p ← liftBlockM h a mv
      scanM p.1 p.2 (i + 1) n
def scanFuel : Nat := 99999
def clearYoung (h : HS) : HS := { h with words := h.words.take 1 ++ List.replicate h.nur.toNat 0 ++ h.words.drop (h.nur.toNat + 1), yt := 1 }
def collectYoungM (h : HS) (rows : List (List Int)) : Option (HS × List (List Int)) := do
  let p ← liftRowsM h [] rows
  let q ← liftRemM p.2.1 p.2.2 p.2.1.rem
  let r ← scanM { q.1 with rem := [] } q.2 0 scanFuel
  grd (decide (0 ≤ r.1.nur) && decide (r.1.nur + 1 ≤ (r.1.words.length : Int)) && decide (r.1.words.length ≤ 100000))
  some (clearYoung r.1, p.1)
/-- a block's words laid at t -/
def layM (l : List Int) (t : Int) (b : List Int) : Option (List Int) := do
  grd (decide (0 ≤ t) && decide (t + b.length ≤ (l.length : Int)) && decide (l.length ≤ 100000))
  some (l.take t.toNat ++ b ++ l.drop (t.toNat + b.length))
def placeM (h : HS) (rows : List (List Int)) (shape : Int) (pl : List Int) : Option (Int × HS × List (List Int)) :=
  let size : Int := pl.length + 2
  if size ≤ h.nur then
    (if h.nur + 1 < h.yt + size then collectYoungM h rows else some (h, rows)).bind fun p =>
    (layM p.1.words p.1.yt ([64 * (pl.length : Int) + shape, 0] ++ pl)).bind fun ws =>
    some (p.1.yt, { p.1 with words := ws, yt := p.1.yt + size }, p.2)
  else do
    let t := (claimM h size).1
    let ws ← layM h.words t ([64 * (pl.length : Int) + shape, if h.ph = .marking then 2 else 0] ++ pl)
    some (t, { (claimM h size).2 with words := ws }, rows)
end Qb

set_option Elab.async false
set_option linter.all false
/-! MirL: what reading sees behind a write. Core Lean alone. -/
namespace Qb
theorem rd_some {l : List Int} {i v : Int} : rd l i = some v ↔ 0 ≤ i ∧ l[i.toNat]? = some v := by
  unfold rd
  split
  · rename_i h
    exact ⟨fun e => ⟨h, e⟩, fun e => e.2⟩
  · rename_i h
    exact ⟨fun e => (nomatch e), fun e => absurd e.1 h⟩
theorem rd_lt {l : List Int} {i v : Int} (h : rd l i = some v) : 0 ≤ i ∧ i < (l.length : Int) := by
  obtain ⟨h0, h1⟩ := rd_some.mp h
  have h2 := (List.getElem?_eq_some_iff.mp h1).1
  omega
theorem rd_of_lt {l : List Int} {i : Int} (h0 : 0 ≤ i) (h1 : i < (l.length : Int)) : ∃ v, rd l i = some v :=
  ⟨l[i.toNat]'(by omega), rd_some.mpr ⟨h0, List.getElem?_eq_getElem (by omega)⟩⟩
theorem wr_some {l l' : List Int} {i v : Int} : wr l i v = some l' ↔ (0 ≤ i ∧ i < (l.length : Int)) ∧ l' = l.set i.toNat v := by
  unfold wr
  split
  · rename_i h
    exact ⟨fun e => ⟨h, (Option.some.inj e).symm⟩, fun e => by rw [e.2]⟩
  · rename_i h
    exact ⟨fun e => (nomatch e), fun e => absurd e.1 h⟩
theorem wr_len {l l' : List Int} {i v : Int} (h : wr l i v = some l') : l'.length = l.length := by
  obtain ⟨_, rfl⟩ := wr_some.mp h
  exact List.length_set
theorem wr_of_lt {l : List Int} {i v : Int} (h0 : 0 ≤ i) (h1 : i < (l.length : Int)) : ∃ l', wr l i v = some l' := ⟨_, wr_some.mpr ⟨⟨h0, h1⟩, rfl⟩⟩
theorem rd_wr_same {l l' : List Int} {i v : Int} (h : wr l i v = some l') : rd l' i = some v := by
  obtain ⟨h0, rfl⟩ := wr_some.mp h
  exact rd_some.mpr ⟨h0.1, by rw [List.getElem?_set_self (by omega)]⟩
theorem rd_wr_ne {l l' : List Int} {i j v : Int} (h : wr l i v = some l') (n : j ≠ i) : rd l' j = rd l j := by
  obtain ⟨h0, rfl⟩ := wr_some.mp h
  unfold rd
  split
  · rename_i hj
    rw [List.getElem?_set_ne (by omega)]
  · rfl
theorem rd_wr {l l' : List Int} {i j v : Int} (h : wr l i v = some l') : rd l' j = if j = i then some v else rd l j := by
  split
  · rename_i e
    rw [e, rd_wr_same h]
  · rename_i e
    exact rd_wr_ne h e
/-- a row of words laid over another -/
theorem lay_get {l b : List Int} {t : Nat} (h : t + b.length ≤ l.length) (j : Nat) : (l.take t ++ b ++ l.drop (t + b.length))[j]? = if j < t then l[j]? else if j < t + b.length then b[j - t]? else l[j]? := by
  have h1 : (l.take t).length = t := by rw [List.length_take]; omega
  by_cases c1 : j < t
  · rw [if_pos c1, List.append_assoc, List.getElem?_append_left (by omega), List.getElem?_take_of_lt c1]
  · rw [if_neg c1]
    by_cases c2 : j < t + b.length
    · rw [if_pos c2, List.append_assoc, List.getElem?_append_right (by omega), h1, List.getElem?_append_left (by omega)]
    · rw [if_neg c2, List.getElem?_append_right (by rw [List.length_append]; omega), List.length_append, h1, List.getElem?_drop]
      congr 1
      omega
theorem lay_len {l b : List Int} {t : Nat} (h : t + b.length ≤ l.length) : (l.take t ++ b ++ l.drop (t + b.length)).length = l.length := by
  rw [List.length_append, List.length_append, List.length_take, List.length_drop]
  omega
theorem blit_eq {l : List Int} {a t n : Nat} (h : a + n ≤ l.length) : blit l a t n = l.take t ++ (l.drop a).take n ++ l.drop (t + ((l.drop a).take n).length) := by
  have e : ((l.drop a).take n).length = n := by rw [List.length_take, List.length_drop]; omega
  rw [e]
  rfl
theorem blit_len {l : List Int} {a t n : Nat} (h : a + n ≤ l.length) (h2 : t + n ≤ l.length) : (blit l a t n).length = l.length := by
  have e : ((l.drop a).take n).length = n := by rw [List.length_take, List.length_drop]; omega
  rw [blit_eq h, lay_len (by rw [e]; exact h2)]
theorem blit_get {l : List Int} {a t n : Nat} (h : a + n ≤ l.length) (h2 : t + n ≤ l.length) (j : Nat) : (blit l a t n)[j]? = if j < t then l[j]? else if j < t + n then l[a + (j - t)]? else l[j]? := by
  have e : ((l.drop a).take n).length = n := by rw [List.length_take, List.length_drop]; omega
  rw [blit_eq h, lay_get (by rw [e]; exact h2), e]
  by_cases c1 : j < t
  · rw [if_pos c1, if_pos c1]
  · rw [if_neg c1, if_neg c1]
    by_cases c2 : j < t + n
    · rw [if_pos c2, if_pos c2, List.getElem?_take_of_lt (by omega), List.getElem?_drop]
    · rw [if_neg c2, if_neg c2]
theorem rd_blit {l : List Int} {a t n : Nat} (h : a + n ≤ l.length) (h2 : t + n ≤ l.length) (j : Int) :
    rd (blit l a t n) j = if j < (t : Int) then rd l j else if j < (t : Int) + n then rd l (a + (j - t)) else rd l j := by
  unfold rd
  by_cases c0 : 0 ≤ j
  · rw [if_pos c0, blit_get h h2]
    by_cases c1 : j < (t : Int)
    · rw [if_pos (by omega), if_pos c1, if_pos c0]
    · rw [if_neg (by omega), if_neg c1]
      by_cases c2 : j < (t : Int) + n
      · rw [if_pos (by omega), if_pos c2, if_pos (by omega)]
        congr 1
        omega
      · rw [if_neg (by omega), if_neg c2, if_pos c0]
  · rw [if_neg c0, if_pos (by omega), if_neg c0]
/-- what copyOldM says -/
theorem copyOld_iff {h : HS} {a : Int} {p : Int × HS} : copyOldM h a = some p ↔ ∃ f ws2, rd h.words a = some f ∧ 0 ≤ f / 64 ∧ 0 ≤ a ∧ a + (f / 64 + 2) ≤ (claimM h (f / 64 + 2)).1 ∧ (claimM h (f / 64 + 2)).1 + (f / 64 + 2) ≤ (h.words.length : Int) ∧ h.words.length ≤ 100000 ∧ h.gr.length < 100000 ∧
    wr (blit h.words a.toNat (claimM h (f / 64 + 2)).1.toNat (f / 64 + 2).toNat) ((claimM h (f / 64 + 2)).1 + 1) (if h.ph = .marking then 1 else 0) = some ws2 ∧
    p = ((claimM h (f / 64 + 2)).1, { (claimM h (f / 64 + 2)).2 with words := ws2, gr := if h.ph = .marking then h.gr ++ [(claimM h (f / 64 + 2)).1] else h.gr }) := by
  simp only [copyOldM, bind, Option.bind_eq_some_iff, Option.some.injEq, grd_iff, Bool.and_eq_true, decide_eq_true_eq]
  constructor
  · rintro ⟨f, hf, _, ⟨⟨⟨⟨⟨g0, g1⟩, g2⟩, g3⟩, g4⟩, g5⟩, ws2, hw, rfl⟩
    exact ⟨f, ws2, hf, g0, g1, g2, g3, g4, g5, hw, rfl⟩
  · rintro ⟨f, ws2, hf, g0, g1, g2, g3, g4, g5, hw, rfl⟩
    exact ⟨f, hf, (), ⟨⟨⟨⟨⟨g0, g1⟩, g2⟩, g3⟩, g4⟩, g5⟩, ws2, hw, rfl⟩
/-- ahead of the copy nothing changes -/
theorem copyOld_keep {h : HS} {a : Int} {p : Int × HS} (e : copyOldM h a = some p) {j : Int} (hj : j < p.1) : rd p.2.words j = rd h.words j := by
  obtain ⟨f, ws2, hf, g0, g1, g2, g3, g4, g5, hw, rfl⟩ := copyOld_iff.mp e
  show rd ws2 j = rd h.words j
  have hj' : j < (claimM h (f / 64 + 2)).1 := hj
  rw [rd_wr_ne hw (by omega), rd_blit (by omega) (by omega), if_pos (by omega)]
theorem copyOld_le {h : HS} {a : Int} {p : Int × HS} (e : copyOldM h a = some p) : a + 2 ≤ p.1 := by
  obtain ⟨f, ws2, hf, g0, g1, g2, g3, g4, g5, hw, rfl⟩ := copyOld_iff.mp e
  show a + 2 ≤ (claimM h (f / 64 + 2)).1
  omega
theorem rd_mid {l1 l2 : List Int} {x : Int} {k : Nat} (h : l1.length = k) : rd (l1 ++ x :: l2) (k : Int) = some x :=
  rd_some.mpr ⟨by omega, by
    subst h
    rw [Int.toNat_natCast, List.getElem?_append_right (Nat.le_refl _), Nat.sub_self]
    rfl⟩
theorem wr_mid {l1 l2 : List Int} {x v : Int} {k : Nat} (h : l1.length = k) : wr (l1 ++ x :: l2) (k : Int) v = some ((l1 ++ [v]) ++ l2) :=
  wr_some.mpr ⟨⟨by omega, by rw [List.length_append, List.length_cons]; omega⟩, by
    subst h
    rw [Int.toNat_natCast, List.set_append_right _ _ (Nat.le_refl _), Nat.sub_self, List.append_assoc]
    rfl⟩
/-- the end of the old space that receives no copies -/
def oside (h : HS) : Int := if h.ph.late then h.top else h.ot
/-- the attributes that the lifting leaves -/
structure Keep (h h' : HS) : Prop where
  cap : h'.cap = h.cap
  nur : h'.nur = h.nur
  yt : h'.yt = h.yt
  base : h'.base = h.base
  ob : h'.ob = h.ob
  ph : h'.ph = h.ph
  cur : h'.cur = h.cur
  rem : h'.rem = h.rem
  pend : h'.pend = h.pend
  len : h'.words.length = h.words.length
  oth : oside h' = oside h
theorem Keep.refl (h : HS) : Keep h h := ⟨rfl, rfl, rfl, rfl, rfl, rfl, rfl, rfl, rfl, rfl, rfl⟩
theorem Keep.trans {a b c : HS} (x : Keep a b) (y : Keep b c) : Keep a c :=
  ⟨y.cap.trans x.cap, y.nur.trans x.nur, y.yt.trans x.yt, y.base.trans x.base, y.ob.trans x.ob, y.ph.trans x.ph, y.cur.trans x.cur, y.rem.trans x.rem, y.pend.trans x.pend, y.len.trans x.len, y.oth.trans x.oth⟩
theorem Keep.words {h h' : HS} (k : Keep h h') {ws : List Int} (e : ws.length = h'.words.length) : Keep h { h' with words := ws } := ⟨k.cap, k.nur, k.yt, k.base, k.ob, k.ph, k.cur, k.rem, k.pend, e.trans k.len, k.oth⟩
theorem claim_keep (h : HS) (s : Int) : Keep h (claimM h s).2 := by
  unfold claimM
  split
  · rename_i c
    exact ⟨rfl, rfl, rfl, rfl, rfl, rfl, rfl, rfl, rfl, rfl, by simp only [oside, if_pos c]⟩
  · rename_i c
    exact ⟨rfl, rfl, rfl, rfl, rfl, rfl, rfl, rfl, rfl, rfl, by simp only [oside, if_neg c]⟩
theorem claim_words (h : HS) (s : Int) : (claimM h s).2.words = h.words := by
  unfold claimM
  split <;> rfl
theorem copyOld_kept {h : HS} {a : Int} {p : Int × HS} (e : copyOldM h a = some p) : Keep h p.2 := by
  obtain ⟨f, ws2, hf, g0, g1, g2, g3, g4, g5, hw, rfl⟩ := copyOld_iff.mp e
  have k := claim_keep h (f / 64 + 2)
  have l : ws2.length = h.words.length := by rw [wr_len hw, blit_len (by omega) (by omega)]
  exact ⟨k.cap, k.nur, k.yt, k.base, k.ob, k.ph, k.cur, k.rem, k.pend, l, k.oth⟩
theorem promote_kept {h : HS} {a : Int} {mv : List Int} {p : Int × HS × List Int} (e : promoteM h a mv = some p) : Keep h p.2.1 := by
  simp only [promoteM, bind, Option.bind_eq_some_iff, grd_iff] at e
  obtain ⟨s, hs, _, g0, e⟩ := e
  split at e
  · cases e
    exact Keep.refl h
  · simp only [bind, Option.bind_eq_some_iff, Option.some.injEq] at e
    obtain ⟨p1, hc, ws, hw, _, _, rfl⟩ := e
    exact (copyOld_kept hc).words (wr_len hw)
theorem oldWord_kept {h : HS} {w : Int} {mv : List Int} {p : Int × HS × List Int} (e : oldWordM h w mv = some p) : Keep h p.2.1 := by
  simp only [oldWordM, bind, Option.bind_eq_some_iff, grd_iff] at e
  obtain ⟨_, g0, e⟩ := e
  split at e
  · simp only [bind, Option.bind_eq_some_iff, Option.some.injEq] at e
    obtain ⟨p1, e1, rfl⟩ := e
    have k := promote_kept e1
    exact k
  · cases e
    exact Keep.refl h
theorem liftSpots_kept : ∀ {n : Nat} {h : HS} {mv : List Int} {spot : Int} {p : HS × List Int}, liftSpotsM h mv spot n = some p → Keep h p.1
  | 0, h, mv, spot, p, e => by
    cases e
    exact Keep.refl h
  | n + 1, h, mv, spot, p, e => by
    simp only [liftSpotsM, bind, Option.bind_eq_some_iff] at e
    obtain ⟨w, hw, p1, e1, ws, hs, e2⟩ := e
    exact ((oldWord_kept e1).words (wr_len hs)).trans (liftSpots_kept e2)
theorem liftBlock_kept {h : HS} {a : Int} {mv : List Int} {p : HS × List Int} (e : liftBlockM h a mv = some p) : Keep h p.1 := by
  simp only [liftBlockM, bind, Option.bind_eq_some_iff] at e
  obtain ⟨f, hf, _, _, e⟩ := e
  exact liftSpots_kept e
theorem liftBlock_rem {h : HS} {a : Int} {mv : List Int} {p : HS × List Int} (e : liftBlockM h a mv = some p) : p.1.rem = h.rem := (liftBlock_kept e).rem
theorem liftRow_kept : ∀ {row : List Int} {h : HS} {mv : List Int} {p : List Int × HS × List Int}, liftRowM h mv row = some p → Keep h p.2.1
  | [], h, mv, p, e => by
    cases e
    exact Keep.refl h
  | w :: r, h, mv, p, e => by
    simp only [liftRowM, bind, Option.bind_eq_some_iff, Option.some.injEq] at e
    obtain ⟨p1, e1, p2, e2, rfl⟩ := e
    have k := liftRow_kept e2
    exact (oldWord_kept e1).trans k
theorem liftRows_kept : ∀ {rows : List (List Int)} {h : HS} {mv : List Int} {p : List (List Int) × HS × List Int}, liftRowsM h mv rows = some p → Keep h p.2.1
  | [], h, mv, p, e => by
    cases e
    exact Keep.refl h
  | r :: rs, h, mv, p, e => by
    simp only [liftRowsM, bind, Option.bind_eq_some_iff, Option.some.injEq] at e
    obtain ⟨p1, e1, p2, e2, rfl⟩ := e
    have k := liftRows_kept e2
    exact (liftRow_kept e1).trans k
theorem liftRem_kept : ∀ {as : List Int} {h : HS} {mv : List Int} {p : HS × List Int}, liftRemM h mv as = some p → Keep h p.1
  | [], h, mv, p, e => by
    cases e
    exact Keep.refl h
  | a :: r, h, mv, p, e => by
    simp only [liftRemM, bind, Option.bind_eq_some_iff] at e
    obtain ⟨b, hb, p1, e1, s, hs, _, _, ws, hw, e2⟩ := e
    exact ((liftBlock_kept e1).words (wr_len hw)).trans (liftRem_kept e2)
theorem scan_kept : ∀ {n : Nat} {i : Nat} {h : HS} {mv : List Int} {p : HS × List Int}, scanM h mv i n = some p → Keep h p.1
  | 0, i, h, mv, p, e => by
    unfold scanM at e
    split at e
    · cases e
      exact Keep.refl h
    · cases e
  | n + 1, i, h, mv, p, e => by
    unfold scanM at e
    split at e
    · cases e
      exact Keep.refl h
    · simp only [bind, Option.bind_eq_some_iff] at e
      obtain ⟨p1, e1, e2⟩ := e
      exact (liftBlock_kept e1).trans (scan_kept e2)
theorem scan_end {n i : Nat} {h : HS} {mv : List Int} {p : HS × List Int} (c : mv.length ≤ i) (e : scanM h mv i n = some p) : p = (h, mv) := by
  cases n with
  | zero =>
    unfold scanM at e
    rw [if_pos c] at e
    exact (Option.some.inj e).symm
  | succ n =>
    unfold scanM at e
    rw [List.getElem?_eq_none c] at e
    exact (Option.some.inj e).symm
theorem scan_go {n i : Nat} {h : HS} {mv : List Int} {p : HS × List Int} (c : i < mv.length) (e : scanM h mv i n = some p) : ∃ n', n = n' + 1 ∧ ∃ a, mv[i]? = some a ∧ ∃ p1, liftBlockM h a mv = some p1 ∧ scanM p1.1 p1.2 (i + 1) n' = some p := by
  cases n with
  | zero =>
    unfold scanM at e
    rw [if_neg (by omega)] at e
    cases e
  | succ n =>
    unfold scanM at e
    rw [List.getElem?_eq_getElem c] at e
    simp only [bind, Option.bind_eq_some_iff] at e
    obtain ⟨p1, e1, e2⟩ := e
    exact ⟨n, rfl, _, List.getElem?_eq_getElem c, p1, e1, e2⟩
/-- the law's and the program's shading of what a word leads to -/
def shadeTM (h : HS) (w : Int) : Option HS :=
  if isRef w && !h.isY (w / 2) then
    (rd h.words (w / 2 + 1)).bind fun u => if u % 4 = 0 then shadeM h (w / 2) else some h
  else some h
/-- word by word -/
theorem blit_zero {l : List Int} {a t : Nat} (h : t ≤ l.length) : blit l a t 0 = l := by
  unfold blit
  simp
theorem blit_step {l : List Int} {a t k : Nat} {v : Int} (h : a + k < t) (h2 : t + k < l.length) (hv : l[a + k]? = some v) : wr (blit l a t k) ((t : Int) + k) v = some (blit l a t (k + 1)) := by
  have hl : (blit l a t k).length = l.length := blit_len (by omega) (by omega)
  refine wr_some.mpr ⟨⟨by omega, by rw [hl]; omega⟩, ?_⟩
  apply List.ext_getElem?
  intro j
  rw [blit_get (by omega) (by omega), show ((t : Int) + k).toNat = t + k by omega]
  by_cases c : j = t + k
  · subst c
    rw [List.getElem?_set_self (by rw [hl]; omega), if_neg (by omega), if_pos (by omega), show a + (t + k - t) = a + k by omega, hv]
  · rw [List.getElem?_set_ne (Ne.symm c), blit_get (by omega) (by omega)]
    by_cases c1 : j < t
    · rw [if_pos c1, if_pos c1]
    · rw [if_neg c1, if_neg c1]
      by_cases c2 : j < t + k
      · rw [if_pos c2, if_pos (by omega)]
      · rw [if_neg c2, if_neg (by omega)]
/-- n places from lo on become 0 -/
def zeroFrom (l : List Int) (lo n : Nat) : List Int := l.take lo ++ List.replicate n 0 ++ l.drop (lo + n)
theorem zeroFrom_get {l : List Int} {lo n : Nat} (h : lo + n ≤ l.length) (j : Nat) : (zeroFrom l lo n)[j]? = if j < lo then l[j]? else if j < lo + n then some 0 else l[j]? := by
  have e : zeroFrom l lo n = l.take lo ++ List.replicate n 0 ++ l.drop (lo + (List.replicate n (0 : Int)).length) := by rw [List.length_replicate]; rfl
  rw [e, lay_get (by rw [List.length_replicate]; exact h), List.length_replicate]
  by_cases c : j < lo
  · rw [if_pos c, if_pos c]
  · rw [if_neg c, if_neg c]
    by_cases c1 : j < lo + n
    · rw [if_pos c1, if_pos c1, List.getElem?_replicate, if_pos (by omega)]
    · rw [if_neg c1, if_neg c1]
theorem zeroFrom_len {l : List Int} {lo n : Nat} (h : lo + n ≤ l.length) : (zeroFrom l lo n).length = l.length := by
  unfold zeroFrom
  rw [List.length_append, List.length_append, List.length_take, List.length_drop, List.length_replicate]
  omega
theorem zeroFrom_step {l : List Int} {lo k : Nat} (h : lo + k < l.length) : wr (zeroFrom l lo k) ((lo : Int) + k) 0 = some (zeroFrom l lo (k + 1)) := by
  have hl : (zeroFrom l lo k).length = l.length := zeroFrom_len (by omega)
  refine wr_some.mpr ⟨⟨by omega, by rw [hl]; omega⟩, ?_⟩
  apply List.ext_getElem?
  intro j
  rw [zeroFrom_get (by omega), show ((lo : Int) + k).toNat = lo + k by omega]
  by_cases c : j = lo + k
  · subst c
    rw [List.getElem?_set_self (by rw [hl]; omega), if_neg (by omega), if_pos (by omega)]
  · rw [List.getElem?_set_ne (Ne.symm c), zeroFrom_get (by omega)]
    by_cases c1 : j < lo
    · rw [if_pos c1, if_pos c1]
    · rw [if_neg c1, if_neg c1]
      by_cases c2 : j < lo + k
      · rw [if_pos c2, if_pos (by omega)]
      · rw [if_neg c2, if_neg (by omega)]
theorem zeroFrom_zero {l : List Int} {lo : Nat} (h : lo ≤ l.length) : zeroFrom l lo 0 = l := by
  unfold zeroFrom
  simp
/-- a block's words laid item by item -/
def lay (l : List Int) (t : Nat) (b : List Int) : List Int := l.take t ++ b ++ l.drop (t + b.length)
theorem lay_nil {l : List Int} {t : Nat} (h : t ≤ l.length) : lay l t [] = l := by
  unfold lay
  simp
theorem lay_step {l b : List Int} {t : Nat} {v : Int} (h : t + b.length < l.length) : wr (lay l t b) ((t : Int) + b.length) v = some (lay l t (b ++ [v])) := by
  have hl : (lay l t b).length = l.length := lay_len (by omega)
  refine wr_some.mpr ⟨⟨by omega, by rw [hl]; omega⟩, ?_⟩
  apply List.ext_getElem?
  intro j
  have e1 := lay_get (l := l) (b := b ++ [v]) (t := t) (by rw [List.length_append]; simp; omega) j
  have e2 := lay_get (l := l) (b := b) (t := t) (by omega) j
  have hb : (b ++ [v]).length = b.length + 1 := by rw [List.length_append]; rfl
  unfold lay
  rw [e1, hb, show ((t : Int) + b.length).toNat = t + b.length by omega]
  by_cases c : j = t + b.length
  · subst c
    have hl' : (l.take t ++ b ++ l.drop (t + b.length)).length = l.length := hl
    rw [List.getElem?_set_self (by rw [hl']; omega), if_neg (by omega), if_pos (by omega), show t + b.length - t = b.length by omega, List.getElem?_append_right (Nat.le_refl _), Nat.sub_self]
    rfl
  · rw [List.getElem?_set_ne (Ne.symm c), e2]
    by_cases c1 : j < t
    · rw [if_pos c1, if_pos c1]
    · rw [if_neg c1, if_neg c1]
      by_cases c2 : j < t + b.length
      · rw [if_pos c2, if_pos (by omega), List.getElem?_append_left (by omega)]
      · rw [if_neg c2, if_neg (by omega)]

/-! ### what the rows hold, in the order in which it is met -/
/-- one word: found: (the address by which it was met, where it lies); the queue grows by its payload -/
def metWord (h : HS) (found : List (Int × Int)) (queue : List (List Int)) (w : Int) : Option (List (Int × Int) × List (List Int)) :=
  if 0 < w ∧ w % 2 = 0 then
    (resolveM h (w / 2)).bind fun at_ =>
    if at_ ∈ found.map (·.2) then some (found, queue)
    else (rd h.words at_).bind fun f =>
      if 0 ≤ f / 64 ∧ at_ + 2 + f / 64 ≤ (h.words.length : Int) ∧ h.words.length ≤ 100000 ∧ found.length < 100000 ∧ queue.length < 300000 then some (found ++ [(w / 2, at_)], queue ++ [(h.words.drop (at_ + 2).toNat).take (f / 64).toNat]) else none
  else some (found, queue)
def metRow (h : HS) (found : List (Int × Int)) (queue : List (List Int)) : List Int → Option (List (Int × Int) × List (List Int))
  | [] => some (found, queue)
  | w :: r => (metWord h found queue w).bind fun p => metRow h p.1 p.2 r
def metLoop (h : HS) (found : List (Int × Int)) (queue : List (List Int)) (k : Nat) : Nat → Option (List (Int × Int))
  | 0 => some found
  | n + 1 => match queue[k]? with
    | none => some found
    | some r => (metRow h found queue r).bind fun p => metLoop h p.1 p.2 (k + 1) n
def metFuel : Nat := 100000
def metM (h : HS) (rows : List (List Int)) : Option (List (Int × Int)) := metLoop h [] rows 0 metFuel
end Qb

set_option Elab.async false
set_option linter.all false
/-! MirW: blocks in a row; a young collection is total and keeps what is well formed. Core Lean alone. -/
namespace Qb
theorem isRef_iff {w : Int} : isRef w = true ↔ w % 2 = 0 ∧ w ≠ 0 := by
  unfold isRef
  simp
theorem okw_iff {w : Int} : okw w = true ↔ w % 2 = 1 ∨ 0 ≤ w := by
  unfold okw
  simp
theorem isY_iff {h : HS} {a : Int} : h.isY a = true ↔ 1 ≤ a ∧ a ≤ h.nur := by
  unfold HS.isY
  simp
/-- blocks that fill x .. y -/
def Tile (ws : List Int) (x y : Int) : List Int → Prop
  | [] => x = y
  | a :: as => a = x ∧ ∃ f, rd ws x = some f ∧ 0 ≤ f / 64 ∧ Tile ws (x + 2 + f / 64) y as
theorem Tile.le : ∀ {as : List Int} {ws : List Int} {x y : Int}, Tile ws x y as → x ≤ y
  | [], ws, x, y, h => Int.le_of_eq h
  | a :: as, ws, x, y, h => by
    obtain ⟨_, f, _, h1, h2⟩ := h
    have := Tile.le h2
    omega
theorem Tile.mem : ∀ {as : List Int} {ws : List Int} {x y a : Int}, Tile ws x y as → a ∈ as → x ≤ a ∧ ∃ f, rd ws a = some f ∧ 0 ≤ f / 64 ∧ a + 2 + f / 64 ≤ y
  | b :: as, ws, x, y, a, h, m => by
    obtain ⟨e, f, h0, h1, h2⟩ := h
    subst e
    rcases List.mem_cons.mp m with z | z
    · subst z
      exact ⟨Int.le_refl _, f, h0, h1, Tile.le h2⟩
    · obtain ⟨k1, k2⟩ := Tile.mem h2 z
      exact ⟨by omega, k2⟩
theorem Tile.congr : ∀ {as : List Int} {ws ws' : List Int} {x y : Int}, Tile ws x y as → (∀ a ∈ as, rd ws' a = rd ws a) → Tile ws' x y as
  | [], ws, ws', x, y, h, _ => h
  | a :: as, ws, ws', x, y, h, k => by
    obtain ⟨e, f, h0, h1, h2⟩ := h
    subst e
    exact ⟨rfl, f, by rw [k a (by simp)]; exact h0, h1, Tile.congr h2 fun b hb => k b (List.mem_cons_of_mem _ hb)⟩
theorem Tile.snoc : ∀ {as : List Int} {ws : List Int} {x y f : Int}, Tile ws x y as → rd ws y = some f → 0 ≤ f / 64 → Tile ws x (y + 2 + f / 64) (as ++ [y])
  | [], ws, x, y, f, h, h0, h1 => by
    have : x = y := h
    subst this
    exact ⟨rfl, f, h0, h1, rfl⟩
  | a :: as, ws, x, y, f, h, h0, h1 => by
    obtain ⟨e, g, k0, k1, k2⟩ := h
    exact ⟨e, g, k0, k1, Tile.snoc k2 h0 h1⟩
/-- two blocks of a row do not overlap -/
theorem Tile.apart : ∀ {as : List Int} {ws : List Int} {x y a b f g : Int}, Tile ws x y as → a ∈ as → b ∈ as → a ≠ b → rd ws a = some f → rd ws b = some g → a + 2 + f / 64 ≤ b ∨ b + 2 + g / 64 ≤ a
  | c :: as, ws, x, y, a, b, f, g, h, ma, mb, n, ha, hb => by
    obtain ⟨e, k, k0, k1, k2⟩ := h
    subst e
    rcases List.mem_cons.mp ma with z | z
    · subst z
      rcases List.mem_cons.mp mb with w | w
      · exact absurd w.symm n
      · have h1 := (Tile.mem k2 w).1
        rw [k0] at ha
        cases ha
        exact .inl h1
    · rcases List.mem_cons.mp mb with w | w
      · subst w
        have h1 := (Tile.mem k2 z).1
        rw [k0] at hb
        cases hb
        exact .inr h1
      · exact Tile.apart k2 z w n ha hb
theorem Tile.nodup : ∀ {as : List Int} {ws : List Int} {x y : Int}, Tile ws x y as → as.Nodup
  | [], ws, x, y, h => List.nodup_nil
  | a :: as, ws, x, y, h => by
    obtain ⟨e, f, h0, h1, h2⟩ := h
    refine List.nodup_cons.mpr ⟨fun m => ?_, Tile.nodup h2⟩
    have := (Tile.mem h2 m).1
    omega
theorem Tile.many : ∀ {as : List Int} {ws : List Int} {x y : Int}, Tile ws x y as → 2 * (as.length : Int) ≤ y - x
  | [], ws, x, y, h => by
    have : x = y := h
    simp
    omega
  | a :: as, ws, x, y, h => by
    obtain ⟨e, f, h0, h1, h2⟩ := h
    have := Tile.many h2
    rw [List.length_cons]
    omega
theorem Tile.append : ∀ {as bs : List Int} {ws : List Int} {x y z : Int}, Tile ws x y as → Tile ws y z bs → Tile ws x z (as ++ bs)
  | [], bs, ws, x, y, z, h, k => by
    have : x = y := h
    subst this
    exact k
  | a :: as, bs, ws, x, y, z, h, k => by
    obtain ⟨e, f, h0, h1, h2⟩ := h
    exact ⟨e, f, h0, h1, Tile.append h2 k⟩
/-- how long the block at a is -/
def szOf (ws : List Int) (a : Int) : Int := 2 + ((rd ws a).getD 0) / 64
def Su (ws : List Int) : List Int → Int
  | [] => 0
  | a :: as => szOf ws a + Su ws as
theorem Tile.sum : ∀ {as : List Int} {ws : List Int} {x y : Int}, Tile ws x y as → Su ws as = y - x
  | [], ws, x, y, h => by
    have : x = y := h
    show (0 : Int) = _
    omega
  | a :: as, ws, x, y, h => by
    obtain ⟨e, f, h0, h1, h2⟩ := h
    subst e
    show szOf ws a + Su ws as = _
    rw [Tile.sum h2]
    unfold szOf
    rw [h0]
    show 2 + f / 64 + _ = _
    omega
theorem su_erase {ws : List Int} {a : Int} : ∀ {as : List Int}, a ∈ as → Su ws as = szOf ws a + Su ws (as.erase a)
  | b :: as, m => by
    by_cases e : b = a
    · subst e
      rw [List.erase_cons_head]
      rfl
    · rw [List.erase_cons_tail (by simpa using e)]
      show szOf ws b + Su ws as = szOf ws a + (szOf ws b + Su ws (as.erase a))
      rw [su_erase (as := as) (by
        rcases List.mem_cons.mp m with z | z
        · exact absurd z.symm e
        · exact z)]
      omega
theorem su_nn {ws : List Int} : ∀ {as : List Int}, (∀ a ∈ as, 0 ≤ szOf ws a) → 0 ≤ Su ws as
  | [], _ => Int.le_refl _
  | a :: as, h => by
    have h1 := h a (by simp)
    have h2 := su_nn (as := as) fun b hb => h b (List.mem_cons_of_mem _ hb)
    show 0 ≤ szOf ws a + Su ws as
    omega

/-! ### lifting -/
/-- where the next old block goes -/
def ctop (h : HS) : Int := if h.ph.late then h.ot else h.top
theorem claim_fst (h : HS) (s : Int) : (claimM h s).1 = ctop h := by
  unfold claimM ctop
  split <;> rfl
theorem claim_ctop (h : HS) (s : Int) : ctop (claimM h s).2 = ctop h + s := by
  unfold claimM ctop
  by_cases c : h.ph.late = true
  · simp only [if_pos c]
  · simp only [if_neg c]
theorem ctop_eq {h h' : HS} (k : h'.ph = h.ph) (a : h'.ot = h.ot) (b : h'.top = h.top) : ctop h' = ctop h := by
  unfold ctop
  rw [k, a, b]
/-- a word that leads to a young block, to what Old allows or to a copy -/
def VV (ys : List Int) (Old : Int → Prop) (mv : List Int) (w : Int) : Prop := okw w = true ∧ (isRef w = true → w / 2 ∈ ys ∨ Old (w / 2) ∨ w / 2 ∈ mv)
def VL (Old : Int → Prop) (mv : List Int) (w : Int) : Prop := okw w = true ∧ (isRef w = true → Old (w / 2) ∨ w / 2 ∈ mv)
theorem VL.mono {Old : Int → Prop} {mv mv' : List Int} {w : Int} (h : VL Old mv w) (k : ∀ t ∈ mv, t ∈ mv') : VL Old mv' w := ⟨h.1, fun r => (h.2 r).imp id (k _)⟩
theorem VV.mono {ys : List Int} {Old : Int → Prop} {mv mv' : List Int} {w : Int} (h : VV ys Old mv w) (k : ∀ t ∈ mv, t ∈ mv') : VV ys Old mv' w := ⟨h.1, fun r => (h.2 r).imp id (·.imp id (k _))⟩
theorem VL.vv {ys : List Int} {Old : Int → Prop} {mv : List Int} {w : Int} (h : VL Old mv w) : VV ys Old mv w := ⟨h.1, fun r => .inr (h.2 r)⟩
/-- the payload of the block at a keeps P -/
def Pay (ws : List Int) (a : Int) (P : Int → Prop) : Prop := ∀ f j w, rd ws a = some f → a + 2 ≤ j → j < a + 2 + f / 64 → rd ws j = some w → P w
theorem Pay.imp {ws : List Int} {a : Int} {P P' : Int → Prop} (h : Pay ws a P) (k : ∀ w, P w → P' w) : Pay ws a P' := fun f j w e h1 h2 h3 => k w (h f j w e h1 h2 h3)
/-- what the liftings read and leave: ys the young blocks, lim where the copies end at most -/
structure LP (h0 : HS) (ys : List Int) (Old : Int → Prop) (t0 lim : Int) : Prop where
  nur : 0 ≤ h0.nur
  yt : h0.yt ≤ h0.nur + 1
  tile : Tile h0.words 1 h0.yt ys
  tn : h0.nur + 1 ≤ t0
  lm : lim = t0 + (h0.yt - 1)
  room : lim ≤ (h0.words.length : Int)
  len : h0.words.length ≤ 100000
  gr : h0.gr.length + ys.length < 100000
  many : ys.length < 99999
  old : ∀ a, Old a → h0.nur < a
  pay : ∀ a ∈ ys, Pay h0.words a (VV ys Old [])
def grOf (h0 : HS) (mv : List Int) : List Int := if h0.ph = .marking then h0.gr ++ mv else h0.gr
structure LI (h0 : HS) (ys : List Int) (Old : Int → Prop) (t0 lim : Int) (un : List Int) (h : HS) (mv : List Int) : Prop where
  kp : Keep h0 h
  sub : ∀ a ∈ un, a ∈ ys
  nd : un.Nodup
  zero : ∀ a ∈ un, rd h.words (a + 1) = some 0
  fwd : ∀ a ∈ ys, a ∉ un → ∃ t ∈ mv, rd h.words (a + 1) = some (8 * t)
  same : ∀ j, j ≤ h0.nur → (∀ a ∈ ys, j ≠ a + 1) → rd h.words j = rd h0.words j
  tile : Tile h.words t0 (ctop h) mv
  sum : Su h0.words un + ctop h = lim
  st : ∀ t ∈ mv, rd h.words (t + 1) = some (if h0.ph = .marking then 1 else 0)
  gr : h.gr = grOf h0 mv
  len : mv.length + un.length = ys.length
  pay : ∀ t ∈ mv, Pay h.words t (VV ys Old mv)
section
variable {h0 h : HS} {ys un mv : List Int} {Old : Int → Prop} {t0 lim : Int}
theorem LI.un_nn (L : LI h0 ys Old t0 lim un h mv) (P : LP h0 ys Old t0 lim) : 0 ≤ Su h0.words un := by
  refine su_nn fun a ha => ?_
  obtain ⟨_, f, h1, h2, _⟩ := P.tile.mem (L.sub a ha)
  unfold szOf
  rw [h1]
  show 0 ≤ 2 + f / 64
  omega
theorem LI.ctop_le (L : LI h0 ys Old t0 lim un h mv) (P : LP h0 ys Old t0 lim) : ctop h ≤ lim := by
  have := L.un_nn P
  have := L.sum
  omega
/-- the block of a young address is as it was -/
theorem LI.young (L : LI h0 ys Old t0 lim un h mv) (P : LP h0 ys Old t0 lim) {a : Int} (ha : a ∈ ys) : 1 ≤ a ∧ ∃ f, rd h0.words a = some f ∧ rd h.words a = some f ∧ 0 ≤ f / 64 ∧ a + 2 + f / 64 ≤ h0.yt ∧
    ∀ j, a + 2 ≤ j → j < a + 2 + f / 64 → rd h.words j = rd h0.words j := by
  obtain ⟨h1, f, h2, h3, h4⟩ := P.tile.mem ha
  have hy := P.yt
  have nost : ∀ j, (j = a ∨ a + 2 ≤ j ∧ j < a + 2 + f / 64) → ∀ b ∈ ys, j ≠ b + 1 := by
    intro j hj b hb e
    obtain ⟨k1, g, k2, k3, k4⟩ := P.tile.mem hb
    by_cases c : a = b
    · omega
    · rcases P.tile.apart ha hb c h2 k2 with z | z <;> omega
  refine ⟨h1, f, h2, ?_, h3, h4, fun j j1 j2 => L.same j (by omega) (nost j (.inr ⟨j1, j2⟩))⟩
  rw [L.same a (by omega) (nost a (.inl rfl))]
  exact h2
/-- the copies that are made between h and h' -/
structure Gw (h0 : HS) (lim : Int) (h : HS) (mv : List Int) (h' : HS) (mv' : List Int) : Prop where
  new : ∃ new, mv' = mv ++ new ∧ ∀ t ∈ new, ctop h ≤ t ∧ t + 2 ≤ lim
  frame : ∀ j, h0.nur < j → (j < ctop h ∨ lim ≤ j) → rd h'.words j = rd h.words j
  le : ctop h ≤ ctop h'
theorem Gw.refl (h0 : HS) (lim : Int) (h : HS) (mv : List Int) : Gw h0 lim h mv h mv := ⟨⟨[], by simp, fun t ht => by cases ht⟩, fun _ _ _ => rfl, Int.le_refl _⟩
theorem Gw.trans {h1 h2 : HS} {mv1 mv2 : List Int} (a : Gw h0 lim h mv h1 mv1) (b : Gw h0 lim h1 mv1 h2 mv2) : Gw h0 lim h mv h2 mv2 := by
  obtain ⟨⟨n1, e1, k1⟩, f1, l1⟩ := a
  obtain ⟨⟨n2, e2, k2⟩, f2, l2⟩ := b
  refine ⟨⟨n1 ++ n2, by rw [e2, e1, List.append_assoc], fun t ht => ?_⟩, fun j hj hk => ?_, Int.le_trans l1 l2⟩
  · rcases List.mem_append.mp ht with z | z
    · exact k1 t z
    · have := k2 t z
      omega
  · rw [f2 j hj (by omega), f1 j hj hk]
theorem Gw.sub {h' : HS} {mv' : List Int} (a : Gw h0 lim h mv h' mv') : ∀ t ∈ mv, t ∈ mv' := by
  obtain ⟨⟨n, e, _⟩, _, _⟩ := a
  intro t ht
  rw [e]
  exact List.mem_append_left _ ht
theorem promote_ok (P : LP h0 ys Old t0 lim) (L : LI h0 ys Old t0 lim un h mv) {a : Int} (ha : a ∈ ys) : ∃ p un', promoteM h a mv = some p ∧ LI h0 ys Old t0 lim un' p.2.1 p.2.2 ∧ p.1 ∈ p.2.2 ∧ Gw h0 lim h mv p.2.1 p.2.2 := by
  obtain ⟨a1, f, f0, f1, f2, f3, f4⟩ := L.young P ha
  have hn := P.nur
  have hy := P.yt
  have htn := P.tn
  have hroom := P.room
  have hlen := L.kp.len
  have hct := L.tile.le
  by_cases c : a ∈ un
  · have hz := L.zero a c
    have hsz : szOf h0.words a = 2 + f / 64 := by
      unfold szOf
      rw [f0]
      rfl
    have hsum := su_erase (ws := h0.words) c
    have hs := L.sum
    have hnn : 0 ≤ Su h0.words (un.erase a) := su_nn fun b hb => by
      obtain ⟨_, g, g1, g2, _⟩ := P.tile.mem (L.sub b (List.mem_of_mem_erase hb))
      unfold szOf
      rw [g1]
      show 0 ≤ 2 + g / 64
      omega
    have hl := P.lm
    have hfit : ctop h + (f / 64 + 2) ≤ lim := by omega
    have hgr : h.gr.length < 100000 := by
      rw [L.gr]
      have := P.gr
      have := L.len
      unfold grOf
      split
      · rw [List.length_append]; omega
      · omega
    have hph : h.ph = h0.ph := L.kp.ph
    have hbl : (blit h.words a.toNat (ctop h).toNat (f / 64 + 2).toNat).length = h.words.length := blit_len (by omega) (by omega)
    obtain ⟨ws2, hw2⟩ := wr_of_lt (l := blit h.words a.toNat (ctop h).toNat (f / 64 + 2).toNat) (i := ctop h + 1) (v := if h.ph = .marking then 1 else 0) (by omega) (by rw [hbl]; omega)
    have hcopy : copyOldM h a = some (ctop h, { (claimM h (f / 64 + 2)).2 with words := ws2, gr := if h.ph = .marking then h.gr ++ [ctop h] else h.gr }) := by
      refine copyOld_iff.mpr ⟨f, ws2, f1, f2, by omega, ?_, ?_, by rw [hlen]; exact P.len, hgr, ?_, ?_⟩
      · rw [claim_fst]; omega
      · rw [claim_fst]; omega
      · rw [claim_fst]; exact hw2
      · rw [claim_fst]
    have hl2 : ws2.length = h.words.length := by rw [wr_len hw2, hbl]
    obtain ⟨ws3, hw3⟩ := wr_of_lt (l := ws2) (i := a + 1) (v := 8 * ctop h) (by omega) (by omega)
    have hr : ∀ j, rd ws3 j = if j = a + 1 then some (8 * ctop h) else if j = ctop h + 1 then some (if h.ph = .marking then 1 else 0) else if ctop h ≤ j ∧ j < ctop h + (f / 64 + 2) then rd h.words (a + (j - ctop h)) else rd h.words j := by
      intro j
      rw [rd_wr hw3, rd_wr hw2, rd_blit (by omega) (by omega)]
      by_cases c1 : j = a + 1
      · rw [if_pos c1, if_pos c1]
      · rw [if_neg c1, if_neg c1]
        by_cases c2 : j = ctop h + 1
        · rw [if_pos c2, if_pos c2]
        · rw [if_neg c2, if_neg c2]
          by_cases c3 : ctop h ≤ j ∧ j < ctop h + (f / 64 + 2)
          · rw [if_neg (by omega), if_pos (by omega), if_pos c3]
            congr 1
            omega
          · rw [if_neg c3]
            by_cases c4 : j < ((ctop h).toNat : Int)
            · rw [if_pos c4]
            · rw [if_neg c4, if_neg (by omega)]
    have hmv : mv.length < 100000 := by
      have := L.len
      have := P.many
      omega
    have hM : promoteM h a mv = some (ctop h, { ({ (claimM h (f / 64 + 2)).2 with words := ws2, gr := if h.ph = .marking then h.gr ++ [ctop h] else h.gr } : HS) with words := ws3 }, mv ++ [ctop h]) := by
      simp only [promoteM, bind, Option.bind_eq_some_iff, grd_iff]
      refine ⟨0, hz, (), rfl, ?_⟩
      rw [if_neg (by decide)]
      simp only [Option.bind_eq_some_iff, grd_iff, decide_eq_true_eq]
      exact ⟨_, hcopy, ws3, hw3, (), hmv, rfl⟩
    have hct' : ctop ({ ({ (claimM h (f / 64 + 2)).2 with words := ws2, gr := if h.ph = .marking then h.gr ++ [ctop h] else h.gr } : HS) with words := ws3 }) = ctop h + (f / 64 + 2) := claim_ctop h (f / 64 + 2)
    have old : ∀ j, j < ctop h → j ≠ a + 1 → rd ws3 j = rd h.words j := fun j h1 h2 => by rw [hr, if_neg h2, if_neg (by omega), if_neg (by omega)]
    refine ⟨_, un.erase a, hM, ⟨L.kp.trans (promote_kept hM), fun b hb => L.sub b (List.mem_of_mem_erase hb), L.nd.erase a, ?_, ?_, ?_, ?_, ?_, ?_, ?_, ?_, ?_⟩, List.mem_append_right _ (by simp), ⟨⟨[ctop h], rfl, fun t ht => ?_⟩, ?_, ?_⟩⟩
    · intro b hb
      show rd ws3 (b + 1) = some 0
      have hbu := List.mem_of_mem_erase hb
      have hba : b ≠ a := fun z => by rw [z] at hb; exact (L.nd.not_mem_erase hb)
      obtain ⟨_, g, _, g2, g3⟩ := P.tile.mem (L.sub b hbu)
      rw [old _ (by omega) (by omega)]
      exact L.zero b hbu
    · intro b hb hnb
      show ∃ t ∈ mv ++ [ctop h], rd ws3 (b + 1) = some (8 * t)
      by_cases e : b = a
      · subst e
        exact ⟨ctop h, List.mem_append_right _ (by simp), by rw [hr, if_pos rfl]⟩
      · obtain ⟨t, t1, t2⟩ := L.fwd b hb fun z => hnb ((List.mem_erase_of_ne e).mpr z)
        obtain ⟨_, g, _, g2, g3⟩ := P.tile.mem hb
        exact ⟨t, List.mem_append_left _ t1, by rw [old _ (by omega) (by omega)]; exact t2⟩
    · intro j h1 h2
      show rd ws3 j = _
      rw [old j (by omega) (h2 a ha)]
      exact L.same j h1 h2
    · show Tile ws3 t0 (ctop _) (mv ++ [ctop h])
      rw [hct', show ctop h + (f / 64 + 2) = ctop h + 2 + f / 64 by omega]
      refine Tile.snoc (L.tile.congr fun u hu => old u ?_ ?_) ?_ f2
      · obtain ⟨_, g, _, g2, g3⟩ := L.tile.mem hu
        omega
      · obtain ⟨g1, _⟩ := L.tile.mem hu
        omega
      · rw [hr, if_neg (by omega), if_neg (by omega), if_pos (by omega), Int.sub_self, Int.add_zero]
        exact f1
    · show Su h0.words (un.erase a) + ctop _ = lim
      rw [hct']
      omega
    · intro t ht
      show rd ws3 (t + 1) = _
      rcases List.mem_append.mp ht with z | z
      · obtain ⟨k1, g, _, g2, g3⟩ := L.tile.mem z
        rw [old _ (by omega) (by omega)]
        exact L.st t z
      · rw [List.mem_singleton.mp z, hr, if_neg (by omega), if_pos rfl, hph]
    · show (if h.ph = .marking then h.gr ++ [ctop h] else h.gr) = grOf h0 (mv ++ [ctop h])
      rw [L.gr, hph]
      unfold grOf
      split
      · rw [List.append_assoc]
      · rfl
    · show (mv ++ [ctop h]).length + (un.erase a).length = _
      rw [List.length_append, List.length_erase_of_mem c]
      have := List.length_pos_of_mem c
      have := L.len
      simp
      omega
    · intro t ht
      show Pay ws3 t (VV ys Old (mv ++ [ctop h]))
      rcases List.mem_append.mp ht with z | z
      · intro g j w k1 k2 k3 k4
        obtain ⟨m1, g', m2, m3, m4⟩ := L.tile.mem z
        rw [old t (by omega) (by omega), m2] at k1
        cases k1
        rw [old j (by omega) (by omega)] at k4
        exact (L.pay t z _ j w m2 k2 k3 k4).mono fun u hu => List.mem_append_left _ hu
      · rw [List.mem_singleton.mp z]
        intro g j w k1 k2 k3 k4
        rw [hr, if_neg (by omega), if_neg (by omega), if_pos (by omega), Int.sub_self, Int.add_zero, f1] at k1
        cases k1
        rw [hr, if_neg (by omega), if_neg (by omega), if_pos (by omega), f4 _ (by omega) (by omega)] at k4
        exact (P.pay a ha f (a + (j - ctop h)) w f0 (by omega) (by omega) k4).mono fun u hu => by cases hu
    · rw [List.mem_singleton.mp ht]
      omega
    · intro j h1 h2
      show rd ws3 j = rd h.words j
      rw [hr, if_neg (by omega), if_neg (by omega), if_neg (by omega)]
    · show ctop h ≤ ctop _
      rw [hct']
      omega
  · obtain ⟨t, t1, t2⟩ := L.fwd a ha c
    have ht := (L.tile.mem t1).1
    refine ⟨(t, h, mv), un, ?_, L, t1, Gw.refl _ _ _ _⟩
    simp only [promoteM, bind, Option.bind_eq_some_iff, grd_iff]
    refine ⟨8 * t, t2, (), ?_, ?_⟩
    · simp only [Bool.and_eq_true, decide_eq_true_eq]
      omega
    · rw [if_pos (by omega), show 8 * t / 8 = t by omega]
theorem oldWord_ok (P : LP h0 ys Old t0 lim) (L : LI h0 ys Old t0 lim un h mv) {w : Int} (hw : VV ys Old mv w) : ∃ p un', oldWordM h w mv = some p ∧ LI h0 ys Old t0 lim un' p.2.1 p.2.2 ∧ VL Old p.2.2 p.1 ∧ Gw h0 lim h mv p.2.1 p.2.2 := by
  have hnur : h.nur = h0.nur := L.kp.nur
  by_cases c : (isRef w && h.isY (w / 2)) = true
  · obtain ⟨c1, c2⟩ := (Bool.and_eq_true _ _).mp c
    have c3 := isY_iff.mp c2
    have hy : w / 2 ∈ ys := by
      rcases hw.2 c1 with z | z | z
      · exact z
      · have := P.old _ z
        omega
      · have := (L.tile.mem z).1
        have := P.tn
        omega
    obtain ⟨p, un', e, L', m, g⟩ := promote_ok P L hy
    refine ⟨(2 * p.1, p.2.1, p.2.2), un', ?_, L', ⟨?_, fun _ => .inr ?_⟩, g⟩
    · simp only [oldWordM, bind, Option.bind_eq_some_iff, grd_iff]
      refine ⟨(), hw.1, ?_⟩
      rw [if_pos c]
      simp only [Option.bind_eq_some_iff]
      exact ⟨p, e, rfl⟩
    · have := (L'.tile.mem m).1
      have := P.tn
      have := P.nur
      exact okw_iff.mpr (.inr (by omega))
    · show 2 * p.1 / 2 ∈ p.2.2
      rw [show 2 * p.1 / 2 = p.1 by omega]
      exact m
  · refine ⟨(w, h, mv), un, ?_, L, ⟨hw.1, fun r => ?_⟩, Gw.refl _ _ _ _⟩
    · simp only [oldWordM, bind, Option.bind_eq_some_iff, grd_iff]
      refine ⟨(), hw.1, ?_⟩
      rw [if_neg c]
    · rcases hw.2 r with z | z
      · exfalso
        apply c
        obtain ⟨z1, g, z2, z3, z4⟩ := P.tile.mem z
        have := P.yt
        rw [r, Bool.true_and]
        exact isY_iff.mpr ⟨z1, by omega⟩
      · exact z
/-- a place that lifting may write -/
def Spt (h0 : HS) (lim : Int) (h : HS) (mv : List Int) (j : Int) : Prop := h0.nur < j ∧ j < (h0.words.length : Int) ∧ (j < ctop h ∨ lim ≤ j) ∧ ∀ t ∈ mv, j ≠ t ∧ j ≠ t + 1
theorem Spt.gw {h' : HS} {mv' : List Int} {j : Int} (s : Spt h0 lim h mv j) (g : Gw h0 lim h mv h' mv') : Spt h0 lim h' mv' j := by
  obtain ⟨s1, s2, s3, s4⟩ := s
  obtain ⟨⟨n, e, k⟩, _, l⟩ := g
  refine ⟨s1, s2, by omega, fun t ht => ?_⟩
  rw [e] at ht
  rcases List.mem_append.mp ht with z | z
  · exact s4 t z
  · have := k t z
    omega
theorem Spt.grow {h' : HS} {mv' : List Int} {j : Int} (s : Spt h0 lim h mv j) (g : ∃ new, mv' = mv ++ new ∧ ∀ t ∈ new, ctop h ≤ t ∧ t + 2 ≤ lim) (l : ctop h ≤ ctop h') : Spt h0 lim h' mv' j := by
  obtain ⟨s1, s2, s3, s4⟩ := s
  obtain ⟨n, e, k⟩ := g
  refine ⟨s1, s2, by omega, fun t ht => ?_⟩
  rw [e] at ht
  rcases List.mem_append.mp ht with z | z
  · exact s4 t z
  · have := k t z
    omega
theorem LI.write (P : LP h0 ys Old t0 lim) (L : LI h0 ys Old t0 lim un h mv) {j v : Int} {ws : List Int} (s : Spt h0 lim h mv j) (hv : (j < t0 ∨ lim ≤ j) ∨ VV ys Old mv v) (hw : wr h.words j v = some ws) : LI h0 ys Old t0 lim un { h with words := ws } mv := by
  obtain ⟨s1, s2, s3, s4⟩ := s
  have hn := P.nur
  have hy := P.yt
  have ne : ∀ i, i ≠ j → rd ws i = rd h.words i := fun i hi => rd_wr_ne hw hi
  have yl : ∀ a ∈ ys, a + 1 ≠ j := fun a ha => by
    obtain ⟨_, g, _, g2, g3⟩ := P.tile.mem ha
    omega
  refine ⟨L.kp.words (wr_len hw), L.sub, L.nd, fun a ha => ?_, fun a ha hn => ?_, fun i h1 h2 => ?_, L.tile.congr fun t ht => ne t fun z => (s4 t ht).1 z.symm, L.sum, fun t ht => ?_, L.gr, L.len, fun t ht => ?_⟩
  · rw [ne _ (yl a (L.sub a ha))]
    exact L.zero a ha
  · rw [ne _ (yl a ha)]
    exact L.fwd a ha hn
  · rw [ne i (by omega)]
    exact L.same i h1 h2
  · show rd ws (t + 1) = _
    rw [ne _ fun z => (s4 t ht).2 z.symm]
    exact L.st t ht
  · intro f i w k1 k2 k3 k4
    have k1' : rd ws t = some f := k1
    have k4' : rd ws i = some w := k4
    rw [ne t fun z => (s4 t ht).1 z.symm] at k1'
    by_cases c : i = j
    · subst c
      rw [rd_wr_same hw] at k4'
      cases k4'
      rcases hv with z | z
      · obtain ⟨m1, g, m2, m3, m4⟩ := L.tile.mem ht
        rw [m2] at k1'
        cases k1'
        have := L.ctop_le P
        omega
      · exact z
    · rw [ne i c] at k4'
      exact L.pay t ht f i w k1' k2 k3 k4'
/-- n places from spot on -/
theorem liftSpots_ok (P : LP h0 ys Old t0 lim) : ∀ (n : Nat) {h : HS} {mv un : List Int} {spot : Int}, LI h0 ys Old t0 lim un h mv → (∀ j, spot ≤ j → j < spot + n → Spt h0 lim h mv j) → (∀ j w, spot ≤ j → j < spot + n → rd h.words j = some w → VV ys Old mv w) →
    ∃ p un', liftSpotsM h mv spot n = some p ∧ LI h0 ys Old t0 lim un' p.1 p.2 ∧ (∃ new, p.2 = mv ++ new ∧ ∀ t ∈ new, ctop h ≤ t ∧ t + 2 ≤ lim) ∧ ctop h ≤ ctop p.1 ∧
      (∀ j, h0.nur < j → (j < ctop h ∨ lim ≤ j) → ¬ (spot ≤ j ∧ j < spot + n) → rd p.1.words j = rd h.words j) ∧ (∀ j w, spot ≤ j → j < spot + n → rd p.1.words j = some w → VL Old p.2 w)
  | 0, h, mv, un, spot, L, hs, hv => ⟨(h, mv), un, rfl, L, ⟨[], by simp, fun t ht => by cases ht⟩, Int.le_refl _, fun j _ _ _ => rfl, fun j w h1 h2 => absurd h2 (by omega)⟩
  | n + 1, h, mv, un, spot, L, hs, hv => by
    have s0 := hs spot (Int.le_refl _) (by omega)
    obtain ⟨w, hw⟩ := rd_of_lt (l := h.words) (i := spot) (by have := s0.1; have := P.nur; omega) (by rw [L.kp.len]; exact s0.2.1)
    have v0 := hv spot w (Int.le_refl _) (by omega) hw
    obtain ⟨p1, un1, e1, L1, vl1, g1⟩ := oldWord_ok P L v0
    have s1 := s0.gw g1
    obtain ⟨ws, hws⟩ := wr_of_lt (l := p1.2.1.words) (i := spot) (v := p1.1) (by have := s0.1; have := P.nur; omega) (by rw [L1.kp.len]; exact s0.2.1)
    have L2 := L1.write P s1 (.inr vl1.vv) hws
    have c12 : ctop { p1.2.1 with words := ws } = ctop p1.2.1 := ctop_eq rfl rfl rfl
    have rn : ∀ j, spot + 1 ≤ j → j < spot + 1 + n → rd ws j = rd h.words j := fun j h1 h2 => by
      have sj := hs j (by omega) (by omega)
      rw [rd_wr_ne hws (by omega), g1.frame j sj.1 sj.2.2.1]
    obtain ⟨p, un', e2, L3, ⟨new, n1, n2⟩, l3, f3, v3⟩ := liftSpots_ok P n (h := { p1.2.1 with words := ws }) (mv := p1.2.2) (un := un1) (spot := spot + 1) L2 (fun j h1 h2 => by
        have sj := (hs j (by omega) (by omega)).gw g1
        exact ⟨sj.1, sj.2.1, by rw [c12]; exact sj.2.2.1, sj.2.2.2⟩)
      (fun j w h1 h2 h3 => by
        have h3' : rd ws j = some w := h3
        rw [rn j h1 h2] at h3'
        exact (hv j w (by omega) (by omega) h3').mono g1.sub)
    obtain ⟨⟨m1, m2, m3⟩, fr1, le1⟩ := g1
    rw [c12] at n2 l3 f3
    refine ⟨p, un', ?_, L3, ⟨m1 ++ new, by rw [n1, m2, List.append_assoc], fun t ht => ?_⟩, Int.le_trans le1 l3, fun j h1 h2 h3 => ?_, fun j w h1 h2 h3 => ?_⟩
    · simp only [liftSpotsM, bind, Option.bind_eq_some_iff]
      exact ⟨w, hw, p1, e1, ws, hws, e2⟩
    · rcases List.mem_append.mp ht with z | z
      · exact m3 t z
      · have := n2 t z
        omega
    · rw [f3 j h1 (by omega) (by omega)]
      show rd ws j = _
      rw [rd_wr_ne hws (by omega), fr1 j h1 h2]
    · by_cases c : j = spot
      · subst c
        have s2 : rd p.1.words j = rd ws j := by
          have := f3 j s0.1 (by rcases s0.2.2.1 with z | z <;> omega) (by omega)
          exact this
        rw [s2, rd_wr_same hws] at h3
        cases h3
        exact vl1.mono fun u hu => by rw [n1]; exact List.mem_append_left _ hu
      · exact v3 j w (by omega) (by omega) h3
/-- a block, as it stands -/
theorem liftBlock_ok (P : LP h0 ys Old t0 lim) (L : LI h0 ys Old t0 lim un h mv) {a f : Int} (hf : rd h.words a = some f) (f0 : 0 ≤ f / 64) (fl : a + 2 + f / 64 ≤ (h0.words.length : Int)) (hs : ∀ j, a + 2 ≤ j → j < a + 2 + f / 64 → Spt h0 lim h mv j) (hp : Pay h.words a (VV ys Old mv)) :
    ∃ p un', liftBlockM h a mv = some p ∧ LI h0 ys Old t0 lim un' p.1 p.2 ∧ (∃ new, p.2 = mv ++ new ∧ ∀ t ∈ new, ctop h ≤ t ∧ t + 2 ≤ lim) ∧ ctop h ≤ ctop p.1 ∧
      (∀ j, h0.nur < j → (j < ctop h ∨ lim ≤ j) → ¬ (a + 2 ≤ j ∧ j < a + 2 + f / 64) → rd p.1.words j = rd h.words j) ∧ (∀ j w, a + 2 ≤ j → j < a + 2 + f / 64 → rd p.1.words j = some w → VL Old p.2 w) := by
  have e : a + 2 + ((f / 64).toNat : Int) = a + 2 + f / 64 := by omega
  obtain ⟨p, un', h1, h2, h3, h4, h5, h6⟩ := liftSpots_ok P (f / 64).toNat (h := h) (mv := mv) (un := un) (spot := a + 2) L (fun j j1 j2 => hs j j1 (by omega)) (fun j w j1 j2 hw => hp f j w hf j1 (by omega) hw)
  rw [e] at h5 h6
  refine ⟨p, un', ?_, h2, h3, h4, h5, h6⟩
  simp only [liftBlockM, bind, Option.bind_eq_some_iff, grd_iff, Bool.and_eq_true, decide_eq_true_eq]
  have := L.kp.len
  exact ⟨f, hf, (), ⟨⟨f0, by omega⟩, by rw [this]; exact P.len⟩, h1⟩
theorem liftRow_ok (P : LP h0 ys Old t0 lim) : ∀ (row : List Int) {h : HS} {mv un : List Int}, LI h0 ys Old t0 lim un h mv → (∀ w ∈ row, VV ys Old mv w) →
    ∃ p un', liftRowM h mv row = some p ∧ LI h0 ys Old t0 lim un' p.2.1 p.2.2 ∧ Gw h0 lim h mv p.2.1 p.2.2 ∧ (∀ w ∈ p.1, VL Old p.2.2 w) ∧ p.1.length = row.length
  | [], h, mv, un, L, hv => ⟨([], h, mv), un, rfl, L, Gw.refl _ _ _ _, (fun w hw => by cases hw), rfl⟩
  | w :: r, h, mv, un, L, hv => by
    obtain ⟨p1, un1, e1, L1, v1, g1⟩ := oldWord_ok P L (hv w (by simp))
    obtain ⟨p2, un2, e2, L2, g2, v2, l2⟩ := liftRow_ok P r L1 fun x hx => (hv x (List.mem_cons_of_mem _ hx)).mono g1.sub
    refine ⟨(p1.1 :: p2.1, p2.2.1, p2.2.2), un2, ?_, L2, g1.trans g2, fun x hx => ?_, by rw [List.length_cons, List.length_cons, l2]⟩
    · simp only [liftRowM, bind, Option.bind_eq_some_iff]
      exact ⟨p1, e1, p2, e2, rfl⟩
    · rcases List.mem_cons.mp hx with z | z
      · rw [z]
        exact v1.mono g2.sub
      · exact v2 x z
theorem liftRows_ok (P : LP h0 ys Old t0 lim) : ∀ (rows : List (List Int)) {h : HS} {mv un : List Int}, LI h0 ys Old t0 lim un h mv → (∀ r ∈ rows, ∀ w ∈ r, VV ys Old mv w) →
    ∃ p un', liftRowsM h mv rows = some p ∧ LI h0 ys Old t0 lim un' p.2.1 p.2.2 ∧ Gw h0 lim h mv p.2.1 p.2.2 ∧ (∀ r ∈ p.1, ∀ w ∈ r, VL Old p.2.2 w) ∧ p.1.map List.length = rows.map List.length
  | [], h, mv, un, L, hv => ⟨([], h, mv), un, rfl, L, Gw.refl _ _ _ _, (fun w hw => by cases hw), rfl⟩
  | r :: rs, h, mv, un, L, hv => by
    obtain ⟨p1, un1, e1, L1, g1, v1, l1⟩ := liftRow_ok P r L (hv r (by simp))
    obtain ⟨p2, un2, e2, L2, g2, v2, l2⟩ := liftRows_ok P rs L1 fun x hx w hw => (hv x (List.mem_cons_of_mem _ hx) w hw).mono g1.sub
    refine ⟨(p1.1 :: p2.1, p2.2.1, p2.2.2), un2, ?_, L2, g1.trans g2, fun x hx w hw => ?_, by rw [List.map_cons, List.map_cons, l2, l1]⟩
    · simp only [liftRowsM, bind, Option.bind_eq_some_iff]
      exact ⟨p1, e1, p2, e2, rfl⟩
    · rcases List.mem_cons.mp hx with z | z
      · rw [z] at hw
        exact (v1 w hw).mono g2.sub
      · exact v2 x z w hw
/-- the payloads of the copies -/
theorem scan_ok (P : LP h0 ys Old t0 lim) : ∀ (n i : Nat) {h : HS} {mv un : List Int}, LI h0 ys Old t0 lim un h mv → (∀ (k : Nat) (t : Int), k < i → mv[k]? = some t → Pay h.words t (VL Old mv)) → ys.length ≤ i + n →
    ∃ p un', scanM h mv i n = some p ∧ LI h0 ys Old t0 lim un' p.1 p.2 ∧ (∃ new, p.2 = mv ++ new) ∧ ctop h ≤ ctop p.1 ∧ (∀ j, h0.nur < j → (j < t0 ∨ lim ≤ j) → rd p.1.words j = rd h.words j) ∧ (∀ t ∈ p.2, Pay p.1.words t (VL Old p.2))
  | n, i, h, mv, un, L, hs, hn => by
    by_cases c : mv.length ≤ i
    · refine ⟨(h, mv), un, ?_, L, ⟨[], by simp⟩, Int.le_refl _, fun j _ _ => rfl, fun t ht => ?_⟩
      · cases n with
        | zero =>
          unfold scanM
          rw [if_pos c]
        | succ n =>
          unfold scanM
          rw [List.getElem?_eq_none c]
      · obtain ⟨k, hk⟩ := List.mem_iff_getElem?.mp ht
        have hk' : mv[k]? = some t := hk
        have := (List.getElem?_eq_some_iff.mp hk').1
        exact hs k t (by omega) hk'
    · have hl := L.len
      cases n with
      | zero => omega
      | succ n =>
        have ci : i < mv.length := by omega
        have ea : mv[i]? = some mv[i] := List.getElem?_eq_getElem ci
        have ma : mv[i] ∈ mv := List.getElem_mem ci
        generalize hga : mv[i] = a at *
        obtain ⟨m1, f, m2, m3, m4⟩ := L.tile.mem ma
        have hcl := L.ctop_le P
        have htn := P.tn
        have hroom := P.room
        obtain ⟨p1, un1, e1, L1, ⟨new, n1, n2⟩, l1, f1, v1⟩ := liftBlock_ok P L m2 m3 (by omega) (fun j j1 j2 => ⟨by omega, by omega, .inl (by omega), fun t ht => by
          by_cases ct : t = a
          · omega
          · obtain ⟨_, g, g2, g3, g4⟩ := L.tile.mem ht
            rcases L.tile.apart ma ht (fun z => ct z.symm) m2 g2 with z | z <;> omega⟩) (L.pay a ma)
        have hd : ∀ t ∈ mv, rd p1.1.words t = rd h.words t := fun t ht => by
          obtain ⟨k1, g, g2, g3, g4⟩ := L.tile.mem ht
          refine f1 t (by omega) (.inl (by omega)) ?_
          by_cases ct : t = a
          · omega
          · rcases L.tile.apart ma ht (fun z => ct z.symm) m2 g2 with z | z <;> omega
        obtain ⟨p, un', e2, L2, ⟨new2, n3⟩, l2, f2, v2⟩ := scan_ok P n (i + 1) L1 (fun k t hk hkt => by
            rw [n1, List.getElem?_append_left (by omega)] at hkt
            have mt : t ∈ mv := List.mem_iff_getElem?.mpr ⟨k, hkt⟩
            intro g j w g1 j1 j2 hj
            rw [hd t mt] at g1
            by_cases ck : k = i
            · subst ck
              rw [ea] at hkt
              cases hkt
              rw [m2] at g1
              cases g1
              exact v1 j w j1 j2 hj
            · have ne : t ≠ a := fun z => by
                subst z
                have nd := L.tile.nodup
                exact ck ((List.getElem?_inj (by omega) nd).mp (hkt.trans ea.symm))
              obtain ⟨k1, g', g2, g3, g4⟩ := L.tile.mem mt
              rw [g1] at g2
              cases g2
              rw [f1 j (by omega) (.inl (by omega)) (by rcases L.tile.apart ma mt (fun z => ne z.symm) m2 g1 with z | z <;> omega)] at hj
              exact (hs k t (by omega) hkt g j w g1 j1 j2 hj).mono fun u hu => by rw [n1]; exact List.mem_append_left _ hu) (by omega)
        refine ⟨p, un', ?_, L2, ⟨new ++ new2, by rw [n3, n1, List.append_assoc]⟩, Int.le_trans l1 l2, fun j h1 h2 => ?_, v2⟩
        · unfold scanM
          rw [ea]
          simp only [bind, Option.bind_eq_some_iff]
          exact ⟨p1, e1, e2⟩
        · rw [f2 j h1 h2]
          have := L.tile.le
          exact f1 j h1 (by omega) (by omega)

/-! ### the remembered blocks -/
theorem resolve_congr {h h' : HS} {a b : Int} (e1 : h'.ph = h.ph) (e2 : h'.base = h.base) (e3 : h'.cap = h.cap) (k : ∀ s, rd h.words (a + 1) = some s → ∃ s', rd h'.words (a + 1) = some s' ∧ s' / 8 = s / 8) (e : resolveM h a = some b) : resolveM h' a = some b := by
  unfold resolveM at e ⊢
  rw [e1, e2, e3]
  split at e
  · rename_i c
    rw [if_pos c]
    split at e
    · rename_i c1
      rw [if_pos c1]
      simp only [bind, Option.bind_eq_some_iff] at e ⊢
      obtain ⟨s, h1, h2⟩ := e
      obtain ⟨s', h3, h4⟩ := k s h1
      exact ⟨s', h3, by rw [h4]; exact h2⟩
    · rename_i c1
      rw [if_neg c1]
      exact e
  · rename_i c
    rw [if_neg c]
    exact e
/-- a remembered entry: the address, where the block lies, its form word, its state word -/
structure RE where
  a : Int
  b : Int
  f : Int
  s : Int
structure RS (h0 : HS) (t0 lim : Int) (e : RE) : Prop where
  f0 : 0 ≤ e.f / 64
  b0 : h0.nur < e.b
  bl : e.b + 2 + e.f / 64 ≤ (h0.words.length : Int)
  off : e.b + 2 + e.f / 64 ≤ t0 ∨ lim ≤ e.b
  mark : e.s / 4 % 2 = 1
  a0 : h0.nur < e.a + 1
  aoff : e.a + 1 < t0 ∨ lim ≤ e.a + 1
structure RT (ys : List Int) (Old : Int → Prop) (mv : List Int) (h : HS) (e : RE) : Prop where
  res : resolveM h e.a = some e.b
  f : rd h.words e.b = some e.f
  s : rd h.words (e.b + 1) = some e.s
  pay : Pay h.words e.b (VV ys Old mv)
theorem liftRem_ok (P : LP h0 ys Old t0 lim) : ∀ (rb : List RE) {h : HS} {mv un : List Int}, LI h0 ys Old t0 lim un h mv → (∀ e ∈ rb, RS h0 t0 lim e) → (∀ e ∈ rb, RT ys Old mv h e) →
    rb.Pairwise (fun e e' => e.b + 2 + e.f / 64 ≤ e'.b ∨ e'.b + 2 + e'.f / 64 ≤ e.b) → (∀ e ∈ rb, ∀ e' ∈ rb, ¬ (e'.b + 2 ≤ e.a + 1 ∧ e.a + 1 < e'.b + 2 + e'.f / 64)) →
    ∃ p un', liftRemM h mv (rb.map RE.a) = some p ∧ LI h0 ys Old t0 lim un' p.1 p.2 ∧ (∃ new, p.2 = mv ++ new) ∧ ctop h ≤ ctop p.1 ∧
      (∀ j, h0.nur < j → (j < t0 ∨ lim ≤ j) → (∀ e ∈ rb, ¬ (e.b + 1 ≤ j ∧ j < e.b + 2 + e.f / 64)) → rd p.1.words j = rd h.words j) ∧
      (∀ e ∈ rb, rd p.1.words e.b = some e.f ∧ rd p.1.words (e.b + 1) = some (e.s - 4) ∧ Pay p.1.words e.b (VL Old p.2))
  | [], h, mv, un, L, _, _, _, _ => ⟨(h, mv), un, rfl, L, ⟨[], by simp⟩, Int.le_refl _, fun j _ _ _ => rfl, fun e he => by cases he⟩
  | e :: rb, h, mv, un, L, hS, hT, hP, hA => by
    have S := hS e (by simp)
    have Te := hT e (by simp)
    have s1 := S.f0
    have s2 := S.b0
    have s3 := S.bl
    have s4 := S.off
    have s5 := S.mark
    have hct := L.tile.le
    have hcl := L.ctop_le P
    have sp : ∀ j, e.b + 1 ≤ j → j < e.b + 2 + e.f / 64 → Spt h0 lim h mv j := fun j j1 j2 => ⟨by omega, by omega, by omega, fun t ht => by
      obtain ⟨k1, g, k2, k3, k4⟩ := L.tile.mem ht
      omega⟩
    obtain ⟨p1, un1, e1, L1, ⟨new, n1, n2⟩, l1, f1, v1⟩ := liftBlock_ok P L Te.f S.f0 S.bl (fun j j1 j2 => sp j (by omega) j2) Te.pay
    have hst : rd p1.1.words (e.b + 1) = some e.s := by
      rw [f1 (e.b + 1) (by omega) (by omega) (by omega)]
      exact Te.s
    obtain ⟨ws, hws⟩ := wr_of_lt (l := p1.1.words) (i := e.b + 1) (v := 8 * (e.s / 8) + 4 * 0 + e.s % 4) (by have := P.nur; omega) (by rw [L1.kp.len]; omega)
    have sp1 : Spt h0 lim p1.1 p1.2 (e.b + 1) := (sp (e.b + 1) (Int.le_refl _) (by omega)).grow ⟨new, n1, n2⟩ l1
    have L2 := L1.write P sp1 (.inl (by omega)) hws
    have c12 : ctop { p1.1 with words := ws } = ctop p1.1 := ctop_eq rfl rfl rfl
    have frame : ∀ j, h0.nur < j → (j < t0 ∨ lim ≤ j) → ¬ (e.b + 1 ≤ j ∧ j < e.b + 2 + e.f / 64) → rd ws j = rd h.words j := fun j j1 j2 j3 => by
      rw [rd_wr_ne hws (by omega), f1 j j1 (by omega) (by omega)]
    have hP' := List.pairwise_cons.mp hP
    obtain ⟨p, un', e2, L3, ⟨new2, n3⟩, l2, f2, v2⟩ := liftRem_ok P rb L2 (fun x hx => hS x (List.mem_cons_of_mem _ hx)) (fun x hx => by
        have X := hT x (List.mem_cons_of_mem _ hx)
        have Y := hS x (List.mem_cons_of_mem _ hx)
        have q1 := Y.f0
        have q2 := Y.b0
        have q3 := Y.off
        have ap := hP'.1 x hx
        have pos : ∀ j, x.b ≤ j → j < x.b + 2 + x.f / 64 → rd ws j = rd h.words j := fun j j1 j2 => frame j (by omega) (by omega) (by omega)
        refine ⟨?_, ?_, ?_, ?_⟩
        · refine resolve_congr (h := h) (L2.kp.ph.trans L.kp.ph.symm) (L2.kp.base.trans L.kp.base.symm) (L2.kp.cap.trans L.kp.cap.symm) (fun s hs => ?_) X.res
          show ∃ s', rd ws (x.a + 1) = some s' ∧ s' / 8 = s / 8
          have z1 := Y.a0
          have z2 := Y.aoff
          have z3 := hA x (List.mem_cons_of_mem _ hx) e (by simp)
          by_cases c : x.a + 1 = e.b + 1
          · rw [c] at hs ⊢
            rw [Te.s] at hs
            cases hs
            refine ⟨_, rd_wr_same hws, ?_⟩
            omega
          · exact ⟨s, by rw [frame _ (by omega) z2 (by omega)]; exact hs, rfl⟩
        · show rd ws x.b = _
          rw [pos _ (by omega) (by omega)]
          exact X.f
        · show rd ws (x.b + 1) = _
          rw [pos _ (by omega) (by omega)]
          exact X.s
        · intro g j w k1 k2 k3 k4
          have k1' : rd ws x.b = some g := k1
          have k4' : rd ws j = some w := k4
          rw [pos _ (by omega) (by omega), X.f] at k1'
          cases k1'
          rw [pos _ (by omega) (by omega)] at k4'
          exact (X.pay _ j w X.f k2 k3 k4').mono fun u hu => by
            rw [n1]
            exact List.mem_append_left _ hu) hP'.2 (fun x hx y hy => hA x (List.mem_cons_of_mem _ hx) y (List.mem_cons_of_mem _ hy))
    rw [c12] at l2
    have own : ∀ j, e.b ≤ j → j < e.b + 2 + e.f / 64 → rd p.1.words j = rd ws j := fun j j1 j2 => by
      have : rd p.1.words j = rd ({ p1.1 with words := ws } : HS).words j := f2 j (by omega) (by omega) fun x hx => by
        have := hP'.1 x hx
        omega
      exact this
    refine ⟨p, un', ?_, L3, ⟨new ++ new2, by rw [n3, n1, List.append_assoc]⟩, Int.le_trans l1 l2, fun j j1 j2 j3 => ?_, fun x hx => ?_⟩
    · rw [List.map_cons]
      simp only [liftRemM, bind, Option.bind_eq_some_iff, grd_iff, decide_eq_true_eq]
      exact ⟨e.b, Te.res, p1, e1, e.s, hst, (), S.mark, ws, hws, e2⟩
    · have : rd p.1.words j = rd ({ p1.1 with words := ws } : HS).words j := f2 j j1 j2 fun x hx => j3 x (List.mem_cons_of_mem _ hx)
      rw [this]
      exact frame j j1 j2 (j3 e (by simp))
    · rcases List.mem_cons.mp hx with z | z
      · subst z
        refine ⟨?_, ?_, ?_⟩
        · rw [own _ (by omega) (by omega), frame _ (by omega) (by omega) (by omega)]
          exact Te.f
        · rw [own _ (by omega) (by omega), rd_wr_same hws]
          congr 1
          omega
        · intro g j w k1 k2 k3 k4
          rw [own _ (by omega) (by omega), frame _ (by omega) (by omega) (by omega), Te.f] at k1
          cases k1
          rw [own _ (by omega) (by omega), rd_wr_ne hws (by omega)] at k4
          exact (v1 j w k2 k3 k4).mono fun u hu => by rw [n3]; exact List.mem_append_left _ hu
      · exact v2 x z
end
end Qb

set_option Elab.async false
set_option linter.all false
/-! MirI: a young collection as a whole; memories in the phase idle. Core Lean alone. -/
namespace Qb
theorem rd_zeroFrom {l : List Int} {lo n : Nat} (h : lo + n ≤ l.length) (j : Int) : rd (zeroFrom l lo n) j = if (lo : Int) ≤ j ∧ j < (lo : Int) + n then some 0 else rd l j := by
  unfold rd
  by_cases c0 : 0 ≤ j
  · rw [if_pos c0, if_pos c0, zeroFrom_get h]
    by_cases c1 : j.toNat < lo
    · rw [if_pos c1, if_neg (by omega)]
    · rw [if_neg c1]
      by_cases c2 : j.toNat < lo + n
      · rw [if_pos c2, if_pos (by omega)]
      · rw [if_neg c2, if_neg (by omega)]
  · rw [if_neg c0, if_neg c0, if_neg (by omega)]
theorem clear_words (h : HS) : (clearYoung h).words = zeroFrom h.words 1 h.nur.toNat := by
  unfold clearYoung zeroFrom
  rw [show 1 + h.nur.toNat = h.nur.toNat + 1 by omega]
/-- what a young collection makes -/
structure Col (h0 : HS) (ys : List Int) (Old : Int → Prop) (t0 lim : Int) (rb : List RE) (rows : List (List Int)) (h' : HS) (rows' : List (List Int)) (mv : List Int) : Prop where
  e : collectYoungM h0 rows = some (h', rows')
  cap : h'.cap = h0.cap
  nur : h'.nur = h0.nur
  yt : h'.yt = 1
  base : h'.base = h0.base
  ob : h'.ob = h0.ob
  ph : h'.ph = h0.ph
  cur : h'.cur = h0.cur
  pend : h'.pend = h0.pend
  len : h'.words.length = h0.words.length
  oth : oside h' = oside h0
  rem : h'.rem = []
  gr : h'.gr = grOf h0 mv
  ct : t0 ≤ ctop h' ∧ ctop h' ≤ lim
  tile : Tile h'.words t0 (ctop h') mv
  st : ∀ t ∈ mv, rd h'.words (t + 1) = some (if h0.ph = .marking then 1 else 0)
  pay : ∀ t ∈ mv, Pay h'.words t (VL Old mv)
  zero : ∀ j, 1 ≤ j → j ≤ h0.nur → rd h'.words j = some 0
  frame : ∀ j, h0.nur < j → (j < t0 ∨ lim ≤ j) → (∀ e ∈ rb, ¬ (e.b + 1 ≤ j ∧ j < e.b + 2 + e.f / 64)) → rd h'.words j = rd h0.words j
  rm : ∀ e ∈ rb, rd h'.words e.b = some e.f ∧ rd h'.words (e.b + 1) = some (e.s - 4) ∧ Pay h'.words e.b (VL Old mv)
  row : ∀ r ∈ rows', ∀ w ∈ r, VL Old mv w
  rl : rows'.map List.length = rows.map List.length
theorem collect_ok {h0 : HS} {ys : List Int} {Old : Int → Prop} {t0 lim : Int} {rb : List RE} {rows : List (List Int)} (P : LP h0 ys Old t0 lim) (ht : ctop h0 = t0) (hz : ∀ a ∈ ys, rd h0.words (a + 1) = some 0) (hr : ∀ r ∈ rows, ∀ w ∈ r, VV ys Old [] w) (er : h0.rem = rb.map RE.a) (hS : ∀ e ∈ rb, RS h0 t0 lim e) (hT : ∀ e ∈ rb, RT ys Old [] h0 e)
    (hP : rb.Pairwise (fun e e' => e.b + 2 + e.f / 64 ≤ e'.b ∨ e'.b + 2 + e'.f / 64 ≤ e.b)) (hA : ∀ e ∈ rb, ∀ e' ∈ rb, ¬ (e'.b + 2 ≤ e.a + 1 ∧ e.a + 1 < e'.b + 2 + e'.f / 64)) : ∃ h' rows' mv, Col h0 ys Old t0 lim rb rows h' rows' mv := by
  have htn := P.tn
  have hlm := P.lm
  have htl := P.tile.le
  have L0 : LI h0 ys Old t0 lim ys h0 [] := by
    refine ⟨Keep.refl _, fun a ha => ha, P.tile.nodup, hz, fun a ha hn => absurd ha hn, fun j _ _ => rfl, ht.symm, ?_, (fun t ht => by cases ht), ?_, by simp, (fun t ht => by cases ht)⟩
    · rw [P.tile.sum]
      omega
    · unfold grOf
      simp
  obtain ⟨p1, un1, e1, L1, g1, v1, l1⟩ := liftRows_ok P rows L0 hr
  have fr1 : ∀ j, h0.nur < j → (j < t0 ∨ lim ≤ j) → rd p1.2.1.words j = rd h0.words j := fun j j1 j2 => g1.frame j j1 (by omega)
  obtain ⟨p2, un2, e2, L2, ⟨n2, s2⟩, c2, f2, r2⟩ := liftRem_ok P rb L1 hS (fun e he => by
    have T := hT e he
    have S := hS e he
    have q1 := S.f0
    have q2 := S.b0
    have q3 := S.off
    refine ⟨?_, ?_, ?_, ?_⟩
    · refine resolve_congr L1.kp.ph L1.kp.base L1.kp.cap (fun s hs => ⟨s, ?_, rfl⟩) T.res
      rw [fr1 _ S.a0 S.aoff]
      exact hs
    · rw [fr1 _ (by omega) (by omega)]
      exact T.f
    · rw [fr1 _ (by omega) (by omega)]
      exact T.s
    · intro g j w k1 k2 k3 k4
      rw [fr1 _ (by omega) (by omega), T.f] at k1
      cases k1
      rw [fr1 _ (by omega) (by omega)] at k4
      exact (T.pay _ j w T.f k2 k3 k4).mono fun u hu => by cases hu) hP hA
  have L2' : LI h0 ys Old t0 lim un2 p2.1 p2.2 := L2
  have L3 : LI { h0 with rem := [] } ys Old t0 lim un2 { p2.1 with rem := [] } p2.2 := by
    obtain ⟨kp, b1, b2, b3, b4, b5, b6, b7, b8, b9, b10, b11⟩ := L2
    exact ⟨⟨kp.cap, kp.nur, kp.yt, kp.base, kp.ob, kp.ph, kp.cur, rfl, kp.pend, kp.len, kp.oth⟩, b1, b2, b3, b4, b5, b6, b7, b8, b9, b10, b11⟩
  have P3 : LP { h0 with rem := [] } ys Old t0 lim := ⟨P.nur, P.yt, P.tile, P.tn, P.lm, P.room, P.len, P.gr, P.many, P.old, P.pay⟩
  have hmany := P.many
  obtain ⟨p3, un3, e3, L4, ⟨n3, s3⟩, c3, f3, r3⟩ := scan_ok P3 scanFuel 0 L3 (fun k t hk => absurd hk (by omega)) (by unfold scanFuel; omega)
  have k4 := L4.kp
  have hn3 : p3.1.nur = h0.nur := k4.nur
  have hl3 : p3.1.words.length = h0.words.length := k4.len
  have hnn := P.nur
  have hroom := P.room
  have hyt := P.yt
  have hcw := clear_words p3.1
  have hct : ctop (clearYoung p3.1) = ctop p3.1 := ctop_eq rfl rfl rfl
  have hrd : ∀ j, rd (clearYoung p3.1).words j = if 1 ≤ j ∧ j ≤ h0.nur then some 0 else rd p3.1.words j := by
    intro j
    rw [hcw, rd_zeroFrom (by omega), hn3]
    by_cases c : 1 ≤ j ∧ j ≤ h0.nur
    · rw [if_pos (by omega), if_pos c]
    · rw [if_neg (by omega), if_neg c]
  have hi : ∀ j, h0.nur < j → rd (clearYoung p3.1).words j = rd p3.1.words j := fun j hj => by rw [hrd, if_neg (by omega)]
  have hcl3 : ctop p3.1 ≤ lim := L4.ctop_le P3
  have hct3 := L4.tile.le
  have hlen0 := P.len
  refine ⟨clearYoung p3.1, p1.1, p3.2, ?_, k4.cap, k4.nur, rfl, k4.base, k4.ob, k4.ph, k4.cur, k4.pend, ?_, ?_, k4.rem, L4.gr, ?_, ?_, ?_, ?_, ?_, ?_, ?_, ?_, l1⟩
  · simp only [collectYoungM, bind, Option.bind_eq_some_iff, grd_iff, Bool.and_eq_true, decide_eq_true_eq]
    refine ⟨p1, e1, p2, ?_, p3, e3, (), ?_, rfl⟩
    · rw [L1.kp.rem, er]
      exact e2
    · omega
  · rw [hcw, zeroFrom_len (by omega)]
    exact hl3
  · exact k4.oth
  · rw [hct]
    exact ⟨hct3, hcl3⟩
  · rw [hct]
    refine L4.tile.congr fun t ht => hi t ?_
    have := (L4.tile.mem ht).1
    omega
  · intro t ht
    have := (L4.tile.mem ht).1
    rw [hi _ (by omega)]
    exact L4.st t ht
  · intro t ht f j w k1 k2 k3 k4
    have := (L4.tile.mem ht).1
    rw [hi _ (by omega)] at k1 k4
    exact r3 t ht f j w k1 k2 k3 k4
  · intro j j1 j2
    rw [hrd, if_pos ⟨j1, j2⟩]
  · intro j j1 j2 j3
    rw [hi j j1, f3 j j1 j2]
    show rd p2.1.words j = _
    rw [f2 j j1 j2 j3, fr1 j j1 j2]
  · intro e he
    have S := hS e he
    have q1 := S.f0
    have q2 := S.b0
    have q3 := S.off
    obtain ⟨z1, z2, z3⟩ := r2 e he
    have pos : ∀ j, e.b ≤ j → j < e.b + 2 + e.f / 64 → rd (clearYoung p3.1).words j = rd p2.1.words j := fun j j1 j2 => by
      rw [hi j (by omega), f3 j (by show h0.nur < j; omega) (by omega)]
    refine ⟨?_, ?_, ?_⟩
    · rw [pos _ (by omega) (by omega)]
      exact z1
    · rw [pos _ (by omega) (by omega)]
      exact z2
    · intro g j w k1 k2 k3 k4
      rw [pos _ (by omega) (by omega), z1] at k1
      cases k1
      rw [pos _ (by omega) (by omega)] at k4
      exact (z3 _ j w z1 k2 k3 k4).mono fun u hu => by rw [s3]; exact List.mem_append_left _ hu
  · intro r hr' w hw
    exact (v1 r hr' w hw).mono fun u hu => by rw [s3, s2]; exact List.mem_append_left _ (List.mem_append_left _ hu)

/-! ### idle -/
/-- ys, os: the young blocks, the old blocks -/
structure Idle (h : HS) (ys os : List Int) (rows : List (List Int)) : Prop where
  ph : h.ph = .idle
  nur : 0 ≤ h.nur
  cap : 0 ≤ h.cap
  geo : (h.base = h.nur + 1 ∧ h.ob = h.nur + 1 + h.cap) ∨ (h.ob = h.nur + 1 ∧ h.base = h.nur + 1 + h.cap)
  ot : h.ot = h.ob
  len : (h.words.length : Int) = 1 + h.nur + 2 * h.cap
  small : h.words.length ≤ 90000
  yt : h.yt ≤ h.nur + 1
  used : h.yt - 1 + (h.top - h.base) ≤ h.cap
  gr : h.gr = []
  ty : Tile h.words 1 h.yt ys
  to : Tile h.words h.base h.top os
  zy : ∀ a ∈ ys, rd h.words (a + 1) = some 0
  zo : ∀ a ∈ os, rd h.words (a + 1) = some (if a ∈ h.rem then 4 else 0)
  rs : ∀ a ∈ h.rem, a ∈ os
  rn : h.rem.Nodup
  py : ∀ a ∈ ys, Pay h.words a (VV ys (· ∈ os) [])
  po : ∀ a ∈ os, Pay h.words a (VV ys (· ∈ os) [])
  pn : ∀ a ∈ os, a ∉ h.rem → Pay h.words a (VL (· ∈ os) [])
  row : ∀ r ∈ rows, ∀ w ∈ r, VV ys (· ∈ os) [] w
section
variable {h : HS} {ys os : List Int} {rows : List (List Int)}
theorem Idle.base0 (I : Idle h ys os rows) : h.nur + 1 ≤ h.base := by
  have := I.geo
  have := I.cap
  omega
theorem Idle.ctop (I : Idle h ys os rows) : ctop h = h.top := by
  unfold Qb.ctop
  rw [I.ph]
  rfl
theorem Idle.lp (I : Idle h ys os rows) : LP h ys (· ∈ os) h.top (h.top + (h.yt - 1)) := by
  have g := I.geo
  have c := I.cap
  have t := I.to.le
  have u := I.used
  have l := I.len
  have s := I.small
  have m := I.ty.many
  have y := I.yt
  refine ⟨I.nur, I.yt, I.ty, by omega, rfl, by omega, by omega, by rw [I.gr]; simp; omega, by omega, fun a ha => ?_, I.py⟩
  have := (I.to.mem ha).1
  omega
/-- the remembered entries -/
def entries (h : HS) : List RE := h.rem.map fun a => ⟨a, a, (rd h.words a).getD 0, 4⟩
theorem VL.join {os mv : List Int} {w : Int} (v : VL (· ∈ os) mv w) : VV [] (· ∈ os ++ mv) [] w := ⟨v.1, fun r => .inr (.inl (by
  rcases v.2 r with z | z
  · exact List.mem_append_left _ z
  · exact List.mem_append_right _ z))⟩
theorem VL.join' {os mv : List Int} {w : Int} (v : VL (· ∈ os) mv w) : VL (· ∈ os ++ mv) [] w := ⟨v.1, fun r => .inl (by
  rcases v.2 r with z | z
  · exact List.mem_append_left _ z
  · exact List.mem_append_right _ z)⟩
theorem VL.ofnil {os mv : List Int} {w : Int} (v : VL (· ∈ os) [] w) : VL (· ∈ os) mv w := v.mono fun _ h => by cases h
theorem idle_collect (I : Idle h ys os rows) : ∃ h' rows' os', collectYoungM h rows = some (h', rows') ∧ Idle h' [] os' rows' ∧ h'.yt = 1 ∧ h'.cap = h.cap ∧ h'.nur = h.nur ∧ h'.used ≤ h.used ∧ rows'.map List.length = rows.map List.length := by
  have P := I.lp
  have hb := I.base0
  have ht := I.to.le
  have hy := I.ty.le
  have hyt := I.yt
  have hinfo : ∀ a ∈ h.rem, ∃ f, rd h.words a = some f ∧ 0 ≤ f / 64 ∧ h.base ≤ a ∧ a + 2 + f / 64 ≤ h.top := fun a ha => by
    obtain ⟨m1, f, m2, m3, m4⟩ := I.to.mem (I.rs a ha)
    exact ⟨f, m2, m3, m1, m4⟩
  have hres : ∀ a, resolveM h a = some a := fun a => by
    unfold resolveM
    rw [I.ph]
    rfl
  obtain ⟨h', rows', mv, C⟩ := collect_ok (rb := entries h) (rows := rows) P I.ctop I.zy I.row (by unfold entries; rw [List.map_map]; exact (List.map_id _).symm) (fun e he => by
      obtain ⟨a, ha, rfl⟩ := List.mem_map.mp he
      obtain ⟨f, f1, f2, f3, f4⟩ := hinfo a ha
      have l := P.room
      have eg : (rd h.words a).getD 0 = f := by rw [f1]; rfl
      refine ⟨?_, ?_, ?_, ?_, rfl, ?_, ?_⟩ <;> simp only [eg] <;> omega) (fun e he => by
      obtain ⟨a, ha, rfl⟩ := List.mem_map.mp he
      obtain ⟨f, f1, f2, f3, f4⟩ := hinfo a ha
      have eg : (rd h.words a).getD 0 = f := by rw [f1]; rfl
      have ao := I.rs a ha
      refine ⟨hres a, ?_, ?_, I.po a ao⟩
      · show rd h.words a = some ((rd h.words a).getD 0)
        rw [eg]
        exact f1
      · show rd h.words (a + 1) = some 4
        rw [I.zo a ao, if_pos ha]) (by
      unfold entries
      rw [List.pairwise_map]
      refine List.Pairwise.imp_of_mem ?_ I.rn
      intro a b ha hb' ne
      obtain ⟨f, f1, f2, f3, f4⟩ := hinfo a ha
      obtain ⟨g, g1, g2, g3, g4⟩ := hinfo b hb'
      have := I.to.apart (I.rs a ha) (I.rs b hb') ne f1 g1
      simp only [f1, g1, Option.getD_some]
      exact this) (fun e he e' he' => by
      obtain ⟨a, ha, rfl⟩ := List.mem_map.mp he
      obtain ⟨b, hb', rfl⟩ := List.mem_map.mp he'
      obtain ⟨f, f1, f2, f3, f4⟩ := hinfo a ha
      obtain ⟨g, g1, g2, g3, g4⟩ := hinfo b hb'
      simp only [g1, Option.getD_some]
      by_cases c : a = b
      · omega
      · have := I.to.apart (I.rs a ha) (I.rs b hb') c f1 g1
        omega)
  have hct' : Qb.ctop h' = h'.top := by
    unfold Qb.ctop
    rw [C.ph, I.ph]
    rfl
  have c1 := C.ct
  rw [hct'] at c1
  have hob : h'.ot = h.ot := by
    have := C.oth
    unfold oside at this
    rw [C.ph, I.ph] at this
    exact this
  have used := I.used
  have sml := I.small
  -- an old block's places behind the collection
  have keepO : ∀ a ∈ os, a ∉ h.rem → ∀ f, rd h.words a = some f → ∀ j, a ≤ j → j < a + 2 + f / 64 → rd h'.words j = rd h.words j := by
    intro a ha hn f hf j j1 j2
    obtain ⟨m1, f', m2, m3, m4⟩ := I.to.mem ha
    rw [hf] at m2
    cases m2
    refine C.frame j (by omega) (by omega) fun e he => ?_
    obtain ⟨b, hb', rfl⟩ := List.mem_map.mp he
    obtain ⟨g, g1, g2, g3, g4⟩ := hinfo b hb'
    have ne : a ≠ b := fun z => hn (z ▸ hb')
    have := I.to.apart ha (I.rs b hb') ne hf g1
    simp only [g1, Option.getD_some]
    omega
  have hdr : ∀ a ∈ os, rd h'.words a = rd h.words a := by
    intro a ha
    obtain ⟨m1, f, m2, m3, m4⟩ := I.to.mem ha
    by_cases c : a ∈ h.rem
    · have := (C.rm ⟨a, a, (rd h.words a).getD 0, 4⟩ (List.mem_map.mpr ⟨a, c, rfl⟩)).1
      rw [show (RE.mk a a ((rd h.words a).getD 0) 4).b = a from rfl] at this
      rw [this, m2]
      rfl
    · exact keepO a ha c f m2 a (Int.le_refl _) (by omega)
  have tileO : Tile h'.words h'.base h'.top (os ++ mv) := by
    have t1 : Tile h'.words h.base h.top os := I.to.congr hdr
    rw [C.base]
    refine t1.append ?_
    have := C.tile
    rw [hct'] at this
    exact this
  have lifted : ∀ a ∈ os ++ mv, Pay h'.words a (VL (· ∈ os) mv) := by
    intro a ha
    rcases List.mem_append.mp ha with z | z
    · by_cases c : a ∈ h.rem
      · exact (C.rm ⟨a, a, (rd h.words a).getD 0, 4⟩ (List.mem_map.mpr ⟨a, c, rfl⟩)).2.2
      · intro f j w k1 k2 k3 k4
        rw [hdr a z] at k1
        rw [keepO a z c f k1 j (by omega) k3] at k4
        exact (I.pn a z c f j w k1 k2 k3 k4).ofnil
    · exact C.pay a z
  refine ⟨h', rows', os ++ mv, C.e, ⟨C.ph.trans I.ph, ?_, ?_, ?_, ?_, ?_, ?_, ?_, ?_, ?_, ?_, tileO, ?_, ?_, ?_, ?_, ?_, ?_, ?_, ?_⟩, C.yt, C.cap, C.nur, ?_, C.rl⟩
  · rw [C.nur]; exact I.nur
  · rw [C.cap]; exact I.cap
  · rw [C.base, C.ob, C.nur, C.cap]; exact I.geo
  · rw [hob, C.ob]; exact I.ot
  · rw [C.len, C.nur, C.cap]; exact I.len
  · rw [C.len]; exact I.small
  · rw [C.yt, C.nur]; have := I.nur; omega
  · rw [C.yt, C.base, C.cap]; omega
  · rw [C.gr]
    unfold grOf
    rw [I.ph, I.gr]
    rfl
  · rw [C.yt]; rfl
  · intro a ha; cases ha
  · intro a ha
    rw [C.rem, if_neg (by simp)]
    rcases List.mem_append.mp ha with z | z
    · obtain ⟨m1, f, m2, m3, m4⟩ := I.to.mem z
      by_cases c : a ∈ h.rem
      · have := (C.rm ⟨a, a, (rd h.words a).getD 0, 4⟩ (List.mem_map.mpr ⟨a, c, rfl⟩)).2.1
        exact this
      · rw [keepO a z c f m2 (a + 1) (by omega) (by omega), I.zo a z, if_neg c]
    · have := C.st a z
      rw [I.ph] at this
      exact this
  · intro a ha; rw [C.rem] at ha; cases ha
  · rw [C.rem]; exact List.nodup_nil
  · intro a ha; cases ha
  · intro a ha
    exact (lifted a ha).imp fun w v => v.join
  · intro a ha _
    exact (lifted a ha).imp fun w v => v.join'
  · intro r hr w hw
    exact (C.row r hr w hw).join
  · unfold HS.used
    rw [C.ph, I.ph, C.yt, C.base]
    show 1 - 1 + (h'.top - h.base) ≤ h.yt - 1 + (h.top - h.base)
    omega
/-! ### laying a new block -/
theorem layM_ok {l b : List Int} {t : Int} (t0 : 0 ≤ t) (t1 : t + b.length ≤ (l.length : Int)) (t2 : l.length ≤ 100000) : ∃ ws, layM l t b = some ws ∧ ws.length = l.length ∧ ∀ j, rd ws j = if t ≤ j ∧ j < t + b.length then b[(j - t).toNat]? else rd l j := by
  refine ⟨l.take t.toNat ++ b ++ l.drop (t.toNat + b.length), ?_, lay_len (by omega), fun j => ?_⟩
  · simp only [layM, bind, Option.bind_eq_some_iff, grd_iff, Bool.and_eq_true, decide_eq_true_eq]
    exact ⟨(), ⟨⟨t0, t1⟩, t2⟩, trivial⟩
  · unfold rd
    by_cases c0 : 0 ≤ j
    · rw [if_pos c0, if_pos c0, lay_get (by omega)]
      by_cases c1 : j.toNat < t.toNat
      · rw [if_pos c1, if_neg (by omega)]
      · rw [if_neg c1]
        by_cases c2 : j.toNat < t.toNat + b.length
        · rw [if_pos c2, if_pos (by omega)]
          congr 1
          omega
        · rw [if_neg c2, if_neg (by omega)]
    · rw [if_neg c0, if_neg c0, if_neg (by omega)]
def NoRefs (l : List Int) : Prop := ∀ w ∈ l, w = 0 ∨ w % 2 = 1
theorem noref_ok {w : Int} (h : w = 0 ∨ w % 2 = 1) : okw w = true ∧ ¬ isRef w = true := by
  constructor
  · exact okw_iff.mpr (by omega)
  · intro z
    have := isRef_iff.mp z
    omega
theorem noref_vv {ys mv : List Int} {Old : Int → Prop} {w : Int} (h : w = 0 ∨ w % 2 = 1) : VV ys Old mv w := ⟨(noref_ok h).1, fun r => absurd r (noref_ok h).2⟩
theorem noref_vl {mv : List Int} {Old : Int → Prop} {w : Int} (h : w = 0 ∨ w % 2 = 1) : VL Old mv w := ⟨(noref_ok h).1, fun r => absurd r (noref_ok h).2⟩
/-- the words behind a laying: the block's own, the others as they were -/
theorem laid_words {l pl : List Int} {t x : Int} (t0 : 0 ≤ t) (t1 : t + (pl.length + 2) ≤ (l.length : Int)) (t2 : l.length ≤ 100000) (c : Int) : ∃ ws, layM l t ([x, c] ++ pl) = some ws ∧ ws.length = l.length ∧ rd ws t = some x ∧ rd ws (t + 1) = some c ∧
    (∀ j w, t + 2 ≤ j → j < t + 2 + pl.length → rd ws j = some w → w ∈ pl) ∧ ∀ j, (j < t ∨ t + 2 + pl.length ≤ j) → rd ws j = rd l j := by
  have hb : ([x, c] ++ pl).length = pl.length + 2 := by rw [List.length_append]; simp; omega
  obtain ⟨ws, e, hl, hr⟩ := layM_ok (l := l) (b := [x, c] ++ pl) t0 (by rw [hb]; omega) t2
  rw [hb] at hr
  refine ⟨ws, e, hl, ?_, ?_, fun j w j1 j2 hj => ?_, fun j hj => ?_⟩
  · rw [hr, if_pos (by omega), Int.sub_self]
    rfl
  · rw [hr, if_pos (by omega), show (t + 1 - t).toNat = 1 by omega]
    rfl
  · rw [hr, if_pos (by omega)] at hj
    obtain ⟨k, hk⟩ : ∃ k : Nat, (j - t).toNat = 2 + k := ⟨(j - t).toNat - 2, by omega⟩
    rw [hk, List.getElem?_append_right (by simp)] at hj
    exact List.mem_of_getElem? hj
  · rw [hr, if_neg (by omega)]
theorem mem_snoc {α : Type} {l : List α} {x y : α} : y ∈ l ++ [x] ↔ y ∈ l ∨ y = x := by simp
/-- in the nursery -/
theorem idle_layY (I : Idle h ys os rows) {pl : List Int} {shape : Int} (hp : NoRefs pl) (h1 : h.yt + (pl.length + 2) ≤ h.nur + 1) (h2 : h.used + (pl.length + 2) ≤ h.cap) (hsh : 0 ≤ shape ∧ shape < 64) :
    ∃ ws, layM h.words h.yt ([64 * (pl.length : Int) + shape, 0] ++ pl) = some ws ∧ Idle { h with words := ws, yt := h.yt + (pl.length + 2) } (ys ++ [h.yt]) os rows ∧ rd ws h.yt = some (64 * (pl.length : Int) + shape) := by
  have hb := I.base0
  have ht := I.to.le
  have hy := I.ty.le
  have hl := I.len
  have hs := I.small
  have hn := I.nur
  have hc := I.cap
  have hg := I.geo
  have hu : h.used = h.yt - 1 + (h.top - h.base) := by unfold HS.used; rw [I.ph]; rfl
  rw [hu] at h2
  obtain ⟨ws, e, wl, r1, r2, r3, r4⟩ := laid_words (l := h.words) (pl := pl) (t := h.yt) (x := 64 * (pl.length : Int) + shape) (by omega) (by omega) (by omega) 0
  have hq : (64 * (pl.length : Int) + shape) / 64 = pl.length := by omega
  have oy : ∀ a ∈ ys, ∀ j, a ≤ j → (∀ f, rd h.words a = some f → j < a + 2 + f / 64) → rd ws j = rd h.words j := fun a ha j j1 j2 => by
    obtain ⟨m1, f, m2, m3, m4⟩ := I.ty.mem ha
    have := j2 f m2
    exact r4 j (by omega)
  have oo : ∀ a ∈ os, ∀ j, a ≤ j → rd ws j = rd h.words j := fun a ha j j1 => by
    obtain ⟨m1, f, m2, m3, m4⟩ := I.to.mem ha
    exact r4 j (by omega)
  have hy0 : ∀ a ∈ ys, rd ws a = rd h.words a := fun a ha => by
    obtain ⟨m1, f, m2, m3, m4⟩ := I.ty.mem ha
    exact oy a ha a (Int.le_refl _) fun g hg => by rw [m2] at hg; cases hg; omega
  have grow : ∀ w, VV ys (· ∈ os) [] w → VV (ys ++ [h.yt]) (· ∈ os) [] w := fun w v => ⟨v.1, fun r => (v.2 r).imp (fun z => List.mem_append_left _ z) id⟩
  refine ⟨ws, e, ⟨I.ph, I.nur, I.cap, I.geo, I.ot, by rw [wl]; exact I.len, by rw [wl]; exact I.small, ?_, ?_, I.gr, ?_, ?_, ?_, ?_, I.rs, I.rn, ?_, ?_, ?_, ?_⟩, r1⟩
  · show h.yt + _ ≤ h.nur + 1
    exact h1
  · show h.yt + _ - 1 + (h.top - h.base) ≤ h.cap
    omega
  · show Tile ws 1 (h.yt + _) (ys ++ [h.yt])
    have := (I.ty.congr hy0).snoc r1 (by omega)
    rw [hq] at this
    rw [show h.yt + ((pl.length : Int) + 2) = h.yt + 2 + pl.length by omega]
    exact this
  · exact I.to.congr fun a ha => oo a ha a (Int.le_refl _)
  · intro a ha
    show rd ws (a + 1) = some 0
    rcases mem_snoc.mp ha with z | z
    · obtain ⟨m1, f, m2, m3, m4⟩ := I.ty.mem z
      rw [oy a z (a + 1) (by omega) fun g hg => by rw [m2] at hg; cases hg; omega]
      exact I.zy a z
    · rw [z]; exact r2
  · intro a ha
    show rd ws (a + 1) = _
    rw [oo a ha (a + 1) (by omega)]
    exact I.zo a ha
  · intro a ha f j w k1 k2 k3 k4
    have k1' : rd ws a = some f := k1
    have k4' : rd ws j = some w := k4
    rcases mem_snoc.mp ha with z | z
    · rw [hy0 a z] at k1'
      rw [oy a z j (by omega) fun g hg => by rw [k1'] at hg; cases hg; exact k3] at k4'
      exact grow w (I.py a z f j w k1' k2 k3 k4')
    · rw [z] at k1' k2 k3
      rw [r1] at k1'
      cases k1'
      rw [hq] at k3
      exact noref_vv (hp w (r3 j w k2 k3 k4'))
  · intro a ha f j w k1 k2 k3 k4
    have k1' : rd ws a = some f := k1
    have k4' : rd ws j = some w := k4
    rw [oo a ha a (Int.le_refl _)] at k1'
    rw [oo a ha j (by omega)] at k4'
    exact grow w (I.po a ha f j w k1' k2 k3 k4')
  · intro a ha hn f j w k1 k2 k3 k4
    have k1' : rd ws a = some f := k1
    have k4' : rd ws j = some w := k4
    rw [oo a ha a (Int.le_refl _)] at k1'
    rw [oo a ha j (by omega)] at k4'
    exact I.pn a ha hn f j w k1' k2 k3 k4'
  · intro r hr w hw
    exact grow w (I.row r hr w hw)
/-- in the old space -/
theorem idle_layO (I : Idle h ys os rows) {pl : List Int} {shape : Int} (hp : NoRefs pl) (h2 : h.used + (pl.length + 2) ≤ h.cap) (hsh : 0 ≤ shape ∧ shape < 64) :
    ∃ ws, layM h.words h.top ([64 * (pl.length : Int) + shape, 0] ++ pl) = some ws ∧ Idle { h with words := ws, top := h.top + (pl.length + 2) } ys (os ++ [h.top]) rows ∧ rd ws h.top = some (64 * (pl.length : Int) + shape) := by
  have hb := I.base0
  have ht := I.to.le
  have hy := I.ty.le
  have hyt := I.yt
  have hl := I.len
  have hs := I.small
  have hn := I.nur
  have hc := I.cap
  have hg := I.geo
  have hu : h.used = h.yt - 1 + (h.top - h.base) := by unfold HS.used; rw [I.ph]; rfl
  rw [hu] at h2
  obtain ⟨ws, e, wl, r1, r2, r3, r4⟩ := laid_words (l := h.words) (pl := pl) (t := h.top) (x := 64 * (pl.length : Int) + shape) (by omega) (by omega) (by omega) 0
  have hq : (64 * (pl.length : Int) + shape) / 64 = pl.length := by omega
  have low : ∀ j, j < h.top → rd ws j = rd h.words j := fun j hj => r4 j (.inl hj)
  have oy : ∀ a ∈ ys, ∀ f, rd h.words a = some f → ∀ j, j < a + 2 + f / 64 → rd ws j = rd h.words j := fun a ha f hf j j2 => by
    obtain ⟨m1, f', m2, m3, m4⟩ := I.ty.mem ha
    rw [hf] at m2
    cases m2
    exact low j (by omega)
  have oo : ∀ a ∈ os, ∀ f, rd h.words a = some f → ∀ j, j < a + 2 + f / 64 → rd ws j = rd h.words j := fun a ha f hf j j2 => by
    obtain ⟨m1, f', m2, m3, m4⟩ := I.to.mem ha
    rw [hf] at m2
    cases m2
    exact low j (by omega)
  have hy0 : ∀ a ∈ ys, rd ws a = rd h.words a := fun a ha => by
    obtain ⟨m1, f, m2, m3, m4⟩ := I.ty.mem ha
    exact low a (by omega)
  have ho0 : ∀ a ∈ os, rd ws a = rd h.words a := fun a ha => by
    obtain ⟨m1, f, m2, m3, m4⟩ := I.to.mem ha
    exact low a (by omega)
  have hnew : h.top ∉ h.rem := fun z => by
    obtain ⟨m1, f, m2, m3, m4⟩ := I.to.mem (I.rs _ z)
    omega
  have grow : ∀ w, VV ys (· ∈ os) [] w → VV ys (· ∈ os ++ [h.top]) [] w := fun w v => ⟨v.1, fun r => (v.2 r).imp id (·.imp (fun z => List.mem_append_left _ z) id)⟩
  have growL : ∀ w, VL (· ∈ os) [] w → VL (· ∈ os ++ [h.top]) [] w := fun w v => ⟨v.1, fun r => (v.2 r).imp (fun z => List.mem_append_left _ z) id⟩
  refine ⟨ws, e, ⟨I.ph, I.nur, I.cap, I.geo, I.ot, by rw [wl]; exact I.len, by rw [wl]; exact I.small, I.yt, ?_, I.gr, I.ty.congr hy0, ?_, ?_, ?_, fun a ha => List.mem_append_left _ (I.rs a ha), I.rn, ?_, ?_, ?_, ?_⟩, r1⟩
  · show h.yt - 1 + (h.top + _ - h.base) ≤ h.cap
    omega
  · show Tile ws h.base (h.top + _) (os ++ [h.top])
    have := (I.to.congr ho0).snoc r1 (by omega)
    rw [hq] at this
    rw [show h.top + ((pl.length : Int) + 2) = h.top + 2 + pl.length by omega]
    exact this
  · intro a ha
    show rd ws (a + 1) = some 0
    obtain ⟨m1, f, m2, m3, m4⟩ := I.ty.mem ha
    rw [low (a + 1) (by omega)]
    exact I.zy a ha
  · intro a ha
    show rd ws (a + 1) = some (if a ∈ h.rem then 4 else 0)
    rcases mem_snoc.mp ha with z | z
    · obtain ⟨m1, f, m2, m3, m4⟩ := I.to.mem z
      rw [low (a + 1) (by omega)]
      exact I.zo a z
    · rw [z, if_neg hnew]; exact r2
  · intro a ha f j w k1 k2 k3 k4
    have k1' : rd ws a = some f := k1
    have k4' : rd ws j = some w := k4
    rw [hy0 a ha] at k1'
    rw [oy a ha f k1' j k3] at k4'
    exact grow w (I.py a ha f j w k1' k2 k3 k4')
  · intro a ha f j w k1 k2 k3 k4
    have k1' : rd ws a = some f := k1
    have k4' : rd ws j = some w := k4
    rcases mem_snoc.mp ha with z | z
    · rw [ho0 a z] at k1'
      rw [oo a z f k1' j k3] at k4'
      exact grow w (I.po a z f j w k1' k2 k3 k4')
    · rw [z] at k1' k2 k3
      rw [r1] at k1'
      cases k1'
      rw [hq] at k3
      exact noref_vv (hp w (r3 j w k2 k3 k4'))
  · intro a ha hnr f j w k1 k2 k3 k4
    have k1' : rd ws a = some f := k1
    have k4' : rd ws j = some w := k4
    rcases mem_snoc.mp ha with z | z
    · rw [ho0 a z] at k1'
      rw [oo a z f k1' j k3] at k4'
      exact growL w (I.pn a z hnr f j w k1' k2 k3 k4')
    · rw [z] at k1' k2 k3
      rw [r1] at k1'
      cases k1'
      rw [hq] at k3
      exact noref_vl (hp w (r3 j w k2 k3 k4'))
  · intro r hr w hw
    exact grow w (I.row r hr w hw)
/-- a placing -/
theorem idle_place (I : Idle h ys os rows) {pl : List Int} {shape : Int} (hp : NoRefs pl) (h2 : h.used + (pl.length + 2) ≤ h.cap) (hsh : 0 ≤ shape ∧ shape < 64) :
    ∃ t h' rows' ys' os', placeM h rows shape pl = some (t, h', rows') ∧ Idle h' ys' os' rows' ∧ (t ∈ ys' ∨ t ∈ os') ∧ h'.cap = h.cap ∧ h'.nur = h.nur ∧ rows'.map List.length = rows.map List.length ∧ rd h'.words t = some (64 * (pl.length : Int) + shape) := by
  by_cases c : (pl.length : Int) + 2 ≤ h.nur
  · by_cases d : h.nur + 1 < h.yt + ((pl.length : Int) + 2)
    · obtain ⟨h1, rows1, os1, e1, I1, y1, c1, n1, u1, l1⟩ := idle_collect I
      obtain ⟨ws, e2, I2, r2⟩ := idle_layY I1 hp (by rw [y1, n1]; omega) (by rw [c1]; omega) hsh
      refine ⟨h1.yt, { h1 with words := ws, yt := h1.yt + (pl.length + 2) }, rows1, [] ++ [h1.yt], os1, ?_, I2, .inl (by simp), c1, n1, l1, r2⟩
      unfold placeM
      rw [if_pos c, if_pos d, e1, Option.bind_some, e2, Option.bind_some]
    · obtain ⟨ws, e2, I2, r2⟩ := idle_layY I hp (by omega) h2 hsh
      refine ⟨h.yt, { h with words := ws, yt := h.yt + (pl.length + 2) }, rows, ys ++ [h.yt], os, ?_, I2, .inl (by simp), rfl, rfl, rfl, r2⟩
      unfold placeM
      rw [if_pos c, if_neg d, Option.bind_some, e2, Option.bind_some]
  · obtain ⟨ws, e2, I2, r2⟩ := idle_layO I hp h2 hsh
    refine ⟨h.top, { h with words := ws, top := h.top + (pl.length + 2) }, rows, ys, os ++ [h.top], ?_, I2, .inr (by simp), rfl, rfl, rfl, r2⟩
    have ec : claimM h ((pl.length : Int) + 2) = (h.top, { h with top := h.top + (pl.length + 2) }) := by
      unfold claimM
      rw [I.ph]
      rfl
    unfold placeM
    rw [if_neg c, ec, I.ph]
    simp only [bind, Option.bind_eq_some_iff]
    exact ⟨ws, e2, rfl⟩
/-! ### writing -/
theorem idle_res (I : Idle h ys os rows) (a : Int) : resolveM h a = some a := by
  unfold resolveM
  rw [I.ph]
  rfl
theorem idle_resW (I : Idle h ys os rows) (w : Int) : resolveW h w = some w := by
  unfold resolveW
  split
  · rename_i c
    rw [idle_res I]
    have := isRef_iff.mp c
    show some (2 * (w / 2)) = some w
    congr 1
    omega
  · rfl
/-- a payload word changes; it leads to nothing young or the block is remembered -/
theorem idle_word (I : Idle h ys os rows) {b f p w : Int} {ws : List Int} (hb : b ∈ ys ∨ b ∈ os) (hf : rd h.words b = some f) (p0 : 0 ≤ p) (p1 : p < f / 64) (hw : VV ys (· ∈ os) [] w) (hn : b ∈ os → b ∉ h.rem → VL (· ∈ os) [] w) (e : wr h.words (b + 2 + p) w = some ws) : Idle { h with words := ws } ys os rows := by
  have bb := I.base0
  have byt := I.yt
  -- a block's own head and state are not the place
  have ny : ∀ a ∈ ys, a ≠ b + 2 + p ∧ a + 1 ≠ b + 2 + p := fun a ha => by
    obtain ⟨m1, g, m2, m3, m4⟩ := I.ty.mem ha
    rcases hb with z | z
    · obtain ⟨k1, f', k2, k3, k4⟩ := I.ty.mem z
      rw [hf] at k2; cases k2
      by_cases c : a = b
      · omega
      · have := I.ty.apart ha z c m2 hf
        omega
    · have := (I.to.mem z).1
      omega
  have no : ∀ a ∈ os, a ≠ b + 2 + p ∧ a + 1 ≠ b + 2 + p := fun a ha => by
    obtain ⟨m1, g, m2, m3, m4⟩ := I.to.mem ha
    rcases hb with z | z
    · obtain ⟨k1, f', k2, k3, k4⟩ := I.ty.mem z
      rw [hf] at k2; cases k2
      omega
    · by_cases c : a = b
      · omega
      · have := I.to.apart ha z c m2 hf
        omega
  have ne : ∀ j, j ≠ b + 2 + p → rd ws j = rd h.words j := fun j hj => rd_wr_ne e hj
  have hl := wr_len e
  refine ⟨I.ph, I.nur, I.cap, I.geo, I.ot, by show (ws.length : Int) = _; rw [hl]; exact I.len, by show ws.length ≤ _; rw [hl]; exact I.small, I.yt, I.used, I.gr, I.ty.congr fun a ha => ne a (ny a ha).1, I.to.congr fun a ha => ne a (no a ha).1, ?_, ?_, I.rs, I.rn, ?_, ?_, ?_, I.row⟩
  · intro a ha
    show rd ws (a + 1) = _
    rw [ne _ (ny a ha).2]
    exact I.zy a ha
  · intro a ha
    show rd ws (a + 1) = _
    rw [ne _ (no a ha).2]
    exact I.zo a ha
  · intro a ha g j x k1 k2 k3 k4
    have k1' : rd ws a = some g := k1
    have k4' : rd ws j = some x := k4
    rw [ne a (ny a ha).1] at k1'
    by_cases c : j = b + 2 + p
    · rw [c, rd_wr_same e] at k4'
      cases k4'
      exact hw
    · rw [ne j c] at k4'
      exact I.py a ha g j x k1' k2 k3 k4'
  · intro a ha g j x k1 k2 k3 k4
    have k1' : rd ws a = some g := k1
    have k4' : rd ws j = some x := k4
    rw [ne a (no a ha).1] at k1'
    by_cases c : j = b + 2 + p
    · rw [c, rd_wr_same e] at k4'
      cases k4'
      exact hw
    · rw [ne j c] at k4'
      exact I.po a ha g j x k1' k2 k3 k4'
  · intro a ha hr g j x k1 k2 k3 k4
    have k1' : rd ws a = some g := k1
    have k4' : rd ws j = some x := k4
    rw [ne a (no a ha).1] at k1'
    by_cases c : j = b + 2 + p
    · rw [c, rd_wr_same e] at k4'
      cases k4'
      -- the place lies in b alone
      have eab : a = b := by
        apply Classical.byContradiction
        intro nab
        obtain ⟨m1, g', m2, m3, m4⟩ := I.to.mem ha
        rw [k1'] at m2; cases m2
        rcases hb with z | z
        · obtain ⟨q1, f', q2, q3, q4⟩ := I.ty.mem z
          rw [hf] at q2; cases q2
          omega
        · have := I.to.apart ha z nab k1' hf
          omega
      subst eab
      exact hn ha hr
    · rw [ne j c] at k4'
      exact I.pn a ha hr g j x k1' k2 k3 k4'
/-- a block becomes remembered -/
theorem idle_remember (I : Idle h ys os rows) {b : Int} (hb : b ∈ os) : ∃ h', rememberM h b = some h' ∧ Idle h' ys os rows ∧ b ∈ h'.rem ∧ (∀ a ∈ h.rem, a ∈ h'.rem) ∧ h'.cap = h.cap ∧ h'.nur = h.nur ∧ (∀ j, j ≠ b + 1 → rd h'.words j = rd h.words j) ∧ h'.words.length = h.words.length ∧ h'.yt = h.yt ∧ h'.base = h.base ∧ h'.top = h.top := by
  have hz := I.zo b hb
  have bb := I.base0
  have byt := I.yt
  have m := I.to.many
  have mt := I.used
  have hl := I.len
  have hs := I.small
  have hg := I.geo
  have hnn := I.nur
  have hyy := I.ty.le
  by_cases c : b ∈ h.rem
  · rw [if_pos c] at hz
    refine ⟨h, ?_, I, c, fun a ha => ha, rfl, rfl, fun _ _ => rfl, rfl, rfl, rfl, rfl⟩
    simp only [rememberM, bind, Option.bind_eq_some_iff]
    exact ⟨4, hz, by rw [if_neg (by decide)]⟩
  · rw [if_neg c] at hz
    obtain ⟨m1, f, m2, m3, m4⟩ := I.to.mem hb
    obtain ⟨ws, hw⟩ := wr_of_lt (l := h.words) (i := b + 1) (v := 8 * (0 / 8) + 4 * 1 + 0 % 4) (by have := I.nur; omega) (by
      have := (rd_lt hz).2
      exact this)
    have hrl : h.rem.length ≤ os.length := by
      have : ∀ (l m : List Int), l.Nodup → (∀ x ∈ l, x ∈ m) → l.length ≤ m.length := by
        intro l
        induction l with
        | nil => intro m _ _; exact Nat.zero_le _
        | cons x l ih =>
          intro m hn hm
          obtain ⟨h1, h2⟩ := List.nodup_cons.mp hn
          have hx := hm x (by simp)
          have := ih (m.erase x) h2 fun y hy => (List.mem_erase_of_ne (fun z : y = x => h1 (by rw [← z]; exact hy))).mpr (hm y (List.mem_cons_of_mem _ hy))
          rw [List.length_erase_of_mem hx] at this
          have := List.length_pos_of_mem hx
          rw [List.length_cons]
          omega
      exact this _ _ I.rn I.rs
    have ne : ∀ j, j ≠ b + 1 → rd ws j = rd h.words j := fun j hj => rd_wr_ne hw hj
    have hwl := wr_len hw
    have nst : ∀ a, (a ∈ ys ∨ a ∈ os) → a ≠ b → a + 1 ≠ b + 1 := fun a _ h => by omega
    have hd : ∀ a, (a ∈ ys ∨ a ∈ os) → a ≠ b + 1 := fun a ha => by
      rcases ha with z | z
      · obtain ⟨k1, g, k2, k3, k4⟩ := I.ty.mem z
        omega
      · obtain ⟨k1, g, k2, k3, k4⟩ := I.to.mem z
        by_cases d : a = b
        · omega
        · have := I.to.apart z hb d k2 m2
          omega
    have pl : ∀ a, (a ∈ ys ∨ a ∈ os) → ∀ g, rd h.words a = some g → ∀ j, a + 2 ≤ j → j < a + 2 + g / 64 → j ≠ b + 1 := fun a ha g hg j j1 j2 => by
      rcases ha with z | z
      · obtain ⟨k1, g', k2, k3, k4⟩ := I.ty.mem z
        rw [hg] at k2; cases k2
        omega
      · obtain ⟨k1, g', k2, k3, k4⟩ := I.to.mem z
        rw [hg] at k2; cases k2
        by_cases d : a = b
        · omega
        · have := I.to.apart z hb d hg m2
          omega
    refine ⟨{ h with words := ws, rem := h.rem ++ [b] }, ?_, ⟨I.ph, I.nur, I.cap, I.geo, I.ot, by show (ws.length : Int) = _; rw [hwl]; exact I.len, by show ws.length ≤ _; rw [hwl]; exact I.small, I.yt, I.used, I.gr, I.ty.congr fun a ha => ne a (hd a (.inl ha)), I.to.congr fun a ha => ne a (hd a (.inr ha)), ?_, ?_, ?_, ?_, ?_, ?_, ?_, I.row⟩, List.mem_append_right _ (by simp), fun a ha => List.mem_append_left _ ha, rfl, rfl, ne, hwl, rfl, rfl, rfl⟩
    · simp only [rememberM, bind, Option.bind_eq_some_iff, grd_iff, decide_eq_true_eq]
      refine ⟨0, hz, ?_⟩
      rw [if_pos (by decide)]
      simp only [Option.bind_eq_some_iff, grd_iff, decide_eq_true_eq]
      exact ⟨(), by omega, ws, hw, rfl⟩
    · intro a ha
      show rd ws (a + 1) = _
      obtain ⟨k1, g, k2, k3, k4⟩ := I.ty.mem ha
      rw [ne _ (by omega)]
      exact I.zy a ha
    · intro a ha
      show rd ws (a + 1) = some (if a ∈ h.rem ++ [b] then 4 else 0)
      by_cases d : a = b
      · subst d
        rw [rd_wr_same hw, if_pos (by simp)]
        rfl
      · rw [ne _ (by omega), I.zo a ha]
        by_cases d2 : a ∈ h.rem
        · rw [if_pos d2, if_pos (List.mem_append_left _ d2)]
        · rw [if_neg d2, if_neg (by simp [d2, d])]
    · intro a ha
      rcases mem_snoc.mp ha with z | z
      · exact I.rs a z
      · rw [z]; exact hb
    · exact List.nodup_append.mpr ⟨I.rn, by simp, fun x hx y hy => by
        rw [List.mem_singleton.mp hy]
        exact fun z => c (z ▸ hx)⟩
    · intro a ha g j x k1 k2 k3 k4
      have k1' : rd ws a = some g := k1
      have k4' : rd ws j = some x := k4
      rw [ne a (hd a (.inl ha))] at k1'
      rw [ne j (pl a (.inl ha) g k1' j k2 k3)] at k4'
      exact I.py a ha g j x k1' k2 k3 k4'
    · intro a ha g j x k1 k2 k3 k4
      have k1' : rd ws a = some g := k1
      have k4' : rd ws j = some x := k4
      rw [ne a (hd a (.inr ha))] at k1'
      rw [ne j (pl a (.inr ha) g k1' j k2 k3)] at k4'
      exact I.po a ha g j x k1' k2 k3 k4'
    · intro a ha hr g j x k1 k2 k3 k4
      have k1' : rd ws a = some g := k1
      have k4' : rd ws j = some x := k4
      rw [ne a (hd a (.inr ha))] at k1'
      rw [ne j (pl a (.inr ha) g k1' j k2 k3)] at k4'
      exact I.pn a ha (fun z => hr (List.mem_append_left _ z)) g j x k1' k2 k3 k4'
/-- a write -/
theorem idle_write (I : Idle h ys os rows) {b f p w : Int} (hb : b ∈ ys ∨ b ∈ os) (hf : rd h.words b = some f) (p0 : 0 ≤ p) (p1 : p < f / 64) (hw : VV ys (· ∈ os) [] w) : ∃ h', writeM h b p w = some h' ∧ Idle h' ys os rows ∧ h'.cap = h.cap ∧ h'.nur = h.nur ∧ h'.used = h.used ∧ rd h'.words b = some f := by
  have bb := I.base0
  have byt := I.yt
  have hnn := I.nur
  have hl := I.len
  have hg := I.geo
  have hc := I.cap
  have ht := I.to.le
  have hyy := I.ty.le
  have hu := I.used
  have b1 : 1 ≤ b ∧ b + 2 + f / 64 ≤ (h.words.length : Int) := by
    rcases hb with z | z
    · obtain ⟨m1, g, m2, m3, m4⟩ := I.ty.mem z
      rw [hf] at m2; cases m2
      omega
    · obtain ⟨m1, g, m2, m3, m4⟩ := I.to.mem z
      rw [hf] at m2; cases m2
      omega
  obtain ⟨ws, hws⟩ := wr_of_lt (l := h.words) (i := b + 2 + p) (v := w) (by omega) (by omega)
  have hused : ∀ h1 : HS, h1.ph = h.ph → h1.yt = h.yt → h1.top = h.top → h1.base = h.base → h1.used = h.used := fun h1 e1 e2 e3 e4 => by
    unfold HS.used
    rw [e1, I.ph, e2, e3, e4]
    rfl
  by_cases c : (isRef w && !h.isY b) = true
  · obtain ⟨c1, c2⟩ := (Bool.and_eq_true _ _).mp c
    have bo : b ∈ os := by
      rcases hb with z | z
      · exfalso
        obtain ⟨m1, g, m2, m3, m4⟩ := I.ty.mem z
        have : h.isY b = true := isY_iff.mpr ⟨m1, by omega⟩
        rw [this] at c2
        cases c2
      · exact z
    by_cases d : h.isY (w / 2) = true
    · obtain ⟨h1, e1, I1, r1, r2, n1, n2, n3, n4, n5, n6, n7⟩ := idle_remember I bo
      have hne : b + 2 + p ≠ b + 1 := by omega
      have hf1 : rd h1.words b = some f := by rw [n3 _ (by omega)]; exact hf
      obtain ⟨ws1, hws1⟩ := wr_of_lt (l := h1.words) (i := b + 2 + p) (v := w) (by omega) (by omega)
      have I2 := idle_word I1 hb hf1 p0 p1 hw (fun _ hr => absurd r1 hr) hws1
      -- remembering and writing commute
      have hz := I.zo b bo
      have comm : rememberM { h with words := ws } b = some { h1 with words := ws1 } := by
        simp only [rememberM, bind, Option.bind_eq_some_iff, grd_iff, decide_eq_true_eq] at e1 ⊢
        obtain ⟨s, s1, s2⟩ := e1
        have hzs : rd ws (b + 1) = some s := by rw [rd_wr_ne hws (by omega)]; exact s1
        refine ⟨s, hzs, ?_⟩
        by_cases cs : s / 4 % 2 = 0
        · rw [if_pos cs] at s2 ⊢
          simp only [Option.bind_eq_some_iff, grd_iff, decide_eq_true_eq] at s2 ⊢
          obtain ⟨_, g1, ws2, g2, g3⟩ := s2
          cases g3
          obtain ⟨q1, q2⟩ := wr_some.mp hws
          obtain ⟨q3, q4⟩ := wr_some.mp g2
          obtain ⟨q5, q6⟩ := wr_some.mp hws1
          refine ⟨(), g1, ws1, wr_some.mpr ⟨by rw [wr_len hws]; exact q3, ?_⟩, rfl⟩
          rw [q6, q4, q2]
          exact List.set_comm _ _ (by omega)
        · rw [if_neg cs] at s2 ⊢
          cases s2
          rw [hws] at hws1
          cases hws1
          rfl
      refine ⟨{ h1 with words := ws1 }, ?_, I2, n1, n2, hused _ (I1.ph.trans I.ph.symm) n5 n7 n6, ?_⟩
      · simp only [writeM, bind, Option.bind_eq_some_iff]
        refine ⟨b, idle_res I b, w, idle_resW I w, f, hf, ws, hws, ?_⟩
        rw [if_pos c]
        unfold noteM
        rw [if_pos (show HS.isY { h with words := ws } (w / 2) = true from d)]
        exact comm
      · show rd ws1 b = some f
        rw [rd_wr_ne hws1 (by omega)]
        exact hf1
    · have hv : VL (· ∈ os) [] w := ⟨hw.1, fun r => by
        rcases hw.2 r with z | z | z
        · exfalso
          obtain ⟨m1, g, m2, m3, m4⟩ := I.ty.mem z
          exact d (isY_iff.mpr ⟨m1, by omega⟩)
        · exact .inl z
        · cases z⟩
      refine ⟨{ h with words := ws }, ?_, idle_word I hb hf p0 p1 hw (fun _ _ => hv) hws, rfl, rfl, hused _ rfl rfl rfl rfl, ?_⟩
      · simp only [writeM, bind, Option.bind_eq_some_iff]
        refine ⟨b, idle_res I b, w, idle_resW I w, f, hf, ws, hws, ?_⟩
        rw [if_pos c]
        unfold noteM
        rw [if_neg (show ¬ HS.isY { h with words := ws } (w / 2) = true from d), if_neg (show ¬ h.ph = .marking by rw [I.ph]; decide)]
      · show rd ws b = some f
        rw [rd_wr_ne hws (by omega)]
        exact hf
  · refine ⟨{ h with words := ws }, ?_, idle_word I hb hf p0 p1 hw (fun bo _ => ⟨hw.1, fun r => ?_⟩) hws, rfl, rfl, hused _ rfl rfl rfl rfl, ?_⟩
    · simp only [writeM, bind, Option.bind_eq_some_iff]
      refine ⟨b, idle_res I b, w, idle_resW I w, f, hf, ws, hws, ?_⟩
      rw [if_neg c]
    · exfalso
      apply c
      have := (I.to.mem bo).1
      rw [r, Bool.true_and]
      have : h.isY b = false := by
        cases e : h.isY b with
        | false => rfl
        | true =>
          have := isY_iff.mp e
          omega
      rw [this]
      rfl
    · show rd ws b = some f
      rw [rd_wr_ne hws (by omega)]
      exact hf

/-! ### what is met -/
theorem nodup_le {α : Type} [BEq α] [LawfulBEq α] : ∀ {l m : List α}, l.Nodup → (∀ x ∈ l, x ∈ m) → l.length ≤ m.length
  | [], m, _, _ => Nat.zero_le _
  | x :: l, m, hn, hm => by
    obtain ⟨h1, h2⟩ := List.nodup_cons.mp hn
    have hx := hm x (by simp)
    have := nodup_le (m := m.erase x) h2 fun y hy => (List.mem_erase_of_ne (fun z : y = x => h1 (by rw [← z]; exact hy))).mpr (hm y (List.mem_cons_of_mem _ hy))
    rw [List.length_erase_of_mem hx] at this
    have := List.length_pos_of_mem hx
    rw [List.length_cons]
    omega
/-- where references lead, where they are resolved to, and what the blocks there hold -/
structure MetW (h : HS) (B : List Int) (P : Int → Prop) : Prop where
  res : ∀ w, P w → 0 < w → w % 2 = 0 → ∃ b, resolveM h (w / 2) = some b ∧ b ∈ B
  blk : ∀ b ∈ B, ∃ f, rd h.words b = some f ∧ 0 ≤ f / 64 ∧ 0 ≤ b ∧ b + 2 + f / 64 ≤ (h.words.length : Int) ∧ Pay h.words b P
  len : h.words.length ≤ 100000
  many : B.length < 90000
structure MetJ (B : List Int) (P : Int → Prop) (n : Nat) (found : List (Int × Int)) (queue : List (List Int)) : Prop where
  nd : (found.map (·.2)).Nodup
  sub : ∀ p ∈ found, p.2 ∈ B
  len : queue.length = n + found.length
  ok : ∀ r ∈ queue, ∀ w ∈ r, P w
theorem metWord_ok {B : List Int} {P : Int → Prop} {n : Nat} (hn : n ≤ 10000) (M : MetW h B P) {found : List (Int × Int)} {queue : List (List Int)} (J : MetJ B P n found queue) {w : Int} (hw : P w) : ∃ p, metWord h found queue w = some p ∧ MetJ B P n p.1 p.2 := by
  unfold metWord
  by_cases c : 0 < w ∧ w % 2 = 0
  · rw [if_pos c]
    obtain ⟨b, e1, hb⟩ := M.res w hw c.1 c.2
    rw [e1, Option.bind_some]
    by_cases d : b ∈ found.map (·.2)
    · rw [if_pos d]
      exact ⟨_, rfl, J⟩
    · rw [if_neg d]
      obtain ⟨f, f1, f2, f3, f4, f5⟩ := M.blk b hb
      rw [f1, Option.bind_some]
      have hl : found.length ≤ B.length := by
        have := nodup_le (l := found.map (·.2)) (m := B) J.nd fun x hx => by
          obtain ⟨p, hp, rfl⟩ := List.mem_map.mp hx
          exact J.sub p hp
        rwa [List.length_map] at this
      have := M.many
      have := J.len
      rw [if_pos ⟨f2, f4, M.len, by omega, by omega⟩]
      refine ⟨_, rfl, ?_, ?_, ?_, ?_⟩
      · rw [List.map_append]
        exact List.nodup_append.mpr ⟨J.nd, by simp, fun x hx y hy => by
          rw [show y = b by simpa using hy]
          exact fun z => d (z ▸ hx)⟩
      · intro p hp
        rcases mem_snoc.mp hp with z | z
        · exact J.sub p z
        · rw [z]; exact hb
      · rw [List.length_append, List.length_append, J.len]
        simp
        omega
      · intro r hr x hx
        rcases mem_snoc.mp hr with z | z
        · exact J.ok r z x hx
        · subst z
          obtain ⟨k, hk⟩ := List.mem_iff_getElem?.mp hx
          rw [List.getElem?_take] at hk
          split at hk
          · rename_i hlt
            rw [List.getElem?_drop] at hk
            refine f5 f (b + 2 + k) x f1 (by omega) (by omega) (rd_some.mpr ⟨by omega, ?_⟩)
            rw [← hk]
            congr 1
            omega
          · cases hk
  · rw [if_neg c]
    exact ⟨_, rfl, J⟩
theorem metRow_ok {B : List Int} {P : Int → Prop} {n : Nat} (hn : n ≤ 10000) (M : MetW h B P) : ∀ {row : List Int} {found : List (Int × Int)} {queue : List (List Int)}, MetJ B P n found queue → (∀ w ∈ row, P w) → ∃ p, metRow h found queue row = some p ∧ MetJ B P n p.1 p.2
  | [], found, queue, J, _ => ⟨_, rfl, J⟩
  | w :: r, found, queue, J, hr => by
    obtain ⟨p, e, J1⟩ := metWord_ok hn M J (hr w (by simp))
    obtain ⟨p2, e2, J2⟩ := metRow_ok hn M (row := r) J1 fun x hx => hr x (List.mem_cons_of_mem _ hx)
    refine ⟨p2, ?_, J2⟩
    unfold metRow
    rw [e, Option.bind_some]
    exact e2
theorem metLoop_ok {B : List Int} {P : Int → Prop} {n : Nat} (hn : n ≤ 10000) (M : MetW h B P) : ∀ (m k : Nat) {found : List (Int × Int)} {queue : List (List Int)}, MetJ B P n found queue → ∃ f, metLoop h found queue k m = some f ∧ (f.map (·.2)).Nodup ∧ ∀ p ∈ f, p.2 ∈ B
  | 0, k, found, queue, J => ⟨found, rfl, J.nd, J.sub⟩
  | m + 1, k, found, queue, J => by
    unfold metLoop
    by_cases c : k < queue.length
    · rw [List.getElem?_eq_getElem c]
      obtain ⟨p, e, J1⟩ := metRow_ok hn M J fun w hw => J.ok _ (List.getElem_mem c) w hw
      obtain ⟨f, e2, h1, h2⟩ := metLoop_ok hn M m (k + 1) J1
      exact ⟨f, by show (metRow h found queue queue[k]).bind _ = _; rw [e, Option.bind_some]; exact e2, h1, h2⟩
    · rw [List.getElem?_eq_none (by omega)]
      exact ⟨found, rfl, J.nd, J.sub⟩
theorem idle_met (I : Idle h ys os rows) (hn : rows.length ≤ 10000) : ∃ f, metM h rows = some f ∧ (f.map (·.2)).Nodup ∧ ∀ p ∈ f, p.2 ∈ ys ∨ p.2 ∈ os := by
  have hl := I.len
  have hs := I.small
  have hnn := I.nur
  have hc := I.cap
  have hyt := I.yt
  have hu := I.used
  have hb := I.base0
  have hg := I.geo
  have ht := I.to.le
  have hy := I.ty.le
  have M : MetW h (ys ++ os) (VV ys (· ∈ os) []) := by
    refine ⟨fun w hw w0 w2 => ⟨w / 2, idle_res I _, ?_⟩, fun b hb' => ?_, by omega, ?_⟩
    · rcases hw.2 (isRef_iff.mpr ⟨w2, by omega⟩) with z | z | z
      · exact List.mem_append_left _ z
      · exact List.mem_append_right _ z
      · cases z
    · rcases List.mem_append.mp hb' with z | z
      · obtain ⟨m1, f, m2, m3, m4⟩ := I.ty.mem z
        exact ⟨f, m2, m3, by omega, by omega, I.py b z⟩
      · obtain ⟨m1, f, m2, m3, m4⟩ := I.to.mem z
        exact ⟨f, m2, m3, by omega, by omega, I.po b z⟩
    · rw [List.length_append]
      have := I.ty.many
      have := I.to.many
      omega
  obtain ⟨f, e, h1, h2⟩ := metLoop_ok (n := rows.length) hn M metFuel 0 (found := []) (queue := rows) ⟨by simp, (fun p hp => by cases hp), by simp, I.row⟩
  exact ⟨f, e, h1, fun p hp => List.mem_append.mp (h2 p hp)⟩
end
end Qb

set_option Elab.async false
set_option linter.all false
set_option maxRecDepth 100000
set_option maxHeartbeats 4000000
/-! Inf1: rules over HandS that serve any shape of operand (the reading chooses). -/
namespace Qb
open PySem PySem.Spec PyProof.Rows L2

/-- a statement, then the rest: Mid stands between them -/
def tThen (t u : TS) : TS := fun D σ H => ∃ Mid : L2.St → Hp → Prop, t { D with nx := Mid } σ H ∧ ∀ σ' H', Mid σ' H' → u D σ' H'
theorem pss_then {X : Cx} {st : Stmt} {rest : List Stmt} {t u : TS} (h1 : PS X st t) (h2 : PSs X rest u) : PSs X (st :: rest) (tThen t u) := by
  refine ⟨fun pins s σ H D I h => ?_⟩
  obtain ⟨Mid, hm, hu⟩ := h
  refine wpAny_execs_cons (thn (h1.run pins s σ H { D with nx := Mid } I hm) fun f s1 q => ?_)
  cases f with
  | next =>
    obtain ⟨σ', H', I', q⟩ := q
    exact h2.run pins s1 σ' H' D I' (hu σ' H' q)
  | ret v => exact q
  | brk => exact q
  | cont => exact q
/-! ### operators by any operand -/
theorem opr_or {X : Cx} {f : Value → Value → Sem Value} {r r' : R2} (h : OpR X f r) (h' : OpR X f r') : OpR X f (fun x y H Q => r x y H Q ∨ r' x y H Q) := by
  intro pins s σ H x y v u Q I rx ry q
  rcases q with q | q
  · exact h pins s σ H x y v u Q I rx ry q
  · exact h' pins s σ H x y v u Q I rx ry q
theorem callr_or {X : Cx} {f : Value} {r r' : List V → Hp → VK → Prop} (h : CallR X f r) (h' : CallR X f r') : CallR X f (fun xs H Q => r xs H Q ∨ r' xs H Q) := by
  intro pins s σ H xs us Q I r q
  rcases q with q | q
  · exact h pins s σ H xs us Q I r q
  · exact h' pins s σ H xs us Q I r q
/-- +: ints, lists, tuples -/
def rPlus (K : PySem.W.Frag) : R2 := fun x y H Q => rI0 (fun i j => .int (i + j)) x y H Q ∨ (rCat x y H Q ∨ rCatA K x y H Q)
theorem op_plus {X : Cx} : OpR X (binaryOp .Add) (rPlus X.K) := opr_or op_add (opr_or op_cat op_catA)
abbrev rMinus : R2 := rI0 fun i j => .int (i - j)
theorem op_minus {X : Cx} : OpR X (binaryOp .Sub) rMinus := op_sub
/-- *: ints (one below 2^64, or both below half a million bits), a list by an int -/
def rTimes : R2 := fun x y H Q => rI CMul (fun i j => .int (i * j)) x y H Q ∨ (rI CMulW (fun i j => .int (i * j)) x y H Q ∨ rRep x y H Q)
theorem op_times {X : Cx} : OpR X (binaryOp .Mult) rTimes := opr_or op_mul (opr_or op_mulW op_rep)
abbrev rFloor : R2 := rI CDivW fun i j => .int (i / j)
theorem op_floor {X : Cx} : OpR X (binaryOp .FloorDiv) rFloor := op_fdivW
abbrev rRest : R2 := rI (fun _ j => 0 < j) fun i j => .int (i % j)
theorem op_rest {X : Cx} : OpR X (binaryOp .Mod) rRest := op_mod
abbrev rPow : R2 := rI CPow fun i j => .int (i ^ j.toNat)
theorem op_power {X : Cx} : OpR X (binaryOp .Pow) rPow := op_pow
/-- ==, !=: scalars, or data of any depth -/
def rEqU (K : PySem.W.Frag) : R2 := fun x y H Q => rEq x y H Q ∨ rEqD K x y H Q
def rNeU (K : PySem.W.Frag) : R2 := fun x y H Q => rNe x y H Q ∨ rNeD K x y H Q
theorem op_eqU {X : Cx} (h : X.A.units + 64 < cLine) : OpR X (compareOp .Eq) (rEqU X.K) := opr_or op_eq (op_eqD h)
theorem op_neU {X : Cx} (h : X.A.units + 64 < cLine) : OpR X (compareOp .NotEq) (rNeU X.K) := opr_or op_ne (op_neD h)
abbrev rLt : R2 := rI0 fun i j => .bl (decide (i < j))
abbrev rLe : R2 := rI0 fun i j => .bl (decide (i ≤ j))
abbrev rGt : R2 := rI0 fun i j => .bl (decide (j < i))
abbrev rGe : R2 := rI0 fun i j => .bl (decide (j ≤ i))
abbrev rIsNone : R2 := fun x y H Q => y = .non ∧ Q (.bl (decide (x = .non))) H
abbrev rIsNotNone : R2 := fun x y H Q => y = .non ∧ Q (.bl (!decide (x = .non))) H
/-- a slice of a list, of a tuple -/
def rSlU (K : PySem.W.Frag) : V → Option Int → Option Int → Hp → VK → Prop := fun x lo hi H Q => rSlL K x lo hi H Q ∨ rSlA K x lo hi H Q
theorem sl_any {X : Cx} : SlR X (rSlU X.K) := SlR.or sl_list sl_tupA
/-- what a for walks: a list or a tuple -/
def iSeq (K : PySem.W.Frag) (tl : TE) : TI := fun σ H R => iList K tl σ H R ∨ iTup K tl σ H R
theorem pi_seq {X : Cx} {tg l : Expr} {tl : TE} (hl : PE X l tl) : PI X tg l (iSeq X.K tl) := by
  refine ⟨fun pins s σ H R I h => ?_⟩
  rcases h with h | h
  · exact (pi_list hl).run pins s σ H R I h
  · exact (pi_tup hl).run pins s σ H R I h
/-! ### built-ins -/
def rLenU (K : PySem.W.Frag) : List V → Hp → VK → Prop := fun xs H Q => ∃ x n, xs = [x] ∧ LenV K x H n ∧ Q (.int n) H
theorem cb_len {X : Cx} : CallR X (.builtin "len") (rLenU X.K) := call_len
def rIntU : List V → Hp → VK → Prop := fun xs H Q => (∃ i, xs = [.int i] ∧ Q (.int i) H) ∨ ∃ k, xs = [.bl k] ∧ Q (.int (if k = true then 1 else 0)) H
theorem cb_int {X : Cx} : CallR X (.type "int") rIntU := call_int1
def rListU (K : PySem.W.Frag) : List V → Hp → VK → Prop := fun xs H Q => ∃ p ys, xs = [.ref p] ∧ (SqL K H p ys ∨ SqT K H p ys) ∧ ∀ l, H l = none → Q (.ref l) (upd H l (.lst ys))
theorem cb_list {X : Cx} : CallR X (.type "list") (rListU X.K) := call_list_of
def rTupU (K : PySem.W.Frag) : List V → Hp → VK → Prop := fun xs H Q => ∃ p ys, xs = [.ref p] ∧ ((SqL K H p ys ∧ ∀ l, H l = none → Q (.ref l) (upd H l (.tup ys))) ∨ SqT K H p ys ∧ Q (.ref p) H)
theorem cb_tuple {X : Cx} : CallR X (.type "tuple") (rTupU X.K) := call_tuple_of
def rMinU : List V → Hp → VK → Prop := fun xs H Q => ∃ i j, xs = [.int i, .int j] ∧ Q (.int (if j < i then j else i)) H
theorem cb_min {X : Cx} (hc : X.calm = true) : CallR X (.builtin "min") rMinU := call_min2 hc
def rMaxU : List V → Hp → VK → Prop := fun xs H Q => ∃ i j, xs = [.int i, .int j] ∧ Q (.int (if j > i then j else i)) H
theorem cb_max {X : Cx} (hc : X.calm = true) : CallR X (.builtin "max") rMaxU := call_max2 hc

/-! ### xs.count(True or False), xs a list of bools -/
def eqkB (k : Bool) (v : Value) : Bool := match v with
  | .bool n => n == k
  | _ => false
def rCntB (K : PySem.W.Frag) : V → List V → Hp → VK → Prop := fun x xs H Q => ∃ (p : Addr) (ns : List Bool) (k : Bool), x = .ref p ∧ xs = [.bl k] ∧ SqL K H p (ns.map V.bl) ∧ Q (.int (ns.count k : Nat)) H
theorem bools_of {ns : List Bool} : ∀ {us : List Value}, Vals (ns.map V.bl) us → us = ns.map Value.bool := by
  induction ns with
  | nil =>
    intro us r
    rw [List.map_nil] at r
    cases r
    rfl
  | cons n ns ih =>
    intro us r
    rw [List.map_cons] at r
    cases r with
    | cons r1 r2 =>
      have e : _ = Value.bool n := r1
      rw [e, ih r2, List.map_cons]
theorem mt_cntB {X : Cx} : MtR X "list.count" (rCntB X.K) := by
  intro pins s σ H x xs v us Q I rx rxs h
  obtain ⟨p, ns, k, rfl, rfl, hs, q⟩ := h
  cases rx
  obtain ⟨u, rfl, ru⟩ := rxs.one
  obtain rfl : u = Value.bool k := ru
  obtain ⟨its, rv, ⟨⟨cls, dd, data, sl⟩, n, ho, hc, hdn, hd⟩, hlen⟩ := I.list hs
  simp only at hc hd
  subst hc hd
  have hi := bools_of rv
  subst hi
  refine call_meets PySem.F.slot_list_count ⟨_, ho, rfl⟩ PySem.F.entry_list_count (PySem.F.args_list_count_2 _ _)
    (SeqAt.list_countAt p (ns.map Value.bool).toArray n dd sl (.bool k) (eqkB k)) ⟨ho, fun y hy => ?_, ?_⟩
  · obtain ⟨b, _, rfl⟩ : ∃ b, b ∈ ns ∧ Value.bool b = y := by simpa using hy
    exact eqAt_V (y := .bl b) (x := .bl k) rfl rfl rfl rfl
  · have ec : (ns.map Value.bool).toArray.toList.countP (eqkB k) = ns.count k := by
      show (ns.map Value.bool).countP (eqkB k) = ns.count k
      rw [List.countP_map]
      rfl
    refine ⟨.int (ns.count k : Nat), H, I.tok _, ⟨s.toks, ?_⟩, q⟩
    rw [ec]

/-! ### o[lo:hi] = e -/
/-- by values: the list at l, its places a .. c replaced by the items of the list at b -/
def gSubSl (to : TE) (tl th : TO) : TG := fun v σ H Q => to σ H fun o H1 => tl σ H1 fun a H2 => th σ H2 fun c H3 =>
  ∃ (l b : Addr) (xs ys : List V) (i j : Int), o = .ref l ∧ v = .ref b ∧ a = some i ∧ c = some j ∧ H3 l = some (.lst xs) ∧ H3 b = some (.lst ys) ∧ l ≠ b ∧ 0 ≤ i ∧ i ≤ j ∧ j ≤ (xs.length : Int) ∧ xs.length + ys.length ≤ sizeLine ∧
    Q σ (upd H3 l (.lst (xs.take i.toNat ++ ys ++ xs.drop j.toNat)))
theorem pg_subSl {X : Cx} {o : Expr} {lo hi : Option Expr} {pos p2 : Pos} {to : TE} {tl th : TO} (ho : PE X o to) (hl : PO X lo tl) (hh : PO X hi th) : PG X (.Subscript o (.Slice lo hi none p2) pos) (gSubSl to tl th) := by
  refine ⟨fun pins s σ H v u Q I r h => ?_⟩
  rw [arm_assign_Subscript]
  refine wpAny_bind (wpAny_holding (thn (ho.run pins s σ H _ I h) fun ov s1 ⟨x, H1, I1, r1, q1⟩ => ?_))
  refine wpAny_bind (wpAny_holding (wpAny_Slice (thn (hl.run pins s1 σ H1 _ I1 q1) fun vl s2 ⟨a, H2, I2, pl, q2⟩ => thn (hh.run pins s2 σ H2 _ I2 q2) fun vu s3 ⟨c, H3, I3, pu, q3⟩ => ?_)))
  rw [evalPart_none]
  refine wpAny_pure ?_
  have I4 : Inv X pins σ H3 { s3 with heap := s3.heap.push { cls := .type "slice", data := .fields #[vl, vu, .none] } } := I3.kept (t' := s3.toks) fun b ob q => Heap.get?_push_of_some _ q
  obtain ⟨l, b, xs, ys, i, j, rfl, rfl, rfl, rfl, hl1, hb1, hne, h0, h1, h2, h3, q⟩ := q3
  cases r1
  cases r
  refine wpAny_bind (wpAny_standAt (wpAny_bind (wpAny_holding ?_)))
  refine set_slice I4 hl1 hb1 hne (Heap.IsSliceOf.new ..) ?_ ?_ h0 h1 h2 h3 fun s5 I5 => ?_
  · cases pl with
    | int i t => exact ⟨t, rfl⟩
  · cases pu with
    | int i t => exact ⟨t, rfl⟩
  · exact wpAny_release ⟨σ, _, I5, q⟩

/-! ### defs -/
/-- what a def promises: from its arguments and the heap to the wanted end -/
abbrev Phi := List V → Hp → VK → Prop
def Spn (n : Nat) (φ : Phi) : Sp := fun vs H Q _ => vs.length = n ∧ φ vs H Q
/-- the module's def x keeps φ -/
def GF (P : Program) (w : World) (K : PySem.W.Frag) (mg : Str → Option Value) (base : Heap) (k : Nat) (x : Str) (ps : List Str) (φ : Phi) : Prop :=
  ∃ (f : Addr) (fd : FuncData), mg x = some (.ref f) ∧ PySem.W.keepIn K (.ref f) = true ∧ Binds K fd ps [] ∧ FnOk P w K mg base CX0 k f fd ps (Spn ps.length φ)
theorem GF.mono {P : Program} {w : World} {K : PySem.W.Frag} {mg : Str → Option Value} {base : Heap} {j k : Nat} {x : Str} {ps : List Str} {φ : Phi} (G : GF P w K mg base j x ps φ) (h : j ≤ k) : GF P w K mg base k x ps φ := by
  obtain ⟨f, fd, a, b, c, d⟩ := G
  exact ⟨f, fd, a, b, c, d.mono h⟩
/-- f(e, ..) -/
def tCallF (n : Nat) (φ : Phi) (t : TA) : TE := fun σ H Q => t σ H fun vs H1 => vs.length = n ∧ φ vs H1 Q
theorem pe_callG {X : Cx} {k : Nat} {ps : List Str} {φ : Phi} {x : Str} {p pos : Pos} {e : Expr} {es : List Expr} {t : TA} (G : GF X.prog X.w X.K X.mg X.base k x ps φ) (hr : Room k X.A) (hg : Gl X x) (ha : PA X (e :: es) t)
    (hd : (x == Str.ofString "__debug__") = false := by decide) (h1 : starEach (e :: es) X.env = (false, eval e X.env) :: starEach es X.env := by rfl) (h2 : ((backTo pos (starEach es X.env)).any fun x => x.fst) = false := by rfl) :
    PE X (.Call (.Name x p) (e :: es) [] pos) (tCallF ps.length φ t) := by
  obtain ⟨f, fd, a, b, c, d⟩ := G
  refine ⟨fun pins s σ H Q I h => ?_⟩
  refine (pe_call (E := E0) d hr hg a b c .nil pass0 ha hd h1 h2).run pins s σ H Q I ?_
  have e : (tCall (Spn ps.length φ) [] E0 t) = tCallF ps.length φ t := by
    funext σ H Q
    unfold tCall tCallF Spn
    simp only [List.append_nil]
  rw [e]
  exact h
/-- a def of the top, with its place in the text -/
abbrev FnP (K : PySem.W.Frag) (x : Str) (st : Stmt) (f : Addr) (fd : FuncData) : Prop := FunD K x x (defArgs st) (defBody st) (defScope st) [] [] f fd
theorem GF.mk {P : Program} {w : World} {K : PySem.W.Frag} {mg : Str → Option Value} {base : Heap} {k : Nat} {x : Str} {ps N : List Str} {φ : Phi} {st : Stmt} {f : Addr} {fd : FuncData} {t : TS}
    (F : FnP K x st f fd) (hm : mg x = some (.ref f)) (S : FnScope N ps (defScope st)) (hb : Binds K fd ps [])
    (hs : ∀ (cdv : Value) (A : Around) (outer : List Env) (s : Shared) (H : Hp) (E : XK), Room k (A.deeper (envOfC x (defScope st) s.heap.objs.size f cdv)) → PSs (cxOf CX0 P w K mg base N x (defScope st) f cdv A outer s H E).nox (defBody st) t)
    (hp : ∀ vs H Q, vs.length = ps.length → φ vs H Q → t { nx := fun _ H' => Q .non H', rt := Q } (start N vs) H) : GF P w K mg base (k + 1) x ps φ := by
  refine ⟨f, fd, hm, F.kp, hb, F.ok S (fun vs H Q E h => h.1) fun cdv A outer s H vs Q E hr h => ⟨t, ?_, hp vs H Q h.1 h.2⟩⟩
  exact PSs.nox (hs cdv A outer s H E hr)
/-! ### methods and instances -/
abbrev FnM (K : PySem.W.Frag) (x qual : Str) (st : Stmt) (f : Addr) (fd : FuncData) : Prop := FunD K x qual (defArgs st) (defBody st) (defScope st) [] [] f fd
def GM (P : Program) (w : World) (K : PySem.W.Frag) (mg : Str → Option Value) (base : Heap) (k : Nat) (C : Addr) (m : Str) (ps : List Str) (φ : Phi) : Prop :=
  ∃ (f : Addr) (fd : FuncData), Meth K C m f ∧ Binds K fd ps [] ∧ FnOk P w K mg base CX0 k f fd ps (Spn ps.length φ)
theorem GM.mono {P : Program} {w : World} {K : PySem.W.Frag} {mg : Str → Option Value} {base : Heap} {j k : Nat} {C : Addr} {m : Str} {ps : List Str} {φ : Phi} (G : GM P w K mg base j C m ps φ) (h : j ≤ k) : GM P w K mg base k C m ps φ := by
  obtain ⟨f, fd, a, b, c⟩ := G
  exact ⟨f, fd, a, b, c.mono h⟩
theorem GM.mk {P : Program} {w : World} {K : PySem.W.Frag} {mg : Str → Option Value} {base : Heap} {k : Nat} {C : Addr} {x qual : Str} {ps N : List Str} {φ : Phi} {st : Stmt} {f : Addr} {fd : FuncData} {t : TS}
    (F : FnM K x qual st f fd) (hm : Meth K C x f) (S : FnScope N ps (defScope st)) (hb : Binds K fd ps [])
    (hs : ∀ (cdv : Value) (A : Around) (outer : List Env) (s : Shared) (H : Hp) (E : XK), Room k (A.deeper (envOfC qual (defScope st) s.heap.objs.size f cdv)) → PSs (cxOf CX0 P w K mg base N qual (defScope st) f cdv A outer s H E).nox (defBody st) t)
    (hp : ∀ vs H Q, vs.length = ps.length → φ vs H Q → t { nx := fun _ H' => Q .non H', rt := Q } (start N vs) H) : GM P w K mg base (k + 1) C x ps φ := by
  refine ⟨f, fd, hm, hb, F.ok S (fun vs H Q E h => h.1) fun cdv A outer s H vs Q E hr h => ⟨t, ?_, hp vs H Q h.1 h.2⟩⟩
  exact PSs.nox (hs cdv A outer s H E hr)
/-- o.m() -/
def tMethF (C : Addr) (m : Str) (φ : Phi) (ta : TE) : TE := fun σ H Q => ta σ H fun x H1 => ∃ a dx fs, x = .ref a ∧ H1 a = some (.ins C dx fs) ∧ fs.lookup m = none ∧ φ [x] H1 Q
theorem pe_methG {X : Cx} {k : Nat} {C : Addr} {m : Str} {ps : List Str} {φ : Phi} {pos apos : Pos} {o : Expr} {ta : TE} {pl : Sem Bool} (ho : PE X o ta) (hc : Cls X.K C) (G : GM X.prog X.w X.K X.mg X.base k C m ps φ) (hr : Room k X.A) (hl : ps.length = 1)
    (h1 : eval (.Call (.Attribute o m apos) [] [] pos) X.env = (do
      let ov ← eval o X.env
      standAt apos.atName
      let x ← holding [ov] (getMethod ov m pl)
      match x with
        | (f, first) => callWith pos f first (backTo pos (starEach [] X.env)) (backToKw pos (keywordEach [] X.env))) := by rfl) :
    PE X (.Call (.Attribute o m apos) [] [] pos) (tMethF C m φ ta) := by
  obtain ⟨f, fd, a, b, d⟩ := G
  refine ⟨fun pins s σ H Q I h => ?_⟩
  refine (pe_meth0 (E := E0) (dvs := []) ho hc a d hr b .nil pass0 h1).run pins s σ H Q I ?_
  have e : (tMeth C m (Spn ps.length φ) [] E0 ta tNil) = tMethF C m φ ta := by
    funext σ H Q
    unfold tMeth tMethF Spn tNil
    simp only [List.append_nil, List.length_singleton, hl, true_and]
  rw [e]
  exact h
/-- C(e, ..) -/
def tMakeF (C : Addr) (n : Nat) (φ : Phi) (t : TA) : TE := fun σ H Q => t σ H fun vs H1 => ∀ x dx, H1 x = none → H1 dx = none → dx ≠ x →
  (vs.length + 1 = n ∧ φ (.ref x :: vs) (upd (upd H1 dx (.own x)) x (.ins C dx [])) (fun v H2 => v = .non ∧ Q (.ref x) H2))
theorem pe_makeG {X : Cx} {k : Nat} {C : Addr} {ps : List Str} {φ : Phi} {x m : Str} {p pos : Pos} {e : Expr} {es : List Expr} {t : TA} (M : ∀ f, Meth X.K C m f → Mk X.K C f) (G : GM X.prog X.w X.K X.mg X.base k C m ps φ) (hr : Room (k + 1) X.A) (hg : Gl X x) (hm : X.mg x = some (.ref C)) (ha : PA X (e :: es) t)
    (hd : (x == Str.ofString "__debug__") = false := by decide) (h1 : starEach (e :: es) X.env = (false, eval e X.env) :: starEach es X.env := by rfl) (h2 : ((backTo pos (starEach es X.env)).any fun x => x.fst) = false := by rfl) :
    PE X (.Call (.Name x p) (e :: es) [] pos) (tMakeF C ps.length φ t) := by
  obtain ⟨f, fd, a, b, d⟩ := G
  refine ⟨fun pins s σ H Q I h => ?_⟩
  refine (pe_make (E := E0) (dvs := []) (M f a) d hr hg hm b .nil pass0 ha hd h1 h2).run pins s σ H Q I ?_
  have e : (tMake C (Spn ps.length φ) [] E0 t) = tMakeF C ps.length φ t := by
    funext σ H Q
    unfold tMake tMakeF Spn
    simp only [List.append_nil, List.length_cons]
  rw [e]
  exact h
end Qb

set_option Elab.async false
set_option linter.all false
set_option maxRecDepth 100000
set_option maxHeartbeats 4000000
/-! Inf2: heaps that grow, frames, the reading of a body step by step. -/
namespace Qb
open PySem L2

/-! ### what is kept -/
def Ex (H H' : Hp) : Prop := ∀ a o, H a = some o → H' a = some o
theorem Ex.refl (H : Hp) : Ex H H := fun _ _ h => h
theorem Ex.trans {H H1 H2 : Hp} (a : Ex H H1) (b : Ex H1 H2) : Ex H H2 := fun x o h => b x o (a x o h)
theorem Ex.new {H : Hp} {p : Addr} {o : HO} (h : H p = none) : Ex H (upd H p o) := fun a u e => by
  rw [upd_ne (ne_of_none e h)]
  exact e
/-- an object that H does not know may change -/
theorem Ex.mut {H H' : Hp} {p : Addr} {o : HO} (e : Ex H H') (h : H p = none) : Ex H (upd H' p o) := fun a u ha => by
  rw [upd_ne (ne_of_none ha h)]
  exact e a u ha
theorem Ex.get {H H' : Hp} {a : Addr} {o : HO} (e : Ex H H') (h : H a = some o) : H' a = some o := e a o h
theorem Ex.back {H H' : Hp} {p : Addr} (e : Ex H H') (h : H' p = none) : H p = none := by
  cases h1 : H p with
  | none => rfl
  | some o =>
    rw [e p o h1] at h
    cases h
theorem upd_get {H : Hp} {a b : Addr} {o u : HO} (h : b ≠ a) (e : H b = some u) : upd H a o b = some u := (upd_ne h).trans e
theorem upd_back {H : Hp} {a p : Addr} {o : HO} (h : upd H a o p = none) : H p = none := by
  unfold upd at h
  split at h
  · cases h
  · exact h
/-- all but what stands at S is kept -/
def Fr (S : List Addr) (H H' : Hp) : Prop := ∀ a o, H a = some o → a ∉ S → H' a = some o
theorem Fr.refl (S : List Addr) (H : Hp) : Fr S H H := fun _ _ h _ => h
theorem Fr.get {S : List Addr} {H H' : Hp} {a : Addr} {o : HO} (f : Fr S H H') (h : H a = some o) (n : a ∉ S) : H' a = some o := f a o h n
theorem Fr.ex {S : List Addr} {H H1 H2 : Hp} (f : Fr S H H1) (e : Ex H1 H2) : Fr S H H2 := fun a o h n => e a o (f a o h n)
theorem Fr.upd {S : List Addr} {H H1 : Hp} {p : Addr} {o : HO} (f : Fr S H H1) (h : p ∈ S ∨ H p = none) : Fr S H (upd H1 p o) := fun a u e n => by
  rcases h with h | h
  · rw [upd_ne (fun z => n (by rw [z]; exact h))]
    exact f a u e n
  · rw [upd_ne (ne_of_none e h)]
    exact f a u e n
theorem Fr.trans {S S' : List Addr} {H H1 H2 : Hp} (f : Fr S H H1) (g : Fr S' H1 H2) (h : ∀ a ∈ S', a ∈ S ∨ H a = none) : Fr S H H2 := fun a u e n => by
  refine g a u (f a u e n) fun z => ?_
  rcases h a z with q | q
  · exact n q
  · rw [q] at e
    cases e
theorem Fr.fresh {S : List Addr} {H H1 : Hp} {p : Addr} (f : Fr S H H1) (h : H1 p = none) : p ∈ S ∨ H p = none := by
  cases e : H p with
  | none => exact .inr rfl
  | some o =>
    by_cases m : p ∈ S
    · exact .inl m
    · rw [f p o e m] at h
      cases h
theorem Ex.fr {S : List Addr} {H H' : Hp} (e : Ex H H') : Fr S H H' := fun a o h _ => e a o h
theorem Fr.mono {S S' : List Addr} {H H' : Hp} (f : Fr S H H') (h : ∀ a ∈ S, a ∈ S') : Fr S' H H' := fun a o e n => f a o e fun z => n (h a z)

/-! ### phases, the instance -/
def Ph.str : Ph → Str
  | .idle => "idle"
  | .marking => "marking"
  | .moving => "moving"
  | .updating => "updating"
theorem Ph.str_late (p : Ph) : inV (.str p.str) [.str "moving", .str "updating"] = p.late := by cases p <;> decide +kernel
theorem Ph.str_marking (p : Ph) : decide (V.str p.str = V.str "marking") = decide (p = .marking) := by cases p <;> decide +kernel
theorem Ph.str_idle (p : Ph) : decide (V.str p.str = V.str "idle") = decide (p = .idle) := by cases p <;> decide +kernel
theorem Ph.str_moving (p : Ph) : decide (V.str p.str = V.str "moving") = decide (p = .moving) := by cases p <;> decide +kernel

/-- a list of ints -/
abbrev il (l : List Int) : HO := .lst (l.map V.int)
/-- the attributes of a memory whose lists stand at w, g, r -/
def flds (h : HS) (w g r : Addr) : List (Str × V) :=
  [("capacity", .int h.cap), ("nursery", .int h.nur), ("words", .ref w), ("young_top", .int h.yt), ("base", .int h.base), ("top", .int h.top), ("other_base", .int h.ob), ("other_top", .int h.ot), ("phase", .str h.ph.str), ("cursor", .int h.cur), ("grays", .ref g), ("remembered", .ref r), ("pending", .int h.pend)]
theorem flds_len (h : HS) (w g r : Addr) : (flds h w g r).length < 1000 := by show 13 < 1000; decide
section
variable (h : HS) (w g r : Addr)
theorem fl_cap : (flds h w g r).lookup ("capacity" : Str) = some (.int h.cap) := by kernel_rfl
theorem fl_nur : (flds h w g r).lookup ("nursery" : Str) = some (.int h.nur) := by kernel_rfl
theorem fl_words : (flds h w g r).lookup ("words" : Str) = some (.ref w) := by kernel_rfl
theorem fl_yt : (flds h w g r).lookup ("young_top" : Str) = some (.int h.yt) := by kernel_rfl
theorem fl_base : (flds h w g r).lookup ("base" : Str) = some (.int h.base) := by kernel_rfl
theorem fl_top : (flds h w g r).lookup ("top" : Str) = some (.int h.top) := by kernel_rfl
theorem fl_ob : (flds h w g r).lookup ("other_base" : Str) = some (.int h.ob) := by kernel_rfl
theorem fl_ot : (flds h w g r).lookup ("other_top" : Str) = some (.int h.ot) := by kernel_rfl
theorem fl_ph : (flds h w g r).lookup ("phase" : Str) = some (.str h.ph.str) := by kernel_rfl
theorem fl_cur : (flds h w g r).lookup ("cursor" : Str) = some (.int h.cur) := by kernel_rfl
theorem fl_gr : (flds h w g r).lookup ("grays" : Str) = some (.ref g) := by kernel_rfl
theorem fl_rem : (flds h w g r).lookup ("remembered" : Str) = some (.ref r) := by kernel_rfl
theorem fl_pend : (flds h w g r).lookup ("pending" : Str) = some (.int h.pend) := by kernel_rfl
theorem fl_used : (flds h w g r).lookup ("used" : Str) = none := by kernel_rfl
variable (x : Int)
theorem pf_yt : putF "young_top" (.int x) (flds h w g r) = flds { h with yt := x } w g r := by kernel_rfl
theorem pf_base : putF "base" (.int x) (flds h w g r) = flds { h with base := x } w g r := by kernel_rfl
theorem pf_top : putF "top" (.int x) (flds h w g r) = flds { h with top := x } w g r := by kernel_rfl
theorem pf_ob : putF "other_base" (.int x) (flds h w g r) = flds { h with ob := x } w g r := by kernel_rfl
theorem pf_ot : putF "other_top" (.int x) (flds h w g r) = flds { h with ot := x } w g r := by kernel_rfl
theorem pf_cur : putF "cursor" (.int x) (flds h w g r) = flds { h with cur := x } w g r := by kernel_rfl
theorem pf_pend : putF "pending" (.int x) (flds h w g r) = flds { h with pend := x } w g r := by kernel_rfl
theorem pf_ph (p : Ph) : putF "phase" (.str p.str) (flds h w g r) = flds { h with ph := p } w g r := by kernel_rfl
theorem pf_rem (a : Addr) : putF "remembered" (.ref a) (flds h w g r) = flds h w g a := by kernel_rfl
end
/-- the facts of the class -/
structure HC (K : PySem.W.Frag) (C : Addr) : Prop where
  cl : Cls K C
  n_capacity : NoAttr K C "capacity"
  n_nursery : NoAttr K C "nursery"
  n_words : NoAttr K C "words"
  n_young_top : NoAttr K C "young_top"
  n_base : NoAttr K C "base"
  n_top : NoAttr K C "top"
  n_other_base : NoAttr K C "other_base"
  n_other_top : NoAttr K C "other_top"
  n_phase : NoAttr K C "phase"
  n_cursor : NoAttr K C "cursor"
  n_grays : NoAttr K C "grays"
  n_remembered : NoAttr K C "remembered"
  n_pending : NoAttr K C "pending"
end Qb

set_option Elab.async false
set_option linter.all false
set_option maxRecDepth 100000
set_option maxHeartbeats 4000000
/-! Inf3: the reading of a body, step by step: from what is wanted behind to what must hold ahead. -/
namespace Qb
open PySem L2

section
variable {K : PySem.W.Frag} {C : Addr} {σ : St} {H : Hp} {Q : VK} {n : St → Hp → Prop} {r : VK} {b c : St → Hp → Prop} {te ta tb tc : TE} {t u : TS} {tt tt' : TT} {ts tr : TA}

/-! ### statements -/
theorem seq_i (h : t ⟨fun σ H => u ⟨n, r, b, c⟩ σ H, r, b, c⟩ σ H) : tThen t u ⟨n, r, b, c⟩ σ H := ⟨_, h, fun _ _ z => z⟩
/-- with a word between them -/
theorem cut_i (Mid : St → Hp → Prop) (h : t ⟨Mid, r, b, c⟩ σ H) (k : ∀ σ' H', Mid σ' H' → u ⟨n, r, b, c⟩ σ' H') : tThen t u ⟨n, r, b, c⟩ σ H := ⟨Mid, h, k⟩
theorem asg_i {i : Nat} (h : te σ H fun x H1 => n (σ.set i (some x)) H1) : tAsg te (gName i) ⟨n, r, b, c⟩ σ H := h
theorem ret_i (h : te σ H r) : tRet te ⟨n, r, b, c⟩ σ H := h
theorem retN_i (h : r .non H) : tRetN ⟨n, r, b, c⟩ σ H := h
theorem if_i (h : tt σ H fun d H1 => if d = true then t ⟨n, r, b, c⟩ σ H1 else u ⟨n, r, b, c⟩ σ H1) : tIfS tt t u ⟨n, r, b, c⟩ σ H := h
theorem next_i (h : n σ H) : tNext ⟨n, r, b, c⟩ σ H := h
theorem break_i (h : b σ H) : tBreak ⟨n, r, b, c⟩ σ H := h
theorem drop_i (h : te σ H fun _ H1 => n σ H1) : tDrop te ⟨n, r, b, c⟩ σ H := h
def SFldR (K : PySem.W.Frag) (f : Str) (x y : V) (H : Hp) (k : Hp → Prop) : Prop := ∃ a C dx fs, x = .ref a ∧ H a = some (.ins C dx fs) ∧ Cls K C ∧ NoAttr K C f ∧ fs.length < 1000 ∧ k (upd H a (.ins C dx (putF f y fs)))
theorem sfld_i {f : Str} (h : te σ H fun y H1 => ta σ H1 fun x H2 => SFldR K f x y H2 fun H3 => n σ H3) : sFld K ta te f ⟨n, r, b, c⟩ σ H := h
theorem asub_i {s : TSet} (h : te σ H fun x H1 => ta σ H1 fun o H2 => tb σ H2 fun j H3 => s o j x H3 fun H4 => n σ H4) : tAsg te (gSub ta tb s) ⟨n, r, b, c⟩ σ H := h
def SlSt (o : V) (a d : Option Int) (v : V) (H : Hp) (k : Hp → Prop) : Prop :=
  ∃ (l b : Addr) (xs ys : List V) (i j : Int), o = .ref l ∧ v = .ref b ∧ a = some i ∧ d = some j ∧ H l = some (.lst xs) ∧ H b = some (.lst ys) ∧ l ≠ b ∧ 0 ≤ i ∧ i ≤ j ∧ j ≤ (xs.length : Int) ∧ xs.length + ys.length ≤ sizeLine ∧
    k (upd H l (.lst (xs.take i.toNat ++ ys ++ xs.drop j.toNat)))
theorem aslice_i {tl th : TO} (h : te σ H fun x H1 => ta σ H1 fun o H2 => tl σ H2 fun a H3 => th σ H3 fun d H4 => SlSt o a d x H4 fun H5 => n σ H5) : tAsg te (gSubSl ta tl th) ⟨n, r, b, c⟩ σ H := h
theorem slst_i {l q : Addr} {xs ys : List V} {i j : Int} {k : Hp → Prop} (hl : H l = some (.lst xs)) (hq : H q = some (.lst ys)) (hne : l ≠ q) (h0 : 0 ≤ i) (h1 : i ≤ j) (h2 : j ≤ (xs.length : Int)) (h3 : xs.length + ys.length ≤ 1000000)
    (h : k (upd H l (.lst (xs.take i.toNat ++ ys ++ xs.drop j.toNat)))) : SlSt (.ref l) (some i) (some j) (.ref q) H k :=
  ⟨l, q, xs, ys, i, j, rfl, rfl, rfl, rfl, hl, hq, hne, h0, h1, h2, Nat.le_trans h3 (by decide), h⟩
/-- a pair of names = a tuple -/
theorem atup2_i {i j : Nat} (h : te σ H fun x H1 => ∃ a v w, x = .ref a ∧ SqT K H1 a [v, w] ∧ n ((σ.set i (some v)).set j (some w)) H1) : tAsg te (gTup K 2 (gCons (gName i) (gCons (gName j) gNil))) ⟨n, r, b, c⟩ σ H := by
  have e : (fun x H1 => ∃ a v w, x = .ref a ∧ SqT K H1 a [v, w] ∧ n ((σ.set i (some v)).set j (some w)) H1) = fun x H1 => gTup K 2 (gCons (gName i) (gCons (gName j) gNil)) x σ H1 n := by
    funext x H1
    refine propext ⟨fun ⟨a, v, w, e1, e2, e3⟩ => ⟨a, [v, w], e1, e2, rfl, v, [w], rfl, w, [], rfl, rfl, e3⟩, fun ⟨a, xs, e1, e2, _, v, r1, e3, w, r2, e4, e5, e6⟩ => ?_⟩
    subst e3
    subst e4
    subst e5
    exact ⟨a, v, w, e1, e2, e6⟩
  show te σ H _
  rw [← e]
  exact h
theorem tup2_i {p : Addr} {v w : V} {k : V → V → Hp → Prop} (h : H p = some (.tup [v, w])) (q : k v w H) : ∃ a x y, V.ref p = .ref a ∧ SqT K H a [x, y] ∧ k x y H := ⟨p, v, w, rfl, SqT.of h, q⟩

/-! ### expressions -/
theorem var_i {i : Nat} {v : V} (h : σ[i]? = some (some v)) (q : Q v H) : tVar i σ H Q := ⟨v, h, q⟩
theorem c_i {v : V} (q : Q v H) : tC v σ H Q := q
theorem op_i {o : R2} (h : ta σ H fun x H1 => tb σ H1 fun y H2 => o x y H2 Q) : tOp o ta tb σ H Q := h
def FldR (K : PySem.W.Frag) (f : Str) (x : V) (H : Hp) (Q : VK) : Prop := ∃ a C dx fs v, x = .ref a ∧ H a = some (.ins C dx fs) ∧ Cls K C ∧ NoAttr K C f ∧ fs.lookup f = some v ∧ Q v H
theorem fld_i {f : Str} (h : ta σ H fun x H1 => FldR K f x H1 Q) : tFld K ta f σ H Q := h
def BlR (x : V) (H : Hp) (Q : Bool → Hp → Prop) : Prop := ∃ k, x = .bl k ∧ Q k H
theorem test_i {Q : Bool → Hp → Prop} (h : te σ H fun x H1 => BlR x H1 Q) : tTest te σ H Q := h
theorem tb_i {Q : Bool → Hp → Prop} (h : te σ H fun x H1 => BlR x H1 Q) : tB te σ H Q := h
theorem bl_i {k : Bool} {Q : Bool → Hp → Prop} (q : Q k H) : BlR (.bl k) H Q := ⟨k, rfl, q⟩
theorem and_i {Q : Bool → Hp → Prop} (h : tt σ H fun d H1 => if d = true then tt' σ H1 Q else Q false H1) : tAnd tt tt' σ H Q := h
theorem or_i {Q : Bool → Hp → Prop} (h : tt σ H fun d H1 => if d = true then Q true H1 else tt' σ H1 Q) : tOr tt tt' σ H Q := h
theorem not_i {Q : Bool → Hp → Prop} (h : tt σ H fun d H1 => Q (!d) H1) : tNot tt σ H Q := h
def AndVR (tb : TE) (σ : St) (x : V) (H : Hp) (Q : VK) : Prop := ∃ d, x = .bl d ∧ if d = true then tb σ H Q else Q (.bl false) H
def OrVR (tb : TE) (σ : St) (x : V) (H : Hp) (Q : VK) : Prop := ∃ d, x = .bl d ∧ if d = true then Q (.bl true) H else tb σ H Q
theorem andv_i (h : ta σ H fun x H1 => AndVR tb σ x H1 Q) : tAndV ta tb σ H Q := h
theorem orv_i (h : ta σ H fun x H1 => OrVR tb σ x H1 Q) : tOrV ta tb σ H Q := h
theorem andvr_i {d : Bool} (h1 : d = true → tb σ H Q) (h2 : d = false → Q (.bl false) H) : AndVR tb σ (.bl d) H Q := ⟨d, rfl, by cases d <;> simp_all⟩
theorem orvr_i {d : Bool} (h1 : d = true → Q (.bl true) H) (h2 : d = false → tb σ H Q) : OrVR tb σ (.bl d) H Q := ⟨d, rfl, by cases d <;> simp_all⟩
def NotVR (x : V) (H : Hp) (Q : VK) : Prop := ∃ d, x = .bl d ∧ Q (.bl (!d)) H
theorem notv_i (h : ta σ H fun x H1 => NotVR x H1 Q) : tNotV ta σ H Q := h
theorem notvr_i {d : Bool} (q : Q (.bl (!d)) H) : NotVR (.bl d) H Q := ⟨d, rfl, q⟩
theorem cons_i {Q : List V → Hp → Prop} (h : ta σ H fun x H1 => tr σ H1 fun xs H2 => Q (x :: xs) H2) : tCons ta tr σ H Q := h
theorem nil_i {Q : List V → Hp → Prop} (h : Q [] H) : tNil σ H Q := h
theorem call_i {k : Nat} {φ : Phi} (h : ts σ H fun vs H1 => vs.length = k ∧ φ vs H1 Q) : tCallF k φ ts σ H Q := h
theorem len_i {k : Nat} {vs : List V} {P : Prop} (h : vs.length = k) (q : P) : vs.length = k ∧ P := ⟨h, q⟩
theorem cb_i {f : List V → Hp → VK → Prop} (h : ts σ H fun vs H1 => f vs H1 Q) : tCB f ts σ H Q := h
def TupR (xs : List V) (H : Hp) (Q : VK) : Prop := xs.length ≤ sizeLine ∧ ∀ p, H p = none → Q (.ref p) (upd H p (.tup xs))
def LstR (xs : List V) (H : Hp) (Q : VK) : Prop := xs.length ≤ sizeLine ∧ ∀ p, H p = none → Q (.ref p) (upd H p (.lst xs))
theorem tup_i (h : ts σ H fun xs H1 => TupR xs H1 Q) : tTup ts σ H Q := h
theorem lst_i (h : ts σ H fun xs H1 => LstR xs H1 Q) : tLst ts σ H Q := h
theorem tupr_i {xs : List V} (hl : xs.length ≤ 1000000) (q : ∀ p H1, H p = none → Ex H H1 → H1 p = some (.tup xs) → Q (.ref p) H1) : TupR xs H Q :=
  ⟨Nat.le_trans hl (by decide), fun p hp => q p _ hp (Ex.new hp) upd_same⟩
theorem lstr_i {xs : List V} (hl : xs.length ≤ 1000000) (q : ∀ p H1, H p = none → Ex H H1 → H1 p = some (.lst xs) → Q (.ref p) H1) : LstR xs H Q :=
  ⟨Nat.le_trans hl (by decide), fun p hp => q p _ hp (Ex.new hp) upd_same⟩
def ChainR (o o' : R2) (tc : TE) (σ : St) (x y : V) (H : Hp) (Q : VK) : Prop := o x y H fun z H3 => ∃ k, z = .bl k ∧ if k = true then tc σ H3 fun w H4 => o' y w H4 Q else Q (.bl false) H3
theorem slice_i {f : V → Option Int → Option Int → Hp → VK → Prop} {tl th : TO} (h : te σ H fun x H1 => tl σ H1 fun l H2 => th σ H2 fun d H3 => f x l d H3 Q) : tSl f te tl th σ H Q := h
def PartR (x : V) (H : Hp) (Q : Option Int → Hp → Prop) : Prop := ∃ i, x = .int i ∧ Q (some i) H
theorem part_i {Q : Option Int → Hp → Prop} (h : te σ H fun x H1 => PartR x H1 Q) : tPart te σ H Q := h
theorem part_int {i : Int} {Q : Option Int → Hp → Prop} (q : Q (some i) H) : PartR (.int i) H Q := ⟨i, rfl, q⟩
theorem nopart_i {Q : Option Int → Hp → Prop} (q : Q none H) : tNoPart σ H Q := q
theorem bm_i {T : String} {f : V → List V → Hp → VK → Prop} (h : te σ H fun x H1 => tyV K T x H1 ∧ ts σ H1 fun xs H2 => f x xs H2 Q) : tBM K T f te ts σ H Q := h
theorem tyl_i {l : Addr} {xs : List V} {P : Prop} (h : H l = some (.lst xs)) (q : P) : tyV K "list" (.ref l) H ∧ P := ⟨.inl ⟨rfl, _, .inl (.inl h)⟩, q⟩
theorem append_i {l : Addr} {xs : List V} {y : V} (h : H l = some (.lst xs)) (hl : xs.length < 1000000) (q : Q .non (upd H l (.lst (xs ++ [y])))) : rAppend (.ref l) [y] H Q := ⟨l, xs, y, rfl, rfl, h, Nat.lt_of_lt_of_le hl (by decide), q⟩
theorem appendI_i {l : Addr} {xs : List Int} {y : Int} (h : H l = some (il xs)) (hl : xs.length < 1000000) (q : Q .non (upd H l (il (xs ++ [y])))) : rAppend (.ref l) [.int y] H Q := by
  refine append_i h (by rw [List.length_map]; exact hl) ?_
  have e : (il (xs ++ [y])) = .lst (xs.map V.int ++ [V.int y]) := by unfold il; rw [List.map_append]; rfl
  rw [← e]
  exact q

/-! ### operators by values -/
theorem i0_i {g : Int → Int → V} {i j : Int} (q : Q (g i j) H) : rI0 g (.int i) (.int j) H Q := ⟨i, j, rfl, rfl, q⟩
theorem un_i {f : V → Hp → VK → Prop} (h : ta σ H fun x H1 => f x H1 Q) : tUn f ta σ H Q := h
theorem ru_i {g : Int → V} {i : Int} (q : Q (g i) H) : rU g (.int i) H Q := ⟨i, rfl, q⟩
theorem plus_i {i j : Int} (q : Q (.int (i + j)) H) : rPlus K (.int i) (.int j) H Q := .inl ⟨i, j, rfl, rfl, q⟩
theorem minus_i {i j : Int} (q : Q (.int (i - j)) H) : rMinus (.int i) (.int j) H Q := ⟨i, j, rfl, rfl, q⟩
theorem times_i {i j : Int} (h : -18446744073709551616 < i ∧ i < 18446744073709551616) (q : Q (.int (i * j)) H) : rTimes (.int i) (.int j) H Q := .inl ⟨i, j, rfl, rfl, .inl h, q⟩
theorem times_j {i j : Int} (h : -18446744073709551616 < j ∧ j < 18446744073709551616) (q : Q (.int (i * j)) H) : rTimes (.int i) (.int j) H Q := .inl ⟨i, j, rfl, rfl, .inr h, q⟩
theorem log2_small {j : Int} (h0 : 0 < j) (h : j < 18446744073709551616) : j.natAbs.log2 < 9000 := by
  have h1 : j.natAbs < 2 ^ 64 := by omega
  exact Nat.lt_of_lt_of_le (PySem.Flt.log2_lt_of (by decide) h1) (by decide)
theorem floor_i {i j : Int} (h0 : 0 < j) (h : j < 18446744073709551616) (q : Q (.int (i / j)) H) : rFloor (.int i) (.int j) H Q := ⟨i, j, rfl, rfl, ⟨h0, log2_small h0 h⟩, q⟩
theorem rest_i {i j : Int} (h0 : 0 < j) (q : Q (.int (i % j)) H) : rRest (.int i) (.int j) H Q := ⟨i, j, rfl, rfl, h0, q⟩
theorem dec_int' {i j : Int} : decide (V.int i = V.int j) = decide (i = j) := by
  by_cases h : i = j
  · subst h
    simp
  · rw [decide_eq_false h, decide_eq_false (fun z => h (V.int.inj z))]
theorem eq_i {i j : Int} (q : Q (.bl (decide (i = j))) H) : rEqU K (.int i) (.int j) H Q := .inl ⟨rfl, by rw [dec_int']; exact q⟩
theorem ne_i {i j : Int} (q : Q (.bl (!decide (i = j))) H) : rNeU K (.int i) (.int j) H Q := .inl ⟨rfl, by rw [dec_int']; exact q⟩
theorem eqMarking_i {p : Ph} (q : Q (.bl (decide (p = .marking))) H) : rEqU K (.str p.str) (.str "marking") H Q := .inl ⟨rfl, by rw [Ph.str_marking]; exact q⟩
theorem eqIdle_i {p : Ph} (q : Q (.bl (decide (p = .idle))) H) : rEqU K (.str p.str) (.str "idle") H Q := .inl ⟨rfl, by rw [Ph.str_idle]; exact q⟩
theorem eqMoving_i {p : Ph} (q : Q (.bl (decide (p = .moving))) H) : rEqU K (.str p.str) (.str "moving") H Q := .inl ⟨rfl, by rw [Ph.str_moving]; exact q⟩
theorem neIdle_i {p : Ph} (q : Q (.bl (!decide (p = .idle))) H) : rNeU K (.str p.str) (.str "idle") H Q := .inl ⟨rfl, by rw [Ph.str_idle]; exact q⟩
theorem inLate_t {p : Ph} {a : Addr} (h : H a = some (.tup [.str "moving", .str "updating"])) (q : Q (.bl p.late) H) : rIn K false (.str p.str) (.ref a) H Q :=
  ⟨a, _, rfl, .inr (SqT.of h), rfl, rfl, by rw [if_neg Bool.false_ne_true, Ph.str_late]; exact q⟩
theorem inLate_l {p : Ph} {a : Addr} (h : H a = some (.lst [.str "moving", .str "updating"])) (q : Q (.bl p.late) H) : rIn K false (.str p.str) (.ref a) H Q :=
  ⟨a, _, rfl, .inl (SqL.of h), rfl, rfl, by rw [if_neg Bool.false_ne_true, Ph.str_late]; exact q⟩
theorem notLate_t {p : Ph} {a : Addr} (h : H a = some (.tup [.str "moving", .str "updating"])) (q : Q (.bl (!p.late)) H) : rIn K true (.str p.str) (.ref a) H Q :=
  ⟨a, _, rfl, .inr (SqT.of h), rfl, rfl, by rw [if_pos rfl, Ph.str_late]; exact q⟩
theorem intU_i {i : Int} (q : Q (.int i) H) : rIntU [.int i] H Q := .inl ⟨i, rfl, q⟩
theorem intU_b {k : Bool} (q : Q (.int (if k = true then 1 else 0)) H) : rIntU [.bl k] H Q := .inr ⟨k, rfl, q⟩
theorem chain_i {o o' : R2} (h : ta σ H fun x H1 => tb σ H1 fun y H2 => ChainR o o' tc σ x y H2 Q) : tChain o o' ta tb tc σ H Q := h
theorem chainr_i {g : Int → Int → Bool} {o' : R2} {i j : Int} (h1 : g i j = true → tc σ H fun w H4 => o' (.int j) w H4 Q) (h2 : g i j = false → Q (.bl false) H) : ChainR (rI0 fun i j => .bl (g i j)) o' tc σ (.int i) (.int j) H Q :=
  ⟨i, j, rfl, rfl, g i j, rfl, by cases e : g i j <;> simp_all⟩

/-! ### lists of ints -/
theorem atI_map {l : List Int} {i v : Int} (h : rd l i = some v) : atI (l.map V.int) i = some (.int v) := by
  unfold rd at h
  split at h
  · rename_i h0
    obtain ⟨j, rfl⟩ := Int.eq_ofNat_of_zero_le h0
    exact atI_nat (by rw [List.getElem?_map]; simp at h; rw [h]; rfl)
  · cases h
theorem ixI_i {p : Addr} {l : List Int} {i v : Int} (h : H p = some (il l)) (hr : rd l i = some v) (q : Q (.int v) H) : rIx K (.ref p) (.int i) H Q := .inl ⟨p, _, i, _, rfl, rfl, SqL.of h, atI_map hr, q⟩
theorem ixL_i {p : Addr} {xs : List V} {i : Int} {v : V} (h : H p = some (.lst xs)) (hr : atI xs i = some v) (q : Q v H) : rIx K (.ref p) (.int i) H Q := .inl ⟨p, _, i, _, rfl, rfl, SqL.of h, hr, q⟩
theorem ixT_i {p : Addr} {xs : List V} {i : Int} {v : V} (h : H p = some (.tup xs)) (hr : atI xs i = some v) (q : Q v H) : rIx K (.ref p) (.int i) H Q := .inr (.inl ⟨p, _, i, _, rfl, rfl, SqT.of h, hr, q⟩)
theorem setI_i {p : Addr} {l l' : List Int} {i v : Int} {k : Hp → Prop} (h : H p = some (il l)) (hw : wr l i v = some l') (q : k (upd H p (il l'))) : rSetL (.ref p) (.int i) (.int v) H k := by
  unfold wr at hw
  split at hw
  · rename_i hb
    cases hw
    refine ⟨p, _, i, i.toNat, rfl, rfl, h, ?_, ?_⟩
    · unfold ixN
      rw [if_pos hb.1, List.length_map, if_pos hb.2]
    · have e : (il (l.set i.toNat v)) = .lst ((l.map V.int).set i.toNat (.int v)) := by unfold il; rw [List.map_set]
      rw [← e]
      exact q
  · cases hw
theorem lenL_i {p : Addr} {xs : List V} (h : H p = some (.lst xs)) (q : Q (.int xs.length) H) : rLenU K [.ref p] H Q := ⟨_, _, rfl, .inl ⟨xs, SqL.of h, rfl⟩, q⟩
theorem lenI_i {p : Addr} {l : List Int} (h : H p = some (il l)) (q : Q (.int l.length) H) : rLenU K [.ref p] H Q := lenL_i h (by rw [List.length_map]; exact q)
theorem lenT_i {p : Addr} {xs : List V} (h : H p = some (.tup xs)) (q : Q (.int xs.length) H) : rLenU K [.ref p] H Q := ⟨_, _, rfl, .inr ⟨xs, SqT.of h, rfl⟩, q⟩

/-! ### the instance -/
variable {p dx w g q : Addr} {h : HS}
theorem fr_of (T : Cls K C) {f : Str} {fs : List (Str × V)} {v : V} (n : NoAttr K C f) (e : H p = some (.ins C dx fs)) (l : fs.lookup f = some v) (k : Q v H) : FldR K f (.ref p) H Q := ⟨p, C, dx, fs, v, rfl, e, T, n, l, k⟩
theorem f_cap (T : HC K C) (e : H p = some (.ins C dx (flds h w g q))) (k : Q (.int h.cap) H) : FldR K "capacity" (.ref p) H Q := fr_of T.cl T.n_capacity e (fl_cap _ _ _ _) k
theorem f_nur (T : HC K C) (e : H p = some (.ins C dx (flds h w g q))) (k : Q (.int h.nur) H) : FldR K "nursery" (.ref p) H Q := fr_of T.cl T.n_nursery e (fl_nur _ _ _ _) k
theorem f_words (T : HC K C) (e : H p = some (.ins C dx (flds h w g q))) (k : Q (.ref w) H) : FldR K "words" (.ref p) H Q := fr_of T.cl T.n_words e (fl_words _ _ _ _) k
theorem f_yt (T : HC K C) (e : H p = some (.ins C dx (flds h w g q))) (k : Q (.int h.yt) H) : FldR K "young_top" (.ref p) H Q := fr_of T.cl T.n_young_top e (fl_yt _ _ _ _) k
theorem f_base (T : HC K C) (e : H p = some (.ins C dx (flds h w g q))) (k : Q (.int h.base) H) : FldR K "base" (.ref p) H Q := fr_of T.cl T.n_base e (fl_base _ _ _ _) k
theorem f_top (T : HC K C) (e : H p = some (.ins C dx (flds h w g q))) (k : Q (.int h.top) H) : FldR K "top" (.ref p) H Q := fr_of T.cl T.n_top e (fl_top _ _ _ _) k
theorem f_ob (T : HC K C) (e : H p = some (.ins C dx (flds h w g q))) (k : Q (.int h.ob) H) : FldR K "other_base" (.ref p) H Q := fr_of T.cl T.n_other_base e (fl_ob _ _ _ _) k
theorem f_ot (T : HC K C) (e : H p = some (.ins C dx (flds h w g q))) (k : Q (.int h.ot) H) : FldR K "other_top" (.ref p) H Q := fr_of T.cl T.n_other_top e (fl_ot _ _ _ _) k
theorem f_ph (T : HC K C) (e : H p = some (.ins C dx (flds h w g q))) (k : Q (.str h.ph.str) H) : FldR K "phase" (.ref p) H Q := fr_of T.cl T.n_phase e (fl_ph _ _ _ _) k
theorem f_cur (T : HC K C) (e : H p = some (.ins C dx (flds h w g q))) (k : Q (.int h.cur) H) : FldR K "cursor" (.ref p) H Q := fr_of T.cl T.n_cursor e (fl_cur _ _ _ _) k
theorem f_gr (T : HC K C) (e : H p = some (.ins C dx (flds h w g q))) (k : Q (.ref g) H) : FldR K "grays" (.ref p) H Q := fr_of T.cl T.n_grays e (fl_gr _ _ _ _) k
theorem f_rem (T : HC K C) (e : H p = some (.ins C dx (flds h w g q))) (k : Q (.ref q) H) : FldR K "remembered" (.ref p) H Q := fr_of T.cl T.n_remembered e (fl_rem _ _ _ _) k
theorem f_pend (T : HC K C) (e : H p = some (.ins C dx (flds h w g q))) (k : Q (.int h.pend) H) : FldR K "pending" (.ref p) H Q := fr_of T.cl T.n_pending e (fl_pend _ _ _ _) k
theorem sf_of (T : Cls K C) {f : Str} {fs fs' : List (Str × V)} {v : V} {k : Hp → Prop} (n : NoAttr K C f) (e : H p = some (.ins C dx fs)) (l : fs.length < 1000) (pf : putF f v fs = fs') (q : k (upd H p (.ins C dx fs'))) : SFldR K f (.ref p) v H k :=
  ⟨p, C, dx, fs, rfl, e, T, n, l, by rw [pf]; exact q⟩
variable {x : Int} {k : Hp → Prop}
theorem s_yt (T : HC K C) (e : H p = some (.ins C dx (flds h w g q))) (z : k (upd H p (.ins C dx (flds { h with yt := x } w g q)))) : SFldR K "young_top" (.ref p) (.int x) H k := sf_of T.cl T.n_young_top e (flds_len ..) (pf_yt ..) z
theorem s_base (T : HC K C) (e : H p = some (.ins C dx (flds h w g q))) (z : k (upd H p (.ins C dx (flds { h with base := x } w g q)))) : SFldR K "base" (.ref p) (.int x) H k := sf_of T.cl T.n_base e (flds_len ..) (pf_base ..) z
theorem s_top (T : HC K C) (e : H p = some (.ins C dx (flds h w g q))) (z : k (upd H p (.ins C dx (flds { h with top := x } w g q)))) : SFldR K "top" (.ref p) (.int x) H k := sf_of T.cl T.n_top e (flds_len ..) (pf_top ..) z
theorem s_ob (T : HC K C) (e : H p = some (.ins C dx (flds h w g q))) (z : k (upd H p (.ins C dx (flds { h with ob := x } w g q)))) : SFldR K "other_base" (.ref p) (.int x) H k := sf_of T.cl T.n_other_base e (flds_len ..) (pf_ob ..) z
theorem s_ot (T : HC K C) (e : H p = some (.ins C dx (flds h w g q))) (z : k (upd H p (.ins C dx (flds { h with ot := x } w g q)))) : SFldR K "other_top" (.ref p) (.int x) H k := sf_of T.cl T.n_other_top e (flds_len ..) (pf_ot ..) z
theorem s_cur (T : HC K C) (e : H p = some (.ins C dx (flds h w g q))) (z : k (upd H p (.ins C dx (flds { h with cur := x } w g q)))) : SFldR K "cursor" (.ref p) (.int x) H k := sf_of T.cl T.n_cursor e (flds_len ..) (pf_cur ..) z
theorem s_pend (T : HC K C) (e : H p = some (.ins C dx (flds h w g q))) (z : k (upd H p (.ins C dx (flds { h with pend := x } w g q)))) : SFldR K "pending" (.ref p) (.int x) H k := sf_of T.cl T.n_pending e (flds_len ..) (pf_pend ..) z
theorem s_ph (T : HC K C) {y : Ph} (e : H p = some (.ins C dx (flds h w g q))) (z : k (upd H p (.ins C dx (flds { h with ph := y } w g q)))) : SFldR K "phase" (.ref p) (.str y.str) H k := sf_of T.cl T.n_phase e (flds_len ..) (pf_ph ..) z
theorem s_rem (T : HC K C) {y : Addr} (e : H p = some (.ins C dx (flds h w g q))) (z : k (upd H p (.ins C dx (flds h w g y)))) : SFldR K "remembered" (.ref p) (.ref y) H k := sf_of T.cl T.n_remembered e (flds_len ..) (pf_rem ..) z
end
theorem ite_b {A B : Prop} {d : Bool} (h1 : d = true → A) (h2 : d = false → B) : if d = true then A else B := by cases d <;> simp_all
end Qb

set_option Elab.async false
set_option linter.all false
set_option maxRecDepth 100000
set_option maxHeartbeats 4000000
/-! ProgPhi: what the program's functions promise. -/
namespace Qb
open PySem L2

/-- a body's reading t keeps φ (N: the names, k: how many parameters) -/
def PureOk (t : TS) (N : List Str) (k : Nat) (φ : Phi) : Prop := ∀ (vs : List V) (H : Hp) (Q : VK), vs.length = k → φ vs H Q → t { nx := fun _ H' => Q .non H', rt := Q } (start N vs) H
/-! ### functions of ints -/
def PI1 (f : Int → V) : Phi := fun vs H Q => ∃ x, vs = [.int x] ∧ Q (f x) H
def PI2 (f : Int → Int → V) : Phi := fun vs H Q => ∃ x y, vs = [.int x, .int y] ∧ Q (f x y) H
def PI3 (f : Int → Int → Int → V) : Phi := fun vs H Q => ∃ x y z, vs = [.int x, .int y, .int z] ∧ Q (f x y z) H
theorem i1_i {f : Int → V} {x : Int} {H : Hp} {Q : VK} (q : Q (f x) H) : PI1 f [.int x] H Q := ⟨x, rfl, q⟩
theorem i2_i {f : Int → Int → V} {x y : Int} {H : Hp} {Q : VK} (q : Q (f x y) H) : PI2 f [.int x, .int y] H Q := ⟨x, y, rfl, q⟩
theorem i3_i {f : Int → Int → Int → V} {x y z : Int} {H : Hp} {Q : VK} (q : Q (f x y z) H) : PI3 f [.int x, .int y, .int z] H Q := ⟨x, y, z, rfl, q⟩
section
abbrev phi_form_word (K : PySem.W.Frag) (C : Addr) : Phi := PI2 fun s l => .int (64 * l + s)
abbrev phi_state_word (K : PySem.W.Frag) (C : Addr) : Phi := PI3 fun c r f => .int (8 * f + 4 * r + c)
abbrev phi_shape_number_of (K : PySem.W.Frag) (C : Addr) : Phi := PI1 fun w => .int (w % 64)
abbrev phi_length_of (K : PySem.W.Frag) (C : Addr) : Phi := PI1 fun w => .int (w / 64)
abbrev phi_colour_of (K : PySem.W.Frag) (C : Addr) : Phi := PI1 fun w => .int (w % 4)
abbrev phi_remembered_of (K : PySem.W.Frag) (C : Addr) : Phi := PI1 fun w => .int (w / 4 % 2)
abbrev phi_forward_of (K : PySem.W.Frag) (C : Addr) : Phi := PI1 fun w => .int (w / 8)
abbrev phi_reference_word (K : PySem.W.Frag) (C : Addr) : Phi := PI1 fun a => .int (2 * a)
abbrev phi_is_reference (K : PySem.W.Frag) (C : Addr) : Phi := PI1 fun w => .bl (isRef w)
abbrev phi_address_of (K : PySem.W.Frag) (C : Addr) : Phi := PI1 fun w => .int (w / 2)
abbrev phi_size_of (K : PySem.W.Frag) (C : Addr) : Phi := PI1 fun l => .int (l + 2)
end

/-! ### a memory in the heap -/
structure Ids where
  p : Addr
  dx : Addr
  w : Addr
  g : Addr
  r : Addr
/-- the memory h stands at i -/
structure Rep (C : Addr) (i : Ids) (h : HS) (H : Hp) : Prop where
  o : H i.p = some (.ins C i.dx (flds h i.w i.g i.r))
  w : H i.w = some (il h.words)
  g : H i.g = some (il h.gr)
  r : H i.r = some (il h.rem)
  wg : i.w ≠ i.g
  wr : i.w ≠ i.r
  gr : i.g ≠ i.r
section
variable {C : Addr} {i : Ids} {h : HS} {H H' : Hp}
theorem Rep.pw (R : Rep C i h H) : i.p ≠ i.w := ne_of R.o R.w (by intro z; cases z)
theorem Rep.pg (R : Rep C i h H) : i.p ≠ i.g := ne_of R.o R.g (by intro z; cases z)
theorem Rep.pr (R : Rep C i h H) : i.p ≠ i.r := ne_of R.o R.r (by intro z; cases z)
theorem Rep.ex (R : Rep C i h H) (e : Ex H H') : Rep C i h H' := ⟨e _ _ R.o, e _ _ R.w, e _ _ R.g, e _ _ R.r, R.wg, R.wr, R.gr⟩
def Ids.all (i : Ids) : List Addr := [i.p, i.w, i.g, i.r]
theorem Rep.fr {S : List Addr} (R : Rep C i h H) (f : Fr S H H') (n : ∀ a ∈ i.all, a ∉ S) : Rep C i h H' :=
  ⟨f _ _ R.o (n _ (by simp [Ids.all])), f _ _ R.w (n _ (by simp [Ids.all])), f _ _ R.g (n _ (by simp [Ids.all])), f _ _ R.r (n _ (by simp [Ids.all])), R.wg, R.wr, R.gr⟩
end
section
def phi_is_young (K : PySem.W.Frag) (C : Addr) : Phi := fun vs H Q => ∃ i h a, vs = [.ref i.p, .int a] ∧ Rep C i h H ∧ Q (.bl (h.isY a)) H
def phi_block_size (K : PySem.W.Frag) (C : Addr) : Phi := fun vs H Q => ∃ i h a f, vs = [.ref i.p, .int a] ∧ Rep C i h H ∧ rd h.words a = some f ∧ Q (.int (f / 64 + 2)) H
def phi_payload_places (K : PySem.W.Frag) (C : Addr) : Phi := fun vs H Q => ∃ i h a f, vs = [.ref i.p, .int a] ∧ Rep C i h H ∧ rd h.words a = some f ∧ ∀ p H1, H p = none → Ex H H1 → H1 p = some (.tup [.int (a + 2), .int (a + (f / 64 + 2))]) → Q (.ref p) H1
def phi_resolve (K : PySem.W.Frag) (C : Addr) : Phi := fun vs H Q => ∃ i h a b, vs = [.ref i.p, .int a] ∧ Rep C i h H ∧ resolveM h a = some b ∧ ∀ H1, Ex H H1 → Q (.int b) H1
def phi_resolve_word (K : PySem.W.Frag) (C : Addr) : Phi := fun vs H Q => ∃ i h a b, vs = [.ref i.p, .int a] ∧ Rep C i h H ∧ resolveW h a = some b ∧ ∀ H1, Ex H H1 → Q (.int b) H1
def phi_shade (K : PySem.W.Frag) (C : Addr) : Phi := fun vs H Q => ∃ i h a h', vs = [.ref i.p, .int a] ∧ Rep C i h H ∧ shadeM h a = some h' ∧ ∀ H1, Rep C i h' H1 → Fr i.all H H1 → Q .non H1
def phi_remember (K : PySem.W.Frag) (C : Addr) : Phi := fun vs H Q => ∃ i h a h', vs = [.ref i.p, .int a] ∧ Rep C i h H ∧ rememberM h a = some h' ∧ ∀ H1, Rep C i h' H1 → Fr i.all H H1 → Q .non H1
def phi_note_reference (K : PySem.W.Frag) (C : Addr) : Phi := fun vs H Q => ∃ i h b t h', vs = [.ref i.p, .int b, .int t] ∧ Rep C i h H ∧ noteM h b t = some h' ∧ ∀ H1, Rep C i h' H1 → Fr i.all H H1 → Q .non H1
def phi_write_word (K : PySem.W.Frag) (C : Addr) : Phi := fun vs H Q => ∃ i h a p w h', vs = [.ref i.p, .int a, .int p, .int w] ∧ Rep C i h H ∧ writeM h a p w = some h' ∧ ∀ H1, Rep C i h' H1 → Fr i.all H H1 → Q .non H1
def phi_read_word (K : PySem.W.Frag) (C : Addr) : Phi := fun vs H Q => ∃ i h a p v, vs = [.ref i.p, .int a, .int p] ∧ Rep C i h H ∧ readM h a p = some v ∧ ∀ H1, Ex H H1 → Q (.int v) H1
end
end Qb

set_option Elab.async false
set_option linter.all false
set_option maxRecDepth 100000
set_option maxHeartbeats 4000000
/-! Inf4: loops, slices of lists of ints. -/
namespace Qb
open PySem L2
section
variable {K : PySem.W.Frag} {σ : St} {H : Hp} {Q : VK} {n : St → Hp → Prop} {r : VK} {b c : St → Hp → Prop} {te : TE} {ta : TA} {tb : TS} {tt : TT} {g : TG}
/-- a list or a tuple stands at a -/
def LT (H : Hp) (a : Addr) (xs : List V) : Prop := H a = some (.lst xs) ∨ H a = some (.tup xs)
theorem LT.ex {H H' : Hp} {a : Addr} {xs : List V} (h : LT H a xs) (e : Ex H H') : LT H' a xs := h.imp (fun z => e _ _ z) (fun z => e _ _ z)
theorem LT.fr {S : List Addr} {H H' : Hp} {a : Addr} {xs : List V} (h : LT H a xs) (f : Fr S H H') (m : a ∉ S) : LT H' a xs := h.imp (fun z => f _ _ z m) (fun z => f _ _ z m)
theorem LT.rel {H H' : Hp} {a : Addr} {xs : List V} (h : LT H a xs) (k : ∀ o, H a = some o → H' a = some o) : LT H' a xs := h.imp (fun z => k _ z) (fun z => k _ z)
/-- over a list or a tuple that the turns leave as it is -/
theorem forSeq_i {a : Addr} {xs : List V} (P : Nat → St → Hp → Prop) (he : ∀ Q : VK, Q (.ref a) H → te σ H Q) (hl : LT H a xs) (h0 : P 0 σ H) (hk : ∀ i σ' H', i ≤ xs.length → P i σ' H' → (∀ o, H a = some o → H' a = some o))
    (step : ∀ i x σ' H', xs[i]? = some x → P i σ' H' → g x σ' H' fun σ2 H2 => tb ⟨P (i + 1), r, n, P (i + 1)⟩ σ2 H2) (done : ∀ σ' H', P xs.length σ' H' → n σ' H') : tFor (iSeq K te) g tb ⟨n, r, b, c⟩ σ H := by
  rcases hl with hl | hl
  · refine .inl (he _ ⟨a, rfl, ⟨xs, SqL.of hl⟩, ?_⟩)
    exact for_list (xs := xs) P h0 (fun i σ' H' hi p => SqL.of (hk i σ' H' hi p _ hl)) step done
  · refine .inr (he _ ⟨a, rfl, ⟨xs, SqT.of hl⟩, ?_⟩)
    exact for_tup (xs := xs) P h0 (fun i σ' H' hi p => SqT.of (hk i σ' H' hi p _ hl)) step done
/-- over a list that the head makes -/
theorem forNewL_i {xs : List V} (he : ∀ Q : VK, (∀ p H1, H p = none → Ex H H1 → H1 p = some (.lst xs) → Q (.ref p) H1) → te σ H Q)
    (k : ∀ p H1, H p = none → Ex H H1 → H1 p = some (.lst xs) → ∃ P : Nat → St → Hp → Prop, P 0 σ H1 ∧ (∀ i σ' H', i ≤ xs.length → P i σ' H' → H' p = some (.lst xs)) ∧
      (∀ i x σ' H', xs[i]? = some x → P i σ' H' → g x σ' H' fun σ2 H2 => tb ⟨P (i + 1), r, n, P (i + 1)⟩ σ2 H2) ∧ (∀ σ' H', P xs.length σ' H' → n σ' H')) : tFor (iSeq K te) g tb ⟨n, r, b, c⟩ σ H := by
  refine .inl (he _ fun p H1 hp x1 h1 => ?_)
  obtain ⟨P, p0, pk, ps, pd⟩ := k p H1 hp x1 h1
  exact ⟨p, rfl, ⟨xs, SqL.of h1⟩, for_list (xs := xs) P p0 (fun i σ' H' hi q => SqL.of (pk i σ' H' hi q)) ps pd⟩
theorem forR1_i {j : Int} (P : Nat → St → Hp → Prop) (he : ∀ Q : List V → Hp → Prop, Q [.int j] H → ta σ H Q) (h1 : -1000000000000 ≤ j) (h2 : j ≤ 1000000000000) (h0 : P 0 σ H)
    (step : ∀ (k : Nat) σ' H', k < j.toNat → P k σ' H' → g (.int k) σ' H' fun σ2 H2 => tb ⟨P (k + 1), r, n, P (k + 1)⟩ σ2 H2) (done : ∀ σ' H', P j.toNat σ' H' → n σ' H') : tFor (iRng1 ta) g tb ⟨n, r, b, c⟩ σ H := by
  refine he _ ⟨j, rfl, by omega, by omega, ?_⟩
  refine for_range (lo := 0) P h0 (fun k σ' H' hk p => ?_) done
  rw [Int.zero_add]
  exact step k σ' H' hk p
theorem forR2_i {i j : Int} (P : Nat → St → Hp → Prop) (he : ∀ Q : List V → Hp → Prop, Q [.int i, .int j] H → ta σ H Q) (h1 : -1000000000000 ≤ i ∧ i ≤ 1000000000000) (h2 : -1000000000000 ≤ j ∧ j ≤ 1000000000000) (h0 : P 0 σ H)
    (step : ∀ (k : Nat) σ' H', k < (j - i).toNat → P k σ' H' → g (.int (i + k)) σ' H' fun σ2 H2 => tb ⟨P (k + 1), r, n, P (k + 1)⟩ σ2 H2) (done : ∀ σ' H', P (j - i).toNat σ' H' → n σ' H') : tFor (iRng2 ta) g tb ⟨n, r, b, c⟩ σ H := by
  refine he _ ⟨i, j, rfl, ⟨by omega, by omega, by omega, by omega⟩, ?_⟩
  exact for_range (lo := i) P h0 (fun k σ' H' hk p => step k σ' H' hk p) done
theorem while_i (W : Nat → St → Hp → Prop) (m : Nat) (h0 : W m σ H)
    (step : ∀ m σ' H', W m σ' H' → tt σ' H' fun d H1 => if d = true then ∃ N : St → Hp → Prop, (∀ σ2 H2, N σ2 H2 → ∃ m', m' < m ∧ W m' σ2 H2) ∧ tb ⟨N, r, n, N⟩ σ' H1 else n σ' H1) : tWhile tt tb ⟨n, r, b, c⟩ σ H := ⟨W, ⟨m, h0⟩, step⟩
theorem name_i {i : Nat} {v : V} {k : St → Hp → Prop} (h : k (σ.set i (some v)) H) : gName i v σ H k := h

/-! ### slices -/
theorem sIx_in {n d : Nat} {i : Int} (h0 : 0 ≤ i) (h1 : i ≤ (n : Int)) : HT.sIx n d (some i) = i.toNat := by
  unfold HT.sIx
  have h : ¬ i < 0 := by omega
  simp only [h, if_false]
  omega
theorem slI_i {p : Addr} {l : List Int} {i j : Int} (h : H p = some (il l)) (h0 : 0 ≤ i) (h1 : i ≤ j) (h2 : j ≤ (l.length : Int))
    (q : ∀ p' H1, H p' = none → Ex H H1 → H1 p' = some (il ((l.drop i.toNat).take (j.toNat - i.toNat))) → Q (.ref p') H1) : rSlU K (.ref p) (some i) (some j) H Q := by
  refine .inl ⟨p, _, rfl, SqL.of h, fun p' hp => ?_⟩
  refine q p' _ hp (Ex.new hp) ?_
  rw [upd_same]
  unfold cutV
  rw [sIx_in h0 (by rw [List.length_map]; omega), sIx_in (by omega) (by rw [List.length_map]; exact h2), ← List.map_drop, ← List.map_take]
theorem slstI_i {l q : Addr} {xs ys : List Int} {i j : Int} {k : Hp → Prop} (hl : H l = some (il xs)) (hq : H q = some (il ys)) (hne : l ≠ q) (h0 : 0 ≤ i) (h1 : i ≤ j) (h2 : j ≤ (xs.length : Int)) (h3 : xs.length + ys.length ≤ 1000000)
    (h : k (upd H l (il (xs.take i.toNat ++ ys ++ xs.drop j.toNat)))) : SlSt (.ref l) (some i) (some j) (.ref q) H k := by
  refine slst_i hl hq hne h0 h1 (by rw [List.length_map]; exact h2) (by rw [List.length_map, List.length_map]; exact h3) ?_
  rw [← List.map_take, ← List.map_drop, ← List.map_append, ← List.map_append]
  exact h
/-- [0] * n, [0] * 1 * n -/
theorem repI_i {p : Addr} {l : List Int} {m : Int} (h : H p = some (il l)) (h0 : 0 ≤ m) (h1 : m ≤ 1000000) (h2 : l.length ≤ 1)
    (q : ∀ p' H1, H p' = none → Ex H H1 → H1 p' = some (il (List.replicate m.toNat l).flatten) → Q (.ref p') H1) : rTimes (.ref p) (.int m) H Q := by
  refine .inr (.inr ⟨p, m, _, rfl, rfl, h, by omega, by omega, ?_, fun p' hp => ?_⟩)
  · rw [List.length_map]
    have h3 : m.toNat ≤ 1000000 := by omega
    have h4 : l.length * m.toNat ≤ 1 * 1000000 := Nat.mul_le_mul h2 h3
    exact Nat.le_trans h4 (by decide)
  · refine q p' _ hp (Ex.new hp) ?_
    rw [upd_same]
    unfold il
    simp
theorem catI_i {p1 p2 : Addr} {l1 l2 : List Int} (h1 : H p1 = some (il l1)) (h2 : H p2 = some (il l2)) (hz : l1.length + l2.length ≤ 1000000) (q : ∀ p' H1, H p' = none → Ex H H1 → H1 p' = some (il (l1 ++ l2)) → Q (.ref p') H1) : rPlus K (.ref p1) (.ref p2) H Q := by
  refine .inr (.inl ⟨p1, p2, _, _, rfl, rfl, h1, h2, by rw [List.length_map, List.length_map]; exact Nat.le_trans hz (by decide), fun p' hp => ?_⟩)
  refine q p' _ hp (Ex.new hp) ?_
  rw [upd_same, ← List.map_append]
theorem lenLT_i {p : Addr} {xs : List V} (h : LT H p xs) (q : Q (.int xs.length) H) : rLenU K [.ref p] H Q := by
  rcases h with h | h
  · exact lenL_i h q
  · exact lenT_i h q
theorem listLT_i {p : Addr} {xs : List V} (h : LT H p xs) (q : ∀ p' H1, H p' = none → Ex H H1 → H1 p' = some (.lst xs) → Q (.ref p') H1) : rListU K [.ref p] H Q := by
  rcases h with h | h
  · exact ⟨p, xs, rfl, .inl (SqL.of h), fun l hl => q l _ hl (Ex.new hl) upd_same⟩
  · exact ⟨p, xs, rfl, .inr (SqT.of h), fun l hl => q l _ hl (Ex.new hl) upd_same⟩
theorem tupL_i {p : Addr} {xs : List V} (h : H p = some (.lst xs)) (q : ∀ p' H1, H p' = none → Ex H H1 → H1 p' = some (.tup xs) → Q (.ref p') H1) : rTupU K [.ref p] H Q :=
  ⟨p, xs, rfl, .inl ⟨SqL.of h, fun l hl => q l _ hl (Ex.new hl) upd_same⟩⟩
theorem ixLT_i {p : Addr} {xs : List V} {i : Int} {v : V} (h : LT H p xs) (hr : atI xs i = some v) (q : Q v H) : rIx K (.ref p) (.int i) H Q := by
  rcases h with h | h
  · exact ixL_i h hr q
  · exact ixT_i h hr q
theorem ixLTI_i {p : Addr} {l : List Int} {i v : Int} (h : LT H p (l.map V.int)) (hr : rd l i = some v) (q : Q (.int v) H) : rIx K (.ref p) (.int i) H Q := ixLT_i h (atI_map hr) q
theorem setL_i {p : Addr} {xs : List V} {i : Int} {j : Nat} {v : V} {k : Hp → Prop} (h : H p = some (.lst xs)) (hi : ixN xs.length i = some j) (q : k (upd H p (.lst (xs.set j v)))) : rSetL (.ref p) (.int i) v H k := ⟨p, xs, i, j, rfl, rfl, h, hi, q⟩
theorem pow_i {i j : Int} (h0 : 0 ≤ j ∧ j ≤ 100) (h1 : -1000000 ≤ i ∧ i ≤ 1000000) (q : Q (.int (i ^ j.toNat)) H) : rPow (.int i) (.int j) H Q := ⟨i, j, rfl, rfl, ⟨h0.1, by omega, by omega⟩, q⟩
theorem minU_i {i j : Int} (q : Q (.int (if j < i then j else i)) H) : rMinU [.int i, .int j] H Q := ⟨i, j, rfl, q⟩
theorem maxU_i {i j : Int} (q : Q (.int (if j > i then j else i)) H) : rMaxU [.int i, .int j] H Q := ⟨i, j, rfl, q⟩
theorem sumI_i {p : Addr} {l : List Int} (h : H p = some (il l)) (q : Q (.int l.sum) H) : rSum K [.ref p] H Q := ⟨p, l, rfl, SqL.of h, q⟩
/-- isinstance of an int, with a type -/
theorem isi_int {x : Int} {n : String} {b : Bool} (h : kitB "int" n = some b) (q : Q (.bl b) H) : rIsi K [.int x, .ty n] H Q := ⟨_, _, _, _, b, rfl, .ty n, .base (.int x), kit_ty h, q⟩
theorem isi_str {x : Str} {n : String} {b : Bool} (h : kitB "str" n = some b) (q : Q (.bl b) H) : rIsi K [.str x, .ty n] H Q := ⟨_, _, _, _, b, rfl, .ty n, .base (.str x), kit_ty h, q⟩
theorem isi_tup {a : Addr} {xs : List V} {n : String} {b : Bool} (e : H a = some (.tup xs)) (h : kitB "tuple" n = some b) (q : Q (.bl b) H) : rIsi K [.ref a, .ty n] H Q := ⟨_, _, _, _, b, rfl, .ty n, .base (.tup e), kit_ty h, q⟩
theorem isi_lst {a : Addr} {xs : List V} {n : String} {b : Bool} (e : H a = some (.lst xs)) (h : kitB "list" n = some b) (q : Q (.bl b) H) : rIsi K [.ref a, .ty n] H Q := ⟨_, _, _, _, b, rfl, .ty n, .base (.lst e), kit_ty h, q⟩
theorem slL_i {p : Addr} {xs ys : List V} {lo hi : Option Int} (h : H p = some (.lst xs)) (e : cutV xs lo hi = ys) (q : ∀ p' H1, H p' = none → Ex H H1 → H1 p' = some (.lst ys) → Q (.ref p') H1) : rSlU K (.ref p) lo hi H Q := by
  subst e
  exact .inl ⟨p, xs, rfl, SqL.of h, fun p' hp => q p' _ hp (Ex.new hp) upd_same⟩
theorem slT_i {p : Addr} {xs ys : List V} {lo hi : Option Int} (h : H p = some (.tup xs)) (e : cutV xs lo hi = ys) (n : ¬ (HT.sIx xs.length 0 lo = 0 ∧ HT.sIx xs.length xs.length hi = xs.length)) (q : ∀ p' H1, H p' = none → Ex H H1 → H1 p' = some (.tup ys) → Q (.ref p') H1) : rSlU K (.ref p) lo hi H Q := by
  subst e
  exact .inr ⟨p, xs, rfl, SqT.of h, fun z => absurd z n, fun _ p' hp => q p' _ hp (Ex.new hp) upd_same⟩
theorem catT_i {p1 p2 : Addr} {l1 l2 : List V} (h1 : H p1 = some (.tup l1)) (h2 : H p2 = some (.tup l2)) (n1 : l1 ≠ []) (n2 : l2 ≠ []) (hz : l1.length + l2.length ≤ 1000000) (q : ∀ p' H1, H p' = none → Ex H H1 → H1 p' = some (.tup (l1 ++ l2)) → Q (.ref p') H1) : rPlus K (.ref p1) (.ref p2) H Q :=
  .inr (.inr ⟨p1, p2, l1, l2, rfl, rfl, SqT.of h1, SqT.of h2, Nat.le_trans hz (by decide), fun z => absurd z n1, fun _ z => absurd z n2, fun _ _ p' hp => q p' _ hp (Ex.new hp) upd_same⟩)
theorem catL_i {p1 p2 : Addr} {l1 l2 : List V} (h1 : H p1 = some (.lst l1)) (h2 : H p2 = some (.lst l2)) (hz : l1.length + l2.length ≤ 1000000) (q : ∀ p' H1, H p' = none → Ex H H1 → H1 p' = some (.lst (l1 ++ l2)) → Q (.ref p') H1) : rPlus K (.ref p1) (.ref p2) H Q :=
  .inr (.inl ⟨p1, p2, l1, l2, rfl, rfl, h1, h2, Nat.le_trans hz (by decide), fun p' hp => q p' _ hp (Ex.new hp) upd_same⟩)
/-- tuple(t) of a tuple is itself -/
theorem tupT_i {p : Addr} {xs : List V} (h : H p = some (.tup xs)) (q : Q (.ref p) H) : rTupU K [.ref p] H Q := ⟨p, xs, rfl, .inr ⟨SqT.of h, q⟩⟩
theorem cnt_i {p : Addr} {bs : List Bool} {k : Bool} (h : H p = some (.lst (bs.map V.bl))) (q : Q (.int (bs.count k : Nat)) H) : rCntB K (.ref p) [.bl k] H Q := ⟨p, bs, k, rfl, rfl, SqL.of h, q⟩
end
end Qb

set_option Elab.async false
set_option linter.all false
set_option maxRecDepth 100000
set_option maxHeartbeats 4000000
/-! ProgPhi2: what the functions of young and placing promise. -/
namespace Qb
open PySem L2
/-- the rows' lists, one behind another -/
def RowsAt (H : Hp) : List Addr → List (List Int) → Prop
  | [], [] => True
  | a :: as, r :: rs => H a = some (il r) ∧ RowsAt H as rs
  | _, _ => False
theorem RowsAt.rel {H H' : Hp} : ∀ {rl : List Addr} {rows : List (List Int)}, RowsAt H rl rows → (∀ a ∈ rl, ∀ o, H a = some o → H' a = some o) → RowsAt H' rl rows
  | [], [], _, _ => True.intro
  | a :: as, r :: rs, h, k => ⟨k a (by simp) _ h.1, RowsAt.rel h.2 fun b hb => k b (List.mem_cons_of_mem _ hb)⟩
theorem RowsAt.len {H : Hp} : ∀ {rl : List Addr} {rows : List (List Int)}, RowsAt H rl rows → rl.length = rows.length
  | [], [], _ => rfl
  | a :: as, r :: rs, h => congrArg Nat.succ (RowsAt.len h.2)
theorem RowsAt.get {H : Hp} : ∀ {rl : List Addr} {rows : List (List Int)} {j : Nat} {a : Addr}, RowsAt H rl rows → rl[j]? = some a → ∃ r, rows[j]? = some r ∧ H a = some (il r)
  | [], [], j, a, _, e => by simp at e
  | a :: as, r :: rs, 0, b, h, e => by
    simp at e
    subst e
    exact ⟨r, rfl, h.1⟩
  | a :: as, r :: rs, j + 1, b, h, e => by
    obtain ⟨r', h1, h2⟩ := RowsAt.get (j := j) h.2 (by simpa using e)
    exact ⟨r', by simpa using h1, h2⟩
theorem RowsAt.ex {H H' : Hp} {rl : List Addr} {rows : List (List Int)} (h : RowsAt H rl rows) (e : Ex H H') : RowsAt H' rl rows := h.rel fun a _ o => e a o
theorem RowsAt.fr {S : List Addr} {H H' : Hp} {rl : List Addr} {rows : List (List Int)} (h : RowsAt H rl rows) (f : Fr S H H') (n : ∀ a ∈ rl, a ∉ S) : RowsAt H' rl rows := h.rel fun a ha o e => f a o e (n a ha)
theorem RowsAt.put {H : Hp} {a : Addr} {r : List Int} : ∀ {rl : List Addr} {rows : List (List Int)} {k : Nat}, RowsAt H rl rows → H a = some (il r) → rl[k]? = some a → RowsAt H rl (rows.set k r)
  | [], [], k, _, _, e => by simp at e
  | b :: as, s :: rs, 0, h, ha, e => by
    simp at e
    subst e
    exact ⟨ha, h.2⟩
  | b :: as, s :: rs, k + 1, h, ha, e => ⟨h.1, RowsAt.put (k := k) h.2 ha (by simpa using e)⟩
theorem RowsAt.upd {H : Hp} {a : Addr} {r : List Int} : ∀ {rl : List Addr} {rows : List (List Int)} {k : Nat}, RowsAt H rl rows → rl.Nodup → rl[k]? = some a → RowsAt (L2.upd H a (il r)) rl (rows.set k r)
  | [], [], k, _, _, e => by simp at e
  | b :: as, s :: rs, 0, h, n, e => by
    simp at e
    subst e
    refine ⟨upd_same, h.2.rel fun c hc o ho => ?_⟩
    rw [upd_ne (fun z => (List.nodup_cons.mp n).1 (by rw [← z]; exact hc))]
    exact ho
  | b :: as, s :: rs, k + 1, h, n, e => by
    have e' : as[k]? = some a := by simpa using e
    refine ⟨?_, RowsAt.upd h.2 (List.nodup_cons.mp n).2 e'⟩
    rw [upd_ne (fun z => (List.nodup_cons.mp n).1 (by rw [z]; exact List.mem_iff_getElem?.mpr ⟨k, e'⟩))]
    exact h.1
theorem RowsAt.step {H H2 : Hp} {a : Addr} {r r' : List Int} {rl S : List Addr} {done rest : List (List Int)} (h : RowsAt H rl (done ++ r :: rest)) (n : rl.Nodup) (e : rl[done.length]? = some a) (f : Fr (a :: S) H H2) (d : ∀ b ∈ rl, b ∉ S) (ha : H2 a = some (il r')) :
    RowsAt H2 rl (done ++ r' :: rest) := by
  have u := h.upd (r := r') n e
  rw [List.set_append_right _ _ (Nat.le_refl _), Nat.sub_self, List.set_cons_zero] at u
  refine u.rel fun b hb o ho => ?_
  by_cases c : b = a
  · subst c
    rw [upd_same] at ho
    rw [ha]
    exact ho
  · rw [upd_ne c] at ho
    refine f _ _ ho ?_
    simp only [List.mem_cons, not_or]
    exact ⟨c, d b hb⟩
theorem RowsAt.split {H : Hp} : ∀ {rl : List Addr} {r1 : List (List Int)} {r2 : List (List Int)}, RowsAt H rl (r1 ++ r2) → RowsAt H (rl.take r1.length) r1 ∧ RowsAt H (rl.drop r1.length) r2
  | rl, [], r2, h => ⟨by unfold RowsAt; simp, by simpa using h⟩
  | [], s :: rs, r2, h => h.elim
  | b :: as, s :: rs, r2, h => by
    obtain ⟨x, y⟩ := RowsAt.split (rl := as) (r1 := rs) (r2 := r2) h.2
    exact ⟨⟨h.1, x⟩, y⟩
/-- the memory's remembered list may be a new one -/
def Ids.nx (i i' : Ids) (H : Hp) : Prop := i'.p = i.p ∧ i'.dx = i.dx ∧ i'.w = i.w ∧ i'.g = i.g ∧ (i'.r = i.r ∨ H i'.r = none)
theorem Ids.nx_refl (i : Ids) (H : Hp) : i.nx i H := ⟨rfl, rfl, rfl, rfl, .inl rfl⟩
theorem Ids.nx_back {i i' : Ids} {S : List Addr} {H H' : Hp} (n : i.nx i' H') (f : Fr S H H') (k : ∀ a ∈ S, H' a ≠ none) : i.nx i' H := by
  obtain ⟨a1, a2, a3, a4, a5⟩ := n
  refine ⟨a1, a2, a3, a4, a5.imp id fun z => ?_⟩
  rcases f.fresh z with y | y
  · exact absurd z (k _ y)
  · exact y
theorem Ids.nx_trans {i i' i'' : Ids} {S : List Addr} {H H' : Hp} (n : i.nx i' H) (n' : i'.nx i'' H') (f : Fr S H H') (k : ∀ a ∈ S, H' a ≠ none) : i.nx i'' H := by
  obtain ⟨a1, a2, a3, a4, a5⟩ := n
  obtain ⟨b1, b2, b3, b4, b5⟩ := Ids.nx_back n' f k
  refine ⟨b1.trans a1, b2.trans a2, b3.trans a3, b4.trans a4, ?_⟩
  rcases b5 with z | z
  · rw [z]
    exact a5
  · exact .inr z
theorem Rep.some {C : Addr} {i : Ids} {h : HS} {H : Hp} (R : Rep C i h H) : ∀ a ∈ i.all, H a ≠ none := by
  intro a ha
  simp only [Ids.all, List.mem_cons, List.not_mem_nil, or_false] at ha
  rcases ha with z | z | z | z
  · rw [z, R.o]; exact fun w => nomatch w
  · rw [z, R.w]; exact fun w => nomatch w
  · rw [z, R.g]; exact fun w => nomatch w
  · rw [z, R.r]; exact fun w => nomatch w
theorem RowsAt.some {H : Hp} {rl : List Addr} {rows : List (List Int)} (h : RowsAt H rl rows) : ∀ a ∈ rl, H a ≠ none := by
  intro a ha
  obtain ⟨j, hj⟩ := List.mem_iff_getElem?.mp ha
  obtain ⟨r, _, hr⟩ := h.get hj
  rw [hr]
  exact fun w => nomatch w
/-- the set of addresses of a memory that may have a new remembered list -/
theorem Ids.nx_all {i i' : Ids} {H : Hp} (n : i.nx i' H) : ∀ a ∈ i'.all, a ∈ i.all ∨ H a = none := by
  obtain ⟨a1, a2, a3, a4, a5⟩ := n
  intro a ha
  simp only [Ids.all, List.mem_cons, List.not_mem_nil, or_false] at ha ⊢
  rw [a1, a3, a4] at ha
  rcases ha with z | z | z | z
  · exact .inl (.inl z)
  · exact .inl (.inr (.inl z))
  · exact .inl (.inr (.inr (.inl z)))
  · rcases a5 with y | y
    · rw [y] at z
      exact .inl (.inr (.inr (.inr z)))
    · rw [z]
      exact .inr y
def phi_claim_old (K : PySem.W.Frag) (C : Addr) : Phi := fun vs H Q => ∃ i h s, vs = [.ref i.p, .int s] ∧ Rep C i h H ∧ ∀ H1, Rep C i (claimM h s).2 H1 → Fr i.all H H1 → Q (.int (claimM h s).1) H1
def phi_copy_old (K : PySem.W.Frag) (C : Addr) : Phi := fun vs H Q => ∃ i h a p, vs = [.ref i.p, .int a] ∧ Rep C i h H ∧ copyOldM h a = some p ∧ ∀ H1, Rep C i p.2 H1 → Fr i.all H H1 → Q (.int p.1) H1
def phi_promote (K : PySem.W.Frag) (C : Addr) : Phi := fun vs H Q => ∃ i h a m mv p, vs = [.ref i.p, .int a, .ref m] ∧ Rep C i h H ∧ H m = some (il mv) ∧ m ∉ i.all ∧ promoteM h a mv = some p ∧
  ∀ H1, Rep C i p.2.1 H1 → H1 m = some (il p.2.2) → Fr (m :: i.all) H H1 → Q (.int p.1) H1
def phi_old_word (K : PySem.W.Frag) (C : Addr) : Phi := fun vs H Q => ∃ i h a m mv p, vs = [.ref i.p, .int a, .ref m] ∧ Rep C i h H ∧ H m = some (il mv) ∧ m ∉ i.all ∧ oldWordM h a mv = some p ∧
  ∀ H1, Rep C i p.2.1 H1 → H1 m = some (il p.2.2) → Fr (m :: i.all) H H1 → Q (.int p.1) H1
def phi_lift_row (K : PySem.W.Frag) (C : Addr) : Phi := fun vs H Q => ∃ i h a m mv row p, vs = [.ref i.p, .ref a, .ref m] ∧ Rep C i h H ∧ H m = some (il mv) ∧ m ∉ i.all ∧ H a = some (il row) ∧ row.length ≤ 1000000 ∧ a ∉ m :: i.all ∧ liftRowM h mv row = some p ∧
  ∀ H1, Rep C i p.2.1 H1 → H1 m = some (il p.2.2) → H1 a = some (il p.1) → Fr (a :: m :: i.all) H H1 → Q .non H1
def phi_lift_payload (K : PySem.W.Frag) (C : Addr) : Phi := fun vs H Q => ∃ i h a m mv p, vs = [.ref i.p, .int a, .ref m] ∧ Rep C i h H ∧ H m = some (il mv) ∧ m ∉ i.all ∧ liftBlockM h a mv = some p ∧
  ∀ H1, Rep C i p.1 H1 → H1 m = some (il p.2) → Fr (m :: i.all) H H1 → Q .non H1
def phi_lift_remembered (K : PySem.W.Frag) (C : Addr) : Phi := fun vs H Q => ∃ i h m mv p, vs = [.ref i.p, .ref m] ∧ Rep C i h H ∧ H m = some (il mv) ∧ m ∉ i.all ∧ liftRemM h mv h.rem = some p ∧
  ∀ H1 i', i.nx i' H → Rep C i' { p.1 with rem := [] } H1 → H1 m = some (il p.2) → m ∉ i'.all → Fr (m :: i.all) H H1 → Q .non H1
def phi_collect_young (K : PySem.W.Frag) (C : Addr) : Phi := fun vs H Q => ∃ i h ra rl rows p, vs = [.ref i.p, .ref ra] ∧ Rep C i h H ∧ LT H ra (rl.map V.ref) ∧ RowsAt H rl rows ∧ rl.Nodup ∧ (∀ a ∈ rl, a ∉ i.all) ∧ ra ∉ i.all ∧ ra ∉ rl ∧ (∀ r ∈ rows, r.length ≤ 1000000) ∧ collectYoungM h rows = some p ∧
  ∀ H1 i', i.nx i' H → Rep C i' p.1 H1 → RowsAt H1 rl p.2 → Fr (i.all ++ rl) H H1 → Q .non H1
def phi_young_address (K : PySem.W.Frag) (C : Addr) : Phi := fun vs H Q => ∃ i h ra rl rows size p, vs = [.ref i.p, .ref ra, .int size] ∧ Rep C i h H ∧ LT H ra (rl.map V.ref) ∧ RowsAt H rl rows ∧ rl.Nodup ∧ (∀ a ∈ rl, a ∉ i.all) ∧ ra ∉ i.all ∧ ra ∉ rl ∧ (∀ r ∈ rows, r.length ≤ 1000000) ∧
  (if h.nur + 1 < h.yt + size then collectYoungM h rows else some (h, rows)) = some p ∧
  ∀ H1 i', i.nx i' H → Rep C i' { p.1 with yt := p.1.yt + size } H1 → RowsAt H1 rl p.2 → Fr (i.all ++ rl) H H1 → Q (.int p.1.yt) H1
def phi_place_block (K : PySem.W.Frag) (C : Addr) : Phi := fun vs H Q => ∃ i h ra rl rows shape pa pl p, vs = [.ref i.p, .ref ra, .int shape, .ref pa] ∧ Rep C i h H ∧ LT H ra (rl.map V.ref) ∧ RowsAt H rl rows ∧ rl.Nodup ∧ (∀ a ∈ rl, a ∉ i.all) ∧ ra ∉ i.all ∧ ra ∉ rl ∧ (∀ r ∈ rows, r.length ≤ 1000000) ∧
  LT H pa (pl.map V.int) ∧ pa ∉ i.all ++ rl ∧ placeM h rows shape pl = some p ∧
  ∀ H1 i', i.nx i' H → Rep C i' p.2.1 H1 → RowsAt H1 rl p.2.2 → Fr (i.all ++ rl) H H1 → Q (.int p.1) H1
end Qb

set_option Elab.async false
set_option linter.all false
set_option maxRecDepth 100000
set_option maxHeartbeats 4000000
/-! LawPhi: what the laws' own helpers promise. -/
namespace Qb
open PySem L2

/-! ### digits -/
/-- each digit lies below its size -/
def Dg : List Int → List Int → Prop
  | [], [] => True
  | s :: ss, v :: vs => (0 ≤ v ∧ v < s) ∧ Dg ss vs
  | _, _ => False
theorem Dg.len : ∀ {a b : List Int}, Dg a b → b.length = a.length
  | [], [], _ => rfl
  | _ :: _, _ :: _, h => congrArg Nat.succ (Dg.len h.2)
theorem Dg.snoc : ∀ {a b : List Int} {s v : Int}, Dg a b → 0 ≤ v → v < s → Dg (a ++ [s]) (b ++ [v])
  | [], [], _, _, _, h0, h1 => ⟨⟨h0, h1⟩, True.intro⟩
  | _ :: _, _ :: _, _, _, h, h0, h1 => ⟨h.1, Dg.snoc h.2 h0 h1⟩
theorem Dg.get : ∀ {a b : List Int} {j : Nat} {s : Int}, Dg a b → a[j]? = some s → ∃ v, b[j]? = some v ∧ 0 ≤ v ∧ v < s
  | [], [], j, s, _, e => by simp at e
  | s :: ss, v :: vs, 0, s', h, e => by
    simp at e
    subst e
    exact ⟨v, rfl, h.1⟩
  | s :: ss, v :: vs, j + 1, s', h, e => by
    obtain ⟨w, h1, h2⟩ := Dg.get (j := j) h.2 (by simpa using e)
    exact ⟨w, by simpa using h1, h2⟩
/-- sizes that may be drawn -/
def Szs (l : List Int) : Prop := ∀ s ∈ l, 0 < s ∧ s < 18446744073709551616
def phi_l_whole (K : PySem.W.Frag) (C : Addr) : Phi := fun vs H Q => ∃ x, vs = [.int x] ∧ Q (.bl true) H
def phi_l_cell (K : PySem.W.Frag) (C : Addr) : Phi := fun vs H Q => ∃ (a : Addr) (ns : List Int) (k : Int), vs = [.ref a, .int k] ∧ SqL K H a (ns.map V.int) ∧ ns.length ≤ 63 ∧ 0 ≤ k ∧ k ≤ 1000 ∧ ∀ v, Q (.int v) H
def phi_l_digits (K : PySem.W.Frag) (C : Addr) : Phi := fun vs H Q => ∃ c a sz, vs = [.int c, .ref a] ∧ H a = some (il sz) ∧ Szs sz ∧ sz.length ≤ 1000 ∧ ∀ p H1 row, H p = none → Ex H H1 → H1 p = some (il row) → Dg sz row → Q (.ref p) H1
def phi_l_bounds (K : PySem.W.Frag) (C : Addr) : Phi := fun vs H Q => ∃ a r0 r1 r2 rest, vs = [.ref a] ∧ H a = some (il (r0 :: r1 :: r2 :: rest)) ∧ 0 ≤ r0 ∧ r0 < 16 ∧ 0 ≤ r1 ∧ r1 < 12 ∧ 0 ≤ r2 ∧ r2 < 1080 ∧
  ∀ p H1 cap nur, H p = none → Ex H H1 → H1 p = some (il [cap, nur]) → 0 ≤ nur → nur ≤ cap → cap ≤ 107 → Q (.ref p) H1
/-- the place of this number, counted through the rows, becomes w -/
def putM : List (List Int) → Int → Int → List (List Int)
  | [], _, _ => []
  | r :: rs, s, w => (if 0 ≤ s ∧ s < (r.length : Int) then r.set s.toNat w else r) :: putM rs (s - r.length) w
theorem putM_cons (r : List Int) (rs : List (List Int)) (s w : Int) : putM (r :: rs) s w = (if 0 ≤ s ∧ s < (r.length : Int) then r.set s.toNat w else r) :: putM rs (s - r.length) w := rfl
def phi_l_put (K : PySem.W.Frag) (C : Addr) : Phi := fun vs H Q => ∃ ra rl rows s w, vs = [.ref ra, .int s, .int w] ∧ LT H ra (rl.map V.ref) ∧ RowsAt H rl rows ∧ rl.Nodup ∧ ra ∉ rl ∧ (∀ r ∈ rows, r.length ≤ 1000000) ∧
  ∀ H1, RowsAt H1 rl (putM rows s w) → Fr rl H H1 → Q .non H1
def phi_l_length (K : PySem.W.Frag) (C : Addr) : Phi := fun vs H Q => ∃ x y, vs = [.int x, .int y] ∧ 0 ≤ x ∧ x < 16 ∧ 0 ≤ y ∧ y < 8 ∧ ∀ v H1, 0 ≤ v → v ≤ 58 → Ex H H1 → Q (.int v) H1
def phi_l_odd (K : PySem.W.Frag) (C : Addr) : Phi := fun vs H Q => ∃ x, vs = [.int x] ∧ 0 ≤ x ∧ x < 1000000000000 ∧ ∀ v H1, v % 2 = 1 → Ex H H1 → Q (.int v) H1
/-- no reference -/
def NoRef (l : List Int) : Prop := ∀ w ∈ l, w = 0 ∨ w % 2 = 1
def phi_l_payload (K : PySem.W.Frag) (C : Addr) : Phi := fun vs H Q => ∃ n x y, vs = [.int n, .int x, .int y] ∧ 0 ≤ n ∧ n ≤ 1000 ∧ 0 ≤ x ∧ x < 8 ∧ 0 ≤ y ∧ y < 17179869184 ∧ ∀ p H1 l, H p = none → Ex H H1 → H1 p = some (il l) → (l.length : Int) = n → NoRef l → Q (.ref p) H1

/-! ### snapshots, the law's own memory -/
def shotV (h : HS) (g r w : Addr) : List V := [.str h.ph.str, .int h.yt, .int h.base, .int h.top, .int h.ob, .int h.ot, .int h.cur, .ref g, .ref r, .int h.pend, .ref w]
/-- a snapshot of h: tuples -/
def Shot (h : HS) (t : Addr) (H : Hp) : Prop := ∃ g r w, H t = some (.tup (shotV h g r w)) ∧ H g = some (.tup (h.gr.map V.int)) ∧ H r = some (.tup (h.rem.map V.int)) ∧ H w = some (.tup (h.words.map V.int))
theorem Shot.ex {h : HS} {t : Addr} {H H' : Hp} (s : Shot h t H) (e : Ex H H') : Shot h t H' := by
  obtain ⟨g, r, w, a, b, c, d⟩ := s
  exact ⟨g, r, w, e _ _ a, e _ _ b, e _ _ c, e _ _ d⟩
structure MIds where
  m : Addr
  w : Addr
  g : Addr
  r : Addr
def MIds.all (i : MIds) : List Addr := [i.m, i.w, i.g, i.r]
/-- the law's own memory stands at i: lists -/
structure Mem (i : MIds) (h : HS) (H : Hp) : Prop where
  m : H i.m = some (.lst (shotV h i.g i.r i.w))
  w : H i.w = some (il h.words)
  g : H i.g = some (il h.gr)
  r : H i.r = some (il h.rem)
  wg : i.w ≠ i.g
  wr : i.w ≠ i.r
  gr : i.g ≠ i.r
theorem shotV_ne (h : HS) (g r w : Addr) (l : List Int) : HO.lst (shotV h g r w) ≠ il l := by
  intro e
  injection e with e
  cases l with
  | nil => cases e
  | cons a l =>
    injection e with e1 e2
    cases e1
section
variable {i : MIds} {h : HS} {H H' : Hp}
theorem Mem.mw (M : Mem i h H) : i.m ≠ i.w := ne_of M.m M.w (shotV_ne _ _ _ _ _)
theorem Mem.mg (M : Mem i h H) : i.m ≠ i.g := ne_of M.m M.g (shotV_ne _ _ _ _ _)
theorem Mem.mr (M : Mem i h H) : i.m ≠ i.r := ne_of M.m M.r (shotV_ne _ _ _ _ _)
theorem Mem.ex (M : Mem i h H) (e : Ex H H') : Mem i h H' := ⟨e _ _ M.m, e _ _ M.w, e _ _ M.g, e _ _ M.r, M.wg, M.wr, M.gr⟩
theorem Mem.fr {S : List Addr} (M : Mem i h H) (f : Fr S H H') (n : ∀ a ∈ i.all, a ∉ S) : Mem i h H' :=
  ⟨f _ _ M.m (n _ (by simp [MIds.all])), f _ _ M.w (n _ (by simp [MIds.all])), f _ _ M.g (n _ (by simp [MIds.all])), f _ _ M.r (n _ (by simp [MIds.all])), M.wg, M.wr, M.gr⟩
theorem Mem.some (M : Mem i h H) : ∀ a ∈ i.all, H a ≠ none := by
  intro a ha
  simp only [MIds.all, List.mem_cons, List.not_mem_nil, or_false] at ha
  rcases ha with z | z | z | z
  · rw [z, M.m]; exact fun w => nomatch w
  · rw [z, M.w]; exact fun w => nomatch w
  · rw [z, M.g]; exact fun w => nomatch w
  · rw [z, M.r]; exact fun w => nomatch w
end
/-- read as lists or as tuples -/
def MemR (h : HS) (m : Addr) (H : Hp) : Prop := ∃ g r w, LT H m (shotV h g r w) ∧ LT H g (h.gr.map V.int) ∧ LT H r (h.rem.map V.int) ∧ LT H w (h.words.map V.int)
theorem Mem.read {i : MIds} {h : HS} {H : Hp} (M : Mem i h H) : MemR h i.m H := ⟨i.g, i.r, i.w, .inl M.m, .inl M.g, .inl M.r, .inl M.w⟩
theorem Shot.read {h : HS} {t : Addr} {H : Hp} (M : Shot h t H) : MemR h t H := by
  obtain ⟨g, r, w, a, b, c, d⟩ := M
  exact ⟨g, r, w, .inr a, .inr b, .inr c, .inr d⟩
theorem MemR.ex {h : HS} {t : Addr} {H H' : Hp} (s : MemR h t H) (e : Ex H H') : MemR h t H' := by
  obtain ⟨g, r, w, a, b, c, d⟩ := s
  exact ⟨g, r, w, a.ex e, b.ex e, c.ex e, d.ex e⟩
def MIds.nx (i i' : MIds) (H : Hp) : Prop := i'.m = i.m ∧ i'.w = i.w ∧ i'.g = i.g ∧ (i'.r = i.r ∨ H i'.r = none)
theorem MIds.nx_refl (i : MIds) (H : Hp) : i.nx i H := ⟨rfl, rfl, rfl, .inl rfl⟩
theorem MIds.nx_all {i i' : MIds} {H : Hp} (n : i.nx i' H) : ∀ a ∈ i'.all, a ∈ i.all ∨ H a = none := by
  obtain ⟨a1, a3, a4, a5⟩ := n
  intro a ha
  simp only [MIds.all, List.mem_cons, List.not_mem_nil, or_false] at ha ⊢
  rw [a1, a3, a4] at ha
  rcases ha with z | z | z | z
  · exact .inl (.inl z)
  · exact .inl (.inr (.inl z))
  · exact .inl (.inr (.inr (.inl z)))
  · rcases a5 with y | y
    · rw [y] at z
      exact .inl (.inr (.inr (.inr z)))
    · rw [z]
      exact .inr y
theorem MIds.nx_back {i i' : MIds} {S : List Addr} {H H' : Hp} (n : i.nx i' H') (f : Fr S H H') (k : ∀ a ∈ S, H' a ≠ none) : i.nx i' H := by
  obtain ⟨a1, a3, a4, a5⟩ := n
  refine ⟨a1, a3, a4, a5.imp id fun z => ?_⟩
  rcases f.fresh z with y | y
  · exact absurd z (k _ y)
  · exact y
/-- an empty memory -/
def newM (cap nur : Int) : HS := ⟨cap, nur, List.replicate (1 + nur + 2 * cap).toNat 0, 1, nur + 1, nur + 1, nur + 1 + cap, nur + 1 + cap, .idle, 0, [], [], 0⟩
def phi_Heap_init (K : PySem.W.Frag) (C : Addr) : Phi := fun vs H Q => ∃ x dx cap nur, vs = [.ref x, .int cap, .int nur] ∧ H x = some (.ins C dx []) ∧ 0 ≤ nur ∧ 0 ≤ cap ∧ nur ≤ 100000 ∧ cap ≤ 100000 ∧
  ∀ H1 w g r, H w = none → H g = none → H r = none → Rep C ⟨x, dx, w, g, r⟩ (newM cap nur) H1 → Fr [x] H H1 → Q .non H1
def phi_Heap_used (K : PySem.W.Frag) (C : Addr) : Phi := fun vs H Q => ∃ i h, vs = [.ref i.p] ∧ Rep C i h H ∧ ∀ H1, Ex H H1 → Q (.int h.used) H1
def phi_snapshot (K : PySem.W.Frag) (C : Addr) : Phi := fun vs H Q => ∃ i h, vs = [.ref i.p] ∧ Rep C i h H ∧ ∀ H1 t, H t = none → Ex H H1 → Shot h t H1 → Q (.ref t) H1
def phi_l_kinds (K : PySem.W.Frag) (C : Addr) : Phi := fun vs H Q => ∃ t h, vs = [.ref t] ∧ Shot h t H ∧ h.gr.length + h.rem.length + h.words.length ≤ 900000 ∧ ∀ H1, Ex H H1 → Q (.bl true) H1
def phi_l_memory (K : PySem.W.Frag) (C : Addr) : Phi := fun vs H Q => ∃ cap nur, vs = [.int cap, .int nur] ∧ 0 ≤ nur ∧ 0 ≤ cap ∧ nur ≤ 100000 ∧ cap ≤ 100000 ∧ ∀ H1 i, (∀ a ∈ i.all, H a = none) → Ex H H1 → Mem i (newM cap nur) H1 → Q (.ref i.m) H1
def phi_l_shot (K : PySem.W.Frag) (C : Addr) : Phi := fun vs H Q => ∃ i h, vs = [.ref i.m] ∧ Mem i h H ∧ ∀ H1 t, H t = none → Ex H H1 → Shot h t H1 → Q (.ref t) H1
def phi_l_used (K : PySem.W.Frag) (C : Addr) : Phi := fun vs H Q => ∃ m h, vs = [.ref m] ∧ MemR h m H ∧ ∀ H1, Ex H H1 → Q (.int h.used) H1
def phi_l_spot (K : PySem.W.Frag) (C : Addr) : Phi := fun vs H Q => ∃ m h a b, vs = [.ref m, .int h.cap, .int a] ∧ MemR h m H ∧ resolveM h a = some b ∧ ∀ H1, Ex H H1 → Q (.int b) H1
def phi_l_led (K : PySem.W.Frag) (C : Addr) : Phi := fun vs H Q => ∃ m h a b, vs = [.ref m, .int h.cap, .int a] ∧ MemR h m H ∧ okw a = true ∧ resolveW h a = some b ∧ ∀ H1, Ex H H1 → Q (.int b) H1
def phi_l_shaded (K : PySem.W.Frag) (C : Addr) : Phi := fun vs H Q => ∃ (i : MIds) (h : HS) (w : Int) (h' : HS), vs = [.ref i.m, .int h.nur, .int w] ∧ Mem i h H ∧ 0 < w ∧ shadeTM h w = some h' ∧ ∀ H1, Mem i h' H1 → Fr i.all H H1 → Q .non H1
def phi_l_wrote (K : PySem.W.Frag) (C : Addr) : Phi := fun vs H Q => ∃ (i : MIds) (h : HS) (a p w b v : Int) (h' : HS), vs = [.ref i.m, .int h.cap, .int h.nur, .int a, .int p, .int w] ∧ Mem i h H ∧ resolveM h a = some b ∧ 1 ≤ b ∧ resolveW h w = some v ∧ okw w = true ∧ okw v = true ∧ writeM h a p w = some h' ∧ ∀ H1, Mem i h' H1 → Fr i.all H H1 → Q .non H1
def phi_l_lifted (K : PySem.W.Frag) (C : Addr) : Phi := fun vs H Q => ∃ (i : MIds) (h : HS) (w : Int) (m : Addr) (mv : List Int) (p : Int × HS × List Int), vs = [.ref i.m, .int h.nur, .int w, .ref m] ∧ Mem i h H ∧ H m = some (il mv) ∧ m ∉ i.all ∧ oldWordM h w mv = some p ∧
  ∀ H1, Mem i p.2.1 H1 → H1 m = some (il p.2.2) → Fr (m :: i.all) H H1 → Q (.int p.1) H1
def phi_l_lifted_block (K : PySem.W.Frag) (C : Addr) : Phi := fun vs H Q => ∃ (i : MIds) (h : HS) (a : Int) (m : Addr) (mv : List Int) (p : HS × List Int), vs = [.ref i.m, .int h.nur, .int a, .ref m] ∧ Mem i h H ∧ H m = some (il mv) ∧ m ∉ i.all ∧ liftBlockM h a mv = some p ∧
  ∀ H1, Mem i p.1 H1 → H1 m = some (il p.2) → Fr (m :: i.all) H H1 → Q .non H1
def phi_l_emptied (K : PySem.W.Frag) (C : Addr) : Phi := fun vs H Q => ∃ (i : MIds) (h : HS) (ra : Addr) (rl : List Addr) (rows : List (List Int)) (p : HS × List (List Int)), vs = [.ref i.m, .int h.cap, .int h.nur, .ref ra] ∧ Mem i h H ∧ LT H ra (rl.map V.ref) ∧ RowsAt H rl rows ∧ rl.Nodup ∧ (∀ a ∈ rl, a ∉ i.all) ∧ ra ∉ i.all ∧ ra ∉ rl ∧ (∀ r ∈ rows, r.length ≤ 1000000) ∧ collectYoungM h rows = some p ∧
  ∀ H1 i', i.nx i' H → Mem i' p.1 H1 → RowsAt H1 rl p.2 → Fr (i.all ++ rl) H H1 → Q .non H1
def phi_l_laid (K : PySem.W.Frag) (C : Addr) : Phi := fun vs H Q => ∃ (i : MIds) (h : HS) (ra : Addr) (rl : List Addr) (rows : List (List Int)) (shape : Int) (pa : Addr) (pl : List Int) (p : Int × HS × List (List Int)), vs = [.ref i.m, .int h.cap, .int h.nur, .ref ra, .int shape, .ref pa] ∧ Mem i h H ∧ LT H ra (rl.map V.ref) ∧ RowsAt H rl rows ∧ rl.Nodup ∧ (∀ a ∈ rl, a ∉ i.all) ∧ ra ∉ i.all ∧ ra ∉ rl ∧ (∀ r ∈ rows, r.length ≤ 1000000) ∧
  LT H pa (pl.map V.int) ∧ pa ∉ i.all ++ rl ∧ placeM h rows shape pl = some p ∧
  ∀ H1 i', i.nx i' H → Mem i' p.2.1 H1 → RowsAt H1 rl p.2.2 → Fr (i.all ++ rl) H H1 → Q (.int p.1) H1
/-- lists of two numbers -/
def prs (f : List (Int × Int)) : List (List Int) := f.map fun p => [p.1, p.2]
def phi_l_met (K : PySem.W.Frag) (C : Addr) : Phi := fun vs H Q => ∃ (m : Addr) (h : HS) (ra : Addr) (rl : List Addr) (rows : List (List Int)) (found : List (Int × Int)), vs = [.ref m, .int h.cap, .ref ra] ∧ MemR h m H ∧ LT H ra (rl.map V.ref) ∧ RowsAt H rl rows ∧ rl.length ≤ 1000 ∧ metM h rows = some found ∧
  ∀ p fl H1, H p = none → Ex H H1 → H1 p = some (.lst (fl.map V.ref)) → RowsAt H1 fl (prs found) → (∀ a ∈ fl, H a = none) → Q (.ref p) H1
def phi_l_passed (K : PySem.W.Frag) (C : Addr) : Phi := fun vs H Q => ∃ (ra : Addr) (xs : List V) (d : Int), vs = [.ref ra, .int d] ∧ H ra = some (.lst xs) ∧ ∀ p H1, H p = none → Ex H H1 → LT H1 p xs → Q (.ref p) H1
def phi_l_places (K : PySem.W.Frag) (C : Addr) : Phi := fun vs H Q => ∃ (ra : Addr) (rl : List Addr) (rows : List (List Int)), vs = [.ref ra] ∧ LT H ra (rl.map V.ref) ∧ RowsAt H rl rows ∧ rl.length ≤ 1000 ∧ ∀ H1, Ex H H1 → Q (.int ((rows.map fun r => (r.length : Int)).sum)) H1
end Qb

set_option Elab.async false
set_option linter.all false
set_option maxRecDepth 100000
set_option maxHeartbeats 4000000
/-! Inf5: comprehensions. -/
namespace Qb
open PySem L2
section
variable {K : PySem.W.Frag} {σ : St} {H : Hp} {Q : VK} {te ts : TE} {ta : TA} {tt : TT}
theorem wipe1 (σ : St) (j : Nat) : wipe σ [j] = σ.set j none := rfl
theorem wipe_set (σ : St) (j : Nat) (x : Option V) : wipe ((wipe σ [j]).set j x) [j] = wipe σ [j] := by
  rw [wipe1, wipe1, List.set_set, List.set_set]
theorem yes_i {Q : Bool → Hp → Prop} (q : Q true H) : tYes σ H Q := q
/-- over range(n): the k-th item keeps G k -/
theorem compR_i {j : Nat} {n : Int} (G : Nat → V → Prop) (he : ∀ Q : List V → Hp → Prop, Q [.int n] H → ta σ H Q) (h0 : 0 ≤ n) (h1 : n ≤ 1000000)
    (step : ∀ (k : Nat) H1, Ex H H1 → (k : Int) < n → ∀ Q' : VK, (∀ H2 y, Ex H1 H2 → G k y → Q' y H2) → te ((σ.set j none).set j (some (.int k))) H1 Q')
    (q : ∀ p H1 l, H p = none → Ex H H1 → H1 p = some (.lst l) → (l.length : Int) = n → (∀ k y, l[k]? = some y → G k y) → Q (.ref p) H1) : tLc (iRng1 ta) (gName j) tYes te [j] σ H Q := by
  refine he _ ⟨n, rfl, by omega, by omega, fun D hD => ?_⟩
  refine lc_range (lo := 0) (n := n.toNat) (fun k H' => Ex H H' ∧ ∃ l, H' D = some (.lst l) ∧ l.length = k ∧ ∀ i y, l[i]? = some y → G i y) ⟨Ex.new hD, [], upd_same, rfl, fun i y e => by simp at e⟩ ?_ ?_
  · rintro k H' hk ⟨x1, l, hl, ll, g⟩
    rw [Int.zero_add]
    refine ⟨wipe_set _ _ _, ?_⟩
    refine yes_i (iteT ?_)
    refine step k H' x1 (by omega) _ fun H2 y x2 gy => ?_
    refine ⟨l, x2 _ _ hl, Nat.lt_of_lt_of_le (by omega : l.length < 1000001) (by decide), (x1.trans x2).mut hD, _, upd_same, by rw [List.length_append, ll]; rfl, fun i z e => ?_⟩
    by_cases c : i < l.length
    · rw [List.getElem?_append_left c] at e
      exact g i z e
    · rw [List.getElem?_append_right (by omega)] at e
      have e0 : i - l.length = 0 := by
        have := (List.getElem?_eq_some_iff.mp e).1
        simp at this
        omega
      rw [e0] at e
      have e1 : i = k := by omega
      subst e1
      cases e
      exact gy
  · rintro H' ⟨x1, l, hl, ll, g⟩
    exact q D H' l hD x1 hl (by omega) g
/-- over a list or a tuple, with a test; the items keep G -/
theorem compL_i {j : Nat} {a : Addr} {xs : List V} (G : V → Prop) (he : ∀ Q : VK, Q (.ref a) H → ts σ H Q) (hl : LT H a xs) (hz : xs.length ≤ 1000000)
    (step : ∀ (k : Nat) (x : V) H1, Ex H H1 → xs[k]? = some x → ∀ Q' : Bool → Hp → Prop, (∀ H2 b, Ex H1 H2 → (b = true → ∀ Q2 : VK, (∀ H3 y, Ex H2 H3 → G y → Q2 y H3) → te ((σ.set j none).set j (some x)) H2 Q2) → Q' b H2) → tt ((σ.set j none).set j (some x)) H1 Q')
    (q : ∀ p H1 l, H p = none → Ex H H1 → H1 p = some (.lst l) → l.length ≤ xs.length → (∀ y ∈ l, G y) → Q (.ref p) H1) : tLc (iSeq K ts) (gName j) tt te [j] σ H Q := by
  have body : ∀ (D : Addr) (hD : H D = none) (i : Nat) (x : V) (H' : Hp), xs[i]? = some x → (Ex H H' ∧ ∃ l, H' D = some (.lst l) ∧ l.length ≤ i ∧ ∀ y ∈ l, G y) →
      gName j x (wipe σ [j]) H' fun σ2 H2 => wipe σ2 [j] = wipe σ [j] ∧ tt σ2 H2 fun b H3 => if b = true then te σ2 H3 fun y H4 => ∃ acc, H4 D = some (.lst acc) ∧ acc.length < sizeLine ∧
        (Ex H (upd H4 D (.lst (acc ++ [y]))) ∧ ∃ l, (upd H4 D (.lst (acc ++ [y]))) D = some (.lst l) ∧ l.length ≤ i + 1 ∧ ∀ y ∈ l, G y) else (Ex H H3 ∧ ∃ l, H3 D = some (.lst l) ∧ l.length ≤ i + 1 ∧ ∀ y ∈ l, G y) := by
    rintro D hD i x H' hx ⟨x1, l, hl, ll, g⟩
    have hi := (List.getElem?_eq_some_iff.mp hx).1
    refine ⟨wipe_set _ _ _, ?_⟩
    refine step i x H' x1 hx _ fun H2 b x2 hb => ?_
    cases b with
    | true =>
      rw [if_pos rfl]
      refine hb rfl _ fun H3 y x3 gy => ?_
      refine ⟨l, x3 _ _ (x2 _ _ hl), Nat.lt_of_lt_of_le (by omega : l.length < 1000001) (by decide), ((x1.trans x2).trans x3).mut hD, _, upd_same, by rw [List.length_append]; simp; omega, fun z hz => ?_⟩
      rcases List.mem_append.mp hz with m | m
      · exact g z m
      · rw [List.mem_singleton.mp m]
        exact gy
    | false =>
      rw [if_neg Bool.false_ne_true]
      exact ⟨x1.trans x2, l, x2 _ _ hl, by omega, g⟩
  rcases hl with hl | hl
  · refine .inl (he _ ⟨a, rfl, ⟨xs, SqL.of hl⟩, fun D hD => ?_⟩)
    refine lc_list (xs := xs) (fun k H' => Ex H H' ∧ ∃ l, H' D = some (.lst l) ∧ l.length ≤ k ∧ ∀ y ∈ l, G y) ⟨Ex.new hD, [], upd_same, Nat.le_refl _, fun y e => by cases e⟩ (fun i H' hi p => SqL.of (p.1 _ _ hl)) (body D hD) ?_
    rintro H' ⟨x1, l, h1, ll, g⟩
    exact q D H' l hD x1 h1 ll g
  · refine .inr (he _ ⟨a, rfl, ⟨xs, SqT.of hl⟩, fun D hD => ?_⟩)
    refine lc_tup (xs := xs) (fun k H' => Ex H H' ∧ ∃ l, H' D = some (.lst l) ∧ l.length ≤ k ∧ ∀ y ∈ l, G y) ⟨Ex.new hD, [], upd_same, Nat.le_refl _, fun y e => by cases e⟩ (fun i H' hi p => SqT.of (p.1 _ _ hl)) (body D hD) ?_
    rintro H' ⟨x1, l, h1, ll, g⟩
    exact q D H' l hD x1 h1 ll g
/-- a list of ints out of a list of values -/
theorem ints_out {P : Int → Prop} : ∀ {l : List V}, (∀ y ∈ l, ∃ i, y = V.int i ∧ P i) → ∃ l' : List Int, l = l'.map V.int ∧ ∀ i ∈ l', P i
  | [], _ => ⟨[], rfl, fun _ h => by cases h⟩
  | y :: l, h => by
    obtain ⟨i, e, p⟩ := h y (by simp)
    obtain ⟨l', e', p'⟩ := ints_out (l := l) fun z hz => h z (List.mem_cons_of_mem _ hz)
    refine ⟨i :: l', by rw [e, e']; rfl, fun z hz => ?_⟩
    rcases List.mem_cons.mp hz with m | m
    · rw [m]; exact p
    · exact p' z m
/-- a new list for each item: rows -/
theorem compRows_i {j : Nat} {a : Addr} {xs : List V} (F : Nat → List Int → Prop) (he : ∀ Q : VK, Q (.ref a) H → ts σ H Q) (hl : LT H a xs) (hz : xs.length ≤ 1000000)
    (step : ∀ (k : Nat) (x : V) H1, Ex H H1 → xs[k]? = some x → ∀ Q' : VK, (∀ H2 p row, H1 p = none → Ex H1 H2 → H2 p = some (il row) → F k row → Q' (.ref p) H2) → te ((σ.set j none).set j (some x)) H1 Q')
    (q : ∀ p H1 rl rows, H p = none → Ex H H1 → H1 p = some (.lst (rl.map V.ref)) → rows.length = xs.length → (∀ k row, rows[k]? = some row → F k row) → RowsAt H1 rl rows → rl.Nodup → p ∉ rl → (∀ b ∈ rl, H b = none) → Q (.ref p) H1) : tLc (iSeq K ts) (gName j) tYes te [j] σ H Q := by
  let Pv : Addr → Nat → Hp → Prop := fun D k H' => Ex H H' ∧ ∃ (rl : List Addr) (rows : List (List Int)), H' D = some (.lst (rl.map V.ref)) ∧ rows.length = k ∧ (∀ i row, rows[i]? = some row → F i row) ∧ RowsAt H' rl rows ∧ rl.Nodup ∧ D ∉ rl ∧ (∀ b ∈ rl, H b = none)
  have start : ∀ D, H D = none → Pv D 0 (upd H D (.lst [])) := fun D hD => ⟨Ex.new hD, [], [], upd_same, rfl, fun i row e => by simp at e, True.intro, List.nodup_nil, by simp, by simp⟩
  have body : ∀ (D : Addr) (hD : H D = none) (i : Nat) (x : V) (H' : Hp), xs[i]? = some x → Pv D i H' →
      gName j x (wipe σ [j]) H' fun σ2 H2 => wipe σ2 [j] = wipe σ [j] ∧ tYes σ2 H2 fun b H3 => if b = true then te σ2 H3 fun y H4 => ∃ acc, H4 D = some (.lst acc) ∧ acc.length < sizeLine ∧ Pv D (i + 1) (upd H4 D (.lst (acc ++ [y]))) else Pv D (i + 1) H3 := by
    rintro D hD i x H' hx ⟨x1, rl, rows, h1, h2, h3, h4, h5, h6, h7⟩
    have hi := (List.getElem?_eq_some_iff.mp hx).1
    refine ⟨wipe_set _ _ _, ?_⟩
    refine yes_i (iteT ?_)
    refine step i x H' x1 hx _ fun H2 p row np x2 hp hF => ?_
    have pD : p ≠ D := fun z => by rw [z, h1] at np; cases np
    have prl : p ∉ rl := fun z => h4.some p z np
    have hlen : rl.length = rows.length := h4.len
    refine ⟨_, x2 _ _ h1, by rw [List.length_map, hlen, h2]; exact Nat.lt_of_lt_of_le (by omega : i < 1000001) (by decide), (x1.trans x2).mut hD, rl ++ [p], rows ++ [row], ?_, by rw [List.length_append, h2]; rfl, ?_, ?_, ?_, ?_, ?_⟩
    · rw [upd_same, List.map_append]
      rfl
    · intro k r e
      by_cases c : k < rows.length
      · rw [List.getElem?_append_left c] at e
        exact h3 k r e
      · rw [List.getElem?_append_right (by omega)] at e
        have e0 : k - rows.length = 0 := by
          have := (List.getElem?_eq_some_iff.mp e).1
          simp at this
          omega
        rw [e0] at e
        have e1 : k = i := by omega
        subst e1
        cases e
        exact hF
    · have join : ∀ (l1 : List Addr) (r1 : List (List Int)) (l2 : List Addr) (r2 : List (List Int)), RowsAt (upd H2 D (.lst (rl.map V.ref ++ [V.ref p]))) l1 r1 → RowsAt (upd H2 D (.lst (rl.map V.ref ++ [V.ref p]))) l2 r2 → RowsAt (upd H2 D (.lst (rl.map V.ref ++ [V.ref p]))) (l1 ++ l2) (r1 ++ r2) := by
        intro l1
        induction l1 with
        | nil =>
          intro r1 l2 r2 x y
          cases r1 with
          | nil => exact y
          | cons _ _ => exact x.elim
        | cons c l1 ih =>
          intro r1 l2 r2 x y
          cases r1 with
          | nil => exact x.elim
          | cons s r1 => exact ⟨x.1, ih r1 l2 r2 x.2 y⟩
      refine join rl rows [p] [row] (h4.rel fun b hb o ho => ?_) ⟨?_, True.intro⟩
      · rw [upd_ne (fun z => h6 (by rw [← z]; exact hb))]
        exact x2 _ _ ho
      · rw [upd_ne pD]
        exact hp
    · exact List.nodup_append.mpr ⟨h5, by simp, fun b hb c hc => by
        rw [List.mem_singleton.mp hc]
        exact fun z => prl (by rw [← z]; exact hb)⟩
    · simp only [List.mem_append, List.mem_singleton, not_or]
      exact ⟨h6, pD.symm⟩
    · intro b hb
      rcases List.mem_append.mp hb with m | m
      · exact h7 b m
      · rw [List.mem_singleton.mp m]
        exact x1.back np
  have done : ∀ D, H D = none → ∀ H', Pv D xs.length H' → Q (.ref D) H' := by
    rintro D hD H' ⟨x1, rl, rows, h1, h2, h3, h4, h5, h6, h7⟩
    exact q D H' rl rows hD x1 h1 h2 h3 h4 h5 h6 h7
  rcases hl with hl | hl
  · refine .inl (he _ ⟨a, rfl, ⟨xs, SqL.of hl⟩, fun D hD => ?_⟩)
    exact lc_list (xs := xs) (Pv D) (start D hD) (fun i H' hi p => SqL.of (p.1 _ _ hl)) (body D hD) (done D hD)
  · refine .inr (he _ ⟨a, rfl, ⟨xs, SqT.of hl⟩, fun D hD => ?_⟩)
    exact lc_tup (xs := xs) (Pv D) (start D hD) (fun i H' hi p => SqT.of (p.1 _ _ hl)) (body D hD) (done D hD)
end
end Qb

set_option Elab.async false
set_option linter.all false
set_option maxRecDepth 100000
set_option maxHeartbeats 4000000
/-! Inf6: lists known place by place; dicts of ints; slices of either kind. -/
namespace Qb
open PySem L2
/-- rows, each a list or a tuple -/
def QAt (H : Hp) (ql : List Addr) (q : List (List Int)) : Prop := ql.length = q.length ∧ ∀ (k : Nat) (a : Addr) (r : List Int), ql[k]? = some a → q[k]? = some r → LT H a (r.map V.int)
theorem QAt.rel {H H' : Hp} {ql : List Addr} {q : List (List Int)} (h : QAt H ql q) (e : ∀ a ∈ ql, ∀ o, H a = some o → H' a = some o) : QAt H' ql q :=
  ⟨h.1, fun k a r ha hr => (h.2 k a r ha hr).rel fun o ho => e a (List.mem_iff_getElem?.mpr ⟨k, ha⟩) o ho⟩
theorem QAt.ex {H H' : Hp} {ql : List Addr} {q : List (List Int)} (h : QAt H ql q) (e : Ex H H') : QAt H' ql q := h.rel fun a _ o ho => e a o ho
theorem QAt.some {H : Hp} {ql : List Addr} {q : List (List Int)} (h : QAt H ql q) : ∀ a ∈ ql, H a ≠ none := by
  intro a ha
  obtain ⟨k, hk⟩ := List.mem_iff_getElem?.mp ha
  have hl : k < q.length := by rw [← h.1]; exact (List.getElem?_eq_some_iff.mp hk).1
  rcases h.2 k a _ hk (List.getElem?_eq_getElem hl) with z | z
  · rw [z]; exact fun w => nomatch w
  · rw [z]; exact fun w => nomatch w
theorem get_snoc {α : Type} {l : List α} {x y : α} {k : Nat} (e : (l ++ [x])[k]? = some y) : l[k]? = some y ∨ (k = l.length ∧ y = x) := by
  by_cases c : k < l.length
  · rw [List.getElem?_append_left c] at e
    exact .inl e
  · rw [List.getElem?_append_right (by omega)] at e
    have h0 : k - l.length = 0 := by
      have := (List.getElem?_eq_some_iff.mp e).1
      simp at this
      omega
    rw [h0] at e
    exact .inr ⟨by omega, (Option.some.inj e).symm⟩
theorem QAt.snoc {H : Hp} {ql : List Addr} {q : List (List Int)} {a : Addr} {r : List Int} (h : QAt H ql q) (ha : LT H a (r.map V.int)) : QAt H (ql ++ [a]) (q ++ [r]) := by
  refine ⟨by rw [List.length_append, List.length_append, h.1]; rfl, fun k b s hb hs => ?_⟩
  rcases get_snoc hb with z | ⟨z, rfl⟩
  · rcases get_snoc hs with y | ⟨y, rfl⟩
    · exact h.2 k b s z y
    · have := (List.getElem?_eq_some_iff.mp z).1
      have := h.1
      omega
  · rcases get_snoc hs with y | ⟨y, rfl⟩
    · have := (List.getElem?_eq_some_iff.mp y).1
      have := h.1
      omega
    · exact ha
theorem RowsAt.q {H : Hp} {rl : List Addr} {rows : List (List Int)} (h : RowsAt H rl rows) : QAt H rl rows := ⟨h.len, fun k a r ha hr => by
  obtain ⟨r', h1, h2⟩ := h.get ha
  rw [hr] at h1
  cases h1
  exact .inl h2⟩
theorem RowsAt.snoc {H : Hp} {a : Addr} {s : List Int} (ha : H a = Option.some (il s)) : ∀ {rl : List Addr} {rows : List (List Int)}, RowsAt H rl rows → RowsAt H (rl ++ [a]) (rows ++ [s])
  | [], [], _ => ⟨ha, True.intro⟩
  | b :: as, r :: rs, h => ⟨h.1, RowsAt.snoc ha h.2⟩
  | [], _ :: _, h => h.elim
  | _ :: _, [], h => h.elim
/-- a dict's keys -/
def Kn (f : List (Int × Int)) : List (Key × V) := f.map fun p => ((Sum.inl p.2 : Key), V.bl true)
theorem kn_val (f : List (Int × Int)) (a : Int) : (valV (Kn f) (Sum.inl a : Key)).isSome = decide (a ∈ f.map (·.2)) := by
  rw [← valV_any, Bool.eq_iff_iff]
  simp only [Kn, List.any_map, List.any_eq_true, Function.comp_apply, decide_eq_true_eq, List.mem_map]
  constructor
  · rintro ⟨x, hx, e⟩
    exact ⟨x, hx, Sum.inl.inj e⟩
  · rintro ⟨x, hx, e⟩
    exact ⟨x, hx, congrArg Sum.inl e⟩
theorem kn_put {f : List (Int × Int)} {a : Int} (x : Int) (h : a ∉ f.map (·.2)) : putK (Kn f) (Sum.inl a : Key) (V.bl true) = Kn (f ++ [(x, a)]) := by
  have e := kn_val f a
  rw [decide_eq_false h] at e
  rw [putK_new _ (by cases c : valV (Kn f) (Sum.inl a : Key) with | none => rfl | some y => rw [c] at e; cases e)]
  unfold Kn
  rw [List.map_append]
  rfl
section
variable {K : PySem.W.Frag} {σ : St} {H : Hp} {Q : VK} {n : St → Hp → Prop} {r : VK} {b c : St → Hp → Prop} {te ts ty td tv : TE} {tt : TT}
theorem dnew_i (q : ∀ p H1, H p = none → Ex H H1 → H1 p = some (.dK []) → Q (.ref p) H1) : tDNewK σ H Q := fun p hp => q p _ hp (Ex.new hp) upd_same
theorem dnotin_i (h : ty σ H fun y H1 => td σ H1 fun x H2 => ∃ a i kvs, x = .ref a ∧ y = .int i ∧ H2 a = some (.dK kvs) ∧ Q (.bl (!(valV kvs (Sum.inl i : Key)).isSome)) H2) (m1 : ∀ (Q Q' : VK), (∀ v H, Q v H → Q' v H) → ∀ H, ty σ H Q → ty σ H Q') (m2 : ∀ (Q Q' : VK), (∀ v H, Q v H → Q' v H) → ∀ H, td σ H Q → td σ H Q') : tDNotIn ty td σ H Q := by
  refine m1 _ _ (fun y H1 h1 => ?_) H h
  refine m2 _ _ (fun x H2 h2 => ?_) H1 h1
  obtain ⟨a, i, kvs, rfl, rfl, e, q⟩ := h2
  exact ⟨a, _, rfl, DGet.k (k := Sum.inl i) e, q⟩
theorem notin_i (h : ty σ H fun y H1 => td σ H1 fun x H2 => ∃ a o, x = .ref a ∧ DGet H2 a y o ∧ Q (.bl (!o.isSome)) H2) : tDNotIn ty td σ H Q := h
theorem getK_i {a : Addr} {i : Int} {kvs : List (Key × V)} {P : Option V → Prop} (e : H a = some (.dK kvs)) (q : P (valV kvs (Sum.inl i : Key))) : ∃ a' o, V.ref a = .ref a' ∧ DGet H a' (.int i) o ∧ P o := ⟨a, _, rfl, DGet.k (k := Sum.inl i) e, q⟩
theorem dput_i (h : tv σ H fun v H1 => td σ H1 fun x H2 => ty σ H2 fun y H3 => ∃ a H4, x = .ref a ∧ DPut H3 a y v H4 ∧ n σ H4) : sDPut td ty tv ⟨n, r, b, c⟩ σ H := h
theorem putK_i {a : Addr} {i : Int} {v : V} {kvs : List (Key × V)} {P : Hp → Prop} (e : H a = some (.dK kvs)) (hl : kvs.length < 1000000) (q : P (upd H a (.dK (putK kvs (Sum.inl i : Key) v)))) : ∃ a' H4, V.ref a = .ref a' ∧ DPut H a' (.int i) v H4 ∧ P H4 :=
  ⟨a, _, rfl, DPut.k (k := Sum.inl i) e (Nat.lt_of_lt_of_le hl (by decide)), q⟩
theorem slLT_i {p : Addr} {l : List Int} {i j : Int} (h : LT H p (l.map V.int)) (h0 : 0 < i) (h1 : i ≤ j) (h2 : j ≤ (l.length : Int))
    (q : ∀ p' H1, H p' = none → Ex H H1 → LT H1 p' (((l.drop i.toNat).take (j.toNat - i.toNat)).map V.int) → Q (.ref p') H1) : rSlU K (.ref p) (some i) (some j) H Q := by
  have e : cutV (l.map V.int) (some i) (some j) = ((l.drop i.toNat).take (j.toNat - i.toNat)).map V.int := by
    unfold cutV
    rw [sIx_in (Int.le_of_lt h0) (by rw [List.length_map]; omega), sIx_in (i := j) (by omega) (by rw [List.length_map]; exact h2), ← List.map_drop, ← List.map_take]
  rcases h with h | h
  · exact slL_i h e fun p' H1 a x y => q p' H1 a x (.inl y)
  · refine slT_i h e (fun z => ?_) fun p' H1 a x y => q p' H1 a x (.inr y)
    rw [sIx_in (Int.le_of_lt h0) (by rw [List.length_map]; omega)] at z
    omega
/-- an item for each item, place by place -/
theorem compP_i {j : Nat} {a : Addr} {xs : List V} (G : Nat → V → Prop) (he : ∀ Q : VK, Q (.ref a) H → ts σ H Q) (hl : LT H a xs) (hz : xs.length ≤ 1000000)
    (step : ∀ (k : Nat) (x : V) H1, Ex H H1 → xs[k]? = some x → ∀ Q' : VK, (∀ H2 y, Ex H1 H2 → G k y → Q' y H2) → te ((σ.set j none).set j (some x)) H1 Q')
    (q : ∀ p H1 l, H p = none → Ex H H1 → H1 p = some (.lst l) → l.length = xs.length → (∀ k y, l[k]? = some y → G k y) → Q (.ref p) H1) : tLc (iSeq K ts) (gName j) tYes te [j] σ H Q := by
  let Pv : Addr → Nat → Hp → Prop := fun D k H' => Ex H H' ∧ ∃ l : List V, H' D = some (.lst l) ∧ l.length = k ∧ ∀ i y, l[i]? = some y → G i y
  have start : ∀ D, H D = none → Pv D 0 (upd H D (.lst [])) := fun D hD => ⟨Ex.new hD, [], upd_same, rfl, fun i y e => by simp at e⟩
  have body : ∀ (D : Addr) (hD : H D = none) (i : Nat) (x : V) (H' : Hp), xs[i]? = some x → Pv D i H' →
      gName j x (wipe σ [j]) H' fun σ2 H2 => wipe σ2 [j] = wipe σ [j] ∧ tYes σ2 H2 fun b H3 => if b = true then te σ2 H3 fun y H4 => ∃ acc, H4 D = some (.lst acc) ∧ acc.length < sizeLine ∧ Pv D (i + 1) (upd H4 D (.lst (acc ++ [y]))) else Pv D (i + 1) H3 := by
    rintro D hD i x H' hx ⟨x1, l, h1, h2, h3⟩
    have hi := (List.getElem?_eq_some_iff.mp hx).1
    refine ⟨wipe_set _ _ _, ?_⟩
    refine yes_i (iteT ?_)
    refine step i x H' x1 hx _ fun H2 y x2 gy => ?_
    refine ⟨l, x2 _ _ h1, Nat.lt_of_lt_of_le (by omega : l.length < 1000001) (by decide), (x1.trans x2).mut hD, _, upd_same, by rw [List.length_append, h2]; rfl, fun k z e => ?_⟩
    rcases get_snoc e with w | ⟨w, rfl⟩
    · exact h3 k z w
    · rw [w, h2]; exact gy
  rcases hl with hl | hl
  · refine .inl (he _ ⟨a, rfl, ⟨xs, SqL.of hl⟩, fun D hD => ?_⟩)
    refine lc_list (xs := xs) (Pv D) (start D hD) (fun i H' hi p => SqL.of (p.1 _ _ hl)) (body D hD) ?_
    rintro H' ⟨x1, l, h1, h2, h3⟩
    exact q D H' l hD x1 h1 h2 h3
  · refine .inr (he _ ⟨a, rfl, ⟨xs, SqT.of hl⟩, fun D hD => ?_⟩)
    refine lc_tup (xs := xs) (Pv D) (start D hD) (fun i H' hi p => SqT.of (p.1 _ _ hl)) (body D hD) ?_
    rintro H' ⟨x1, l, h1, h2, h3⟩
    exact q D H' l hD x1 h1 h2 h3
/-- over a list that is already there -/
theorem compPL {j : Nat} {a : Addr} {xs : List V} (G : Nat → V → Prop) (hl : H a = some (.lst xs)) (hz : xs.length ≤ 1000000)
    (step : ∀ (k : Nat) (x : V) H1, Ex H H1 → xs[k]? = some x → ∀ Q' : VK, (∀ H2 y, Ex H1 H2 → G k y → Q' y H2) → te ((σ.set j none).set j (some x)) H1 Q')
    (q : ∀ p H1 l, H p = none → Ex H H1 → H1 p = some (.lst l) → l.length = xs.length → (∀ k y, l[k]? = some y → G k y) → Q (.ref p) H1) : tLc (iList K fun _ H Q => Q (.ref a) H) (gName j) tYes te [j] σ H Q := by
  let Pv : Addr → Nat → Hp → Prop := fun D k H' => Ex H H' ∧ ∃ l : List V, H' D = some (.lst l) ∧ l.length = k ∧ ∀ i y, l[i]? = some y → G i y
  refine ⟨a, rfl, ⟨xs, SqL.of hl⟩, fun D hD => ?_⟩
  refine lc_list (xs := xs) (Pv D) ⟨Ex.new hD, [], upd_same, rfl, fun i y e => by simp at e⟩ (fun i H' hi p => SqL.of (p.1 _ _ hl)) ?_ ?_
  · rintro i x H' hx ⟨x1, l, h1, h2, h3⟩
    have hi := (List.getElem?_eq_some_iff.mp hx).1
    refine ⟨wipe_set _ _ _, ?_⟩
    refine yes_i (iteT ?_)
    refine step i x H' x1 hx _ fun H2 y x2 gy => ?_
    refine ⟨l, x2 _ _ h1, Nat.lt_of_lt_of_le (by omega : l.length < 1000001) (by decide), (x1.trans x2).mut hD, _, upd_same, by rw [List.length_append, h2]; rfl, fun k z e => ?_⟩
    rcases get_snoc e with w | ⟨w, rfl⟩
    · exact h3 k z w
    · rw [w, h2]; exact gy
  · rintro H' ⟨x1, l, h1, h2, h3⟩
    exact q D H' l hD x1 h1 h2 h3
/-- over what a call gives -/
theorem compN_i {j : Nat} (h : ts σ H fun v H1 => ∃ a, v = .ref a ∧ tLc (iList K fun _ H Q => Q (.ref a) H) (gName j) tYes te [j] σ H1 Q) (m : ∀ (Q Q' : VK), (∀ v H, Q v H → Q' v H) → ∀ H, ts σ H Q → ts σ H Q') : tLc (iSeq K ts) (gName j) tYes te [j] σ H Q := by
  refine .inl (m _ _ (fun v H1 z => ?_) H h)
  obtain ⟨a, rfl, z⟩ := z
  exact z
end
end Qb

set_option Elab.async false
set_option linter.all false
set_option maxRecDepth 100000
set_option maxHeartbeats 4000000
/-! Inf7: == of rows and of snapshots. -/
namespace Qb
open PySem PySem.Spec PyProof.Rows L2
open PyProof
def intsD (l : List Int) : List PyData := l.map PyData.int
theorem ints_lay : ∀ l : List Int, PyData.canLayAll0 (intsD l) = true ∧ PyData.depthAll (intsD l) ≤ 1
  | [] => by
    refine ⟨by unfold intsD; rw [List.map_nil, PyData.canLayAll0], ?_⟩
    unfold intsD
    rw [List.map_nil, PyData.depthAll]
    decide
  | x :: l => by
    obtain ⟨h1, h2⟩ := ints_lay l
    unfold intsD at h1 h2 ⊢
    rw [List.map_cons, PyData.canLayAll0, PyData.depthAll]
    refine ⟨by rw [h1, PyData.canLay0]; rfl, ?_⟩
    rw [PyData.depth]
    omega
theorem lay_cons {d : PyData} {ds : List PyData} (h1 : d.canLay0 = true) (h2 : PyData.canLayAll0 ds = true) : PyData.canLayAll0 (d :: ds) = true := by
  rw [PyData.canLayAll0, h1, h2]
  rfl
theorem dep_cons {d : PyData} {ds : List PyData} {n : Nat} (h1 : d.depth ≤ n) (h2 : PyData.depthAll ds ≤ n) : PyData.depthAll (d :: ds) ≤ n := by
  rw [PyData.depthAll]
  exact Nat.max_le.mpr ⟨h1, h2⟩
theorem lay_nil0 : PyData.canLayAll0 [] = true := by rw [PyData.canLayAll0]
theorem dep_nil {n : Nat} : PyData.depthAll [] ≤ n := by rw [PyData.depthAll]; exact Nat.zero_le _
def listD (ds : List PyData) : PyData := .list ds
def tupD (ds : List PyData) : PyData := .tuple ds
theorem lay_list {ds : List PyData} (h : PyData.canLayAll0 ds = true) : (PyData.list ds).canLay0 = true := by rw [PyData.canLay0]; exact h
theorem lay_tup {ds : List PyData} (h : PyData.canLayAll0 ds = true) : (PyData.tuple ds).canLay0 = true := by rw [PyData.canLay0]; exact h
theorem dep_list {ds : List PyData} {n : Nat} (h : PyData.depthAll ds ≤ n) : (PyData.list ds).depth ≤ n + 1 := by rw [PyData.depth]; omega
theorem dep_tup {ds : List PyData} {n : Nat} (h : PyData.depthAll ds ≤ n) : (PyData.tuple ds).depth ≤ n + 1 := by rw [PyData.depth]; omega
theorem lay_int {i : Int} : (PyData.int i).canLay0 = true := by rw [PyData.canLay0]
theorem dep_int {i : Int} {n : Nat} : (PyData.int i).depth ≤ n := by rw [PyData.depth]; exact Nat.zero_le _
theorem dep_str {x : Str} {n : Nat} : (PyData.str x).depth ≤ n := by rw [PyData.depth]; exact Nat.zero_le _
theorem lay_ph (p : Ph) : (PyData.str p.str).canLay0 = true := by
  rw [PyData.canLay0]
  cases p <;> decide +kernel
def rowsD (rows : List (List Int)) : List PyData := rows.map fun r => PyData.list (intsD r)
theorem rows_lay : ∀ rows : List (List Int), PyData.canLayAll0 (rowsD rows) = true ∧ PyData.depthAll (rowsD rows) ≤ 2
  | [] => ⟨lay_nil0, dep_nil⟩
  | r :: rs => ⟨lay_cons (lay_list (ints_lay r).1) (rows_lay rs).1, dep_cons (dep_list (ints_lay r).2) (rows_lay rs).2⟩
section
variable {K : PySem.W.Frag} {H : Hp} {Q : VK}
theorem dp_ints : ∀ l : List Int, DpAll K H (l.map V.int) (intsD l)
  | [] => .nil
  | x :: l => .cons (.int x) (dp_ints l)
theorem dp_rows : ∀ {rl : List Addr} {rows : List (List Int)}, RowsAt H rl rows → DpAll K H (rl.map V.ref) (rowsD rows)
  | [], [], _ => .nil
  | a :: as, r :: rs, h => .cons (.lst (SqL.of h.1) (dp_ints r)) (dp_rows h.2)
theorem eqRows_i {a b : Addr} {rl ml : List Addr} {rows : List (List Int)} (ha : H a = some (.lst (rl.map V.ref))) (hb : H b = some (.lst (ml.map V.ref))) (h1 : RowsAt H rl rows) (h2 : RowsAt H ml rows) (q : Q (.bl true) H) : rEqU K (.ref a) (.ref b) H Q := by
  obtain ⟨z1, z2⟩ := rows_lay rows
  have sh : SeqAt.shaped (.list (rowsD rows)) = true := by
    unfold SeqAt.shaped
    rw [lay_list z1, decide_eq_true (Nat.le_trans (dep_list z2) (by decide))]
    rfl
  refine .inr ⟨.list (rowsD rows), .list (rowsD rows), .lst (SqL.of ha) (dp_rows h1), .lst (SqL.of hb) (dp_rows h2), sh, sh, ?_⟩
  rw [SeqAt.eqv_refl _ (lay_list z1)]
  exact q
def shotD (h : HS) : PyData := .tuple [.str h.ph.str, .int h.yt, .int h.base, .int h.top, .int h.ob, .int h.ot, .int h.cur, .tuple (intsD h.gr), .tuple (intsD h.rem), .int h.pend, .tuple (intsD h.words)]
theorem dp_shot {h : HS} {t : Addr} (s : Shot h t H) : Dp K H (.ref t) (shotD h) := by
  obtain ⟨g, r, w, e0, e1, e2, e3⟩ := s
  exact .tup (SqT.of e0) (.cons (.str _) (.cons (.int _) (.cons (.int _) (.cons (.int _) (.cons (.int _) (.cons (.int _) (.cons (.int _) (.cons (.tup (SqT.of e1) (dp_ints _)) (.cons (.tup (SqT.of e2) (dp_ints _)) (.cons (.int _) (.cons (.tup (SqT.of e3) (dp_ints _)) .nil)))))))))))
theorem shot_lay (h : HS) : (shotD h).canLay0 = true :=
  lay_tup (lay_cons (lay_ph _) (lay_cons lay_int (lay_cons lay_int (lay_cons lay_int (lay_cons lay_int (lay_cons lay_int (lay_cons lay_int (lay_cons (lay_tup (ints_lay _).1) (lay_cons (lay_tup (ints_lay _).1) (lay_cons lay_int (lay_cons (lay_tup (ints_lay _).1) lay_nil0)))))))))))
theorem shot_dep (h : HS) : (shotD h).depth ≤ 3 :=
  dep_tup (dep_cons dep_str (dep_cons dep_int (dep_cons dep_int (dep_cons dep_int (dep_cons dep_int (dep_cons dep_int (dep_cons dep_int (dep_cons (dep_tup (ints_lay _).2) (dep_cons (dep_tup (ints_lay _).2) (dep_cons dep_int (dep_cons (dep_tup (ints_lay _).2) dep_nil)))))))))))
theorem eqShot_i {h : HS} {t u : Addr} (h1 : Shot h t H) (h2 : Shot h u H) (q : Q (.bl true) H) : rEqU K (.ref t) (.ref u) H Q := by
  have sh : SeqAt.shaped (shotD h) = true := by
    unfold SeqAt.shaped
    rw [shot_lay, decide_eq_true (Nat.le_trans (shot_dep h) (by decide))]
    rfl
  refine .inr ⟨shotD h, shotD h, dp_shot h1, dp_shot h2, sh, sh, ?_⟩
  rw [SeqAt.eqv_refl _ (shot_lay h)]
  exact q
end
end Qb

set_option Elab.async false
set_option linter.all false
set_option maxRecDepth 100000
set_option maxHeartbeats 4000000
/-! Prog1: the program's functions, read: words, reading and writing. -/
namespace Qb
open PySem L2
def t_form_word (K : PySem.W.Frag) (C : Addr) : TS := (tRet (tOp (rPlus K) (tOp rTimes (tC (.int 64)) (tVar 1)) (tVar 0)))
def t_state_word (K : PySem.W.Frag) (C : Addr) : TS := (tRet (tOp (rPlus K) (tOp (rPlus K) (tOp rTimes (tC (.int 8)) (tVar 2)) (tOp rTimes (tC (.int 4)) (tVar 1))) (tVar 0)))
def t_length_of (K : PySem.W.Frag) (C : Addr) : TS := (tRet (tOp rFloor (tVar 0) (tC (.int 64))))
def t_colour_of (K : PySem.W.Frag) (C : Addr) : TS := (tRet (tOp rRest (tVar 0) (tC (.int 4))))
def t_remembered_of (K : PySem.W.Frag) (C : Addr) : TS := (tRet (tOp rRest (tOp rFloor (tVar 0) (tC (.int 4))) (tC (.int 2))))
def t_forward_of (K : PySem.W.Frag) (C : Addr) : TS := (tRet (tOp rFloor (tVar 0) (tC (.int 8))))
def t_reference_word (K : PySem.W.Frag) (C : Addr) : TS := (tRet (tOp rTimes (tC (.int 2)) (tVar 0)))
def t_is_reference (K : PySem.W.Frag) (C : Addr) : TS := (tRet (tAndV (tOp (rEqU K) (tOp rRest (tVar 0) (tC (.int 2))) (tC (.int 0))) (tOp (rNeU K) (tVar 0) (tC (.int 0)))))
def t_address_of (K : PySem.W.Frag) (C : Addr) : TS := (tRet (tOp rFloor (tVar 0) (tC (.int 2))))
def t_size_of (K : PySem.W.Frag) (C : Addr) : TS := (tRet (tOp (rPlus K) (tVar 0) (tC (.int 2))))
def t_is_young (K : PySem.W.Frag) (C : Addr) : TS := (tRet (tChain rLe rLe (tC (.int 1)) (tVar 1) (tFld K (tVar 0) "nursery")))
def t_block_size (K : PySem.W.Frag) (C : Addr) : TS := (tRet (tCallF 1 (phi_size_of K C) (tCons (tCallF 1 (phi_length_of K C) (tCons (tOp (rIx K) (tFld K (tVar 0) "words") (tVar 1)) tNil)) tNil)))
def t_payload_places (K : PySem.W.Frag) (C : Addr) : TS := (tRet (tTup (tCons (tOp (rPlus K) (tVar 1) (tC (.int 2))) (tCons (tOp (rPlus K) (tVar 1) (tCallF 2 (phi_block_size K C) (tCons (tVar 0) (tCons (tVar 1) tNil)))) tNil))))
def t_resolve (K : PySem.W.Frag) (C : Addr) : TS := (tThen (tIfS (tTest (tOp (rIn K true) (tFld K (tVar 0) "phase") (tTup (tCons (tC (.str "moving")) (tCons (tC (.str "updating")) tNil))))) (tRet (tVar 1)) tNext) (tThen (tIfS (tNot (tTest (tChain rLe rLt (tFld K (tVar 0) "base") (tVar 1) (tOp (rPlus K) (tFld K (tVar 0) "base") (tFld K (tVar 0) "capacity"))))) (tRet (tVar 1)) tNext) (tThen (tAsg (tCallF 1 (phi_forward_of K C) (tCons (tOp (rIx K) (tFld K (tVar 0) "words") (tOp (rPlus K) (tVar 1) (tC (.int 1)))) tNil)) (gName 2)) (tThen (tIfS (tTest (tOp rGt (tVar 2) (tC (.int 0)))) (tRet (tVar 2)) tNext) (tRet (tVar 1))))))
def t_resolve_word (K : PySem.W.Frag) (C : Addr) : TS := (tThen (tIfS (tB (tCallF 1 (phi_is_reference K C) (tCons (tVar 1) tNil))) (tRet (tCallF 1 (phi_reference_word K C) (tCons (tCallF 2 (phi_resolve K C) (tCons (tVar 0) (tCons (tCallF 1 (phi_address_of K C) (tCons (tVar 1) tNil)) tNil))) tNil))) tNext) (tRet (tVar 1)))
def t_shade (K : PySem.W.Frag) (C : Addr) : TS := (tThen (tAsg (tOp (rIx K) (tFld K (tVar 0) "words") (tOp (rPlus K) (tVar 1) (tC (.int 1)))) (gName 2)) (tThen (tAsg (tCallF 3 (phi_state_word K C) (tCons (tC (.int 1)) (tCons (tCallF 1 (phi_remembered_of K C) (tCons (tVar 2) tNil)) (tCons (tCallF 1 (phi_forward_of K C) (tCons (tVar 2) tNil)) tNil)))) (gSub (tFld K (tVar 0) "words") (tOp (rPlus K) (tVar 1) (tC (.int 1))) rSetL)) (tDrop (tBM K "list" rAppend (tFld K (tVar 0) "grays") (tCons (tVar 1) tNil)))))
def t_remember (K : PySem.W.Frag) (C : Addr) : TS := (tThen (tAsg (tOp (rIx K) (tFld K (tVar 0) "words") (tOp (rPlus K) (tVar 1) (tC (.int 1)))) (gName 2)) (tIfS (tTest (tOp (rEqU K) (tCallF 1 (phi_remembered_of K C) (tCons (tVar 2) tNil)) (tC (.int 0)))) (tThen (tAsg (tCallF 3 (phi_state_word K C) (tCons (tCallF 1 (phi_colour_of K C) (tCons (tVar 2) tNil)) (tCons (tC (.int 1)) (tCons (tCallF 1 (phi_forward_of K C) (tCons (tVar 2) tNil)) tNil)))) (gSub (tFld K (tVar 0) "words") (tOp (rPlus K) (tVar 1) (tC (.int 1))) rSetL)) (tDrop (tBM K "list" rAppend (tFld K (tVar 0) "remembered") (tCons (tVar 1) tNil)))) tNext))
def t_write_word (K : PySem.W.Frag) (C : Addr) : TS := (tThen (tAsg (tCallF 2 (phi_resolve K C) (tCons (tVar 0) (tCons (tVar 1) tNil))) (gName 4)) (tThen (tAsg (tCallF 2 (phi_resolve_word K C) (tCons (tVar 0) (tCons (tVar 3) tNil))) (gName 5)) (tThen (tAsg (tCallF 2 (phi_payload_places K C) (tCons (tVar 0) (tCons (tVar 4) tNil))) (gTup K 2 (gCons (gName 6) (gCons (gName 7) gNil)))) (tThen (tAsg (tVar 5) (gSub (tFld K (tVar 0) "words") (tOp (rPlus K) (tVar 6) (tVar 2)) rSetL)) (tIfS (tAnd (tB (tCallF 1 (phi_is_reference K C) (tCons (tVar 5) tNil))) (tNot (tB (tCallF 2 (phi_is_young K C) (tCons (tVar 0) (tCons (tVar 4) tNil)))))) (tDrop (tCallF 3 (phi_note_reference K C) (tCons (tVar 0) (tCons (tVar 4) (tCons (tCallF 1 (phi_address_of K C) (tCons (tVar 5) tNil)) tNil))))) tNext)))))
def t_note_reference (K : PySem.W.Frag) (C : Addr) : TS := (tIfS (tB (tCallF 2 (phi_is_young K C) (tCons (tVar 0) (tCons (tVar 2) tNil)))) (tDrop (tCallF 2 (phi_remember K C) (tCons (tVar 0) (tCons (tVar 1) tNil)))) (tIfS (tAnd (tTest (tOp (rEqU K) (tFld K (tVar 0) "phase") (tC (.str "marking")))) (tTest (tOp (rEqU K) (tCallF 1 (phi_colour_of K C) (tCons (tOp (rIx K) (tFld K (tVar 0) "words") (tOp (rPlus K) (tVar 1) (tC (.int 1)))) tNil)) (tC (.int 2))))) (tIfS (tTest (tOp (rEqU K) (tCallF 1 (phi_colour_of K C) (tCons (tOp (rIx K) (tFld K (tVar 0) "words") (tOp (rPlus K) (tVar 2) (tC (.int 1)))) tNil)) (tC (.int 0)))) (tDrop (tCallF 2 (phi_shade K C) (tCons (tVar 0) (tCons (tVar 2) tNil)))) tNext) tNext))
local macro_rules | `(tactic| walk_at "lk") => `(tactic| first
  | assumption
  | exact upd_same
  | (refine upd_get ?_ ?_; walk_at "ne"; walk_at "lk")
  | (refine Ex.get (by assumption) ?_; walk_at "lk")
  | (refine Fr.get (by assumption) ?_ ?_; walk_at "lk"; walk_at "nin"))
local macro_rules | `(tactic| walk_at "ne") => `(tactic| first
  | assumption
  | (refine Ne.symm ?_; assumption)
  | (refine ne_of_none ?_ (by assumption); walk_at "lk")
  | (refine Ne.symm (ne_of_none ?_ (by assumption)); walk_at "lk"))
local macro_rules | `(tactic| walk_at "nin") => `(tactic| first
  | assumption
  | (simp only [List.mem_cons, List.not_mem_nil, or_false, not_or]; (try refine ⟨?_, ?_⟩) <;> (repeat' refine ⟨?_, ?_⟩) <;> walk_at "ne"))
local macro_rules | `(tactic| walk_at "lt") => `(tactic| first
  | assumption
  | exact Or.inl (by walk_at "lk")
  | exact Or.inr (by walk_at "lk")
  | (refine LT.ex ?_ (by assumption); walk_at "lt"))
local macro_rules | `(tactic| walk_at "mem") => `(tactic| first
  | exact Or.inl (by simp [Ids.all])
  | exact Or.inr (by assumption)
  | (refine Fr.fresh ?_ (by assumption); walk_at "fr"))
local macro_rules | `(tactic| walk_at "fr") => `(tactic| first
  | exact Fr.refl _ _
  | assumption
  | exact Ex.fr (by assumption)
  | (refine Fr.upd ?_ ?_; walk_at "fr"; walk_at "mem")
  | (refine Fr.ex ?_ (by assumption); walk_at "fr")
  | (refine Fr.trans ?_ (by assumption) ?_; walk_at "fr"; (intro a ha; exact Or.inl ha)))
local macro_rules | `(tactic| walk_at "rep") => `(tactic| first
  | assumption
  | exact ⟨by walk_at "lk", by walk_at "lk", by walk_at "lk", by walk_at "lk", by walk_at "ne", by walk_at "ne", by walk_at "ne"⟩)
local macro_rules | `(tactic| walk_at "n") => `(tactic| first | decide | omega)
local macro_rules | `(tactic| walk_at "go") => `(tactic| repeat (with_reducible first
  | (apply var_i; (k_dflt rfl))
  | apply c_i
  | apply op_i
  | apply fld_i
  | apply un_i
  | apply ru_i
  | apply cons_i
  | apply nil_i
  | apply call_i
  | apply plus_i
  | apply minus_i
  | apply i0_i
  | apply eq_i
  | apply ne_i
  | apply bl_i
  | apply test_i
  | apply tb_i
  | apply seq_i
  | apply asg_i
  | apply ret_i
  | apply if_i
  | apply iteT
  | apply iteF
  | apply next_i
  | apply drop_i
  | apply retN_i
  | apply and_i
  | apply or_i
  | apply not_i
  | apply andv_i
  | apply orv_i
  | apply notv_i
  | apply notvr_i
  | apply cb_i
  | apply tup_i
  | apply lst_i
  | apply chain_i
  | apply slice_i
  | apply part_i
  | apply part_int
  | apply nopart_i
  | apply bm_i
  | apply sfld_i
  | apply asub_i
  | apply aslice_i
  | apply atup2_i
  | apply break_i
  | apply eqMarking_i
  | apply eqIdle_i
  | apply eqMoving_i
  | apply neIdle_i
  | apply intU_i
  | apply intU_b
  | apply i1_i
  | apply i2_i
  | apply i3_i
  | (apply times_i; (walk_at "n"))
  | (apply times_j; (walk_at "n"))
  | (apply floor_i; (walk_at "n"); (walk_at "n"))
  | (apply rest_i; (walk_at "n"))
  | (apply len_i; (k_dflt rfl))
  | (apply f_words; assumption; (walk_at "lk"))
  | (apply f_nur; assumption; (walk_at "lk"))
  | (apply f_cap; assumption; (walk_at "lk"))
  | (apply f_yt; assumption; (walk_at "lk"))
  | (apply f_base; assumption; (walk_at "lk"))
  | (apply f_top; assumption; (walk_at "lk"))
  | (apply f_ob; assumption; (walk_at "lk"))
  | (apply f_ot; assumption; (walk_at "lk"))
  | (apply f_ph; assumption; (walk_at "lk"))
  | (apply f_cur; assumption; (walk_at "lk"))
  | (apply f_gr; assumption; (walk_at "lk"))
  | (apply f_rem; assumption; (walk_at "lk"))
  | (apply f_pend; assumption; (walk_at "lk"))
  | (apply ixI_i; (walk_at "lk"); assumption)
  | (apply ixL_i; (walk_at "lk"); (k_dflt rfl))
  | (apply ixLT_i; assumption; (k_dflt rfl))
  | (apply ixLTI_i; assumption; assumption)
  | (apply pow_i; (walk_at "n"); (walk_at "n"))
  | apply minU_i
  | apply maxU_i
  | (apply setI_i; (walk_at "lk"); assumption)
  | (apply tyl_i; (walk_at "lk"))
  | (apply appendI_i; (walk_at "lk"); (walk_at "n"))
  | (apply inLate_t; (walk_at "lk"))
  | (apply inLate_l; (walk_at "lk"))
  | (apply notLate_t; (walk_at "lk"))))
section
variable {K : PySem.W.Frag} {C : Addr}
theorem isRef_eq (x : Int) : isRef x = (decide (x % 2 = 0) && !decide (x = 0)) := rfl
theorem pure_form_word (T : HC K C) : PureOk (t_form_word K C) ["shape_number", "length"] 2 (phi_form_word K C) := by
  intro vs H Q hl h
  delta t_form_word
  obtain ⟨x, y, rfl, q⟩ := h
  walk_at "go"
  exact q
theorem pure_state_word (T : HC K C) : PureOk (t_state_word K C) ["colour", "remembered", "forward"] 3 (phi_state_word K C) := by
  intro vs H Q hl h
  delta t_state_word
  obtain ⟨x, y, z, rfl, q⟩ := h
  walk_at "go"
  exact q
theorem pure_length_of (T : HC K C) : PureOk (t_length_of K C) ["word"] 1 (phi_length_of K C) := by
  intro vs H Q hl h
  delta t_length_of
  obtain ⟨x, rfl, q⟩ := h
  walk_at "go"
  exact q
theorem pure_colour_of (T : HC K C) : PureOk (t_colour_of K C) ["word"] 1 (phi_colour_of K C) := by
  intro vs H Q hl h
  delta t_colour_of
  obtain ⟨x, rfl, q⟩ := h
  walk_at "go"
  exact q
theorem pure_remembered_of (T : HC K C) : PureOk (t_remembered_of K C) ["word"] 1 (phi_remembered_of K C) := by
  intro vs H Q hl h
  delta t_remembered_of
  obtain ⟨x, rfl, q⟩ := h
  walk_at "go"
  exact q
theorem pure_forward_of (T : HC K C) : PureOk (t_forward_of K C) ["word"] 1 (phi_forward_of K C) := by
  intro vs H Q hl h
  delta t_forward_of
  obtain ⟨x, rfl, q⟩ := h
  walk_at "go"
  exact q
theorem pure_reference_word (T : HC K C) : PureOk (t_reference_word K C) ["address"] 1 (phi_reference_word K C) := by
  intro vs H Q hl h
  delta t_reference_word
  obtain ⟨x, rfl, q⟩ := h
  walk_at "go"
  exact q
theorem pure_is_reference (T : HC K C) : PureOk (t_is_reference K C) ["word"] 1 (phi_is_reference K C) := by
  intro vs H Q hl h
  delta t_is_reference
  obtain ⟨x, rfl, q⟩ := h
  walk_at "go"
  refine andvr_i (fun d => ?_) (fun d => ?_)
  · walk_at "go"
    simpa only [isRef_eq, d, Bool.true_and] using q
  · simpa only [isRef_eq, d, Bool.false_and] using q
theorem pure_address_of (T : HC K C) : PureOk (t_address_of K C) ["word"] 1 (phi_address_of K C) := by
  intro vs H Q hl h
  delta t_address_of
  obtain ⟨x, rfl, q⟩ := h
  walk_at "go"
  exact q
theorem pure_size_of (T : HC K C) : PureOk (t_size_of K C) ["length"] 1 (phi_size_of K C) := by
  intro vs H Q hl h
  delta t_size_of
  obtain ⟨x, rfl, q⟩ := h
  walk_at "go"
  exact q
theorem pure_is_young (T : HC K C) : PureOk (t_is_young K C) ["heap", "address"] 2 (phi_is_young K C) := by
  intro vs H Q hl h
  delta t_is_young
  obtain ⟨i, h, a, rfl, R, q⟩ := h
  have hO := R.o
  walk_at "go"
  refine chainr_i (fun d => ?_) (fun d => ?_)
  · walk_at "go"
    have e : h.isY a = decide (a ≤ h.nur) := by simp only [HS.isY, d, Bool.true_and]
    rw [e] at q
    exact q
  · have e : h.isY a = false := by simp only [HS.isY, d, Bool.false_and]
    rw [e] at q
    exact q
theorem pure_block_size (T : HC K C) : PureOk (t_block_size K C) ["heap", "address"] 2 (phi_block_size K C) := by
  intro vs H Q hl h
  delta t_block_size
  obtain ⟨i, h, a, f, rfl, R, hf, q⟩ := h
  obtain ⟨hO, hW, hG, hR, n1, n2, n3⟩ := id R
  walk_at "go"
  exact q
theorem pure_payload_places (T : HC K C) : PureOk (t_payload_places K C) ["heap", "address"] 2 (phi_payload_places K C) := by
  intro vs H Q hl h
  delta t_payload_places
  obtain ⟨i, h, a, f, rfl, R, hf, q⟩ := h
  walk_at "go"
  refine ⟨i, h, a, f, rfl, R, hf, ?_⟩
  walk_at "go"
  refine tupr_i (by simp) fun p H1 n e hp => ?_
  exact q p H1 n e hp
theorem pure_resolve (T : HC K C) : PureOk (t_resolve K C) ["heap", "address", "forward"] 2 (phi_resolve K C) := by
  intro vs H Q hl h
  delta t_resolve
  obtain ⟨i, h, a, b, rfl, R, hM, q⟩ := h
  obtain ⟨hO, hW, hG, hR, n1, n2, n3⟩ := id R
  unfold resolveM at hM
  walk_at "go"
  refine tupr_i (by simp) fun p H1 n e hp => ?_
  walk_at "go"
  refine ite_b (fun d => ?_) (fun d => ?_)
  · simp only [Bool.not_eq_true'] at d
    rw [if_neg (by rw [d]; exact Bool.false_ne_true)] at hM
    cases hM
    walk_at "go"
    exact q _ e
  · simp only [Bool.not_eq_false'] at d
    rw [if_pos d] at hM
    walk_at "go"
    have key : ∀ P : Prop, ((h.base ≤ a ∧ a < h.base + h.cap) → P) → (¬ (h.base ≤ a ∧ a < h.base + h.cap) → P) → P := fun P x y => if z : _ then x z else y z
    have out : ¬ (h.base ≤ a ∧ a < h.base + h.cap) → Q (.int a) H1 := fun z => by
      rw [if_neg z] at hM
      cases hM
      exact q _ e
    refine chainr_i (fun d1 => ?_) (fun d1 => ?_)
    · walk_at "go"
      refine ite_b (fun d2 => ?_) (fun d2 => ?_)
      · walk_at "go"
        simp at d1 d2
        rw [if_neg (by omega)] at hM
        cases hM
        exact q _ e
      · walk_at "go"
        simp at d1 d2
        rw [if_pos ⟨d1, d2⟩] at hM
        obtain ⟨s, hs, hM⟩ := Option.bind_eq_some_iff.mp hM
        walk_at "go"
        refine ite_b (fun d3 => ?_) (fun d3 => ?_)
        · walk_at "go"
          rw [if_pos (by simpa using d3)] at hM
          cases hM
          exact q _ e
        · walk_at "go"
          rw [if_neg (by simpa using d3)] at hM
          cases hM
          exact q _ e
    · walk_at "go"
      simp at d1
      refine ite_b (fun d2 => ?_) (fun d2 => ?_)
      · walk_at "go"
        exact out (by omega)
      · cases d2
theorem pure_resolve_word (T : HC K C) : PureOk (t_resolve_word K C) ["heap", "word"] 2 (phi_resolve_word K C) := by
  intro vs H Q hl h
  delta t_resolve_word
  obtain ⟨i, h, a, b, rfl, R, hM, q⟩ := h
  obtain ⟨hO, hW, hG, hR, n1, n2, n3⟩ := id R
  unfold resolveW at hM
  walk_at "go"
  refine ite_b (fun d => ?_) (fun d => ?_)
  · rw [if_pos d] at hM
    obtain ⟨s, hs, hM⟩ := Option.bind_eq_some_iff.mp hM
    cases hM
    walk_at "go"
    refine ⟨i, h, _, _, rfl, R, hs, fun H1 e => ?_⟩
    walk_at "go"
    exact q _ e
  · rw [if_neg (by rw [d]; exact Bool.false_ne_true)] at hM
    cases hM
    walk_at "go"
    exact q _ (Ex.refl _)
theorem pure_shade (T : HC K C) : PureOk (t_shade K C) ["heap", "address", "state"] 2 (phi_shade K C) := by
  intro vs H Q hl h
  delta t_shade
  obtain ⟨i, h, a, h', rfl, R, hM, q⟩ := h
  obtain ⟨hO, hW, hG, hR, n1, n2, n3⟩ := id R
  have m1 := R.pw
  have m2 := R.pg
  have m3 := R.pr
  simp only [shadeM, bind, Option.bind_eq_some_iff, Option.some.injEq, grd_iff, decide_eq_true_eq] at hM
  obtain ⟨s, hs, _, hg, ws, hw, rfl⟩ := hM
  walk_at "go"
  exact q _ (by walk_at "rep") (by walk_at "fr")
theorem pure_remember (T : HC K C) : PureOk (t_remember K C) ["heap", "address", "state"] 2 (phi_remember K C) := by
  intro vs H Q hl h
  delta t_remember
  obtain ⟨i, h, a, h', rfl, R, hM, q⟩ := h
  obtain ⟨hO, hW, hG, hR, n1, n2, n3⟩ := id R
  have m1 := R.pw
  have m2 := R.pg
  have m3 := R.pr
  simp only [rememberM, bind, Option.bind_eq_some_iff] at hM
  obtain ⟨s, hs, hM⟩ := hM
  walk_at "go"
  refine ite_b (fun d => ?_) (fun d => ?_)
  · rw [if_pos (of_decide_eq_true d)] at hM
    simp only [bind, Option.bind_eq_some_iff, Option.some.injEq, grd_iff, decide_eq_true_eq] at hM
    obtain ⟨_, hg, ws, hw, rfl⟩ := hM
    walk_at "go"
    exact q _ (by walk_at "rep") (by walk_at "fr")
  · rw [if_neg (of_decide_eq_false d)] at hM
    cases hM
    walk_at "go"
    exact q _ R (by walk_at "fr")
theorem pure_note_reference (T : HC K C) : PureOk (t_note_reference K C) ["heap", "block", "target"] 3 (phi_note_reference K C) := by
  intro vs H Q hl h
  delta t_note_reference
  obtain ⟨i, h, b, t, h', rfl, R, hM, q⟩ := h
  obtain ⟨hO, hW, hG, hR, n1, n2, n3⟩ := id R
  unfold noteM at hM
  walk_at "go"
  refine ⟨i, h, _, rfl, R, ?_⟩
  walk_at "go"
  refine ite_b (fun d => ?_) (fun d => ?_)
  · rw [if_pos d] at hM
    walk_at "go"
    refine ⟨i, h, _, _, rfl, R, hM, fun H1 R1 f1 => ?_⟩
    walk_at "go"
    exact q _ R1 f1
  · rw [if_neg (by rw [d]; exact Bool.false_ne_true)] at hM
    walk_at "go"
    refine ite_b (fun d1 => ?_) (fun d1 => ?_)
    · rw [if_pos (of_decide_eq_true d1)] at hM
      simp only [bind, Option.bind_eq_some_iff] at hM
      obtain ⟨s, hs, hM⟩ := hM
      walk_at "go"
      refine ite_b (fun d2 => ?_) (fun d2 => ?_)
      · rw [if_pos (of_decide_eq_true d2)] at hM
        obtain ⟨u, hu, hM⟩ := Option.bind_eq_some_iff.mp hM
        walk_at "go"
        refine ite_b (fun d3 => ?_) (fun d3 => ?_)
        · rw [if_pos (of_decide_eq_true d3)] at hM
          walk_at "go"
          refine ⟨i, h, _, _, rfl, R, hM, fun H1 R1 f1 => ?_⟩
          walk_at "go"
          exact q _ R1 f1
        · rw [if_neg (of_decide_eq_false d3)] at hM
          cases hM
          walk_at "go"
          exact q _ R (by walk_at "fr")
      · rw [if_neg (of_decide_eq_false d2)] at hM
        cases hM
        walk_at "go"
        exact q _ R (by walk_at "fr")
    · rw [if_neg (of_decide_eq_false d1)] at hM
      cases hM
      walk_at "go"
      exact q _ R (by walk_at "fr")
theorem pure_write_word (T : HC K C) : PureOk (t_write_word K C) ["heap", "address", "place", "word", "block", "stored", "first", "_"] 4 (phi_write_word K C) := by
  intro vs H Q hl h
  delta t_write_word
  obtain ⟨i, h, a, p, w, h', rfl, R, hM, q⟩ := h
  simp only [writeM, bind, Option.bind_eq_some_iff] at hM
  obtain ⟨bb, hb, v, hv, f, hf, ws, hw, hM⟩ := hM
  walk_at "go"
  refine ⟨i, h, _, _, rfl, R, hb, fun H1 e1 => ?_⟩
  have R1 := R.ex e1
  walk_at "go"
  refine ⟨i, h, _, _, rfl, R1, hv, fun H2 e2 => ?_⟩
  have R2 := R1.ex e2
  walk_at "go"
  refine ⟨i, h, _, _, rfl, R2, hf, fun u H3 hu e3 hp => ?_⟩
  have R3 := R2.ex e3
  obtain ⟨hO, hW, hG, hR, n1, n2, n3⟩ := id R3
  have m1 := R3.pw
  apply tup2_i hp
  walk_at "go"
  have R4 : Rep C i { h with words := ws } (upd H3 i.w (il ws)) := by walk_at "rep"
  have f4 : Fr i.all H (upd H3 i.w (il ws)) := Fr.upd (((e1.trans e2).trans e3).fr) (.inl (by simp [Ids.all]))
  have fin : isRef v = true → h.isY bb = false → noteM { h with words := ws } bb (v / 2) = some h' := fun x y => by
    rw [x, y] at hM
    exact hM
  have oth : (isRef v && !h.isY bb) = false → Q .non (upd H3 i.w (il ws)) := fun x => by
    rw [x] at hM
    cases hM
    exact q _ R4 f4
  refine ite_b (fun d => ?_) (fun d => ?_)
  · walk_at "go"
    refine ⟨i, { h with words := ws }, _, rfl, R4, ?_⟩
    walk_at "go"
    refine ite_b (fun d1 => ?_) (fun d1 => ?_)
    · simp only [Bool.not_eq_true'] at d1
      walk_at "go"
      refine ⟨i, _, _, _, _, rfl, R4, fin d d1, fun H5 R5 f5 => ?_⟩
      exact q _ R5 (f4.trans f5 fun a ha => .inl ha)
    · walk_at "go"
      refine oth ?_
      have d2 : (!h.isY bb) = false := d1
      rw [d2, Bool.and_false]
  · simp only [Bool.false_eq_true, if_false]
    walk_at "go"
    refine oth ?_
    rw [d, Bool.false_and]
end
end Qb

set_option Elab.async false
set_option linter.all false
set_option maxRecDepth 100000
set_option maxHeartbeats 4000000
/-! Prog2: the program's functions, read: the young blocks, placing. -/
namespace Qb
open PySem L2
def t_claim_old (K : PySem.W.Frag) (C : Addr) : TS := (tThen (tIfS (tTest (tOp (rIn K false) (tFld K (tVar 0) "phase") (tTup (tCons (tC (.str "moving")) (tCons (tC (.str "updating")) tNil))))) (tThen (tAsg (tFld K (tVar 0) "other_top") (gName 2)) (sFld K (tVar 0) (tOp (rPlus K) (tVar 2) (tVar 1)) "other_top")) (tThen (tAsg (tFld K (tVar 0) "top") (gName 2)) (sFld K (tVar 0) (tOp (rPlus K) (tVar 2) (tVar 1)) "top"))) (tRet (tVar 2)))
def t_copy_old (K : PySem.W.Frag) (C : Addr) : TS := (tThen (tAsg (tCallF 2 (phi_block_size K C) (tCons (tVar 0) (tCons (tVar 1) tNil))) (gName 2)) (tThen (tAsg (tCallF 2 (phi_claim_old K C) (tCons (tVar 0) (tCons (tVar 2) tNil))) (gName 3)) (tThen (tAsg (tSl (rSlU K) (tFld K (tVar 0) "words") (tPart (tVar 1)) (tPart (tOp (rPlus K) (tVar 1) (tVar 2)))) (gSubSl (tFld K (tVar 0) "words") (tPart (tVar 3)) (tPart (tOp (rPlus K) (tVar 3) (tVar 2))))) (tThen (tIfS (tTest (tOp (rEqU K) (tFld K (tVar 0) "phase") (tC (.str "marking")))) (tThen (tAsg (tCallF 3 (phi_state_word K C) (tCons (tC (.int 1)) (tCons (tC (.int 0)) (tCons (tC (.int 0)) tNil)))) (gSub (tFld K (tVar 0) "words") (tOp (rPlus K) (tVar 3) (tC (.int 1))) rSetL)) (tDrop (tBM K "list" rAppend (tFld K (tVar 0) "grays") (tCons (tVar 3) tNil)))) (tAsg (tCallF 3 (phi_state_word K C) (tCons (tC (.int 0)) (tCons (tC (.int 0)) (tCons (tC (.int 0)) tNil)))) (gSub (tFld K (tVar 0) "words") (tOp (rPlus K) (tVar 3) (tC (.int 1))) rSetL))) (tRet (tVar 3))))))
def t_promote (K : PySem.W.Frag) (C : Addr) : TS := (tThen (tAsg (tCallF 1 (phi_forward_of K C) (tCons (tOp (rIx K) (tFld K (tVar 0) "words") (tOp (rPlus K) (tVar 1) (tC (.int 1)))) tNil)) (gName 3)) (tThen (tIfS (tTest (tOp rGt (tVar 3) (tC (.int 0)))) (tRet (tVar 3)) tNext) (tThen (tAsg (tCallF 2 (phi_copy_old K C) (tCons (tVar 0) (tCons (tVar 1) tNil))) (gName 4)) (tThen (tAsg (tCallF 3 (phi_state_word K C) (tCons (tCallF 1 (phi_colour_of K C) (tCons (tOp (rIx K) (tFld K (tVar 0) "words") (tOp (rPlus K) (tVar 1) (tC (.int 1)))) tNil)) (tCons (tC (.int 0)) (tCons (tVar 4) tNil)))) (gSub (tFld K (tVar 0) "words") (tOp (rPlus K) (tVar 1) (tC (.int 1))) rSetL)) (tThen (tDrop (tBM K "list" rAppend (tVar 2) (tCons (tVar 4) tNil))) (tRet (tVar 4)))))))
def t_old_word (K : PySem.W.Frag) (C : Addr) : TS := (tThen (tIfS (tAnd (tB (tCallF 1 (phi_is_reference K C) (tCons (tVar 1) tNil))) (tB (tCallF 2 (phi_is_young K C) (tCons (tVar 0) (tCons (tCallF 1 (phi_address_of K C) (tCons (tVar 1) tNil)) tNil))))) (tRet (tCallF 1 (phi_reference_word K C) (tCons (tCallF 3 (phi_promote K C) (tCons (tVar 0) (tCons (tCallF 1 (phi_address_of K C) (tCons (tVar 1) tNil)) (tCons (tVar 2) tNil)))) tNil))) tNext) (tRet (tVar 1)))
def t_lift_row (K : PySem.W.Frag) (C : Addr) : TS := (tFor (iRng1 (tCons (tCB (rLenU K) (tCons (tVar 1) tNil)) tNil)) (gName 3) (tAsg (tCallF 3 (phi_old_word K C) (tCons (tVar 0) (tCons (tOp (rIx K) (tVar 1) (tVar 3)) (tCons (tVar 2) tNil)))) (gSub (tVar 1) (tVar 3) rSetL)))
def t_lift_payload (K : PySem.W.Frag) (C : Addr) : TS := (tThen (tAsg (tCallF 2 (phi_payload_places K C) (tCons (tVar 0) (tCons (tVar 1) tNil))) (gTup K 2 (gCons (gName 3) (gCons (gName 4) gNil)))) (tFor (iRng2 (tCons (tVar 3) (tCons (tVar 4) tNil))) (gName 5) (tAsg (tCallF 3 (phi_old_word K C) (tCons (tVar 0) (tCons (tOp (rIx K) (tFld K (tVar 0) "words") (tVar 5)) (tCons (tVar 2) tNil)))) (gSub (tFld K (tVar 0) "words") (tVar 5) rSetL))))
def t_lift_remembered (K : PySem.W.Frag) (C : Addr) : TS := (tThen (tFor (iSeq K (tFld K (tVar 0) "remembered")) (gName 2) (tThen (tAsg (tCallF 2 (phi_resolve K C) (tCons (tVar 0) (tCons (tVar 2) tNil))) (gName 3)) (tThen (tDrop (tCallF 3 (phi_lift_payload K C) (tCons (tVar 0) (tCons (tVar 3) (tCons (tVar 1) tNil))))) (tThen (tAsg (tOp (rIx K) (tFld K (tVar 0) "words") (tOp (rPlus K) (tVar 3) (tC (.int 1)))) (gName 4)) (tAsg (tCallF 3 (phi_state_word K C) (tCons (tCallF 1 (phi_colour_of K C) (tCons (tVar 4) tNil)) (tCons (tC (.int 0)) (tCons (tCallF 1 (phi_forward_of K C) (tCons (tVar 4) tNil)) tNil)))) (gSub (tFld K (tVar 0) "words") (tOp (rPlus K) (tVar 3) (tC (.int 1))) rSetL)))))) (sFld K (tVar 0) (tLst tNil) "remembered"))
def t_collect_young (K : PySem.W.Frag) (C : Addr) : TS := (tThen (tAsg (tLst tNil) (gName 2)) (tThen (tFor (iSeq K (tVar 1)) (gName 3) (tDrop (tCallF 3 (phi_lift_row K C) (tCons (tVar 0) (tCons (tVar 3) (tCons (tVar 2) tNil)))))) (tThen (tDrop (tCallF 2 (phi_lift_remembered K C) (tCons (tVar 0) (tCons (tVar 2) tNil)))) (tThen (tAsg (tC (.int 0)) (gName 4)) (tThen (tWhile (tTest (tOp rLt (tVar 4) (tCB (rLenU K) (tCons (tVar 2) tNil)))) (tThen (tDrop (tCallF 3 (phi_lift_payload K C) (tCons (tVar 0) (tCons (tOp (rIx K) (tVar 2) (tVar 4)) (tCons (tVar 2) tNil))))) (tAsg (tOp (rPlus K) (tVar 4) (tC (.int 1))) (gName 4)))) (tThen (tAsg (tOp rTimes (tLst (tCons (tC (.int 0)) tNil)) (tFld K (tVar 0) "nursery")) (gSubSl (tFld K (tVar 0) "words") (tPart (tC (.int 1))) (tPart (tOp (rPlus K) (tFld K (tVar 0) "nursery") (tC (.int 1)))))) (sFld K (tVar 0) (tC (.int 1)) "young_top")))))))
def t_young_address (K : PySem.W.Frag) (C : Addr) : TS := (tThen (tIfS (tTest (tOp rGt (tOp (rPlus K) (tFld K (tVar 0) "young_top") (tVar 2)) (tOp (rPlus K) (tFld K (tVar 0) "nursery") (tC (.int 1))))) (tDrop (tCallF 2 (phi_collect_young K C) (tCons (tVar 0) (tCons (tVar 1) tNil)))) tNext) (tThen (tAsg (tFld K (tVar 0) "young_top") (gName 3)) (tThen (sFld K (tVar 0) (tOp (rPlus K) (tVar 3) (tVar 2)) "young_top") (tRet (tVar 3)))))
def t_place_block (K : PySem.W.Frag) (C : Addr) : TS := (tThen (tAsg (tCallF 1 (phi_size_of K C) (tCons (tCB (rLenU K) (tCons (tVar 3) tNil)) tNil)) (gName 4)) (tThen (tAsg (tC (.int 0)) (gName 5)) (tThen (tIfS (tTest (tOp rLe (tVar 4) (tFld K (tVar 0) "nursery"))) (tAsg (tCallF 3 (phi_young_address K C) (tCons (tVar 0) (tCons (tVar 1) (tCons (tVar 4) tNil)))) (gName 6)) (tThen (tAsg (tCallF 2 (phi_claim_old K C) (tCons (tVar 0) (tCons (tVar 4) tNil))) (gName 6)) (tIfS (tTest (tOp (rEqU K) (tFld K (tVar 0) "phase") (tC (.str "marking")))) (tAsg (tC (.int 2)) (gName 5)) tNext))) (tThen (tAsg (tLst (tCons (tCallF 2 (phi_form_word K C) (tCons (tVar 2) (tCons (tCB (rLenU K) (tCons (tVar 3) tNil)) tNil))) (tCons (tCallF 3 (phi_state_word K C) (tCons (tVar 5) (tCons (tC (.int 0)) (tCons (tC (.int 0)) tNil)))) tNil))) (gName 7)) (tThen (tAsg (tOp (rPlus K) (tVar 7) (tCB (rListU K) (tCons (tVar 3) tNil))) (gSubSl (tFld K (tVar 0) "words") (tPart (tVar 6)) (tPart (tOp (rPlus K) (tVar 6) (tVar 4))))) (tRet (tVar 6)))))))
local macro_rules | `(tactic| walk_at "lk") => `(tactic| first
  | assumption
  | exact upd_same
  | (refine upd_get ?_ ?_; walk_at "ne"; walk_at "lk")
  | (refine Ex.get (by assumption) ?_; walk_at "lk")
  | (refine Fr.get (by assumption) ?_ ?_; walk_at "lk"; walk_at "nin"))
local macro_rules | `(tactic| walk_at "ne") => `(tactic| first
  | assumption
  | (refine Ne.symm ?_; assumption)
  | (refine ne_of_none ?_ (by assumption); walk_at "lk")
  | (refine Ne.symm (ne_of_none ?_ (by assumption)); walk_at "lk"))
local macro_rules | `(tactic| walk_at "nin") => `(tactic| first
  | assumption
  | (simp only [List.mem_cons, List.not_mem_nil, or_false, not_or]; (try refine ⟨?_, ?_⟩) <;> (repeat' refine ⟨?_, ?_⟩) <;> walk_at "ne"))
local macro_rules | `(tactic| walk_at "lt") => `(tactic| first
  | assumption
  | exact Or.inl (by walk_at "lk")
  | exact Or.inr (by walk_at "lk")
  | (refine LT.ex ?_ (by assumption); walk_at "lt"))
local macro_rules | `(tactic| walk_at "mem") => `(tactic| first
  | exact Or.inl (by simp [Ids.all])
  | exact Or.inr (by assumption)
  | (refine Fr.fresh ?_ (by assumption); walk_at "fr"))
local macro_rules | `(tactic| walk_at "fr") => `(tactic| first
  | exact Fr.refl _ _
  | assumption
  | exact Ex.fr (by assumption)
  | (refine Fr.upd ?_ ?_; walk_at "fr"; walk_at "mem")
  | (refine Fr.ex ?_ (by assumption); walk_at "fr")
  | (refine Fr.trans ?_ (by assumption) ?_; walk_at "fr"; (intro a ha; exact Or.inl ha)))
local macro_rules | `(tactic| walk_at "rep") => `(tactic| first
  | assumption
  | exact ⟨by walk_at "lk", by walk_at "lk", by walk_at "lk", by walk_at "lk", by walk_at "ne", by walk_at "ne", by walk_at "ne"⟩)
local macro_rules | `(tactic| walk_at "n") => `(tactic| first | decide | omega)
local macro_rules | `(tactic| walk_at "go") => `(tactic| repeat (with_reducible first
  | (apply var_i; (k_dflt rfl))
  | apply c_i
  | apply op_i
  | apply fld_i
  | apply un_i
  | apply ru_i
  | apply cons_i
  | apply nil_i
  | apply call_i
  | apply plus_i
  | apply minus_i
  | apply i0_i
  | apply eq_i
  | apply ne_i
  | apply bl_i
  | apply test_i
  | apply tb_i
  | apply seq_i
  | apply asg_i
  | apply ret_i
  | apply if_i
  | apply iteT
  | apply iteF
  | apply next_i
  | apply drop_i
  | apply retN_i
  | apply and_i
  | apply or_i
  | apply not_i
  | apply andv_i
  | apply orv_i
  | apply notv_i
  | apply notvr_i
  | apply cb_i
  | apply tup_i
  | apply lst_i
  | apply chain_i
  | apply slice_i
  | apply part_i
  | apply part_int
  | apply nopart_i
  | apply bm_i
  | apply sfld_i
  | apply asub_i
  | apply aslice_i
  | apply atup2_i
  | apply break_i
  | apply eqMarking_i
  | apply eqIdle_i
  | apply eqMoving_i
  | apply neIdle_i
  | apply intU_i
  | apply intU_b
  | apply i1_i
  | apply i2_i
  | apply i3_i
  | (apply times_i; (walk_at "n"))
  | (apply times_j; (walk_at "n"))
  | (apply floor_i; (walk_at "n"); (walk_at "n"))
  | (apply rest_i; (walk_at "n"))
  | (apply len_i; (k_dflt rfl))
  | (apply f_words; assumption; (walk_at "lk"))
  | (apply f_nur; assumption; (walk_at "lk"))
  | (apply f_cap; assumption; (walk_at "lk"))
  | (apply f_yt; assumption; (walk_at "lk"))
  | (apply f_base; assumption; (walk_at "lk"))
  | (apply f_top; assumption; (walk_at "lk"))
  | (apply f_ob; assumption; (walk_at "lk"))
  | (apply f_ot; assumption; (walk_at "lk"))
  | (apply f_ph; assumption; (walk_at "lk"))
  | (apply f_cur; assumption; (walk_at "lk"))
  | (apply f_gr; assumption; (walk_at "lk"))
  | (apply f_rem; assumption; (walk_at "lk"))
  | (apply f_pend; assumption; (walk_at "lk"))
  | (apply ixI_i; (walk_at "lk"); assumption)
  | (apply ixL_i; (walk_at "lk"); (k_dflt rfl))
  | (apply ixLT_i; assumption; (k_dflt rfl))
  | (apply ixLTI_i; assumption; assumption)
  | (apply pow_i; (walk_at "n"); (walk_at "n"))
  | apply minU_i
  | apply maxU_i
  | (apply setI_i; (walk_at "lk"); assumption)
  | (apply tyl_i; (walk_at "lk"))
  | (apply appendI_i; (walk_at "lk"); (walk_at "n"))
  | (apply inLate_t; (walk_at "lk"))
  | (apply inLate_l; (walk_at "lk"))
  | (apply notLate_t; (walk_at "lk"))))
section
variable {K : PySem.W.Frag} {C : Addr}
theorem pure_claim_old (T : HC K C) : PureOk (t_claim_old K C) ["heap", "size", "address"] 2 (phi_claim_old K C) := by
  intro vs H Q hl h
  delta t_claim_old
  obtain ⟨i, h, s, rfl, R, q⟩ := h
  obtain ⟨hO, hW, hG, hR, n1, n2, n3⟩ := id R
  have m1 := R.pw
  have m2 := R.pg
  have m3 := R.pr
  walk_at "go"
  refine tupr_i (by simp) fun p H1 n e hp => ?_
  walk_at "go"
  refine ite_b (fun d => ?_) (fun d => ?_)
  · walk_at "go"
    apply s_ot T (h := h) (by walk_at "lk")
    walk_at "go"
    have e1 : claimM h s = (h.ot, { h with ot := h.ot + s }) := by unfold claimM; rw [if_pos d]
    rw [e1] at q
    exact q _ (by walk_at "rep") (by walk_at "fr")
  · walk_at "go"
    apply s_top T (h := h) (by walk_at "lk")
    walk_at "go"
    have e1 : claimM h s = (h.top, { h with top := h.top + s }) := by unfold claimM; rw [if_neg (by rw [d]; exact Bool.false_ne_true)]
    rw [e1] at q
    exact q _ (by walk_at "rep") (by walk_at "fr")
theorem pure_copy_old (T : HC K C) : PureOk (t_copy_old K C) ["heap", "address", "size", "target"] 2 (phi_copy_old K C) := by
  intro vs H Q hl h
  delta t_copy_old
  obtain ⟨i, h, a, p, rfl, R, hM, q⟩ := h
  simp only [copyOldM, bind, Option.bind_eq_some_iff, Option.some.injEq, grd_iff, Bool.and_eq_true, decide_eq_true_eq] at hM
  obtain ⟨f, hf, _, ⟨⟨⟨⟨⟨g0, g1⟩, g2⟩, g3⟩, g4⟩, g5⟩, ws2, hw, rfl⟩ := hM
  walk_at "go"
  refine ⟨i, h, _, _, rfl, R, hf, ?_⟩
  walk_at "go"
  refine ⟨i, h, _, rfl, R, fun H1 R1 f1 => ?_⟩
  have cw : (claimM h (f / 64 + 2)).2.words = h.words := by unfold claimM; split <;> rfl
  have cp : (claimM h (f / 64 + 2)).2.ph = h.ph := by unfold claimM; split <;> rfl
  have cg : (claimM h (f / 64 + 2)).2.gr = h.gr := by unfold claimM; split <;> rfl
  generalize ht : (claimM h (f / 64 + 2)).1 = t at *
  generalize hh : (claimM h (f / 64 + 2)).2 = h1 at *
  obtain ⟨hO, hW, hG, hR, n1, n2, n3⟩ := id R1
  have m1 := R1.pw
  have m2 := R1.pg
  have m3 := R1.pr
  walk_at "go"
  apply slI_i hW (by omega) (by omega) (by rw [cw]; omega)
  intro s H2 hs e2 hp
  have R2 := R1.ex e2
  obtain ⟨hO2, hW2, hG2, hR2, _, _, _⟩ := id R2
  walk_at "go"
  have ns : i.w ≠ s := ne_of_none hW hs
  apply slstI_i hW2 hp ns (by omega) (by omega) (by rw [cw]; omega) (by rw [cw, List.length_take, List.length_drop]; omega)
  have eb : (List.take t.toNat h1.words ++ List.take ((a + (f / 64 + 2)).toNat - a.toNat) (List.drop a.toNat h1.words) ++ List.drop (t + (f / 64 + 2)).toNat h1.words) = blit h.words a.toNat t.toNat (f / 64 + 2).toNat := by
    unfold blit
    rw [cw, show (a + (f / 64 + 2)).toNat - a.toNat = (f / 64 + 2).toNat by omega, show (t + (f / 64 + 2)).toNat = t.toNat + (f / 64 + 2).toNat by omega]
  rw [eb]
  walk_at "go"
  refine ite_b (fun d => ?_) (fun d => ?_)
  · have d' : h.ph = .marking := by rw [← cp]; exact of_decide_eq_true d
    rw [if_pos d'] at hw
    simp only [if_pos d'] at q
    have hw' : wr (blit h.words a.toNat t.toNat (f / 64 + 2).toNat) (t + 1) (8 * 0 + 4 * 0 + 1) = some ws2 := hw
    have g6 : h1.gr.length < 100000 := by rw [cg]; exact g5
    walk_at "go"
    rw [cg] at *
    exact q _ (by walk_at "rep") ((f1.ex e2).upd (.inl (by simp [Ids.all])) |>.upd (.inl (by simp [Ids.all])) |>.upd (.inl (by simp [Ids.all])))
  · have d' : ¬ h.ph = .marking := by rw [← cp]; exact of_decide_eq_false d
    rw [if_neg d'] at hw
    simp only [if_neg d'] at q
    have hw' : wr (blit h.words a.toNat t.toNat (f / 64 + 2).toNat) (t + 1) (8 * 0 + 4 * 0 + 0) = some ws2 := hw
    walk_at "go"
    rw [← cg] at q
    exact q _ (by walk_at "rep") ((f1.ex e2).upd (.inl (by simp [Ids.all])) |>.upd (.inl (by simp [Ids.all])))
theorem pure_promote (T : HC K C) : PureOk (t_promote K C) ["heap", "address", "promoted", "forward", "target"] 3 (phi_promote K C) := by
  intro vs H Q hl h
  delta t_promote
  obtain ⟨i, h, a, m, mv, p, rfl, R, hm, nm, hM, q⟩ := h
  obtain ⟨hO, hW, hG, hR, n1, n2, n3⟩ := id R
  simp only [promoteM, bind, Option.bind_eq_some_iff, grd_iff, Bool.and_eq_true, decide_eq_true_eq] at hM
  obtain ⟨s, hs, _, ⟨g0, g1⟩, hM⟩ := hM
  walk_at "go"
  refine ite_b (fun d => ?_) (fun d => ?_)
  · rw [if_pos (of_decide_eq_true d)] at hM
    cases hM
    walk_at "go"
    exact q _ R hm (Fr.refl _ _)
  · rw [if_neg (of_decide_eq_false d)] at hM
    simp only [bind, Option.bind_eq_some_iff, Option.some.injEq, grd_iff, decide_eq_true_eq] at hM
    obtain ⟨p1, hc, ws, hw, _, g2, rfl⟩ := hM
    walk_at "go"
    refine ⟨i, h, _, _, rfl, R, hc, fun H1 R1 f1 => ?_⟩
    have hm1 : H1 m = some (il mv) := f1 _ _ hm nm
    obtain ⟨hO1, hW1, hG1, hR1, _, _, _⟩ := id R1
    have hs1 : rd p1.2.words (a + 1) = some s := by
      rw [copyOld_keep hc (by have := copyOld_le hc; omega)]
      exact hs
    have es : 8 * p1.1 + 4 * 0 + s % 4 = 8 * p1.1 := by omega
    have hw' : wr p1.2.words (a + 1) (8 * p1.1 + 4 * 0 + s % 4) = some ws := by rw [es]; exact hw
    have m1 := R1.pw
    have k1 : m ≠ i.p := fun z => nm (by simp [Ids.all, z])
    have k2 : m ≠ i.w := fun z => nm (by simp [Ids.all, z])
    have k3 : m ≠ i.g := fun z => nm (by simp [Ids.all, z])
    have k4 : m ≠ i.r := fun z => nm (by simp [Ids.all, z])
    walk_at "go"
    exact q _ (by walk_at "rep") upd_same (((f1.mono (S' := m :: i.all) fun a ha => List.mem_cons_of_mem _ ha).upd (.inl (by simp [Ids.all]))).upd (.inl (by simp)))
theorem pure_old_word (T : HC K C) : PureOk (t_old_word K C) ["heap", "word", "promoted"] 3 (phi_old_word K C) := by
  intro vs H Q hl h
  delta t_old_word
  obtain ⟨i, h, a, m, mv, p, rfl, R, hm, nm, hM, q⟩ := h
  simp only [oldWordM, bind, Option.bind_eq_some_iff, grd_iff] at hM
  obtain ⟨_, g0, hM⟩ := hM
  walk_at "go"
  have yes : isRef a = true → h.isY (a / 2) = true → ∃ p1, promoteM h (a / 2) mv = some p1 ∧ p = (2 * p1.1, p1.2.1, p1.2.2) := fun x y => by
    rw [x, y] at hM
    obtain ⟨p1, e1, e2⟩ := Option.bind_eq_some_iff.mp hM
    exact ⟨p1, e1, (Option.some.inj e2).symm⟩
  have no : (isRef a && h.isY (a / 2)) = false → Q (.int a) H := fun x => by
    rw [x] at hM
    cases hM
    exact q _ R hm (Fr.refl _ _)
  refine ite_b (fun d => ?_) (fun d => ?_)
  · walk_at "go"
    refine ⟨i, h, _, rfl, R, ?_⟩
    walk_at "go"
    refine ite_b (fun d1 => ?_) (fun d1 => ?_)
    · obtain ⟨p1, e1, rfl⟩ := yes d d1
      walk_at "go"
      refine ⟨i, h, _, m, mv, p1, rfl, R, hm, nm, e1, fun H1 R1 hm1 f1 => ?_⟩
      walk_at "go"
      exact q _ R1 hm1 f1
    · walk_at "go"
      refine no ?_
      rw [d1, Bool.and_false]
  · simp only [Bool.false_eq_true, if_false]
    walk_at "go"
    refine no ?_
    rw [d, Bool.false_and]
theorem pure_lift_row (T : HC K C) : PureOk (t_lift_row K C) ["heap", "row", "promoted", "place"] 3 (phi_lift_row K C) := by
  intro vs H Q hl h
  delta t_lift_row
  obtain ⟨i, h, a, m, mv, row, p, rfl, R, hm, nm, ha, hz, na, hM, q⟩ := h
  refine forR1_i (j := row.length) (fun k σ' H' => ∃ v h1 mv1 row1, σ' = [some (.ref i.p), some (.ref a), some (.ref m), v] ∧ Rep C i h1 H' ∧ H' m = some (il mv1) ∧ H' a = some (il (row1 ++ row.drop k)) ∧ row1.length = k ∧ Fr (a :: m :: i.all) H H' ∧
    ∃ p1, liftRowM h1 mv1 (row.drop k) = some p1 ∧ p = (row1 ++ p1.1, p1.2.1, p1.2.2)) ?he (by omega) (by omega) ?h0 ?hs ?hd
  case he =>
    intro Q' q'
    walk_at "go"
    exact lenI_i ha q'
  case h0 => exact ⟨none, h, mv, [], rfl, R, hm, ha, rfl, Fr.refl _ _, p, hM, rfl⟩
  case hs =>
    rintro k σ' H' hk ⟨v, h1, mv1, row1, rfl, R1, hm1, ha1, hl1, f1, p1, e1, rfl⟩
    have hk' : k < row.length := by simpa using hk
    have ed : row.drop k = row[k] :: row.drop (k + 1) := List.drop_eq_getElem_cons hk'
    rw [ed] at e1 ha1
    simp only [liftRowM, bind, Option.bind_eq_some_iff, Option.some.injEq] at e1
    obtain ⟨p2, e2, p3, e3, rfl⟩ := e1
    refine name_i ?_
    have hr : rd (row1 ++ row[k] :: row.drop (k + 1)) (k : Int) = some row[k] := rd_mid hl1
    walk_at "go"
    refine ⟨i, h1, _, m, mv1, p2, rfl, R1, hm1, nm, e2, fun H2 R2 hm2 f2 => ?_⟩
    have na2 : a ∉ m :: i.all := na
    have ha2 : H2 a = some (il (row1 ++ row[k] :: row.drop (k + 1))) := f2 _ _ ha1 na2
    have hw : wr (row1 ++ row[k] :: row.drop (k + 1)) (k : Int) p2.1 = some ((row1 ++ [p2.1]) ++ row.drop (k + 1)) := wr_mid hl1
    walk_at "go"
    have d1 : a ≠ m := fun z => na (by rw [z]; simp)
    have d2 : ∀ b ∈ i.all, b ≠ a := fun b hb z => na (by rw [← z]; exact List.mem_cons_of_mem _ hb)
    refine ⟨_, p2.2.1, p2.2.2, row1 ++ [p2.1], rfl, ?_, ?_, upd_same, by rw [List.length_append, hl1]; rfl, ?_, p3, e3, by rw [List.append_assoc]; rfl⟩
    · exact R2.fr (S := [a]) (fun b o e n => by rw [upd_ne (by simpa using n)]; exact e) fun b hb z => d2 b hb (by simpa using z)
    · rw [upd_ne d1.symm]
      exact hm2
    · exact (f1.trans f2 fun b hb => .inl (List.mem_cons_of_mem _ hb)).upd (.inl (by simp))
  case hd =>
    rintro σ' H' ⟨v, h1, mv1, row1, rfl, R1, hm1, ha1, hl1, f1, p1, e1, rfl⟩
    have ez : row.drop ((row.length : Int).toNat) = [] := by simp
    rw [ez] at e1 ha1
    cases e1
    exact q _ R1 hm1 ha1 f1
theorem pure_lift_payload (T : HC K C) : PureOk (t_lift_payload K C) ["heap", "address", "promoted", "first", "behind", "spot"] 3 (phi_lift_payload K C) := by
  intro vs H Q hl h
  delta t_lift_payload
  obtain ⟨i, h, a, m, mv, p, rfl, R, hm, nm, hM, q⟩ := h
  simp only [liftBlockM, bind, Option.bind_eq_some_iff, grd_iff, Bool.and_eq_true, decide_eq_true_eq] at hM
  obtain ⟨f, hf, _, ⟨⟨g0, g1⟩, g2⟩, hM⟩ := hM
  have ba := rd_lt hf
  walk_at "go"
  refine ⟨i, h, _, _, rfl, R, hf, fun u H0 hu e0 hp => ?_⟩
  apply tup2_i hp
  have nmu : m ≠ u := ne_of_none hm hu
  refine forR2_i (i := a + 2) (j := a + (f / 64 + 2)) (fun k σ' H' => ∃ v h1 mv1, σ' = [some (.ref i.p), some (.int a), some (.ref m), some (.int (a + 2)), some (.int (a + (f / 64 + 2))), v] ∧ Rep C i h1 H' ∧ H' m = some (il mv1) ∧ Fr (m :: i.all) H H' ∧
    liftSpotsM h1 mv1 (a + 2 + k) ((f / 64).toNat - k) = some p) ?he ?hb1 ?hb2 ?h0 ?hs ?hd
  case he =>
    intro Q' q'
    walk_at "go"
    exact q'
  case hb1 => omega
  case hb2 => omega
  case h0 => exact ⟨none, h, mv, rfl, R.ex e0, e0 _ _ hm, e0.fr, by
    rw [show a + 2 + ((0 : Nat) : Int) = a + 2 by omega]
    exact hM⟩
  case hs =>
    rintro k σ' H' hk ⟨v, h1, mv1, rfl, R1, hm1, f1, e1⟩
    have hk' : k < (f / 64).toNat := by omega
    rw [show (f / 64).toNat - k = ((f / 64).toNat - (k + 1)) + 1 by omega] at e1
    simp only [liftSpotsM, bind, Option.bind_eq_some_iff] at e1
    obtain ⟨x, hx, p2, e2, ws, hw, e3⟩ := e1
    obtain ⟨hO1, hW1, _, _, _, _, _⟩ := id R1
    refine name_i ?_
    walk_at "go"
    refine ⟨i, h1, _, m, mv1, p2, rfl, R1, hm1, nm, e2, fun H2 R2 hm2 f2 => ?_⟩
    obtain ⟨hO2, hW2, hG2, hR2, n1, n2, n3⟩ := id R2
    have m1 := R2.pw
    have k2 : m ≠ i.w := fun z => nm (by simp [Ids.all, z])
    walk_at "go"
    refine ⟨_, { p2.2.1 with words := ws }, p2.2.2, rfl, by walk_at "rep", by walk_at "lk", (f1.trans f2 fun b hb => .inl hb).upd (.inl (by simp [Ids.all])), ?_⟩
    rw [show a + 2 + ((k + 1 : Nat) : Int) = a + 2 + k + 1 by omega]
    exact e3
  case hd =>
    rintro σ' H' ⟨v, h1, mv1, rfl, R1, hm1, f1, e1⟩
    rw [show (a + (f / 64 + 2) - (a + 2)).toNat = (f / 64).toNat by congr 1; omega, Nat.sub_self] at e1
    cases e1
    exact q _ R1 hm1 f1
theorem pure_lift_remembered (T : HC K C) : PureOk (t_lift_remembered K C) ["heap", "promoted", "address", "block", "state"] 2 (phi_lift_remembered K C) := by
  intro vs H Q hl h
  delta t_lift_remembered
  obtain ⟨i, h, m, mv, p, rfl, R, hm, nm, hM, q⟩ := h
  obtain ⟨hO, hW, hG, hR, n1, n2, n3⟩ := id R
  walk_at "go"
  refine forSeq_i (a := i.r) (xs := h.rem.map V.int) (fun k σ' H' => ∃ v1 v2 v3 h1 mv1, σ' = [some (.ref i.p), some (.ref m), v1, v2, v3] ∧ Rep C i h1 H' ∧ h1.rem = h.rem ∧ H' m = some (il mv1) ∧ Fr (m :: i.all) H H' ∧
    liftRemM h1 mv1 (h.rem.drop k) = some p) ?he (.inl hR) ?h0 ?hk ?hs ?hd
  case he =>
    intro Q' q'
    walk_at "go"
    exact q'
  case h0 => exact ⟨none, none, none, h, mv, rfl, R, rfl, hm, Fr.refl _ _, hM⟩
  case hk =>
    rintro k σ' H' hk ⟨v1, v2, v3, h1, mv1, rfl, R1, er, hm1, f1, e1⟩ o ho
    have z := R1.r
    rw [er] at z
    rw [hR] at ho
    cases ho
    exact z
  case hs =>
    rintro k x σ' H' hx ⟨v1, v2, v3, h1, mv1, rfl, R1, er, hm1, f1, e1⟩
    obtain ⟨y, rfl⟩ : ∃ y, x = V.int y := by
      rw [List.getElem?_map] at hx
      cases e : h.rem[k]? with
      | none => rw [e] at hx; cases hx
      | some y => rw [e] at hx; exact ⟨y, (Option.some.inj hx).symm⟩
    have hy : h.rem[k]? = some y := by
      rw [List.getElem?_map] at hx
      cases e : h.rem[k]? with
      | none => rw [e] at hx; cases hx
      | some z => rw [e] at hx; cases hx; rfl
    obtain ⟨hk', ey⟩ := List.getElem?_eq_some_iff.mp hy
    rw [List.drop_eq_getElem_cons hk', ey] at e1
    simp only [liftRemM, bind, Option.bind_eq_some_iff, grd_iff, decide_eq_true_eq] at e1
    obtain ⟨b, hb, p1, e2, s, hs, _, g0, ws, hw, e3⟩ := e1
    refine name_i ?_
    walk_at "go"
    refine ⟨i, h1, _, _, rfl, R1, hb, fun H2 x2 => ?_⟩
    have R2 := R1.ex x2
    have hm2 := x2 _ _ hm1
    walk_at "go"
    refine ⟨i, h1, _, m, mv1, p1, rfl, R2, hm2, nm, e2, fun H3 R3 hm3 f3 => ?_⟩
    obtain ⟨hO3, hW3, hG3, hR3, _, _, _⟩ := id R3
    have m1 := R3.pw
    have k2 : m ≠ i.w := fun z => nm (by simp [Ids.all, z])
    walk_at "go"
    refine ⟨_, _, _, { p1.1 with words := ws }, p1.2, rfl, by walk_at "rep", ?_, by walk_at "lk", (((f1.ex x2).trans f3 fun b hb => .inl hb).upd (.inl (by simp [Ids.all]))), e3⟩
    show p1.1.rem = h.rem
    rw [← er]
    exact liftBlock_rem e2
  case hd =>
    rintro σ' H' ⟨v1, v2, v3, h1, mv1, rfl, R1, er, hm1, f1, e1⟩
    rw [List.length_map, List.drop_length] at e1
    cases e1
    walk_at "go"
    refine lstr_i (by simp) fun u H2 hu x2 hp => ?_
    obtain ⟨hO1, hW1, hG1, hR1, _, _, _⟩ := id (R1.ex x2)
    walk_at "go"
    apply s_rem T (h := h1) hO1
    walk_at "go"
    have u1 : i.p ≠ u := ne_of_none R1.o hu
    have u2 : i.w ≠ u := ne_of_none R1.w hu
    have u3 : i.g ≠ u := ne_of_none R1.g hu
    have u4 : m ≠ u := ne_of_none hm1 hu
    have m1 := R1.pw
    have m2 := R1.pg
    have k2 : m ≠ i.p := fun z => nm (by simp [Ids.all, z])
    have hu0 : H u = none := by
      rcases f1.fresh hu with z | z
      · exfalso
        have nn : H' u ≠ none := by
          simp only [Ids.all, List.mem_cons, List.not_mem_nil, or_false] at z
          rcases z with z | z | z | z | z
          · rw [z, hm1]; exact fun w => nomatch w
          · rw [z, R1.o]; exact fun w => nomatch w
          · rw [z, R1.w]; exact fun w => nomatch w
          · rw [z, R1.g]; exact fun w => nomatch w
          · rw [z, R1.r]; exact fun w => nomatch w
        exact nn hu
      · exact z
    refine q _ ⟨i.p, i.dx, i.w, i.g, u⟩ ⟨rfl, rfl, rfl, rfl, .inr hu0⟩ ⟨upd_same, by walk_at "lk", by walk_at "lk", ?_, n1, u2, u3⟩ ?_ ?_ ((f1.ex x2).upd (.inl (by simp [Ids.all])))
    · show upd H2 i.p _ u = some (il [])
      rw [upd_ne u1.symm]
      exact hp
    · walk_at "lk"
    · simp only [Ids.all, List.mem_cons, List.not_mem_nil, or_false, not_or]
      exact ⟨k2, fun z => nm (by simp [Ids.all, z]), fun z => nm (by simp [Ids.all, z]), u4⟩
theorem pure_collect_young (T : HC K C) : PureOk (t_collect_young K C) ["heap", "rows", "promoted", "row", "scanned"] 2 (phi_collect_young K C) := by
  intro vs H Q hl h
  delta t_collect_young
  obtain ⟨i, h, ra, rl, rows, p, rfl, R, hra, hrows, nd, dj, nra, nrl, hz, hM, q⟩ := h
  simp only [collectYoungM, bind, Option.bind_eq_some_iff, Option.some.injEq, grd_iff, Bool.and_eq_true, decide_eq_true_eq] at hM
  obtain ⟨p1, e1, p2, e2, p3, e3, _, ⟨⟨g0, g1⟩, g2⟩, rfl⟩ := hM
  have hlen := hrows.len
  walk_at "go"
  refine lstr_i (by simp) fun m H0 hm0 x0 hm => ?_
  have nm : m ∉ i.all := fun z => by
    simp only [Ids.all, List.mem_cons, List.not_mem_nil, or_false] at z
    rcases z with z | z | z | z
    · rw [z, R.o] at hm0; cases hm0
    · rw [z, R.w] at hm0; cases hm0
    · rw [z, R.g] at hm0; cases hm0
    · rw [z, R.r] at hm0; cases hm0
  have nmr : m ∉ rl := fun z => by
    obtain ⟨j, hj⟩ := List.mem_iff_getElem?.mp z
    obtain ⟨r, _, hr⟩ := hrows.get hj
    rw [hr] at hm0
    cases hm0
  have nmra : m ≠ ra := fun z => by
    subst z
    rcases hra with z | z
    · rw [z] at hm0; cases hm0
    · rw [z] at hm0; cases hm0
  walk_at "go"
  refine forSeq_i (a := ra) (xs := rl.map V.ref) (fun k σ' H' => ∃ v h1 mv1 done rest, σ' = [some (.ref i.p), some (.ref ra), some (.ref m), v, none] ∧ Rep C i h1 H' ∧ H' m = some (il mv1) ∧ RowsAt H' rl (done ++ rest) ∧ done.length = k ∧ rest = rows.drop k ∧
    Fr (m :: (i.all ++ rl)) H H' ∧ ∃ p', liftRowsM h1 mv1 rest = some p' ∧ p1 = (done ++ p'.1, p'.2.1, p'.2.2)) ?he (hra.ex x0) ?h0 ?hk ?hs ?hd
  case he =>
    intro Q' q'
    walk_at "go"
    exact q'
  case h0 => exact ⟨none, h, [], [], rows, rfl, R.ex x0, hm, hrows.ex x0, rfl, rfl, x0.fr, p1, e1, rfl⟩
  case hk =>
    rintro k σ' H' hk ⟨v, h1, mv1, done, rest, rfl, R1, hm1, hr1, hd1, er, f1, p', e', ep⟩ o ho
    have nn : ra ∉ m :: (i.all ++ rl) := by
      simp only [List.mem_cons, List.mem_append, not_or]
      exact ⟨nmra.symm, nra, nrl⟩
    rcases hra with z | z
    · rw [x0 _ _ z] at ho
      cases ho
      exact f1 _ _ z nn
    · rw [x0 _ _ z] at ho
      cases ho
      exact f1 _ _ z nn
  case hs =>
    rintro k x σ' H' hx ⟨v, h1, mv1, done, rest, rfl, R1, hm1, hr1, hd1, er, f1, p', e', rfl⟩
    obtain ⟨a, ha, rfl⟩ : ∃ a, rl[k]? = some a ∧ x = V.ref a := by
      rw [List.getElem?_map] at hx
      cases e : rl[k]? with
      | none => rw [e] at hx; cases hx
      | some y => rw [e] at hx; exact ⟨y, rfl, (Option.some.inj hx).symm⟩
    obtain ⟨r, hr, har⟩ := hr1.get ha
    have hkl : k < rl.length := (List.getElem?_eq_some_iff.mp ha).1
    have hk2 : k < rows.length := by omega
    rw [List.drop_eq_getElem_cons hk2] at er
    subst er
    have hr2 : r = rows[k] := by
      rw [List.getElem?_append_right (by omega), hd1, Nat.sub_self] at hr
      exact (Option.some.inj hr).symm
    subst hr2
    simp only [liftRowsM, bind, Option.bind_eq_some_iff, Option.some.injEq] at e'
    obtain ⟨p4, e4, p5, e5, rfl⟩ := e'
    have am : a ∈ rl := List.mem_iff_getElem?.mpr ⟨k, ha⟩
    have na : a ∉ m :: i.all := by
      simp only [List.mem_cons, not_or]
      exact ⟨fun z => nmr (z ▸ am), dj a am⟩
    refine name_i ?_
    walk_at "go"
    refine ⟨i, h1, a, m, mv1, rows[k], p4, rfl, R1, hm1, nm, har, hz _ (List.getElem_mem hk2), na, e4, fun H2 R2 hm2 ha2 f2 => ?_⟩
    walk_at "go"
    refine ⟨_, p4.2.1, p4.2.2, done ++ [p4.1], rows.drop (k + 1), rfl, R2, hm2, ?_, by rw [List.length_append, hd1]; rfl, rfl, f1.trans f2 fun b hb => .inl ?_, p5, e5, by rw [List.append_assoc]; rfl⟩
    · obtain ⟨s1, s2⟩ := hr1.split
      have s3 : RowsAt H2 (rl.take done.length) done := s1.rel fun b hb o ho => f2 _ _ ho (by
        have bm : b ∈ rl := List.mem_of_mem_take hb
        simp only [List.mem_cons, not_or]
        refine ⟨fun z => ?_, fun z => nmr (z ▸ bm), dj b bm⟩
        obtain ⟨j, hj, e⟩ := List.mem_iff_getElem.mp hb
        rw [List.length_take] at hj
        rw [List.getElem_take] at e
        have ej : rl[j]? = some a := by rw [List.getElem?_eq_getElem (by omega), e, z]
        have := nd_ix nd ej ha
        omega)
      have s4 : RowsAt H2 (rl.drop (k + 1)) (rows.drop (k + 1)) := by
        have s5 : RowsAt H' (rl.drop (k + 1)) (rows.drop (k + 1)) := by
          rw [hd1, List.drop_eq_getElem_cons hkl] at s2
          exact s2.2
        refine s5.rel fun b hb o ho => f2 _ _ ho ?_
        have bm : b ∈ rl := List.mem_of_mem_drop hb
        simp only [List.mem_cons, not_or]
        refine ⟨fun z => ?_, fun z => nmr (z ▸ bm), dj b bm⟩
        obtain ⟨j, hj, e⟩ := List.mem_iff_getElem.mp hb
        rw [List.length_drop] at hj
        rw [List.getElem_drop] at e
        have ej : rl[k + 1 + j]? = some a := by rw [List.getElem?_eq_getElem (by omega), e, z]
        have := nd_ix nd ej ha
        omega
      have e6 : rl = rl.take done.length ++ (a :: rl.drop (k + 1)) := by
        have e7 : rl[k] = a := by
          have := List.getElem?_eq_getElem hkl
          rw [ha] at this
          exact (Option.some.inj this).symm
        rw [hd1, ← e7, ← List.drop_eq_getElem_cons hkl, List.take_append_drop]
      rw [e6]
      have join : ∀ (l1 : List Addr) (r1 : List (List Int)) (l2 : List Addr) (r2 : List (List Int)), RowsAt H2 l1 r1 → RowsAt H2 l2 r2 → RowsAt H2 (l1 ++ l2) (r1 ++ r2) := by
        intro l1
        induction l1 with
        | nil =>
          intro r1 l2 r2 x y
          cases r1 with
          | nil => exact y
          | cons _ _ => exact x.elim
        | cons c l1 ih =>
          intro r1 l2 r2 x y
          cases r1 with
          | nil => exact x.elim
          | cons s r1 => exact ⟨x.1, ih r1 l2 r2 x.2 y⟩
      rw [List.append_assoc]
      exact join _ _ _ _ s3 ⟨ha2, s4⟩
    · simp only [List.mem_cons, List.mem_append] at hb ⊢
      rcases hb with z | z | z
      · rw [z]; exact .inr (.inr am)
      · exact .inl z
      · exact .inr (.inl z)
  case hd =>
    rintro σ' H' ⟨v, h1, mv1, done, rest, rfl, R1, hm1, hr1, hd1, er, f1, p', e', rfl⟩
    have ez : rest = [] := by rw [er, List.length_map, hlen, List.drop_length]
    subst ez
    cases e'
    rw [List.append_nil] at hr1
    have rem1 : h1.rem = h1.rem := rfl
    walk_at "go"
    refine ⟨i, h1, m, mv1, p2, rfl, R1, hm1, nm, e2, fun H2 i2 ni R2 hm2 nm2 f2 => ?_⟩
    walk_at "go"
    have f3 : Fr (m :: (i.all ++ rl)) H H2 := f1.trans f2 fun b hb => .inl (by
      simp only [List.mem_cons, List.mem_append] at hb ⊢
      rcases hb with z | z
      · exact .inl z
      · exact .inr (.inl z))
    have hr2 : RowsAt H2 rl done := hr1.fr f2 fun a ha => by
      simp only [List.mem_cons, not_or]
      exact ⟨fun z => nmr (z ▸ ha), dj a ha⟩
    have nx2 : i.nx i2 H := Ids.nx_back ni f1 fun a ha => by
      simp only [List.mem_cons, List.mem_append] at ha
      rcases ha with z | z | z
      · rw [z, hm1]; exact fun w => nomatch w
      · exact R1.some a z
      · exact hr1.some a z
    have dj2 : ∀ a ∈ rl, a ∉ i2.all := fun a ha z => by
      rcases Ids.nx_all nx2 a z with y | y
      · exact dj a ha y
      · exact hrows.some a ha y
    have ip : i2.p = i.p := nx2.1
    rw [← ip]
    refine while_i (fun mm σ' H' => ∃ k h3 mv3, σ' = [some (.ref i2.p), some (.ref ra), some (.ref m), v, some (.int (k : Nat))] ∧ Rep C i2 h3 H' ∧ H' m = some (il mv3) ∧ RowsAt H' rl done ∧ Fr (m :: (i.all ++ rl)) H H' ∧ scanM h3 mv3 k mm = some p3) scanFuel
      ⟨0, _, _, rfl, R2, hm2, hr2, f3, e3⟩ ?_
    rintro mm σ' H3 ⟨k, h3, mv3, rfl, R3, hm3, hr3, f4, e4⟩
    walk_at "go"
    apply lenI_i hm3
    walk_at "go"
    refine ite_b (fun d => ?_) (fun d => ?_)
    · have hk : k < mv3.length := by have := of_decide_eq_true d; omega
      refine ⟨_, fun _ _ z => z, ?_⟩
      cases mm with
      | zero =>
        unfold scanM at e4
        rw [if_neg (by omega)] at e4
        cases e4
      | succ mm =>
        unfold scanM at e4
        rw [List.getElem?_eq_getElem hk] at e4
        obtain ⟨p4, e5, e6⟩ := Option.bind_eq_some_iff.mp e4
        have hr : rd mv3 (k : Int) = some mv3[k] := rd_some.mpr ⟨by omega, by rw [Int.toNat_natCast]; exact List.getElem?_eq_getElem hk⟩
        walk_at "go"
        refine ⟨i2, h3, _, m, mv3, p4, rfl, R3, hm3, nm2, e5, fun H4 R4 hm4 f5 => ?_⟩
        walk_at "go"
        refine ⟨mm, Nat.lt_succ_self _, k + 1, p4.1, p4.2, rfl, R4, hm4, hr3.fr f5 fun a ha => ?_, f4.trans f5 fun a ha => ?_, e6⟩
        · simp only [List.mem_cons, not_or]
          exact ⟨fun z => nmr (z ▸ ha), dj2 a ha⟩
        · rcases List.mem_cons.mp ha with z | z
          · rw [z]
            exact .inl (by simp)
          · rcases Ids.nx_all nx2 a z with y | y
            · exact .inl (by simp [y])
            · exact .inr y
    · have hk : mv3.length ≤ k := by have := of_decide_eq_false d; omega
      have e5 : p3 = (h3, mv3) := by
        cases mm with
        | zero =>
          unfold scanM at e4
          rw [if_pos hk] at e4
          exact (Option.some.inj e4).symm
        | succ mm =>
          unfold scanM at e4
          rw [List.getElem?_eq_none_iff.mpr hk] at e4
          exact (Option.some.inj e4).symm
      subst e5
      replace g0 : 0 ≤ h3.nur := g0
      replace g1 : h3.nur + 1 ≤ (h3.words.length : Int) := g1
      replace g2 : h3.words.length ≤ 100000 := g2
      obtain ⟨hO3, hW3, hG3, hR3, n1, n2, n3⟩ := id R3
      have m1 := R3.pw
      have m2 := R3.pg
      have m3 := R3.pr
      walk_at "go"
      refine lstr_i (by simp) fun u H4 hu x4 hp => ?_
      have x4R := R3.ex x4
      obtain ⟨hO4, hW4, hG4, hR4, _, _, _⟩ := id x4R
      walk_at "go"
      apply repI_i (l := [0]) hp g0 (by omega) (by simp)
      intro u2 H5 hu2 x5 hp2
      have R5 := x4R.ex x5
      obtain ⟨hO5, hW5, hG5, hR5, _, _, _⟩ := id R5
      have wu : i2.w ≠ u2 := ne_of_none hW4 hu2
      walk_at "go"
      have lr : (List.replicate h3.nur.toNat ([0] : List Int)).flatten = List.replicate h3.nur.toNat 0 := List.flatten_replicate_singleton
      rw [lr] at hp2
      apply slstI_i hW5 hp2 wu (by decide) (by omega) (by omega) (by rw [List.length_replicate]; omega)
      have ec : (List.take (1 : Int).toNat h3.words ++ List.replicate h3.nur.toNat 0 ++ List.drop (h3.nur + 1).toNat h3.words) = (clearYoung h3).words := by
        unfold clearYoung
        rw [show (h3.nur + 1).toNat = h3.nur.toNat + 1 by omega]
        rfl
      rw [ec]
      walk_at "go"
      apply s_yt T (h := h3) (by walk_at "lk")
      walk_at "go"
      refine q _ i2 nx2 ⟨upd_same, ?_, ?_, ?_, n1, n2, n3⟩ ?_ ?_
      · rw [upd_ne m1.symm]
        exact upd_same
      · rw [upd_ne m2.symm, upd_ne n1.symm]
        exact hG5
      · rw [upd_ne m3.symm, upd_ne n2.symm]
        exact hR5
      · show RowsAt _ rl (done ++ [])
        rw [List.append_nil]
        refine ((hr3.ex x4).ex x5).rel fun a ha o ho => ?_
        have k1 : a ≠ i2.w := fun z => dj2 a ha (by simp [Ids.all, z])
        have k2 : a ≠ i2.p := fun z => dj2 a ha (by simp [Ids.all, z])
        rw [upd_ne k2, upd_ne k1]
        exact ho
      · intro a o ho hn
        have am : a ≠ m := fun z => by rw [z, hm0] at ho; cases ho
        have a4 : H3 a = some o := f4 a o ho (by simp only [List.mem_cons, not_or]; exact ⟨am, hn⟩)
        have k1 : a ≠ i2.w := fun z => hn (by rw [z, nx2.2.2.1]; simp [Ids.all])
        have k2 : a ≠ i2.p := fun z => hn (by rw [z, ip]; simp [Ids.all])
        rw [upd_ne k2, upd_ne k1]
        exact x5 _ _ (x4 _ _ a4)
theorem pure_young_address (T : HC K C) : PureOk (t_young_address K C) ["heap", "rows", "size", "address"] 3 (phi_young_address K C) := by
  intro vs H Q hl h
  delta t_young_address
  obtain ⟨i, h, ra, rl, rows, size, p, rfl, R, hra, hrows, nd, dj, nra, nrl, hz, hM, q⟩ := h
  obtain ⟨hO, hW, hG, hR, n1, n2, n3⟩ := id R
  walk_at "go"
  have fin : ∀ (H1 : Hp) (i2 : Ids), i.nx i2 H → Rep C i2 p.1 H1 → RowsAt H1 rl p.2 → Fr (i.all ++ rl) H H1 →
      tThen (tAsg (tFld K (tVar 0) "young_top") (gName 3)) (tThen (sFld K (tVar 0) (tOp (rPlus K) (tVar 3) (tVar 2)) "young_top") (tRet (tVar 3))) { nx := fun _ H' => Q .non H', rt := Q } (start ["heap", "rows", "size", "address"] [.ref i2.p, .ref ra, .int size]) H1 := by
    intro H1 i2 nx R1 hr1 f1
    obtain ⟨hO1, hW1, hG1, hR1, k1, k2, k3⟩ := id R1
    have m1 := R1.pw
    have m2 := R1.pg
    have m3 := R1.pr
    walk_at "go"
    apply s_yt T (h := p.1) (by walk_at "lk")
    walk_at "go"
    have ip : i2.p ∈ i.all := by rw [nx.1]; simp [Ids.all]
    refine q _ i2 nx (by walk_at "rep") ?_ (f1.upd (.inl (by simp [ip])))
    refine hr1.rel fun a ha o ho => ?_
    rw [upd_ne (fun z => dj a ha (by rw [z]; exact ip))]
    exact ho
  refine ite_b (fun d => ?_) (fun d => ?_)
  · have d1 := of_decide_eq_true d
    rw [if_pos d1] at hM
    walk_at "go"
    refine ⟨i, h, ra, rl, rows, p, rfl, R, hra, hrows, nd, dj, nra, nrl, hz, hM, fun H1 i2 nx R1 hr1 f1 => ?_⟩
    have z := fin H1 i2 nx R1 hr1 f1
    rw [nx.1] at z
    exact z
  · have d1 := of_decide_eq_false d
    rw [if_neg d1] at hM
    cases hM
    exact next_i (fin H i (Ids.nx_refl i H) R hrows (Fr.refl _ _))
theorem pure_place_block (T : HC K C) : PureOk (t_place_block K C) ["heap", "rows", "shape_number", "payload", "size", "colour", "address", "header"] 4 (phi_place_block K C) := by
  intro vs H Q hl h
  delta t_place_block
  obtain ⟨i, h, ra, rl, rows, shape, pa, pl, p, rfl, R, hra, hrows, nd, dj, nra, nrl, hz, hpa, npa, hM, q⟩ := h
  obtain ⟨hO, hW, hG, hR, n1, n2, n3⟩ := id R
  walk_at "go"
  apply lenLT_i hpa
  walk_at "go"
  rw [List.length_map]
  have fin : ∀ (H1 : Hp) (i2 : Ids) (h1 : HS) (rows1 : List (List Int)) (t : Int) (col : Int) (ws : List Int), i.nx i2 H → Rep C i2 h1 H1 → RowsAt H1 rl rows1 → Fr (i.all ++ rl) H H1 → layM h1.words t ([64 * (pl.length : Int) + shape, col] ++ pl) = some ws → p = (t, { h1 with words := ws }, rows1) →
      tThen (tAsg (tLst (tCons (tCallF 2 (phi_form_word K C) (tCons (tVar 2) (tCons (tCB (rLenU K) (tCons (tVar 3) tNil)) tNil))) (tCons (tCallF 3 (phi_state_word K C) (tCons (tVar 5) (tCons (tC (.int 0)) (tCons (tC (.int 0)) tNil)))) tNil))) (gName 7))
        (tThen (tAsg (tOp (rPlus K) (tVar 7) (tCB (rListU K) (tCons (tVar 3) tNil))) (gSubSl (tFld K (tVar 0) "words") (tPart (tVar 6)) (tPart (tOp (rPlus K) (tVar 6) (tVar 4))))) (tRet (tVar 6)))
        { nx := fun _ H' => Q .non H', rt := Q } [some (.ref i2.p), some (.ref ra), some (.int shape), some (.ref pa), some (.int ((pl.length : Int) + 2)), some (.int col), some (.int t), none] H1 := by
    intro H1 i2 h1 rows1 t col ws nx R1 hr1 f1 hl ep
    simp only [layM, bind, Option.bind_eq_some_iff, Option.some.injEq, grd_iff, Bool.and_eq_true, decide_eq_true_eq] at hl
    obtain ⟨_, ⟨⟨g0, g1⟩, g2⟩, rfl⟩ := hl
    subst ep
    have hpa1 : LT H1 pa (pl.map V.int) := hpa.fr f1 npa
    have ebl : (([64 * (pl.length : Int) + shape, col] ++ pl).length : Int) = (pl.length : Int) + 2 := by simp <;> omega
    rw [ebl] at g1
    walk_at "go"
    apply lenLT_i hpa1
    walk_at "go"
    rw [List.length_map]
    refine lstr_i (by simp) fun u H2 hu x2 hp => ?_
    have hp2 : H2 u = some (il [64 * (pl.length : Int) + shape, 8 * 0 + 4 * 0 + col]) := hp
    walk_at "go"
    apply listLT_i (hpa1.ex x2)
    intro u3 H3 hu3 x3 hp3
    walk_at "go"
    apply catI_i (l1 := [64 * (pl.length : Int) + shape, 8 * 0 + 4 * 0 + col]) (l2 := pl) (x3 _ _ hp2) hp3 (by simp only [List.length_cons, List.length_nil]; omega)
    intro u4 H4 hu4 x4 hp4
    have R4 := ((R1.ex x2).ex x3).ex x4
    obtain ⟨hO4, hW4, hG4, hR4, k1, k2, k3⟩ := id R4
    have m1 := R4.pw
    have m2 := R4.pg
    have m3 := R4.pr
    have wu : i2.w ≠ u4 := ne_of_none ((R1.ex x2).ex x3).w hu4
    walk_at "go"
    have ecol : (8 * 0 + 4 * 0 + col : Int) = col := by omega
    rw [ecol] at hp4
    apply slstI_i hW4 hp4 wu g0 (by omega) (by omega) (by simp only [List.length_cons, List.length_append, List.length_nil]; omega)
    have ed : (t + ((pl.length : Int) + 2)).toNat = t.toNat + ([64 * (pl.length : Int) + shape, col] ++ pl).length := by omega
    rw [ed]
    walk_at "go"
    have iw : i2.w ∈ i.all := by rw [nx.2.2.1]; simp [Ids.all]
    refine q _ i2 nx (by walk_at "rep") ?_ ((((f1.ex x2).ex x3).ex x4).upd (.inl (by simp [iw])))
    refine (((hr1.ex x2).ex x3).ex x4).rel fun a ha o ho => ?_
    rw [upd_ne (fun z => dj a ha (by rw [z]; exact iw))]
    exact ho
  refine ite_b (fun d => ?_) (fun d => ?_)
  · have d1 := of_decide_eq_true d
    have hM2 : ((if h.nur + 1 < h.yt + ((pl.length : Int) + 2) then collectYoungM h rows else some (h, rows)).bind fun p =>
        (layM p.1.words p.1.yt ([64 * (pl.length : Int) + shape, 0] ++ pl)).bind fun ws =>
        some (p.1.yt, { p.1 with words := ws, yt := p.1.yt + ((pl.length : Int) + 2) }, p.2)) = some p := by
      have e := hM
      unfold placeM at e
      simp only [if_pos d1] at e
      exact e
    obtain ⟨p1, e1, hM3⟩ := Option.bind_eq_some_iff.mp hM2
    obtain ⟨ws, e2, e3⟩ := Option.bind_eq_some_iff.mp hM3
    walk_at "go"
    refine ⟨i, h, ra, rl, rows, (pl.length : Int) + 2, p1, rfl, R, hra, hrows, nd, dj, nra, nrl, hz, e1, fun H1 i2 nx R1 hr1 f1 => ?_⟩
    have z := fin H1 i2 { p1.1 with yt := p1.1.yt + ((pl.length : Int) + 2) } p1.2 p1.1.yt 0 ws nx R1 hr1 f1 e2 (Option.some.inj e3).symm
    rw [nx.1] at z
    exact z
  · have d1 := of_decide_eq_false d
    have hM2 : (do
        let ws ← layM h.words (claimM h ((pl.length : Int) + 2)).1 ([64 * (pl.length : Int) + shape, if h.ph = .marking then 2 else 0] ++ pl)
        some ((claimM h ((pl.length : Int) + 2)).1, { (claimM h ((pl.length : Int) + 2)).2 with words := ws }, rows)) = some p := by
      have e := hM
      unfold placeM at e
      simp only [if_neg d1] at e
      exact e
    obtain ⟨ws, e2, e3⟩ := Option.bind_eq_some_iff.mp hM2
    walk_at "go"
    refine ⟨i, h, (pl.length : Int) + 2, rfl, R, fun H1 R1 f1 => ?_⟩
    have cp : (claimM h ((pl.length : Int) + 2)).2.ph = h.ph := by unfold claimM; split <;> rfl
    have cw : (claimM h ((pl.length : Int) + 2)).2.words = h.words := claim_words _ _
    obtain ⟨hO1, _, _, _, _, _, _⟩ := id R1
    have f2 : Fr (i.all ++ rl) H H1 := f1.mono fun a ha => by simp [ha]
    have hr1 : RowsAt H1 rl rows := hrows.fr f1 dj
    walk_at "go"
    refine ite_b (fun d2 => ?_) (fun d2 => ?_)
    · have d3 : h.ph = .marking := by rw [← cp]; exact of_decide_eq_true d2
      rw [if_pos d3] at e2
      exact asg_i (c_i (fin H1 i _ rows _ 2 ws (Ids.nx_refl i H) R1 hr1 f2 (by rw [cw]; exact e2) (Option.some.inj e3).symm))
    · have d3 : ¬ h.ph = .marking := by rw [← cp]; exact of_decide_eq_false d2
      rw [if_neg d3] at e2
      exact next_i (fin H1 i _ rows _ 0 ws (Ids.nx_refl i H) R1 hr1 f2 (by rw [cw]; exact e2) (Option.some.inj e3).symm)
end
end Qb

set_option Elab.async false
set_option linter.all false
set_option maxRecDepth 100000
set_option maxHeartbeats 4000000
/-! Law1: the laws' helpers that draw. -/
namespace Qb
open PySem L2
def t_l_whole (K : PySem.W.Frag) (C : Addr) : TS := (tRet (tAndV (tCB (rIsi K) (tCons (tVar 0) (tCons (tC (.ty "int")) tNil))) (tNotV (tCB (rIsi K) (tCons (tVar 0) (tCons (tC (.ty "bool")) tNil))))))
def t_l_cell (K : PySem.W.Frag) (C : Addr) : TS := (tThen (tIfS (tTest (tOp rLt (tVar 1) (tCB (rLenU K) (tCons (tVar 0) tNil)))) (tRet (tOp (rIx K) (tVar 0) (tVar 1))) tNext) (tThen (tAsg (tC (.int 17)) (gName 2)) (tThen (tFor (iSeq K (tVar 0)) (gName 3) (tAsg (tOp rRest (tCB rIntU (tCons (tOp (rPlus K) (tOp rTimes (tVar 2) (tC (.int 31))) (tOp rRest (tCB rIntU (tCons (tVar 3) tNil)) (tC (.int 1000003)))) tNil)) (tC (.int 1000003))) (gName 2))) (tRet (tOp rRest (tCB rIntU (tCons (tOp rTimes (tOp rTimes (tOp (rPlus K) (tVar 2) (tC (.int 7))) (tOp (rPlus K) (tVar 1) (tC (.int 3)))) (tC (.int 69621))) tNil)) (tC (.int 2147483647)))))))
def t_l_digits (K : PySem.W.Frag) (C : Addr) : TS := (tThen (tAsg (tLst tNil) (gName 2)) (tThen (tAsg (tCB rIntU (tCons (tVar 0) tNil)) (gName 3)) (tThen (tIfS (tTest (tOp rGe (tVar 3) (tOp rPow (tC (.int 10)) (tC (.int 18))))) (tThen (tAsg (tOp rMinus (tVar 3) (tOp rPow (tC (.int 10)) (tC (.int 18)))) (gName 3)) (tThen (tFor (iSeq K (tVar 1)) (gName 4) (tThen (tDrop (tBM K "list" rAppend (tVar 2) (tCons (tOp rRest (tCB rIntU (tCons (tVar 3) tNil)) (tVar 4)) tNil))) (tAsg (tOp rFloor (tCB rIntU (tCons (tVar 3) tNil)) (tVar 4)) (gName 3)))) (tRet (tVar 2)))) tNext) (tThen (tAsg (tOp rRest (tCB rIntU (tCons (tVar 3) tNil)) (tC (.int 2147483629))) (gName 5)) (tThen (tFor (iRng1 (tCons (tCB (rLenU K) (tCons (tVar 1) tNil)) tNil)) (gName 6) (tThen (tAsg (tOp rRest (tCB rIntU (tCons (tOp (rPlus K) (tOp (rPlus K) (tOp rTimes (tVar 5) (tC (.int 48271))) (tOp rTimes (tC (.int 974711)) (tVar 6))) (tC (.int 12345))) tNil)) (tC (.int 2147483647))) (gName 5)) (tThen (tAsg (tOp rRest (tCB rIntU (tCons (tOp rTimes (tVar 5) (tOp (rPlus K) (tOp rFloor (tVar 5) (tC (.int 65537))) (tC (.int 3)))) tNil)) (tC (.int 2147483629))) (gName 7)) (tDrop (tBM K "list" rAppend (tVar 2) (tCons (tOp rRest (tOp rFloor (tVar 7) (tC (.int 19))) (tOp (rIx K) (tVar 1) (tVar 6))) tNil)))))) (tRet (tVar 2)))))))
def t_l_bounds (K : PySem.W.Frag) (C : Addr) : TS := (tThen (tAsg (tOp (rPlus K) (tOp (rIx K) (tLst (tCons (tC (.int 40)) (tCons (tC (.int 64)) (tCons (tC (.int 60)) (tCons (tC (.int 48)) (tCons (tC (.int 72)) (tCons (tC (.int 56)) (tCons (tC (.int 80)) (tCons (tC (.int 90)) (tCons (tC (.int 36)) (tCons (tC (.int 50)) (tCons (tC (.int 44)) (tCons (tC (.int 96)) (tCons (tC (.int 24)) (tCons (tC (.int 12)) (tCons (tC (.int 0)) (tCons (tC (.int 30)) tNil))))))))))))))))) (tOp (rIx K) (tVar 0) (tC (.int 0)))) (tOp (rIx K) (tVar 0) (tC (.int 1)))) (gName 1)) (tThen (tAsg (tLst (tCons (tC (.int 0)) (tCons (tVar 1) (tCons (tOp rFloor (tVar 1) (tC (.int 2))) (tCons (tOp rFloor (tVar 1) (tC (.int 3))) (tCons (tCB rMinU (tCons (tVar 1) (tCons (tC (.int 5)) tNil))) (tCons (tCB rMinU (tCons (tVar 1) (tCons (tC (.int 9)) tNil))) (tCons (tCB rMinU (tCons (tVar 1) (tCons (tC (.int 14)) tNil))) (tCons (tOp rFloor (tVar 1) (tC (.int 4))) (tCons (tCB rMinU (tCons (tVar 1) (tCons (tC (.int 3)) tNil))) tNil)))))))))) (gName 2)) (tRet (tLst (tCons (tVar 1) (tCons (tOp (rIx K) (tOp (rPlus K) (tVar 2) (tLst (tCons (tOp rRest (tOp rFloor (tCB rIntU (tCons (tOp (rIx K) (tVar 0) (tC (.int 2))) tNil)) (tC (.int 10))) (tOp (rPlus K) (tVar 1) (tC (.int 1)))) tNil))) (tOp rRest (tCB rIntU (tCons (tOp (rIx K) (tVar 0) (tC (.int 2))) tNil)) (tC (.int 10)))) tNil))))))
def t_l_put (K : PySem.W.Frag) (C : Addr) : TS := (tFor (iSeq K (tVar 0)) (gName 3) (tThen (tIfS (tAnd (tTest (tOp rGe (tVar 1) (tC (.int 0)))) (tTest (tOp rLt (tVar 1) (tCB (rLenU K) (tCons (tVar 3) tNil))))) (tAsg (tVar 2) (gSub (tVar 3) (tVar 1) rSetL)) tNext) (tAsg (tOp rMinus (tVar 1) (tCB (rLenU K) (tCons (tVar 3) tNil))) (gName 1))))
def t_l_length (K : PySem.W.Frag) (C : Addr) : TS := (tThen (tAsg (tOp (rIx K) (tLst (tCons (tC (.int 9)) (tCons (tC (.int 9)) (tCons (tC (.int 16)) (tCons (tC (.int 9)) (tCons (tC (.int 30)) (tCons (tC (.int 9)) (tCons (tC (.int 58)) (tCons (tC (.int 23)) tNil))))))))) (tVar 1)) (gName 2)) (tRet (tOp (rIx K) (tLst (tCons (tC (.int 1)) (tCons (tC (.int 2)) (tCons (tC (.int 3)) (tCons (tC (.int 2)) (tCons (tC (.int 1)) (tCons (tC (.int 2)) (tCons (tC (.int 4)) (tCons (tC (.int 2)) (tCons (tC (.int 5)) (tCons (tC (.int 3)) (tCons (tC (.int 1)) (tCons (tC (.int 2)) (tCons (tC (.int 3)) (tCons (tC (.int 0)) (tCons (tVar 2) (tCons (tC (.int 2)) tNil))))))))))))))))) (tVar 0))))
def t_l_odd (K : PySem.W.Frag) (C : Addr) : TS := (tThen (tAsg (tOp rRest (tCB rIntU (tCons (tOp rTimes (tOp rFloor (tCB rIntU (tCons (tVar 0) tNil)) (tC (.int 4))) (tC (.int 2654435761))) tNil)) (tC (.int 4294967296))) (gName 1)) (tRet (tOp (rIx K) (tLst (tCons (tOp rMinus (tOp rTimes (tC (.int 2)) (tVar 1)) (tC (.int 4294967295))) (tCons (tOp (rPlus K) (tOp rTimes (tC (.int 2)) (tOp rRest (tCB rIntU (tCons (tVar 1) tNil)) (tC (.int 97)))) (tC (.int 1))) (tCons (tOp rMinus (tOp rTimes (tC (.int 2)) (tVar 1)) (tC (.int 4294967295))) (tCons (tOp (rIx K) (tLst (tCons (tC (.int 4294967295)) (tCons (tUn (rU fun i => .int (-i)) (tC (.int 4294967295))) tNil))) (tOp rRest (tCB rIntU (tCons (tVar 1) tNil)) (tC (.int 2)))) tNil))))) (tOp rRest (tCB rIntU (tCons (tVar 0) tNil)) (tC (.int 4))))))
def t_l_payload (K : PySem.W.Frag) (C : Addr) : TS := (tThen (tIfS (tTest (tOp rGt (tVar 1) (tC (.int 4)))) (tRet (tLc (iRng1 (tCons (tVar 0) tNil)) (gName 4) tYes (tCallF 1 (phi_l_odd K C) (tCons (tOp (rPlus K) (tVar 2) (tOp rTimes (tC (.int 4)) (tVar 4))) tNil)) [4])) tNext) (tThen (tAsg (tLst (tCons (tC (.int 0)) (tCons (tC (.int 1)) (tCons (tC (.int 0)) (tCons (tCallF 1 (phi_l_odd K C) (tCons (tVar 2) tNil)) (tCons (tC (.int 1)) (tCons (tC (.int 0)) (tCons (tC (.int 1)) (tCons (tOp (rPlus K) (tOp rTimes (tC (.int 2)) (tOp rRest (tCB rIntU (tCons (tVar 2) tNil)) (tC (.int 61)))) (tC (.int 1))) tNil))))))))) (gName 3)) (tRet (tLc (iRng1 (tCons (tVar 0) tNil)) (gName 4) tYes (tOp (rIx K) (tVar 3) (tOp rRest (tCB rIntU (tCons (tOp (rPlus K) (tVar 1) (tOp rTimes (tVar 4) (tOp (rPlus K) (tC (.int 1)) (tOp rRest (tCB rIntU (tCons (tVar 2) tNil)) (tC (.int 3)))))) tNil)) (tC (.int 8)))) [4]))))
local macro_rules | `(tactic| walk_at "lk") => `(tactic| first
  | assumption
  | exact upd_same
  | (refine upd_get ?_ ?_; walk_at "ne"; walk_at "lk")
  | (refine Ex.get (by assumption) ?_; walk_at "lk")
  | (refine Fr.get (by assumption) ?_ ?_; walk_at "lk"; walk_at "nin"))
local macro_rules | `(tactic| walk_at "ne") => `(tactic| first
  | assumption
  | (refine Ne.symm ?_; assumption)
  | (refine ne_of_none ?_ (by assumption); walk_at "lk")
  | (refine Ne.symm (ne_of_none ?_ (by assumption)); walk_at "lk"))
local macro_rules | `(tactic| walk_at "nin") => `(tactic| first
  | assumption
  | (simp only [List.mem_cons, List.not_mem_nil, or_false, not_or]; (try refine ⟨?_, ?_⟩) <;> (repeat' refine ⟨?_, ?_⟩) <;> walk_at "ne"))
local macro_rules | `(tactic| walk_at "lt") => `(tactic| first
  | assumption
  | exact Or.inl (by walk_at "lk")
  | exact Or.inr (by walk_at "lk")
  | (refine LT.ex ?_ (by assumption); walk_at "lt"))
local macro_rules | `(tactic| walk_at "mem") => `(tactic| first
  | exact Or.inl (by simp [Ids.all])
  | exact Or.inr (by assumption)
  | (refine Fr.fresh ?_ (by assumption); walk_at "fr"))
local macro_rules | `(tactic| walk_at "fr") => `(tactic| first
  | exact Fr.refl _ _
  | assumption
  | exact Ex.fr (by assumption)
  | (refine Fr.upd ?_ ?_; walk_at "fr"; walk_at "mem")
  | (refine Fr.ex ?_ (by assumption); walk_at "fr")
  | (refine Fr.trans ?_ (by assumption) ?_; walk_at "fr"; (intro a ha; exact Or.inl ha)))
local macro_rules | `(tactic| walk_at "rep") => `(tactic| first
  | assumption
  | exact ⟨by walk_at "lk", by walk_at "lk", by walk_at "lk", by walk_at "lk", by walk_at "ne", by walk_at "ne", by walk_at "ne"⟩)
local macro_rules | `(tactic| walk_at "n") => `(tactic| first | decide | omega)
local macro_rules | `(tactic| walk_at "go") => `(tactic| repeat (with_reducible first
  | (apply var_i; (k_dflt rfl))
  | apply c_i
  | apply op_i
  | apply fld_i
  | apply un_i
  | apply ru_i
  | apply cons_i
  | apply nil_i
  | apply call_i
  | apply plus_i
  | apply minus_i
  | apply i0_i
  | apply eq_i
  | apply ne_i
  | apply bl_i
  | apply test_i
  | apply tb_i
  | apply seq_i
  | apply asg_i
  | apply ret_i
  | apply if_i
  | apply iteT
  | apply iteF
  | apply next_i
  | apply drop_i
  | apply retN_i
  | apply and_i
  | apply or_i
  | apply not_i
  | apply andv_i
  | apply orv_i
  | apply notv_i
  | apply notvr_i
  | apply cb_i
  | apply tup_i
  | apply lst_i
  | apply chain_i
  | apply slice_i
  | apply part_i
  | apply part_int
  | apply nopart_i
  | apply bm_i
  | apply sfld_i
  | apply asub_i
  | apply aslice_i
  | apply atup2_i
  | apply break_i
  | apply eqMarking_i
  | apply eqIdle_i
  | apply eqMoving_i
  | apply neIdle_i
  | apply intU_i
  | apply intU_b
  | apply i1_i
  | apply i2_i
  | apply i3_i
  | (apply times_i; (walk_at "n"))
  | (apply times_j; (walk_at "n"))
  | (apply floor_i; (walk_at "n"); (walk_at "n"))
  | (apply rest_i; (walk_at "n"))
  | (apply len_i; (k_dflt rfl))
  | (apply f_words; assumption; (walk_at "lk"))
  | (apply f_nur; assumption; (walk_at "lk"))
  | (apply f_cap; assumption; (walk_at "lk"))
  | (apply f_yt; assumption; (walk_at "lk"))
  | (apply f_base; assumption; (walk_at "lk"))
  | (apply f_top; assumption; (walk_at "lk"))
  | (apply f_ob; assumption; (walk_at "lk"))
  | (apply f_ot; assumption; (walk_at "lk"))
  | (apply f_ph; assumption; (walk_at "lk"))
  | (apply f_cur; assumption; (walk_at "lk"))
  | (apply f_gr; assumption; (walk_at "lk"))
  | (apply f_rem; assumption; (walk_at "lk"))
  | (apply f_pend; assumption; (walk_at "lk"))
  | (apply ixI_i; (walk_at "lk"); assumption)
  | (apply ixL_i; (walk_at "lk"); (k_dflt rfl))
  | (apply ixLT_i; assumption; (k_dflt rfl))
  | (apply ixLTI_i; assumption; assumption)
  | (apply pow_i; (walk_at "n"); (walk_at "n"))
  | apply minU_i
  | apply maxU_i
  | (apply setI_i; (walk_at "lk"); assumption)
  | (apply tyl_i; (walk_at "lk"))
  | (apply appendI_i; (walk_at "lk"); (walk_at "n"))
  | (apply inLate_t; (walk_at "lk"))
  | (apply inLate_l; (walk_at "lk"))
  | (apply notLate_t; (walk_at "lk"))))
section
variable {K : PySem.W.Frag} {C : Addr}
theorem pure_l_whole (T : HC K C) : PureOk (t_l_whole K C) ["_law_value"] 1 (phi_l_whole K C) := by
  intro vs H Q hl h
  delta t_l_whole
  obtain ⟨x, rfl, q⟩ := h
  walk_at "go"
  apply isi_int (b := true) (by decide +kernel)
  refine andvr_i (fun d => ?_) (fun d => ?_)
  · walk_at "go"
    apply isi_int (b := false) (by decide +kernel)
    walk_at "go"
    exact q
  · cases d
/-- over a list that nothing changes -/
theorem forSq_i {σ : St} {H : Hp} {n : St → Hp → Prop} {r : VK} {b c : St → Hp → Prop} {te : TE} {tb : TS} {g : TG} {a : Addr} {xs : List V} (P : Nat → St → Hp → Prop) (he : ∀ Q : VK, Q (.ref a) H → te σ H Q) (hl : SqL K H a xs) (h0 : P 0 σ H) (hk : ∀ i σ' H', i ≤ xs.length → P i σ' H' → SqL K H' a xs)
    (step : ∀ i x σ' H', xs[i]? = some x → P i σ' H' → g x σ' H' fun σ2 H2 => tb ⟨P (i + 1), r, n, P (i + 1)⟩ σ2 H2) (done : ∀ σ' H', P xs.length σ' H' → n σ' H') : tFor (iSeq K te) g tb ⟨n, r, b, c⟩ σ H := by
  refine .inl (he _ ⟨a, rfl, ⟨xs, hl⟩, ?_⟩)
  exact for_list (xs := xs) P h0 hk step done
theorem pure_l_cell (T : HC K C) : PureOk (t_l_cell K C) ["_law_script", "_law_k", "_law_seed", "_law_cell_here"] 2 (phi_l_cell K C) := by
  intro vs H Q hl h
  delta t_l_cell
  obtain ⟨a, ns, k, rfl, hS, hz, h0, h1, q⟩ := h
  walk_at "go"
  refine ⟨_, _, rfl, .inl ⟨_, hS, rfl⟩, ?_⟩
  rw [List.length_map]
  walk_at "go"
  refine ite_b (fun d => ?_) (fun d => ?_)
  · have d1 := of_decide_eq_true d
    walk_at "go"
    obtain ⟨v, hv⟩ := rd_of_lt h0 d1
    exact .inl ⟨a, _, k, _, rfl, rfl, hS, atI_map hv, q v⟩
  · walk_at "go"
    refine forSq_i (a := a) (xs := ns.map V.int) (fun i σ' H' => ∃ s v, σ' = [some (.ref a), some (.int k), some (.int s), v] ∧ H' = H ∧ 0 ≤ s ∧ s < 1000003) ?he hS ⟨17, none, rfl, rfl, by decide, by decide⟩ ?hk ?hs ?hd
    case he =>
      intro Q' q'
      walk_at "go"
      exact q'
    case hk =>
      rintro i σ' H' hi ⟨s, v, rfl, rfl, z0, z1⟩
      exact hS
    case hs =>
      rintro i x σ' H' hx ⟨s, v, rfl, rfl, z0, z1⟩
      obtain ⟨y, rfl⟩ : ∃ y, x = V.int y := by
        rw [List.getElem?_map] at hx
        cases e : ns[i]? with
        | none => rw [e] at hx; cases hx
        | some y => rw [e] at hx; exact ⟨y, (Option.some.inj hx).symm⟩
      refine name_i ?_
      walk_at "go"
      refine ⟨_, _, rfl, rfl, ?_, ?_⟩
      · exact Int.emod_nonneg _ (by decide)
      · exact Int.emod_lt_of_pos _ (by decide)
    case hd =>
      rintro σ' H' ⟨s, v, rfl, rfl, z0, z1⟩
      walk_at "go"
      exact q _
theorem int_of {l : List Int} {i : Nat} {x : V} (hx : (l.map V.int)[i]? = some x) : ∃ y, x = V.int y ∧ l[i]? = some y := by
  rw [List.getElem?_map] at hx
  cases e : l[i]? with
  | none => rw [e] at hx; cases hx
  | some y => rw [e] at hx; exact ⟨y, (Option.some.inj hx).symm, rfl⟩
theorem take_snoc {l : List Int} {i : Nat} {y : Int} (h : l[i]? = some y) : l.take (i + 1) = l.take i ++ [y] := by
  obtain ⟨h1, h2⟩ := List.getElem?_eq_some_iff.mp h
  rw [List.take_succ, h]
  rfl
theorem pure_l_digits (T : HC K C) : PureOk (t_l_digits K C) ["_law_cell_here", "_law_sizes_here", "_law_row", "_law_rest", "_law_size", "_law_seed", "_law_k", "_law_twice"] 2 (phi_l_digits K C) := by
  intro vs H Q hl h
  delta t_l_digits
  obtain ⟨c, a, sz, rfl, ha, hS, hz, q⟩ := h
  walk_at "go"
  refine lstr_i (by simp) fun u H0 hu x0 hu0 => ?_
  have nu : a ≠ u := ne_of_none ha hu
  have ha0 := x0 _ _ ha
  walk_at "go"
  refine ite_b (fun d => ?_) (fun d => ?_)
  · walk_at "go"
    refine forSeq_i (a := a) (xs := sz.map V.int) (fun i σ' H' => ∃ row rest v, σ' = [some (.int c), some (.ref a), some (.ref u), some (.int rest), v, none, none, none] ∧ Ex H H' ∧ H' u = some (il row) ∧ Dg (sz.take i) row) ?he (.inl ha0) ?h0 ?hk ?hs ?hd
    case he =>
      intro Q' q'
      walk_at "go"
      exact q'
    case h0 => exact ⟨[], _, none, rfl, x0, hu0, True.intro⟩
    case hk =>
      rintro i σ' H' hi ⟨row, rest, v, rfl, x1, h1, dg⟩ o ho
      rw [ha0] at ho
      cases ho
      exact x1 _ _ ha
    case hs =>
      rintro i x σ' H' hx ⟨row, rest, v, rfl, x1, h1, dg⟩
      obtain ⟨y, rfl, hy⟩ := int_of hx
      obtain ⟨y0, y1⟩ := hS y (List.mem_iff_getElem?.mpr ⟨i, hy⟩)
      have hi := (List.getElem?_eq_some_iff.mp hy).1
      have hl := dg.len
      rw [List.length_take] at hl
      refine name_i ?_
      walk_at "go"
      refine ⟨row ++ [rest % y], rest / y, _, rfl, x1.mut hu, upd_same, ?_⟩
      rw [take_snoc hy]
      exact dg.snoc (Int.emod_nonneg _ (by omega)) (Int.emod_lt_of_pos _ y0)
    case hd =>
      rintro σ' H' ⟨row, rest, v, rfl, x1, h1, dg⟩
      walk_at "go"
      rw [List.length_map, List.take_length] at dg
      exact q u _ row hu x1 h1 dg
  · walk_at "go"
    refine forR1_i (j := sz.length) (fun i σ' H' => ∃ row rest v seed w z, σ' = [some (.int c), some (.ref a), some (.ref u), some (.int rest), v, some (.int seed), w, z] ∧ Ex H H' ∧ H' u = some (il row) ∧ Dg (sz.take i) row ∧ 0 ≤ seed ∧ seed < 2147483647) ?he (by omega) (by omega) ?h0 ?hs ?hd
    case he =>
      intro Q' q'
      walk_at "go"
      exact lenI_i ha0 q'
    case h0 => exact ⟨[], _, _, _, _, _, rfl, x0, hu0, True.intro, Int.emod_nonneg _ (by decide), by have := Int.emod_lt_of_pos c (show (0 : Int) < 2147483629 by decide); omega⟩
    case hs =>
      rintro i σ' H' hi ⟨row, rest, v, seed, w, z, rfl, x1, h1, dg, s0, s1⟩
      have hi' : i < sz.length := by simpa using hi
      have hy : rd sz (i : Int) = some sz[i] := rd_some.mpr ⟨by omega, by rw [Int.toNat_natCast]; exact List.getElem?_eq_getElem hi'⟩
      obtain ⟨y0, y1⟩ := hS sz[i] (List.getElem_mem hi')
      have hl := dg.len
      rw [List.length_take] at hl
      have ha1 := x1 _ _ ha
      refine name_i ?_
      walk_at "go"
      have t0 : 0 ≤ (seed * 48271 + 974711 * (i : Int) + 12345) % 2147483647 := Int.emod_nonneg _ (by decide)
      have t1 : (seed * 48271 + 974711 * (i : Int) + 12345) % 2147483647 < 2147483647 := Int.emod_lt_of_pos _ (by decide)
      generalize (seed * 48271 + 974711 * (i : Int) + 12345) % 2147483647 = s2 at *
      walk_at "go"
      refine ⟨_, _, _, _, _, _, rfl, x1.mut hu, upd_same, ?_, t0, t1⟩
      rw [take_snoc (List.getElem?_eq_getElem hi')]
      exact dg.snoc (Int.emod_nonneg _ (by omega)) (Int.emod_lt_of_pos _ y0)
    case hd =>
      rintro σ' H' ⟨row, rest, v, seed, w, z, rfl, x1, h1, dg, s0, s1⟩
      walk_at "go"
      rw [Int.toNat_natCast, List.take_length] at dg
      exact q u _ row hu x1 h1 dg
theorem rd_in {l : List Int} {i v : Int} (h : rd l i = some v) : v ∈ l := List.mem_iff_getElem?.mpr ⟨_, (rd_some.mp h).2⟩
theorem pure_l_bounds (T : HC K C) : PureOk (t_l_bounds K C) ["_law_row", "_law_cap", "_law_menu"] 1 (phi_l_bounds K C) := by
  intro vs H Q hl h
  delta t_l_bounds
  obtain ⟨a, r0, r1, r2, rest, rfl, ha, z0, z1, z2, z3, z4, z5, q⟩ := h
  have e0 : rd (r0 :: r1 :: r2 :: rest) 0 = some r0 := rfl
  have e1 : rd (r0 :: r1 :: r2 :: rest) 1 = some r1 := rfl
  have e2 : rd (r0 :: r1 :: r2 :: rest) 2 = some r2 := rfl
  walk_at "go"
  refine lstr_i (by simp) fun u H0 hu x0 hp => ?_
  replace hp : H0 u = some (il [40, 64, 60, 48, 72, 56, 80, 90, 36, 50, 44, 96, 24, 12, 0, 30]) := hp
  have ha0 := x0 _ _ ha
  walk_at "go"
  obtain ⟨c, hc⟩ := rd_of_lt (l := [40, 64, 60, 48, 72, 56, 80, 90, 36, 50, 44, 96, 24, 12, 0, 30]) (i := r0) z0 (by simp only [List.length_cons, List.length_nil]; omega)
  have hcm : 0 ≤ c ∧ c ≤ 96 := (by decide : ∀ v ∈ ([40, 64, 60, 48, 72, 56, 80, 90, 36, 50, 44, 96, 24, 12, 0, 30] : List Int), 0 ≤ v ∧ v ≤ 96) c (rd_in hc)
  apply ixI_i hp hc
  walk_at "go"
  generalize hcap : c + r1 = cap at *
  have c0 : 0 ≤ cap := by omega
  have c1 : cap ≤ 107 := by omega
  refine lstr_i (by simp) fun u1 H1 hu1 x1 hp1 => ?_
  replace hp1 : H1 u1 = some (il [0, cap, cap / 2, cap / 3, if 5 < cap then 5 else cap, if 9 < cap then 9 else cap, if 14 < cap then 14 else cap, cap / 4, if 3 < cap then 3 else cap]) := hp1
  have ha1 := x1 _ _ ha0
  walk_at "go"
  refine lstr_i (by simp) fun u2 H2 hu2 x2 hp2 => ?_
  replace hp2 : H2 u2 = some (il [r2 / 10 % (cap + 1)]) := hp2
  have ha2 := x2 _ _ ha1
  walk_at "go"
  apply catI_i (x2 _ _ hp1) hp2 (by simp)
  intro u3 H3 hu3 x3 hp3
  have ha3 := x3 _ _ ha2
  walk_at "go"
  obtain ⟨n, hn⟩ := rd_of_lt (l := [0, cap, cap / 2, cap / 3, if 5 < cap then 5 else cap, if 9 < cap then 9 else cap, if 14 < cap then 14 else cap, cap / 4, if 3 < cap then 3 else cap] ++ [r2 / 10 % (cap + 1)]) (i := r2 % 10) (Int.emod_nonneg _ (by decide)) (by
    simp only [List.length_cons, List.length_nil, List.length_append]
    omega)
  have hnm : 0 ≤ n ∧ n ≤ cap := by
    have k := rd_in hn
    simp only [List.mem_append, List.mem_cons, List.not_mem_nil, or_false] at k
    have k1 : 0 ≤ r2 / 10 % (cap + 1) := Int.emod_nonneg _ (by omega)
    have k2 : r2 / 10 % (cap + 1) < cap + 1 := Int.emod_lt_of_pos _ (by omega)
    rcases k with (k | k | k | k | k | k | k | k | k) | k <;> (try split at k) <;> omega
  apply ixI_i hp3 hn
  walk_at "go"
  refine lstr_i (by simp) fun u4 H4 hu4 x4 hp4 => ?_
  have X := (((x0.trans x1).trans x2).trans x3)
  exact q u4 H4 cap n (X.back hu4) (X.trans x4) hp4 hnm.1 hnm.2 c1
theorem pure_l_length (T : HC K C) : PureOk (t_l_length K C) ["_law_first", "_law_second", "_law_longer"] 2 (phi_l_length K C) := by
  intro vs H Q hl h
  delta t_l_length
  obtain ⟨x, y, rfl, z0, z1, z2, z3, q⟩ := h
  walk_at "go"
  refine lstr_i (by simp) fun u H0 hu x0 hp => ?_
  replace hp : H0 u = some (il [9, 9, 16, 9, 30, 9, 58, 23]) := hp
  walk_at "go"
  obtain ⟨c, hc⟩ := rd_of_lt (l := [9, 9, 16, 9, 30, 9, 58, 23]) (i := y) z2 (by simp only [List.length_cons, List.length_nil]; omega)
  have hcm : 0 ≤ c ∧ c ≤ 58 := (by decide : ∀ v ∈ ([9, 9, 16, 9, 30, 9, 58, 23] : List Int), 0 ≤ v ∧ v ≤ 58) c (rd_in hc)
  apply ixI_i hp hc
  walk_at "go"
  refine lstr_i (by simp) fun u1 H1 hu1 x1 hp1 => ?_
  replace hp1 : H1 u1 = some (il [1, 2, 3, 2, 1, 2, 4, 2, 5, 3, 1, 2, 3, 0, c, 2]) := hp1
  walk_at "go"
  obtain ⟨n, hn⟩ := rd_of_lt (l := [1, 2, 3, 2, 1, 2, 4, 2, 5, 3, 1, 2, 3, 0, c, 2]) (i := x) z0 (by simp only [List.length_cons, List.length_nil]; omega)
  have hnm : 0 ≤ n ∧ n ≤ 58 := by
    have k := rd_in hn
    simp only [List.mem_append, List.mem_cons, List.not_mem_nil, or_false] at k
    omega
  apply ixI_i hp1 hn
  exact q n H1 hnm.1 hnm.2 (x0.trans x1)
theorem pure_l_odd (T : HC K C) : PureOk (t_l_odd K C) ["_law_number", "_law_n"] 1 (phi_l_odd K C) := by
  intro vs H Q hl h
  delta t_l_odd
  obtain ⟨x, rfl, z0, z1, q⟩ := h
  walk_at "go"
  generalize hn : x / 4 * 2654435761 % 4294967296 = n at *
  have n0 : 0 ≤ n := by rw [← hn]; exact Int.emod_nonneg _ (by decide)
  have n1 : n < 4294967296 := by rw [← hn]; exact Int.emod_lt_of_pos _ (by decide)
  refine lstr_i (by simp) fun u H0 hu x0 hp => ?_
  replace hp : H0 u = some (il [4294967295, -4294967295]) := hp
  walk_at "go"
  obtain ⟨c, hc⟩ := rd_of_lt (l := [4294967295, -4294967295]) (i := n % 2) (Int.emod_nonneg _ (by decide)) (by simp only [List.length_cons, List.length_nil]; omega)
  have hcm : c % 2 = 1 := (by decide : ∀ v ∈ ([4294967295, -4294967295] : List Int), v % 2 = 1) c (rd_in hc)
  apply ixI_i hp hc
  walk_at "go"
  refine lstr_i (by simp) fun u1 H1 hu1 x1 hp1 => ?_
  replace hp1 : H1 u1 = some (il [2 * n - 4294967295, 2 * (n % 97) + 1, 2 * n - 4294967295, c]) := hp1
  walk_at "go"
  obtain ⟨m, hm⟩ := rd_of_lt (l := [2 * n - 4294967295, 2 * (n % 97) + 1, 2 * n - 4294967295, c]) (i := x % 4) (Int.emod_nonneg _ (by decide)) (by simp only [List.length_cons, List.length_nil]; omega)
  have hmm : m % 2 = 1 := by
    have k := rd_in hm
    simp only [List.mem_append, List.mem_cons, List.not_mem_nil, or_false] at k
    omega
  apply ixI_i hp1 hm
  exact q m H1 hmm (x0.trans x1)
theorem ref_of {l : List Addr} {i : Nat} {x : V} (hx : (l.map V.ref)[i]? = some x) : ∃ y, x = V.ref y ∧ l[i]? = some y := by
  rw [List.getElem?_map] at hx
  cases e : l[i]? with
  | none => rw [e] at hx; cases hx
  | some y => rw [e] at hx; exact ⟨y, (Option.some.inj hx).symm, rfl⟩
theorem pure_l_put (T : HC K C) : PureOk (t_l_put K C) ["_law_rows", "_law_spot_here", "_law_word", "_law_row"] 3 (phi_l_put K C) := by
  intro vs H Q hl h
  delta t_l_put
  obtain ⟨ra, rl, rows, s, w, rfl, hra, hrows, nd, nr, hz, q⟩ := h
  have hlen := hrows.len
  refine forSeq_i (a := ra) (xs := rl.map V.ref) (fun k σ' H' => ∃ s' v done, σ' = [some (.ref ra), some (.int s'), some (.int w), v] ∧ RowsAt H' rl (done ++ rows.drop k) ∧ done.length = k ∧ putM rows s w = done ++ putM (rows.drop k) s' w ∧ Fr rl H H') ?he hra ?h0 ?hk ?hs ?hd
  case he =>
    intro Q' q'
    walk_at "go"
    exact q'
  case h0 => exact ⟨s, none, [], rfl, hrows, rfl, rfl, Fr.refl _ _⟩
  case hk =>
    rintro k σ' H' hk ⟨s', v, done, rfl, hr, hd, ep, f⟩ o ho
    exact f _ _ ho nr
  case hs =>
    rintro k x σ' H' hx ⟨s', v, done, rfl, hr, hd, ep, f⟩
    obtain ⟨a, rfl, ha⟩ := ref_of hx
    have hkl : k < rl.length := (List.getElem?_eq_some_iff.mp ha).1
    have hk2 : k < rows.length := by omega
    have ed : rows.drop k = rows[k] :: rows.drop (k + 1) := List.drop_eq_getElem_cons hk2
    rw [ed] at hr ep
    obtain ⟨r, hr1, har⟩ := hr.get ha
    have er : r = rows[k] := by
      rw [List.getElem?_append_right (by omega), hd, Nat.sub_self] at hr1
      exact (Option.some.inj hr1).symm
    subst er
    have am : a ∈ rl := List.mem_iff_getElem?.mpr ⟨k, ha⟩
    refine name_i ?_
    have fin : ∀ (H1 : Hp) (r' : List Int), RowsAt H1 rl (done ++ r' :: rows.drop (k + 1)) → H1 a = some (il r') → r'.length = rows[k].length → Fr rl H H1 → r' = (if 0 ≤ s' ∧ s' < (rows[k].length : Int) then rows[k].set s'.toNat w else rows[k]) →
        tAsg (tOp rMinus (tVar 1) (tCB (rLenU K) (tCons (tVar 3) tNil))) (gName 1) ⟨fun σ' H' => ∃ s' v done, σ' = [some (.ref ra), some (.int s'), some (.int w), v] ∧ RowsAt H' rl (done ++ rows.drop (k + 1)) ∧ done.length = k + 1 ∧ putM rows s w = done ++ putM (rows.drop (k + 1)) s' w ∧ Fr rl H H', Q,
          fun σ' H' => Q .non H', fun σ' H' => ∃ s' v done, σ' = [some (.ref ra), some (.int s'), some (.int w), v] ∧ RowsAt H' rl (done ++ rows.drop (k + 1)) ∧ done.length = k + 1 ∧ putM rows s w = done ++ putM (rows.drop (k + 1)) s' w ∧ Fr rl H H'⟩ [some (.ref ra), some (.int s'), some (.int w), some (.ref a)] H1 := by
      intro H1 r' hr' ha' hl' f' e'
      walk_at "go"
      apply lenI_i ha'
      walk_at "go"
      refine ⟨s' - r'.length, _, done ++ [r'], rfl, by rw [List.append_assoc]; exact hr', by rw [List.length_append, hd]; rfl, ?_, f'⟩
      rw [ep, List.append_assoc, putM_cons, ← e', hl']
      rfl
    walk_at "go"
    refine ite_b (fun d => ?_) (fun d => ?_)
    · walk_at "go"
      apply lenI_i har
      walk_at "go"
      refine ite_b (fun d1 => ?_) (fun d1 => ?_)
      · have c0 := of_decide_eq_true d
        have c1 := of_decide_eq_true d1
        have hw : wr rows[k] s' w = some (rows[k].set s'.toNat w) := wr_some.mpr ⟨⟨c0, c1⟩, rfl⟩
        have hu := hr.upd (r := rows[k].set s'.toNat w) nd ha
        rw [List.set_append_right _ _ (by omega), hd, Nat.sub_self, List.set_cons_zero] at hu
        exact asub_i (var_i rfl (var_i rfl (var_i rfl (setI_i har hw (fin _ _ hu upd_same List.length_set (f.upd (.inl am)) (by rw [if_pos ⟨c0, c1⟩]))))))
      · have c1 := of_decide_eq_false d1
        exact next_i (fin _ _ hr har rfl f (by rw [if_neg (by omega)]))
    · have c0 := of_decide_eq_false d
      simp only [Bool.false_eq_true, if_false]
      exact next_i (fin _ _ hr har rfl f (by rw [if_neg (by omega)]))
  case hd =>
    rintro σ' H' ⟨s', v, done, rfl, hr, hd, ep, f⟩
    rw [List.length_map, hlen, List.drop_length] at hr ep
    have e2 : putM rows s w = done := by
      rw [ep]
      exact List.append_nil _
    rw [List.append_nil] at hr
    exact q _ (by rw [e2]; exact hr) f
end
end Qb

set_option Elab.async false
set_option linter.all false
set_option maxRecDepth 100000
set_option maxHeartbeats 4000000
/-! Law2: payloads, snapshots, the law's own memory read. -/
namespace Qb
open PySem L2
def t_Heap_init (K : PySem.W.Frag) (C : Addr) : TS := (tThen (sFld K (tVar 0) (tVar 1) "capacity") (tThen (sFld K (tVar 0) (tVar 2) "nursery") (tThen (sFld K (tVar 0) (tOp rTimes (tLst (tCons (tC (.int 0)) tNil)) (tOp (rPlus K) (tOp (rPlus K) (tC (.int 1)) (tVar 2)) (tOp rTimes (tC (.int 2)) (tVar 1)))) "words") (tThen (sFld K (tVar 0) (tC (.int 1)) "young_top") (tThen (sFld K (tVar 0) (tOp (rPlus K) (tVar 2) (tC (.int 1))) "base") (tThen (sFld K (tVar 0) (tOp (rPlus K) (tVar 2) (tC (.int 1))) "top") (tThen (sFld K (tVar 0) (tOp (rPlus K) (tOp (rPlus K) (tVar 2) (tC (.int 1))) (tVar 1)) "other_base") (tThen (sFld K (tVar 0) (tOp (rPlus K) (tOp (rPlus K) (tVar 2) (tC (.int 1))) (tVar 1)) "other_top") (tThen (sFld K (tVar 0) (tC (.str "idle")) "phase") (tThen (sFld K (tVar 0) (tC (.int 0)) "cursor") (tThen (sFld K (tVar 0) (tLst tNil) "grays") (tThen (sFld K (tVar 0) (tLst tNil) "remembered") (sFld K (tVar 0) (tC (.int 0)) "pending")))))))))))))
def t_snapshot (K : PySem.W.Frag) (C : Addr) : TS := (tRet (tTup (tCons (tFld K (tVar 0) "phase") (tCons (tFld K (tVar 0) "young_top") (tCons (tFld K (tVar 0) "base") (tCons (tFld K (tVar 0) "top") (tCons (tFld K (tVar 0) "other_base") (tCons (tFld K (tVar 0) "other_top") (tCons (tFld K (tVar 0) "cursor") (tCons (tCB (rTupU K) (tCons (tFld K (tVar 0) "grays") tNil)) (tCons (tCB (rTupU K) (tCons (tFld K (tVar 0) "remembered") tNil)) (tCons (tFld K (tVar 0) "pending") (tCons (tCB (rTupU K) (tCons (tFld K (tVar 0) "words") tNil)) tNil)))))))))))))
def t_l_kinds (K : PySem.W.Frag) (C : Addr) : TS := (tThen (tIfS (tOr (tNot (tB (tCB (rIsi K) (tCons (tVar 0) (tCons (tC (.ty "tuple")) tNil))))) (tOr (tTest (tOp (rNeU K) (tCB (rLenU K) (tCons (tVar 0) tNil)) (tC (.int 11)))) (tNot (tB (tCB (rIsi K) (tCons (tOp (rIx K) (tVar 0) (tC (.int 0))) (tCons (tC (.ty "str")) tNil))))))) (tRet (tC (.bl false))) tNext) (tThen (tFor (iSeq K (tLst (tCons (tC (.int 7)) (tCons (tC (.int 8)) (tCons (tC (.int 10)) tNil))))) (gName 1) (tIfS (tNot (tB (tCB (rIsi K) (tCons (tOp (rIx K) (tVar 0) (tVar 1)) (tCons (tC (.ty "tuple")) tNil))))) (tRet (tC (.bl false))) tNext)) (tThen (tAsg (tOp (rPlus K) (tOp (rPlus K) (tOp (rPlus K) (tOp (rPlus K) (tCB (rListU K) (tCons (tSl (rSlU K) (tVar 0) (tPart (tC (.int 1))) (tPart (tC (.int 7)))) tNil)) (tLst (tCons (tOp (rIx K) (tVar 0) (tC (.int 9))) tNil))) (tCB (rListU K) (tCons (tOp (rIx K) (tVar 0) (tC (.int 7))) tNil))) (tCB (rListU K) (tCons (tOp (rIx K) (tVar 0) (tC (.int 8))) tNil))) (tCB (rListU K) (tCons (tOp (rIx K) (tVar 0) (tC (.int 10))) tNil))) (gName 2)) (tRet (tOp (rEqU K) (tBM K "list" (rCntB K) (tLc (iSeq K (tVar 2)) (gName 3) tYes (tCallF 1 (phi_l_whole K C) (tCons (tVar 3) tNil)) [3]) (tCons (tC (.bl false)) tNil)) (tC (.int 0)))))))
def t_l_memory (K : PySem.W.Frag) (C : Addr) : TS := (tRet (tLst (tCons (tC (.str "idle")) (tCons (tC (.int 1)) (tCons (tOp (rPlus K) (tVar 1) (tC (.int 1))) (tCons (tOp (rPlus K) (tVar 1) (tC (.int 1))) (tCons (tOp (rPlus K) (tOp (rPlus K) (tVar 1) (tC (.int 1))) (tVar 0)) (tCons (tOp (rPlus K) (tOp (rPlus K) (tVar 1) (tC (.int 1))) (tVar 0)) (tCons (tC (.int 0)) (tCons (tLst tNil) (tCons (tLst tNil) (tCons (tC (.int 0)) (tCons (tOp rTimes (tLst (tCons (tC (.int 0)) tNil)) (tOp (rPlus K) (tOp (rPlus K) (tC (.int 1)) (tVar 1)) (tOp rTimes (tC (.int 2)) (tVar 0)))) tNil)))))))))))))
def t_l_shot (K : PySem.W.Frag) (C : Addr) : TS := (tRet (tOp (rPlus K) (tCB (rTupU K) (tCons (tSl (rSlU K) (tVar 0) tNoPart (tPart (tC (.int 7)))) tNil)) (tTup (tCons (tCB (rTupU K) (tCons (tOp (rIx K) (tVar 0) (tC (.int 7))) tNil)) (tCons (tCB (rTupU K) (tCons (tOp (rIx K) (tVar 0) (tC (.int 8))) tNil)) (tCons (tOp (rIx K) (tVar 0) (tC (.int 9))) (tCons (tCB (rTupU K) (tCons (tOp (rIx K) (tVar 0) (tC (.int 10))) tNil)) tNil)))))))
def t_l_used (K : PySem.W.Frag) (C : Addr) : TS := (tThen (tIfS (tTest (tOp (rIn K false) (tOp (rIx K) (tVar 0) (tC (.int 0))) (tLst (tCons (tC (.str "moving")) (tCons (tC (.str "updating")) tNil))))) (tRet (tOp rMinus (tOp (rPlus K) (tOp (rPlus K) (tOp rMinus (tOp (rIx K) (tVar 0) (tC (.int 1))) (tC (.int 1))) (tOp (rIx K) (tVar 0) (tC (.int 9)))) (tOp (rIx K) (tVar 0) (tC (.int 5)))) (tOp (rIx K) (tVar 0) (tC (.int 4))))) tNext) (tRet (tOp rMinus (tOp (rPlus K) (tOp rMinus (tOp (rIx K) (tVar 0) (tC (.int 1))) (tC (.int 1))) (tOp (rIx K) (tVar 0) (tC (.int 3)))) (tOp (rIx K) (tVar 0) (tC (.int 2))))))
def t_l_spot (K : PySem.W.Frag) (C : Addr) : TS := (tThen (tIfS (tAnd (tTest (tOp (rIn K false) (tOp (rIx K) (tVar 0) (tC (.int 0))) (tLst (tCons (tC (.str "moving")) (tCons (tC (.str "updating")) tNil))))) (tAnd (tTest (tOp rLe (tOp (rIx K) (tVar 0) (tC (.int 2))) (tVar 2))) (tTest (tOp rLt (tVar 2) (tOp (rPlus K) (tOp (rIx K) (tVar 0) (tC (.int 2))) (tVar 1)))))) (tIfS (tTest (tOp rGt (tOp rFloor (tOp (rIx K) (tOp (rIx K) (tVar 0) (tC (.int 10))) (tOp (rPlus K) (tVar 2) (tC (.int 1)))) (tC (.int 8))) (tC (.int 0)))) (tRet (tOp rFloor (tOp (rIx K) (tOp (rIx K) (tVar 0) (tC (.int 10))) (tOp (rPlus K) (tVar 2) (tC (.int 1)))) (tC (.int 8)))) tNext) tNext) (tRet (tVar 2)))
def t_l_led (K : PySem.W.Frag) (C : Addr) : TS := (tThen (tIfS (tAnd (tTest (tOp rGt (tVar 2) (tC (.int 0)))) (tTest (tOp (rEqU K) (tOp rRest (tCB rIntU (tCons (tVar 2) tNil)) (tC (.int 2))) (tC (.int 0))))) (tRet (tOp rTimes (tC (.int 2)) (tCallF 3 (phi_l_spot K C) (tCons (tVar 0) (tCons (tVar 1) (tCons (tOp rFloor (tVar 2) (tC (.int 2))) tNil)))))) tNext) (tRet (tVar 2)))
local macro_rules | `(tactic| walk_at "lk") => `(tactic| first
  | assumption
  | exact upd_same
  | (refine upd_get ?_ ?_; walk_at "ne"; walk_at "lk")
  | (refine Ex.get (by assumption) ?_; walk_at "lk")
  | (refine Fr.get (by assumption) ?_ ?_; walk_at "lk"; walk_at "nin"))
local macro_rules | `(tactic| walk_at "ne") => `(tactic| first
  | assumption
  | (refine Ne.symm ?_; assumption)
  | (refine ne_of_none ?_ (by assumption); walk_at "lk")
  | (refine Ne.symm (ne_of_none ?_ (by assumption)); walk_at "lk"))
local macro_rules | `(tactic| walk_at "nin") => `(tactic| first
  | assumption
  | (simp only [List.mem_cons, List.not_mem_nil, or_false, not_or]; (try refine ⟨?_, ?_⟩) <;> (repeat' refine ⟨?_, ?_⟩) <;> walk_at "ne"))
local macro_rules | `(tactic| walk_at "lt") => `(tactic| first
  | assumption
  | exact Or.inl (by walk_at "lk")
  | exact Or.inr (by walk_at "lk")
  | (refine LT.ex ?_ (by assumption); walk_at "lt"))
local macro_rules | `(tactic| walk_at "mem") => `(tactic| first
  | exact Or.inl (by simp [Ids.all])
  | exact Or.inr (by assumption)
  | (refine Fr.fresh ?_ (by assumption); walk_at "fr"))
local macro_rules | `(tactic| walk_at "fr") => `(tactic| first
  | exact Fr.refl _ _
  | assumption
  | exact Ex.fr (by assumption)
  | (refine Fr.upd ?_ ?_; walk_at "fr"; walk_at "mem")
  | (refine Fr.ex ?_ (by assumption); walk_at "fr")
  | (refine Fr.trans ?_ (by assumption) ?_; walk_at "fr"; (intro a ha; exact Or.inl ha)))
local macro_rules | `(tactic| walk_at "rep") => `(tactic| first
  | assumption
  | exact ⟨by walk_at "lk", by walk_at "lk", by walk_at "lk", by walk_at "lk", by walk_at "ne", by walk_at "ne", by walk_at "ne"⟩)
local macro_rules | `(tactic| walk_at "n") => `(tactic| first | decide | omega)
local macro_rules | `(tactic| walk_at "go") => `(tactic| repeat (with_reducible first
  | (apply var_i; (k_dflt rfl))
  | apply c_i
  | apply op_i
  | apply fld_i
  | apply un_i
  | apply ru_i
  | apply cons_i
  | apply nil_i
  | apply call_i
  | apply plus_i
  | apply minus_i
  | apply i0_i
  | apply eq_i
  | apply ne_i
  | apply bl_i
  | apply test_i
  | apply tb_i
  | apply seq_i
  | apply asg_i
  | apply ret_i
  | apply if_i
  | apply iteT
  | apply iteF
  | apply next_i
  | apply drop_i
  | apply retN_i
  | apply and_i
  | apply or_i
  | apply not_i
  | apply andv_i
  | apply orv_i
  | apply notv_i
  | apply notvr_i
  | apply cb_i
  | apply tup_i
  | apply lst_i
  | apply chain_i
  | apply slice_i
  | apply part_i
  | apply part_int
  | apply nopart_i
  | apply bm_i
  | apply sfld_i
  | apply asub_i
  | apply aslice_i
  | apply atup2_i
  | apply break_i
  | apply eqMarking_i
  | apply eqIdle_i
  | apply eqMoving_i
  | apply neIdle_i
  | apply intU_i
  | apply intU_b
  | apply i1_i
  | apply i2_i
  | apply i3_i
  | (apply times_i; (walk_at "n"))
  | (apply times_j; (walk_at "n"))
  | (apply floor_i; (walk_at "n"); (walk_at "n"))
  | (apply rest_i; (walk_at "n"))
  | (apply len_i; (k_dflt rfl))
  | (apply f_words; assumption; (walk_at "lk"))
  | (apply f_nur; assumption; (walk_at "lk"))
  | (apply f_cap; assumption; (walk_at "lk"))
  | (apply f_yt; assumption; (walk_at "lk"))
  | (apply f_base; assumption; (walk_at "lk"))
  | (apply f_top; assumption; (walk_at "lk"))
  | (apply f_ob; assumption; (walk_at "lk"))
  | (apply f_ot; assumption; (walk_at "lk"))
  | (apply f_ph; assumption; (walk_at "lk"))
  | (apply f_cur; assumption; (walk_at "lk"))
  | (apply f_gr; assumption; (walk_at "lk"))
  | (apply f_rem; assumption; (walk_at "lk"))
  | (apply f_pend; assumption; (walk_at "lk"))
  | (apply ixI_i; (walk_at "lk"); assumption)
  | (apply ixL_i; (walk_at "lk"); (k_dflt rfl))
  | (apply ixLT_i; assumption; (k_dflt rfl))
  | (apply ixLTI_i; assumption; assumption)
  | (apply pow_i; (walk_at "n"); (walk_at "n"))
  | apply minU_i
  | apply maxU_i
  | (apply setI_i; (walk_at "lk"); assumption)
  | (apply tyl_i; (walk_at "lk"))
  | (apply appendI_i; (walk_at "lk"); (walk_at "n"))
  | (apply inLate_t; (walk_at "lk"))
  | (apply inLate_l; (walk_at "lk"))
  | (apply notLate_t; (walk_at "lk"))))
section
variable {K : PySem.W.Frag} {C : Addr}
theorem pure_l_payload (T : HC K C) : PureOk (t_l_payload K C) ["_law_length_here", "_law_mix", "_law_number", "_law_menu", "_law_k"] 3 (phi_l_payload K C) := by
  intro vs H Q hl h
  delta t_l_payload
  obtain ⟨n, x, y, rfl, z0, z1, z2, z3, z4, z5, q⟩ := h
  walk_at "go"
  refine ite_b (fun d => ?_) (fun d => ?_)
  · walk_at "go"
    refine compR_i (n := n) (fun _ v => ∃ i, v = V.int i ∧ (i = 0 ∨ i % 2 = 1)) ?he z0 (by omega) ?hs ?hd
    case he =>
      intro Q' q'
      walk_at "go"
      exact q'
    case hs =>
      intro k H1 x1 hk Q' q'
      walk_at "go"
      refine ⟨_, rfl, by omega, by omega, fun v H2 hv x2 => ?_⟩
      exact q' H2 _ x2 ⟨v, rfl, .inr hv⟩
    case hd =>
      intro p H1 l hp x1 h1 hl g
      obtain ⟨l', rfl, g'⟩ := ints_out (P := fun i => i = 0 ∨ i % 2 = 1) fun y hy => by
        obtain ⟨k, hk⟩ := List.mem_iff_getElem?.mp hy
        exact g k y hk
      exact q p H1 l' hp x1 h1 (by rw [List.length_map] at hl; exact hl) g'
  · walk_at "go"
    refine ⟨_, rfl, z4, by omega, fun v H1 hv x1 => ?_⟩
    walk_at "go"
    refine lstr_i (by simp) fun u H2 hu x2 hp => ?_
    replace hp : H2 u = some (il [0, 1, 0, v, 1, 0, 1, 2 * (y % 61) + 1]) := hp
    have mm : ∀ w ∈ ([0, 1, 0, v, 1, 0, 1, 2 * (y % 61) + 1] : List Int), w = 0 ∨ w % 2 = 1 := fun w hw => by
      simp only [List.mem_append, List.mem_cons, List.not_mem_nil, or_false] at hw
      omega
    have X := x1.trans x2
    walk_at "go"
    refine compR_i (n := n) (fun _ v => ∃ i, v = V.int i ∧ (i = 0 ∨ i % 2 = 1)) ?he1 z0 (by omega) ?hs1 ?hd1
    case he1 =>
      intro Q' q'
      walk_at "go"
      exact q'
    case hs1 =>
      intro k H3 x3 hk Q' q'
      have hp3 := x3 _ _ hp
      walk_at "go"
      obtain ⟨m, hm⟩ := rd_of_lt (l := [0, 1, 0, v, 1, 0, 1, 2 * (y % 61) + 1]) (i := (x + (k : Int) * (1 + y % 3)) % 8) (Int.emod_nonneg _ (by decide)) (by
        have := Int.emod_lt_of_pos (x + (k : Int) * (1 + y % 3)) (show (0 : Int) < 8 by decide)
        simp only [List.length_cons, List.length_nil]
        omega)
      apply ixI_i hp3 hm
      exact q' H3 _ (Ex.refl _) ⟨m, rfl, mm m (rd_in hm)⟩
    case hd1 =>
      intro p H1 l hp x1 h1 hl g
      obtain ⟨l', rfl, g'⟩ := ints_out (P := fun i => i = 0 ∨ i % 2 = 1) fun y hy => by
        obtain ⟨k, hk⟩ := List.mem_iff_getElem?.mp hy
        exact g k y hk
      exact q p H1 l' (X.back hp) (X.trans x1) h1 (by rw [List.length_map] at hl; exact hl) g'
theorem pure_snapshot (T : HC K C) : PureOk (t_snapshot K C) ["heap"] 1 (phi_snapshot K C) := by
  intro vs H Q hl h
  delta t_snapshot
  obtain ⟨i, h, rfl, R, q⟩ := h
  obtain ⟨hO, hW, hG, hR, n1, n2, n3⟩ := id R
  walk_at "go"
  refine tupL_i hG fun u1 H1 hu1 x1 hp1 => ?_
  obtain ⟨hO1, hW1, hG1, hR1, _, _, _⟩ := id (R.ex x1)
  walk_at "go"
  refine tupL_i hR1 fun u2 H2 hu2 x2 hp2 => ?_
  obtain ⟨hO2, hW2, hG2, hR2, _, _, _⟩ := id ((R.ex x1).ex x2)
  walk_at "go"
  refine tupL_i hW2 fun u3 H3 hu3 x3 hp3 => ?_
  walk_at "go"
  refine tupr_i (by simp) fun u4 H4 hu4 x4 hp4 => ?_
  have X := (x1.trans x2).trans x3
  exact q H4 u4 (X.back hu4) (X.trans x4) ⟨u1, u2, u3, hp4, x4 _ _ (x3 _ _ (x2 _ _ hp1)), x4 _ _ (x3 _ _ hp2), x4 _ _ hp3⟩
theorem pure_l_shot (T : HC K C) : PureOk (t_l_shot K C) ["_law_mem"] 1 (phi_l_shot K C) := by
  intro vs H Q hl h
  delta t_l_shot
  obtain ⟨i, h, rfl, M, q⟩ := h
  obtain ⟨hM, hW, hG, hR, n1, n2, n3⟩ := id M
  walk_at "go"
  refine slL_i (ys := [.str h.ph.str, .int h.yt, .int h.base, .int h.top, .int h.ob, .int h.ot, .int h.cur]) hM rfl fun u1 H1 hu1 x1 hp1 => ?_
  walk_at "go"
  refine tupL_i hp1 fun u2 H2 hu2 x2 hp2 => ?_
  have M2 := (M.ex x1).ex x2
  obtain ⟨hM2, hW2, hG2, hR2, _, _, _⟩ := id M2
  walk_at "go"
  refine tupL_i hG2 fun u3 H3 hu3 x3 hp3 => ?_
  have M3 := M2.ex x3
  obtain ⟨hM3, hW3, hG3, hR3, _, _, _⟩ := id M3
  walk_at "go"
  refine tupL_i hR3 fun u4 H4 hu4 x4 hp4 => ?_
  have M4 := M3.ex x4
  obtain ⟨hM4, hW4, hG4, hR4, _, _, _⟩ := id M4
  walk_at "go"
  refine tupL_i hW4 fun u5 H5 hu5 x5 hp5 => ?_
  walk_at "go"
  refine tupr_i (by simp) fun u6 H6 hu6 x6 hp6 => ?_
  have X := (((x3.trans x4).trans x5).trans x6)
  refine catT_i (X _ _ hp2) hp6 (fun z => nomatch z) (fun z => nomatch z) (by simp) fun u7 H7 hu7 x7 hp7 => ?_
  have Y := (x1.trans x2).trans X
  exact q H7 u7 (Y.back hu7) (Y.trans x7) ⟨u3, u4, u5, hp7, x7 _ _ (x6 _ _ (x5 _ _ (x4 _ _ hp3))), x7 _ _ (x6 _ _ (x5 _ _ hp4)), x7 _ _ (x6 _ _ hp5)⟩
theorem pure_l_used (T : HC K C) : PureOk (t_l_used K C) ["_law_mem"] 1 (phi_l_used K C) := by
  intro vs H Q hl h
  delta t_l_used
  obtain ⟨m, h, rfl, ⟨g, r, w, hM, hG, hR, hW⟩, q⟩ := h
  have hM' := hM
  unfold shotV at hM'
  walk_at "go"
  refine lstr_i (by simp) fun u1 H1 hu1 x1 hp1 => ?_
  have hM1 := hM.ex x1
  walk_at "go"
  refine ite_b (fun d => ?_) (fun d => ?_)
  · walk_at "go"
    have e : h.used = h.yt - 1 + h.pend + h.ot - h.ob := by unfold HS.used; rw [if_pos d]; omega
    rw [← e]
    exact q H1 x1
  · walk_at "go"
    have e : h.used = h.yt - 1 + h.top - h.base := by unfold HS.used; rw [if_neg (by rw [d]; exact Bool.false_ne_true)]; omega
    rw [← e]
    exact q H1 x1
theorem pure_l_spot (T : HC K C) : PureOk (t_l_spot K C) ["_law_mem", "_law_cap", "_law_address"] 3 (phi_l_spot K C) := by
  intro vs H Q hl h
  delta t_l_spot
  obtain ⟨m, h, a, b, rfl, ⟨g, r, w, hM, hG, hR, hW⟩, hb, q⟩ := h
  unfold resolveM at hb
  walk_at "go"
  refine lstr_i (by simp) fun u1 H1 hu1 x1 hp1 => ?_
  have hM1 := hM.ex x1
  have hW1 := hW.ex x1
  have out : ¬ (h.ph.late = true ∧ h.base ≤ a ∧ a < h.base + h.cap) → Q (.int a) H1 := fun z => by
    have e : b = a := by
      by_cases c : h.ph.late = true
      · rw [if_pos c, if_neg (fun y => z ⟨c, y⟩)] at hb
        exact (Option.some.inj hb).symm
      · rw [if_neg c] at hb
        exact (Option.some.inj hb).symm
    rw [← e]
    exact q H1 x1
  walk_at "go"
  refine ite_b (fun d => ?_) (fun d => ?_)
  · walk_at "go"
    refine ite_b (fun d1 => ?_) (fun d1 => ?_)
    · walk_at "go"
      have c1 := of_decide_eq_true d1
      refine ite_b (fun d2 => ?_) (fun d2 => ?_)
      · have c2 := of_decide_eq_true d2
        rw [if_pos d, if_pos ⟨c1, c2⟩] at hb
        obtain ⟨s, hs, hb⟩ := Option.bind_eq_some_iff.mp hb
        walk_at "go"
        refine ite_b (fun d3 => ?_) (fun d3 => ?_)
        · rw [if_pos (by have := of_decide_eq_true d3; omega)] at hb
          cases hb
          walk_at "go"
          exact q H1 x1
        · rw [if_neg (by have := of_decide_eq_false d3; omega)] at hb
          cases hb
          walk_at "go"
          exact q H1 x1
      · walk_at "go"
        exact out (fun z => by have := of_decide_eq_false d2; omega)
    · walk_at "go"
      exact out (fun z => by have := of_decide_eq_false d1; omega)
  · walk_at "go"
    exact out (fun z => by rw [z.1] at d; cases d)
theorem pure_l_led (T : HC K C) : PureOk (t_l_led K C) ["_law_mem", "_law_cap", "_law_word"] 3 (phi_l_led K C) := by
  intro vs H Q hl h
  delta t_l_led
  obtain ⟨m, h, a, b, rfl, M, ok, hb, q⟩ := h
  have same : isRef a = (decide (0 < a) && decide (a % 2 = 0)) := by
    unfold isRef
    unfold okw at ok
    simp only [Bool.or_eq_true, decide_eq_true_eq] at ok
    rw [Bool.eq_iff_iff]
    simp only [Bool.and_eq_true, decide_eq_true_eq, Bool.not_eq_true', decide_eq_false_iff_not]
    omega
  unfold resolveW at hb
  rw [same] at hb
  walk_at "go"
  refine ite_b (fun d => ?_) (fun d => ?_)
  · walk_at "go"
    refine ite_b (fun d1 => ?_) (fun d1 => ?_)
    · have d' : decide (0 < a) = true := d
      rw [d', d1] at hb
      obtain ⟨s, hs, hb⟩ := Option.bind_eq_some_iff.mp hb
      cases hb
      walk_at "go"
      refine ⟨m, h, _, _, rfl, M, hs, fun H1 x1 => ?_⟩
      walk_at "go"
      exact q H1 x1
    · walk_at "go"
      rw [d1, Bool.and_false] at hb
      cases hb
      exact q H (Ex.refl _)
  · walk_at "go"
    have d' : decide (0 < a) = false := d
    rw [d', Bool.false_and] at hb
    cases hb
    exact q H (Ex.refl _)
theorem putF_len (f : Str) (v : V) : ∀ fs : List (Str × V), (putF f v fs).length ≤ fs.length + 1
  | [] => Nat.le_refl _
  | (g, x) :: r => by
    unfold putF
    split
    · exact Nat.le_succ _
    · exact Nat.succ_le_succ (putF_len f v r)
theorem sf_new (T : Cls K C) {p dx : Addr} {H : Hp} {f : Str} {fs : List (Str × V)} {m : Nat} {v : V} {k : Hp → Prop} (n : NoAttr K C f) (e : H p = some (.ins C dx fs)) (l : fs.length ≤ m) (lm : m < 1000)
    (q : ∀ (fs' : List (Str × V)) (H' : Hp), putF f v fs = fs' → fs'.length ≤ m + 1 → H' p = some (.ins C dx fs') → (∀ a o, a ≠ p → H a = o → H' a = o) → k H') : SFldR K f (.ref p) v H k :=
  sf_of T n e (Nat.lt_of_le_of_lt l lm) rfl (q _ _ rfl (Nat.le_trans (putF_len ..) (Nat.succ_le_succ l)) upd_same fun a o ha z => (upd_ne ha).trans z)
theorem pure_Heap_init (T : HC K C) : PureOk (t_Heap_init K C) ["self", "capacity", "nursery"] 3 (phi_Heap_init K C) := by
  intro vs H Q hl h
  delta t_Heap_init
  obtain ⟨x, dx, cap, nur, rfl, hx, z0, z1, z2, z3, q⟩ := h
  walk_at "go"
  refine sf_new T.cl T.n_capacity hx (Nat.le_refl _) (by decide) fun F1 H1 e1 l1 h1 k1 => ?_
  walk_at "go"
  refine sf_new T.cl T.n_nursery h1 l1 (by decide) fun F2 H2 e2 l2 h2 k2 => ?_
  walk_at "go"
  refine lstr_i (by simp) fun u H3 hu x3 hp => ?_
  walk_at "go"
  apply repI_i (l := [0]) hp (by omega) (by omega) (by simp)
  intro w H4 hw x4 hw4
  rw [show (List.replicate (1 + nur + 2 * cap).toNat ([0] : List Int)).flatten = List.replicate (1 + nur + 2 * cap).toNat 0 from List.flatten_replicate_singleton] at hw4
  walk_at "go"
  have wx : w ≠ x := (ne_of_none (x3 _ _ h2) hw).symm
  refine sf_new T.cl T.n_words ((x3.trans x4) _ _ h2) l2 (by decide) fun F3 H5 e3 l3 h3 k3 => ?_
  walk_at "go"
  refine sf_new T.cl T.n_young_top h3 l3 (by decide) fun F4 H6 e4 l4 h4 k4 => ?_
  walk_at "go"
  refine sf_new T.cl T.n_base h4 l4 (by decide) fun F5 H7 e5 l5 h5 k5 => ?_
  walk_at "go"
  refine sf_new T.cl T.n_top h5 l5 (by decide) fun F6 H8 e6 l6 h6 k6 => ?_
  walk_at "go"
  refine sf_new T.cl T.n_other_base h6 l6 (by decide) fun F7 H9 e7 l7 h7 k7 => ?_
  walk_at "go"
  refine sf_new T.cl T.n_other_top h7 l7 (by decide) fun F8 H10 e8 l8 h8 k8 => ?_
  walk_at "go"
  refine sf_new T.cl T.n_phase h8 l8 (by decide) fun F9 H11 e9 l9 h9 k9 => ?_
  walk_at "go"
  refine sf_new T.cl T.n_cursor h9 l9 (by decide) fun F10 H12 e10 l10 h10 k10 => ?_
  have hw12 : H12 w = some (il (List.replicate (1 + nur + 2 * cap).toNat 0)) := k10 _ _ wx (k9 _ _ wx (k8 _ _ wx (k7 _ _ wx (k6 _ _ wx (k5 _ _ wx (k4 _ _ wx (k3 _ _ wx hw4)))))))
  have f12 : Fr [x] H H12 := fun a o ha na => by
    have n : a ≠ x := fun z => na (by simp [z])
    have y2 : H2 a = some o := k2 _ _ n (k1 _ _ n ha)
    exact k10 _ _ n (k9 _ _ n (k8 _ _ n (k7 _ _ n (k6 _ _ n (k5 _ _ n (k4 _ _ n (k3 _ _ n ((x3.trans x4) _ _ y2))))))))
  walk_at "go"
  refine lstr_i (by simp) fun g H13 hg x13 hg13 => ?_
  have gx : g ≠ x := (ne_of_none h10 hg).symm
  have gw : g ≠ w := (ne_of_none hw12 hg).symm
  walk_at "go"
  refine sf_new T.cl T.n_grays (x13 _ _ h10) l10 (by decide) fun F11 H14 e11 l11 h11 k11 => ?_
  have hg14 := k11 _ _ gx hg13
  have hw14 := k11 _ _ wx (x13 _ _ hw12)
  have f14 : Fr [x] H H14 := fun a o ha na => k11 _ _ (fun z => na (by simp [z])) (x13 _ _ (f12 _ _ ha na))
  walk_at "go"
  refine lstr_i (by simp) fun r H15 hr x15 hr15 => ?_
  have rx : r ≠ x := (ne_of_none h11 hr).symm
  have rw' : r ≠ w := (ne_of_none hw14 hr).symm
  have rg : r ≠ g := (ne_of_none hg14 hr).symm
  walk_at "go"
  refine sf_new T.cl T.n_remembered (x15 _ _ h11) l11 (by decide) fun F12 H16 e12 l12 h12 k12 => ?_
  walk_at "go"
  refine sf_new T.cl T.n_pending h12 l12 (by decide) fun F13 H17 e13 l13 h13 k13 => ?_
  walk_at "go"
  have nn : ∀ a, a ≠ x → H12 a = none → H a = none := fun a na ha => by
    cases e : H a with
    | none => rfl
    | some o => rw [f12 a o e (by simpa using na)] at ha; cases ha
  have nn14 : H14 r = none → H r = none := fun ha => by
    cases e : H r with
    | none => rfl
    | some o => rw [f14 r o e (by simpa using rx)] at ha; cases ha
  have nw : H w = none := by
    cases e : H w with
    | none => rfl
    | some o => rw [x3 _ _ (k2 _ _ wx (k1 _ _ wx e))] at hw; cases hw
  have eF : F13 = flds (newM cap nur) w g r := by
    subst e1 e2 e3 e4 e5 e6 e7 e8 e9 e10 e11 e12 e13
    kernel_rfl
  subst eF
  refine q H17 w g r nw (nn g gx hg) (nn14 hr) ⟨h13, ?_, ?_, ?_, gw.symm, rw'.symm, rg.symm⟩ fun a o ha na => ?_
  · exact k13 _ _ wx (k12 _ _ wx (x15 _ _ hw14))
  · exact k13 _ _ gx (k12 _ _ gx (x15 _ _ hg14))
  · exact k13 _ _ rx (k12 _ _ rx hr15)
  · have n : a ≠ x := fun z => na (by simp [z])
    exact k13 _ _ n (k12 _ _ n (x15 _ _ (f14 _ _ ha na)))
theorem pure_l_memory (T : HC K C) : PureOk (t_l_memory K C) ["_law_cap", "_law_nur"] 2 (phi_l_memory K C) := by
  intro vs H Q hl h
  delta t_l_memory
  obtain ⟨cap, nur, rfl, z0, z1, z2, z3, q⟩ := h
  walk_at "go"
  refine lstr_i (by simp) fun g H1 hg x1 hg1 => ?_
  walk_at "go"
  refine lstr_i (by simp) fun r H2 hr x2 hr2 => ?_
  walk_at "go"
  refine lstr_i (by simp) fun u H3 hu x3 hp => ?_
  walk_at "go"
  apply repI_i (l := [0]) hp (by omega) (by omega) (by simp)
  intro w H4 hw x4 hw4
  rw [show (List.replicate (1 + nur + 2 * cap).toNat ([0] : List Int)).flatten = List.replicate (1 + nur + 2 * cap).toNat 0 from List.flatten_replicate_singleton] at hw4
  walk_at "go"
  refine lstr_i (by simp) fun m H5 hm x5 hm5 => ?_
  have rg : g ≠ r := ne_of_none hg1 hr
  have wg : g ≠ w := ne_of_none ((x2.trans x3) _ _ hg1) hw
  have wr : r ≠ w := ne_of_none (x3 _ _ hr2) hw
  have X1 := x1
  have X2 := X1.trans x2
  have X3 := X2.trans x3
  have X4 := X3.trans x4
  refine q H5 ⟨m, w, g, r⟩ ?_ (X4.trans x5) ⟨hm5, x5 _ _ hw4, x5 _ _ (x4 _ _ ((x2.trans x3) _ _ hg1)), x5 _ _ (x4 _ _ (x3 _ _ hr2)), wg.symm, wr.symm, rg⟩
  intro a ha
  simp only [MIds.all, List.mem_cons, List.not_mem_nil, or_false] at ha
  rcases ha with z | z | z | z
  · rw [z]; exact X4.back hm
  · rw [z]; exact X3.back hw
  · rw [z]; exact hg
  · rw [z]; exact X1.back hr
theorem bools_out : ∀ {l : List V}, (∀ y ∈ l, y = V.bl true) → ∃ bs : List Bool, l = bs.map V.bl ∧ bs.count false = 0
  | [], _ => ⟨[], rfl, rfl⟩
  | y :: l, h => by
    obtain ⟨bs, e, p⟩ := bools_out (l := l) fun z hz => h z (List.mem_cons_of_mem _ hz)
    refine ⟨true :: bs, by rw [h y (by simp), e]; rfl, ?_⟩
    rw [List.count_cons, p]
    rfl
theorem pure_l_kinds (T : HC K C) : PureOk (t_l_kinds K C) ["_law_shot_here", "_law_k", "_law_numbers", "_law_number"] 1 (phi_l_kinds K C) := by
  intro vs H Q hl h
  delta t_l_kinds
  obtain ⟨t, h, rfl, ⟨g, r, w, ht, hg, hr, hw⟩, hz, q⟩ := h
  have ht' := ht
  unfold shotV at ht'
  have rest : ∀ H1, Ex H H1 → ∀ v, tThen (tAsg (tOp (rPlus K) (tOp (rPlus K) (tOp (rPlus K) (tOp (rPlus K) (tCB (rListU K) (tCons (tSl (rSlU K) (tVar 0) (tPart (tC (.int 1))) (tPart (tC (.int 7)))) tNil)) (tLst (tCons (tOp (rIx K) (tVar 0) (tC (.int 9))) tNil))) (tCB (rListU K) (tCons (tOp (rIx K) (tVar 0) (tC (.int 7))) tNil))) (tCB (rListU K) (tCons (tOp (rIx K) (tVar 0) (tC (.int 8))) tNil))) (tCB (rListU K) (tCons (tOp (rIx K) (tVar 0) (tC (.int 10))) tNil))) (gName 2))
      (tRet (tOp (rEqU K) (tBM K "list" (rCntB K) (tLc (iSeq K (tVar 2)) (gName 3) tYes (tCallF 1 (phi_l_whole K C) (tCons (tVar 3) tNil)) [3]) (tCons (tC (.bl false)) tNil)) (tC (.int 0)))) { nx := fun _ H' => Q .non H', rt := Q } [some (.ref t), v, none, none] H1 := by
    intro H1 x1 v
    have ht1 := x1 _ _ ht
    walk_at "go"
    refine slT_i (ys := [.int h.yt, .int h.base, .int h.top, .int h.ob, .int h.ot, .int h.cur]) ht1 rfl (by show ¬ (HT.sIx 11 0 (some 1) = 0 ∧ HT.sIx 11 11 (some 7) = 11); decide) fun u2 H2 hu2 x2 hp2 => ?_
    walk_at "go"
    refine listLT_i (.inr hp2) fun u3 H3 hu3 x3 hp3 => ?_
    replace hp3 : H3 u3 = some (il [h.yt, h.base, h.top, h.ob, h.ot, h.cur]) := hp3
    have y3 := x1.trans (x2.trans x3)
    have ht3 := y3 _ _ ht'
    walk_at "go"
    refine ixT_i ht3 (v := .int h.pend) rfl ?_
    walk_at "go"
    refine lstr_i (by simp) fun u4 H4 hu4 x4 hp4 => ?_
    replace hp4 : H4 u4 = some (il [h.pend]) := hp4
    refine catI_i (x4 _ _ hp3) hp4 (by simp) fun u5 H5 hu5 x5 hp5 => ?_
    have y5 := y3.trans (x4.trans x5)
    have ht5 := y5 _ _ ht'
    have hg5 := y5 _ _ hg
    walk_at "go"
    refine ixT_i ht5 (v := .ref g) rfl ?_
    walk_at "go"
    refine listLT_i (.inr hg5) fun u6 H6 hu6 x6 hp6 => ?_
    refine catI_i (x6 _ _ hp5) hp6 (by simp; omega) fun u7 H7 hu7 x7 hp7 => ?_
    have y7 := y5.trans (x6.trans x7)
    have ht7 := y7 _ _ ht'
    have hr7 := y7 _ _ hr
    walk_at "go"
    refine ixT_i ht7 (v := .ref r) rfl ?_
    walk_at "go"
    refine listLT_i (.inr hr7) fun u8 H8 hu8 x8 hp8 => ?_
    refine catI_i (x8 _ _ hp7) hp8 (by simp; omega) fun u9 H9 hu9 x9 hp9 => ?_
    have y9 := y7.trans (x8.trans x9)
    have ht9 := y9 _ _ ht'
    have hw9 := y9 _ _ hw
    walk_at "go"
    refine ixT_i ht9 (v := .ref w) rfl ?_
    walk_at "go"
    refine listLT_i (.inr hw9) fun ua Ha hua xa hpa => ?_
    refine catI_i (xa _ _ hp9) hpa (by simp; omega) fun ub Hb hub xb hpb => ?_
    have yb := y9.trans (xa.trans xb)
    walk_at "go"
    refine compL_i (a := ub) (G := fun y => y = .bl true) ?he (.inl hpb) (by simp; omega) ?hs ?hd
    case he =>
      intro Q' q'
      walk_at "go"
      exact q'
    case hs =>
      intro k x Hc xc hx Q' q'
      obtain ⟨y, rfl, hy⟩ := int_of hx
      refine yes_i (q' Hc true (Ex.refl _) fun _ Q2 q2 => ?_)
      walk_at "go"
      refine ⟨y, rfl, ?_⟩
      exact q2 Hc _ (Ex.refl _) rfl
    case hd =>
      intro p Hc l hp xc hl _ gl
      obtain ⟨bs, rfl, hc⟩ := bools_out gl
      walk_at "go"
      refine cnt_i hl ?_
      rw [hc]
      walk_at "go"
      exact q Hc (yb.trans xc)
  walk_at "go"
  refine isi_tup (b := true) ht (by decide +kernel) ?_
  walk_at "go"
  refine ite_b (fun d => by cases d) (fun _ => ?_)
  walk_at "go"
  refine lenT_i ht ?_
  walk_at "go"
  refine ite_b (fun d => ?_) (fun _ => ?_)
  · simp [shotV] at d
  walk_at "go"
  refine ixT_i ht (v := .str h.ph.str) rfl ?_
  walk_at "go"
  refine isi_str (b := true) (by decide +kernel) ?_
  walk_at "go"
  refine ite_b (fun d => by cases d) (fun _ => ?_)
  refine next_i ?_
  refine seq_i ?_
  refine forNewL_i (xs := [.int 7, .int 8, .int 10]) ?hhe ?hkk
  case hhe =>
    intro Q' q'
    walk_at "go"
    exact lstr_i (by simp) q'
  case hkk =>
    intro p H1 hp x1 h1
    refine ⟨fun _ σ' H' => ∃ v, σ' = [some (.ref t), v, none, none] ∧ Ex H1 H', ⟨none, rfl, Ex.refl _⟩, fun i σ' H' hi ⟨v, _, x2⟩ => x2 _ _ h1, ?_, ?_⟩
    · rintro i x σ' H' hx ⟨v, rfl, x2⟩
      have ht2 := (x1.trans x2) _ _ ht'
      have main : ∀ (y : Int) (a : Addr) (xs : List V), atI [.str h.ph.str, .int h.yt, .int h.base, .int h.top, .int h.ob, .int h.ot, .int h.cur, .ref g, .ref r, .int h.pend, .ref w] y = some (V.ref a) → H a = some (.tup xs) →
          gName 1 (.int y) [some (.ref t), v, none, none] H' fun σ2 H2 => tIfS (tNot (tB (tCB (rIsi K) (tCons (tOp (rIx K) (tVar 0) (tVar 1)) (tCons (tC (.ty "tuple")) tNil))))) (tRet (tC (.bl false))) tNext
            ⟨fun σ' H' => ∃ v, σ' = [some (.ref t), v, none, none] ∧ Ex H1 H', Q, fun σ H => tThen (tAsg (tOp (rPlus K) (tOp (rPlus K) (tOp (rPlus K) (tOp (rPlus K) (tCB (rListU K) (tCons (tSl (rSlU K) (tVar 0) (tPart (tC (.int 1))) (tPart (tC (.int 7)))) tNil)) (tLst (tCons (tOp (rIx K) (tVar 0) (tC (.int 9))) tNil))) (tCB (rListU K) (tCons (tOp (rIx K) (tVar 0) (tC (.int 7))) tNil))) (tCB (rListU K) (tCons (tOp (rIx K) (tVar 0) (tC (.int 8))) tNil))) (tCB (rListU K) (tCons (tOp (rIx K) (tVar 0) (tC (.int 10))) tNil))) (gName 2))
              (tRet (tOp (rEqU K) (tBM K "list" (rCntB K) (tLc (iSeq K (tVar 2)) (gName 3) tYes (tCallF 1 (phi_l_whole K C) (tCons (tVar 3) tNil)) [3]) (tCons (tC (.bl false)) tNil)) (tC (.int 0)))) { nx := fun _ H' => Q .non H', rt := Q } σ H, fun σ' H' => ∃ v, σ' = [some (.ref t), v, none, none] ∧ Ex H1 H'⟩ σ2 H2 := by
        intro y a xs hy ha
        refine name_i ?_
        walk_at "go"
        refine ixT_i ht2 hy ?_
        walk_at "go"
        refine isi_tup (b := true) ((x1.trans x2) _ _ ha) (by decide +kernel) ?_
        walk_at "go"
        refine ite_b (fun d => by cases d) (fun _ => ?_)
        walk_at "go"
        exact ⟨_, rfl, x2⟩
      match i, hx with
      | 0, hx => cases hx; exact main 7 g _ rfl hg
      | 1, hx => cases hx; exact main 8 r _ rfl hr
      | 2, hx => cases hx; exact main 10 w _ rfl hw
      | i + 3, hx => simp at hx
    · rintro σ' H' ⟨v, rfl, x2⟩
      exact rest H' (x1.trans x2) v
end
end Qb

set_option Elab.async false
set_option linter.all false
set_option maxRecDepth 100000
set_option maxHeartbeats 4000000
/-! Law3: the law's own memory changed. -/
namespace Qb
open PySem L2
def t_l_met (K : PySem.W.Frag) (C : Addr) : TS := (tThen (tAsg (tDNewK) (gName 3)) (tThen (tAsg (tLst tNil) (gName 4)) (tThen (tAsg (tLc (iSeq K (tVar 2)) (gName 7) tYes (tCB (rListU K) (tCons (tVar 7) tNil)) [7]) (gName 5)) (tThen (tFor (iRng1 (tCons (tC (.int 100000)) tNil)) (gName 6) (tThen (tIfS (tTest (tOp rGe (tVar 6) (tCB (rLenU K) (tCons (tVar 5) tNil)))) (tBreak) tNext) (tThen (tAsg (tOp (rIx K) (tVar 5) (tVar 6)) (gName 7)) (tFor (iSeq K (tVar 7)) (gName 8) (tIfS (tAnd (tTest (tOp rGt (tVar 8) (tC (.int 0)))) (tAnd (tTest (tOp (rEqU K) (tOp rRest (tCB rIntU (tCons (tVar 8) tNil)) (tC (.int 2))) (tC (.int 0)))) (tB (tDNotIn (tCallF 3 (phi_l_spot K C) (tCons (tVar 0) (tCons (tVar 1) (tCons (tOp rFloor (tVar 8) (tC (.int 2))) tNil)))) (tVar 3))))) (tThen (tAsg (tCallF 3 (phi_l_spot K C) (tCons (tVar 0) (tCons (tVar 1) (tCons (tOp rFloor (tVar 8) (tC (.int 2))) tNil)))) (gName 9)) (tThen (sDPut (tVar 3) (tVar 9) (tC (.bl true))) (tThen (tDrop (tBM K "list" rAppend (tVar 4) (tCons (tLst (tCons (tOp rFloor (tVar 8) (tC (.int 2))) (tCons (tVar 9) tNil))) tNil))) (tDrop (tBM K "list" rAppend (tVar 5) (tCons (tSl (rSlU K) (tOp (rIx K) (tVar 0) (tC (.int 10))) (tPart (tOp (rPlus K) (tVar 9) (tC (.int 2)))) (tPart (tOp (rPlus K) (tOp (rPlus K) (tVar 9) (tC (.int 2))) (tOp rFloor (tOp (rIx K) (tOp (rIx K) (tVar 0) (tC (.int 10))) (tVar 9)) (tC (.int 64)))))) tNil)))))) tNext))))) (tRet (tVar 4))))))
def t_l_shaded (K : PySem.W.Frag) (C : Addr) : TS := (tThen (tAsg (tOp (rIx K) (tVar 0) (tC (.int 10))) (gName 3)) (tIfS (tAnd (tTest (tOp rGt (tVar 2) (tC (.int 0)))) (tAnd (tTest (tOp (rEqU K) (tOp rRest (tCB rIntU (tCons (tVar 2) tNil)) (tC (.int 2))) (tC (.int 0)))) (tAnd (tTest (tOp rGt (tOp rFloor (tVar 2) (tC (.int 2))) (tVar 1))) (tTest (tOp (rEqU K) (tOp rRest (tCB rIntU (tCons (tOp (rIx K) (tVar 3) (tOp (rPlus K) (tOp rFloor (tVar 2) (tC (.int 2))) (tC (.int 1)))) tNil)) (tC (.int 4))) (tC (.int 0))))))) (tThen (tAsg (tOp (rPlus K) (tOp (rIx K) (tVar 3) (tOp (rPlus K) (tOp rFloor (tVar 2) (tC (.int 2))) (tC (.int 1)))) (tC (.int 1))) (gSub (tVar 3) (tOp (rPlus K) (tOp rFloor (tVar 2) (tC (.int 2))) (tC (.int 1))) rSetL)) (tDrop (tBM K "list" rAppend (tOp (rIx K) (tVar 0) (tC (.int 7))) (tCons (tOp rFloor (tVar 2) (tC (.int 2))) tNil)))) tNext))
def t_l_wrote (K : PySem.W.Frag) (C : Addr) : TS := (tThen (tAsg (tOp (rIx K) (tVar 0) (tC (.int 10))) (gName 6)) (tThen (tAsg (tCallF 3 (phi_l_spot K C) (tCons (tVar 0) (tCons (tVar 1) (tCons (tVar 3) tNil)))) (gName 7)) (tThen (tAsg (tCallF 3 (phi_l_led K C) (tCons (tVar 0) (tCons (tVar 1) (tCons (tVar 5) tNil)))) (gName 8)) (tThen (tAsg (tVar 8) (gSub (tVar 6) (tOp (rPlus K) (tOp (rPlus K) (tVar 7) (tC (.int 2))) (tVar 4)) rSetL)) (tIfS (tAnd (tTest (tOp rGt (tVar 7) (tVar 2))) (tAnd (tTest (tOp rGt (tVar 8) (tC (.int 0)))) (tTest (tOp (rEqU K) (tOp rRest (tCB rIntU (tCons (tVar 8) tNil)) (tC (.int 2))) (tC (.int 0)))))) (tThen (tIfS (tAnd (tTest (tOp rLe (tOp rFloor (tVar 8) (tC (.int 2))) (tVar 2))) (tTest (tOp (rEqU K) (tOp rRest (tOp rFloor (tCB rIntU (tCons (tOp (rIx K) (tVar 6) (tOp (rPlus K) (tVar 7) (tC (.int 1)))) tNil)) (tC (.int 4))) (tC (.int 2))) (tC (.int 0))))) (tThen (tAsg (tOp (rPlus K) (tOp (rIx K) (tVar 6) (tOp (rPlus K) (tVar 7) (tC (.int 1)))) (tC (.int 4))) (gSub (tVar 6) (tOp (rPlus K) (tVar 7) (tC (.int 1))) rSetL)) (tDrop (tBM K "list" rAppend (tOp (rIx K) (tVar 0) (tC (.int 8))) (tCons (tVar 7) tNil)))) tNext) (tIfS (tAnd (tTest (tOp (rEqU K) (tOp (rIx K) (tVar 0) (tC (.int 0))) (tC (.str "marking")))) (tTest (tOp (rEqU K) (tOp rRest (tCB rIntU (tCons (tOp (rIx K) (tVar 6) (tOp (rPlus K) (tVar 7) (tC (.int 1)))) tNil)) (tC (.int 4))) (tC (.int 2))))) (tDrop (tCallF 3 (phi_l_shaded K C) (tCons (tVar 0) (tCons (tVar 2) (tCons (tVar 8) tNil))))) tNext)) tNext)))))
def t_l_lifted (K : PySem.W.Frag) (C : Addr) : TS := (tThen (tIfS (tOr (tTest (tOp rLe (tVar 2) (tC (.int 0)))) (tOr (tTest (tOp (rEqU K) (tOp rRest (tCB rIntU (tCons (tVar 2) tNil)) (tC (.int 2))) (tC (.int 1)))) (tTest (tOp rGt (tOp rFloor (tVar 2) (tC (.int 2))) (tVar 1))))) (tRet (tVar 2)) tNext) (tThen (tAsg (tOp (rIx K) (tVar 0) (tC (.int 10))) (gName 4)) (tThen (tAsg (tOp rFloor (tVar 2) (tC (.int 2))) (gName 5)) (tThen (tIfS (tTest (tOp (rEqU K) (tOp rFloor (tOp (rIx K) (tVar 4) (tOp (rPlus K) (tVar 5) (tC (.int 1)))) (tC (.int 8))) (tC (.int 0)))) (tThen (tAsg (tOp (rPlus K) (tC (.int 2)) (tOp rFloor (tOp (rIx K) (tVar 4) (tVar 5)) (tC (.int 64)))) (gName 6)) (tThen (tAsg (tOp (rPlus K) (tC (.int 3)) (tOp rTimes (tC (.int 2)) (tCB rIntU (tCons (tOp (rIn K false) (tOp (rIx K) (tVar 0) (tC (.int 0))) (tLst (tCons (tC (.str "moving")) (tCons (tC (.str "updating")) tNil)))) tNil)))) (gName 7)) (tThen (tAsg (tOp (rIx K) (tVar 0) (tVar 7)) (gName 8)) (tThen (tFor (iRng1 (tCons (tVar 6) tNil)) (gName 9) (tAsg (tOp (rIx K) (tVar 4) (tOp (rPlus K) (tVar 5) (tVar 9))) (gSub (tVar 4) (tOp (rPlus K) (tVar 8) (tVar 9)) rSetL))) (tThen (tAsg (tCB rIntU (tCons (tOp (rEqU K) (tOp (rIx K) (tVar 0) (tC (.int 0))) (tC (.str "marking"))) tNil)) (gSub (tVar 4) (tOp (rPlus K) (tVar 8) (tC (.int 1))) rSetL)) (tThen (tIfS (tTest (tOp (rEqU K) (tOp (rIx K) (tVar 0) (tC (.int 0))) (tC (.str "marking")))) (tDrop (tBM K "list" rAppend (tOp (rIx K) (tVar 0) (tC (.int 7))) (tCons (tVar 8) tNil))) tNext) (tThen (tAsg (tOp (rPlus K) (tVar 8) (tVar 6)) (gSub (tVar 0) (tVar 7) rSetL)) (tThen (tAsg (tOp rTimes (tC (.int 8)) (tVar 8)) (gSub (tVar 4) (tOp (rPlus K) (tVar 5) (tC (.int 1))) rSetL)) (tDrop (tBM K "list" rAppend (tVar 3) (tCons (tVar 8) tNil))))))))))) tNext) (tRet (tOp rTimes (tC (.int 2)) (tOp rFloor (tOp (rIx K) (tVar 4) (tOp (rPlus K) (tVar 5) (tC (.int 1)))) (tC (.int 8)))))))))
def t_l_lifted_block (K : PySem.W.Frag) (C : Addr) : TS := (tThen (tAsg (tOp (rIx K) (tVar 0) (tC (.int 10))) (gName 4)) (tFor (iRng2 (tCons (tOp (rPlus K) (tVar 2) (tC (.int 2))) (tCons (tOp (rPlus K) (tOp (rPlus K) (tVar 2) (tC (.int 2))) (tOp rFloor (tOp (rIx K) (tVar 4) (tVar 2)) (tC (.int 64)))) tNil))) (gName 5) (tAsg (tCallF 4 (phi_l_lifted K C) (tCons (tVar 0) (tCons (tVar 1) (tCons (tOp (rIx K) (tVar 4) (tVar 5)) (tCons (tVar 3) tNil))))) (gSub (tVar 4) (tVar 5) rSetL))))
def t_l_emptied (K : PySem.W.Frag) (C : Addr) : TS := (tThen (tAsg (tOp (rIx K) (tVar 0) (tC (.int 10))) (gName 4)) (tThen (tAsg (tLst tNil) (gName 5)) (tThen (tFor (iSeq K (tVar 3)) (gName 6) (tFor (iRng1 (tCons (tCB (rLenU K) (tCons (tVar 6) tNil)) tNil)) (gName 7) (tAsg (tCallF 4 (phi_l_lifted K C) (tCons (tVar 0) (tCons (tVar 2) (tCons (tOp (rIx K) (tVar 6) (tVar 7)) (tCons (tVar 5) tNil))))) (gSub (tVar 6) (tVar 7) rSetL)))) (tThen (tFor (iSeq K (tOp (rIx K) (tVar 0) (tC (.int 8)))) (gName 8) (tThen (tAsg (tCallF 3 (phi_l_spot K C) (tCons (tVar 0) (tCons (tVar 1) (tCons (tVar 8) tNil)))) (gName 9)) (tThen (tDrop (tCallF 4 (phi_l_lifted_block K C) (tCons (tVar 0) (tCons (tVar 2) (tCons (tVar 9) (tCons (tVar 5) tNil)))))) (tAsg (tOp rMinus (tOp (rIx K) (tVar 4) (tOp (rPlus K) (tVar 9) (tC (.int 1)))) (tC (.int 4))) (gSub (tVar 4) (tOp (rPlus K) (tVar 9) (tC (.int 1))) rSetL))))) (tThen (tAsg (tLst tNil) (gSub (tVar 0) (tC (.int 8)) rSetL)) (tThen (tFor (iRng1 (tCons (tC (.int 100000)) tNil)) (gName 7) (tThen (tIfS (tTest (tOp rGe (tVar 7) (tCB (rLenU K) (tCons (tVar 5) tNil)))) (tBreak) tNext) (tDrop (tCallF 4 (phi_l_lifted_block K C) (tCons (tVar 0) (tCons (tVar 2) (tCons (tOp (rIx K) (tVar 5) (tVar 7)) (tCons (tVar 5) tNil)))))))) (tThen (tFor (iRng2 (tCons (tC (.int 1)) (tCons (tOp (rPlus K) (tVar 2) (tC (.int 1))) tNil))) (gName 7) (tAsg (tC (.int 0)) (gSub (tVar 4) (tVar 7) rSetL))) (tAsg (tC (.int 1)) (gSub (tVar 0) (tC (.int 1)) rSetL)))))))))
def t_l_laid (K : PySem.W.Frag) (C : Addr) : TS := (tThen (tAsg (tOp (rIx K) (tVar 0) (tC (.int 10))) (gName 6)) (tThen (tAsg (tOp (rPlus K) (tC (.int 2)) (tCB (rLenU K) (tCons (tVar 5) tNil))) (gName 7)) (tThen (tAsg (tC (.int 1)) (gName 8)) (tThen (tIfS (tTest (tOp rGt (tVar 7) (tVar 2))) (tAsg (tOp (rPlus K) (tC (.int 3)) (tOp rTimes (tC (.int 2)) (tCB rIntU (tCons (tOp (rIn K false) (tOp (rIx K) (tVar 0) (tC (.int 0))) (tLst (tCons (tC (.str "moving")) (tCons (tC (.str "updating")) tNil)))) tNil)))) (gName 8)) (tIfS (tTest (tOp rLt (tOp rMinus (tOp (rPlus K) (tVar 2) (tC (.int 1))) (tOp (rIx K) (tVar 0) (tC (.int 1)))) (tVar 7))) (tDrop (tCallF 4 (phi_l_emptied K C) (tCons (tVar 0) (tCons (tVar 1) (tCons (tVar 2) (tCons (tVar 3) tNil)))))) tNext)) (tThen (tAsg (tOp (rIx K) (tVar 0) (tVar 8)) (gName 9)) (tThen (tAsg (tOp (rPlus K) (tVar 9) (tVar 7)) (gSub (tVar 0) (tVar 8) rSetL)) (tThen (tAsg (tOp (rPlus K) (tOp rTimes (tC (.int 64)) (tCB (rLenU K) (tCons (tVar 5) tNil))) (tVar 4)) (gSub (tVar 6) (tVar 9) rSetL)) (tThen (tAsg (tOp rTimes (tC (.int 2)) (tCB rIntU (tCons (tAndV (tOp rGt (tVar 8) (tC (.int 1))) (tOp (rEqU K) (tOp (rIx K) (tVar 0) (tC (.int 0))) (tC (.str "marking")))) tNil))) (gSub (tVar 6) (tOp (rPlus K) (tVar 9) (tC (.int 1))) rSetL)) (tThen (tFor (iRng1 (tCons (tCB (rLenU K) (tCons (tVar 5) tNil)) tNil)) (gName 10) (tAsg (tOp (rIx K) (tVar 5) (tVar 10)) (gSub (tVar 6) (tOp (rPlus K) (tOp (rPlus K) (tVar 9) (tC (.int 2))) (tVar 10)) rSetL))) (tRet (tVar 9)))))))))))
def t_l_passed (K : PySem.W.Frag) (C : Addr) : TS := (tThen (tIfS (tTest (tOp (rEqU K) (tVar 1) (tC (.int 0)))) (tRet (tCB (rTupU K) (tCons (tVar 0) tNil))) tNext) (tRet (tCB (rListU K) (tCons (tVar 0) tNil))))
def t_l_places (K : PySem.W.Frag) (C : Addr) : TS := (tRet (tCB (rSum K) (tCons (tLc (iSeq K (tVar 0)) (gName 1) tYes (tCB (rLenU K) (tCons (tVar 1) tNil)) [1]) tNil)))
local macro_rules | `(tactic| walk_at "lk") => `(tactic| first
  | assumption
  | exact upd_same
  | (refine upd_get ?_ ?_; walk_at "ne"; walk_at "lk")
  | (refine Ex.get (by assumption) ?_; walk_at "lk")
  | (refine Fr.get (by assumption) ?_ ?_; walk_at "lk"; walk_at "nin"))
local macro_rules | `(tactic| walk_at "ne") => `(tactic| first
  | assumption
  | (refine Ne.symm ?_; assumption)
  | (refine ne_of_none ?_ (by assumption); walk_at "lk")
  | (refine Ne.symm (ne_of_none ?_ (by assumption)); walk_at "lk"))
local macro_rules | `(tactic| walk_at "nin") => `(tactic| first
  | assumption
  | (simp only [List.mem_cons, List.not_mem_nil, or_false, not_or]; (try refine ⟨?_, ?_⟩) <;> (repeat' refine ⟨?_, ?_⟩) <;> walk_at "ne"))
local macro_rules | `(tactic| walk_at "lt") => `(tactic| first
  | assumption
  | exact Or.inl (by walk_at "lk")
  | exact Or.inr (by walk_at "lk")
  | (refine LT.ex ?_ (by assumption); walk_at "lt"))
local macro_rules | `(tactic| walk_at "mem") => `(tactic| first
  | exact Or.inl (by simp [Ids.all])
  | exact Or.inr (by assumption)
  | (refine Fr.fresh ?_ (by assumption); walk_at "fr"))
local macro_rules | `(tactic| walk_at "fr") => `(tactic| first
  | exact Fr.refl _ _
  | assumption
  | exact Ex.fr (by assumption)
  | (refine Fr.upd ?_ ?_; walk_at "fr"; walk_at "mem")
  | (refine Fr.ex ?_ (by assumption); walk_at "fr")
  | (refine Fr.trans ?_ (by assumption) ?_; walk_at "fr"; (intro a ha; exact Or.inl ha)))
local macro_rules | `(tactic| walk_at "rep") => `(tactic| first
  | assumption
  | exact ⟨by walk_at "lk", by walk_at "lk", by walk_at "lk", by walk_at "lk", by walk_at "ne", by walk_at "ne", by walk_at "ne"⟩)
local macro_rules | `(tactic| walk_at "n") => `(tactic| first | decide | omega)
local macro_rules | `(tactic| walk_at "go") => `(tactic| repeat (with_reducible first
  | (apply var_i; (k_dflt rfl))
  | apply c_i
  | apply op_i
  | apply fld_i
  | apply un_i
  | apply ru_i
  | apply cons_i
  | apply nil_i
  | apply call_i
  | apply plus_i
  | apply minus_i
  | apply i0_i
  | apply eq_i
  | apply ne_i
  | apply bl_i
  | apply test_i
  | apply tb_i
  | apply seq_i
  | apply asg_i
  | apply ret_i
  | apply if_i
  | apply iteT
  | apply iteF
  | apply next_i
  | apply drop_i
  | apply retN_i
  | apply and_i
  | apply or_i
  | apply not_i
  | apply andv_i
  | apply orv_i
  | apply notv_i
  | apply notvr_i
  | apply cb_i
  | apply tup_i
  | apply lst_i
  | apply chain_i
  | apply slice_i
  | apply part_i
  | apply part_int
  | apply nopart_i
  | apply bm_i
  | apply sfld_i
  | apply asub_i
  | apply aslice_i
  | apply atup2_i
  | apply break_i
  | apply eqMarking_i
  | apply eqIdle_i
  | apply eqMoving_i
  | apply neIdle_i
  | apply intU_i
  | apply intU_b
  | apply i1_i
  | apply i2_i
  | apply i3_i
  | (apply times_i; (walk_at "n"))
  | (apply times_j; (walk_at "n"))
  | (apply floor_i; (walk_at "n"); (walk_at "n"))
  | (apply rest_i; (walk_at "n"))
  | (apply len_i; (k_dflt rfl))
  | (apply f_words; assumption; (walk_at "lk"))
  | (apply f_nur; assumption; (walk_at "lk"))
  | (apply f_cap; assumption; (walk_at "lk"))
  | (apply f_yt; assumption; (walk_at "lk"))
  | (apply f_base; assumption; (walk_at "lk"))
  | (apply f_top; assumption; (walk_at "lk"))
  | (apply f_ob; assumption; (walk_at "lk"))
  | (apply f_ot; assumption; (walk_at "lk"))
  | (apply f_ph; assumption; (walk_at "lk"))
  | (apply f_cur; assumption; (walk_at "lk"))
  | (apply f_gr; assumption; (walk_at "lk"))
  | (apply f_rem; assumption; (walk_at "lk"))
  | (apply f_pend; assumption; (walk_at "lk"))
  | (apply ixI_i; (walk_at "lk"); assumption)
  | (apply ixL_i; (walk_at "lk"); (k_dflt rfl))
  | (apply ixLT_i; assumption; (k_dflt rfl))
  | (apply ixLTI_i; assumption; assumption)
  | (apply pow_i; (walk_at "n"); (walk_at "n"))
  | apply minU_i
  | apply maxU_i
  | (apply setI_i; (walk_at "lk"); assumption)
  | (apply tyl_i; (walk_at "lk"))
  | (apply appendI_i; (walk_at "lk"); (walk_at "n"))
  | (apply inLate_t; (walk_at "lk"))
  | (apply inLate_l; (walk_at "lk"))
  | (apply notLate_t; (walk_at "lk"))))
local macro_rules | `(tactic| walk_at "mrep") => `(tactic| first
  | assumption
  | exact ⟨by walk_at "lk", by walk_at "lk", by walk_at "lk", by walk_at "lk", by walk_at "ne", by walk_at "ne", by walk_at "ne"⟩)
local macro_rules | `(tactic| walk_at "mfr") => `(tactic| first
  | assumption
  | exact Fr.refl _ _
  | (refine Fr.upd ?_ (Or.inl (by simp [MIds.all])); walk_at "mfr"))
section
variable {K : PySem.W.Frag} {C : Addr}
theorem pure_l_shaded (T : HC K C) : PureOk (t_l_shaded K C) ["_law_mem", "_law_nur", "_law_word", "_law_words"] 3 (phi_l_shaded K C) := by
  intro vs H Q hl h
  delta t_l_shaded
  obtain ⟨i, h, w, h', rfl, M, wp, hM, q⟩ := h
  obtain ⟨hm, hW, hG, hR, n1, n2, n3⟩ := id M
  have m1 := M.mw
  have m2 := M.mg
  have m3 := M.mr
  have hm' := hm
  unfold shotV at hm'
  unfold shadeTM at hM
  have no : (isRef w && !h.isY (w / 2)) = false → Q .non H := fun x => by
    rw [x] at hM
    cases hM
    exact q _ M (Fr.refl _ _)
  walk_at "go"
  refine ite_b (fun _ => ?_) (fun d => ?_)
  · walk_at "go"
    refine ite_b (fun d1 => ?_) (fun d1 => ?_)
    · have c1 := of_decide_eq_true d1
      walk_at "go"
      refine ite_b (fun d2 => ?_) (fun d2 => ?_)
      · have c2 := of_decide_eq_true d2
        have e1 : (isRef w && !h.isY (w / 2)) = true := by
          simp only [isRef, HS.isY, Bool.and_eq_true, Bool.not_eq_true', decide_eq_true_eq, decide_eq_false_iff_not, Bool.and_eq_false_iff]
          omega
        rw [e1] at hM
        obtain ⟨u, hu, hM⟩ := Option.bind_eq_some_iff.mp hM
        walk_at "go"
        refine ite_b (fun d3 => ?_) (fun d3 => ?_)
        · have c3 := of_decide_eq_true d3
          rw [if_pos c3] at hM
          simp only [shadeM, bind, Option.bind_eq_some_iff, Option.some.injEq, grd_iff, decide_eq_true_eq] at hM
          obtain ⟨s, hs, _, hg, ws, hw, rfl⟩ := hM
          have es : s = u := by rw [hs] at hu; exact Option.some.inj hu
          subst es
          have hw' : wr h.words (w / 2 + 1) (s + 1) = some ws := by
            rw [← hw]
            congr 1
            omega
          walk_at "go"
          exact q _ (by walk_at "mrep") ((Fr.refl _ _).upd (.inl (by simp [MIds.all])) |>.upd (.inl (by simp [MIds.all])))
        · have c3 := of_decide_eq_false d3
          rw [if_neg c3] at hM
          cases hM
          walk_at "go"
          exact q _ M (Fr.refl _ _)
      · have c2 := of_decide_eq_false d2
        walk_at "go"
        refine no ?_
        simp only [isRef, HS.isY, Bool.and_eq_false_iff, Bool.not_eq_false', decide_eq_true_eq, decide_eq_false_iff_not, Bool.and_eq_true]
        omega
    · have c1 := of_decide_eq_false d1
      walk_at "go"
      refine no ?_
      simp only [isRef, HS.isY, Bool.and_eq_false_iff, Bool.not_eq_false', decide_eq_true_eq, decide_eq_false_iff_not, Bool.and_eq_true]
      omega
  · have c := of_decide_eq_false d
    omega
theorem pure_l_wrote (T : HC K C) : PureOk (t_l_wrote K C) ["_law_mem", "_law_cap", "_law_nur", "_law_address", "_law_place", "_law_word", "_law_words", "_law_at", "_law_worth"] 6 (phi_l_wrote K C) := by
  intro vs H Q hl h
  delta t_l_wrote
  obtain ⟨i, h, a, p, w, b, v, h', rfl, M, hb, b1, hv, ow, ov, hM, q⟩ := h
  obtain ⟨hm, hW, hG, hR, n1, n2, n3⟩ := id M
  have m1 := M.mw
  have m2 := M.mg
  have m3 := M.mr
  have hm' := hm
  unfold shotV at hm'
  simp only [writeM, bind, Option.bind_eq_some_iff] at hM
  obtain ⟨b', hb', v', hv', f, hf, ws, hw, hM⟩ := hM
  have eb : b' = b := by rw [hb] at hb'; exact (Option.some.inj hb').symm
  have ev : v' = v := by rw [hv] at hv'; exact (Option.some.inj hv').symm
  subst eb ev
  walk_at "go"
  refine ⟨i.m, h, _, _, rfl, M.read, hb, fun H1 x1 => ?_⟩
  have M1 := M.ex x1
  walk_at "go"
  refine ⟨i.m, h, _, _, rfl, M1.read, ow, hv, fun H2 x2 => ?_⟩
  have M2 := M1.ex x2
  obtain ⟨hm2, hW2, hG2, hR2, _, _, _⟩ := id M2
  walk_at "go"
  have M3 : Mem i { h with words := ws } (upd H2 i.w (il ws)) := by walk_at "mrep"
  have f3 : Fr i.all H (upd H2 i.w (il ws)) := ((x1.trans x2).fr).upd (.inl (by simp [MIds.all]))
  generalize (upd H2 i.w (il ws)) = H3 at *
  refine ite_b (fun d1 => ?_) (fun d1 => ?_)
  · have c1 := of_decide_eq_true d1
    walk_at "go"
    refine ite_b (fun d2 => ?_) (fun d2 => ?_)
    · have c2 := of_decide_eq_true d2
      walk_at "go"
      refine ite_b (fun d3 => ?_) (fun d3 => ?_)
      · have c3 := of_decide_eq_true d3
        have e1 : (isRef v' && !h.isY b') = true := by
          simp only [isRef, HS.isY, Bool.and_eq_true, Bool.not_eq_true', decide_eq_true_eq, decide_eq_false_iff_not, Bool.and_eq_false_iff]
          omega
        rw [if_pos e1] at hM
        generalize hh3 : ({ h with words := ws } : HS) = h3 at *
        have w3 : h3.words = ws := by rw [← hh3]
        have y3 : h3.isY (v' / 2) = decide (v' / 2 ≤ h.nur) := by
          rw [← hh3]
          simp only [HS.isY]
          rw [Bool.eq_iff_iff]
          simp only [Bool.and_eq_true, decide_eq_true_eq]
          omega
        have p3 : h3.nur = h.nur := by rw [← hh3]
        obtain ⟨hm3, hW3, hG3, hR3, _, _, _⟩ := id M3
        have hm3' := hm3
        unfold shotV at hm3'
        have nn1 := M3.mw
        have nn3 := M3.mr
        refine cut_i (fun σ' H' => σ' = [some (.ref i.m), some (.int h.cap), some (.int h.nur), some (.int a), some (.int p), some (.int w), some (.ref i.w), some (.int b'), some (.int v')] ∧
          ∃ h1, Mem i h1 H' ∧ Fr i.all H H' ∧ h1.nur = h.nur ∧ (h1.ph = .marking → ∃ s, rd h1.words (b' + 1) = some s ∧ (if s % 4 = 2 then shadeTM h1 v' else some h1) = some h') ∧ (h1.ph ≠ .marking → h1 = h')) ?_ ?_
        · walk_at "go"
          by_cases cy : v' / 2 ≤ h.nur
          · have ey : h3.isY (v' / 2) = true := by rw [y3]; exact decide_eq_true cy
            unfold noteM at hM
            rw [if_pos ey] at hM
            simp only [rememberM, bind, Option.bind_eq_some_iff] at hM
            obtain ⟨s, hs, hM⟩ := hM
            have sh : ∀ h1 : HS, h1.nur = h.nur → shadeTM h1 v' = some h1 := fun h1 e => by
              unfold shadeTM
              have : h1.isY (v' / 2) = true := by
                simp only [HS.isY, e, Bool.and_eq_true, decide_eq_true_eq]
                omega
              rw [this]
              simp
            refine ite_b (fun d4 => ?_) (fun d4 => ?_)
            · walk_at "go"
              refine ite_b (fun d5 => ?_) (fun d5 => ?_)
              · have c5 := of_decide_eq_true d5
                rw [if_pos c5] at hM
                simp only [bind, Option.bind_eq_some_iff, Option.some.injEq, grd_iff, decide_eq_true_eq] at hM
                obtain ⟨_, hg, ws2, hw2, rfl⟩ := hM
                have hw2' : wr h3.words (b' + 1) (s + 4) = some ws2 := by
                  rw [← hw2]
                  congr 1
                  omega
                walk_at "go"
                refine ⟨rfl, { h3 with words := ws2, rem := h3.rem ++ [b'] }, by walk_at "mrep", (f3.upd (.inl (by simp [MIds.all]))).upd (.inl (by simp [MIds.all])), p3, fun _ => ⟨s + 4, rd_wr_same hw2', ?_⟩, fun _ => rfl⟩
                rw [sh { h3 with words := ws2, rem := h3.rem ++ [b'] } p3]
                simp
              · have c5 := of_decide_eq_false d5
                rw [if_neg c5] at hM
                cases hM
                walk_at "go"
                refine ⟨rfl, _, M3, f3, p3, fun _ => ⟨s, hs, ?_⟩, fun _ => rfl⟩
                rw [sh _ p3]
                simp
            · exact absurd cy (of_decide_eq_false d4)
          · have ey : h3.isY (v' / 2) = false := by rw [y3]; exact decide_eq_false cy
            unfold noteM at hM
            rw [if_neg (by rw [ey]; exact Bool.false_ne_true)] at hM
            refine ite_b (fun d4 => absurd (of_decide_eq_true d4) cy) (fun d4 => ?_)
            walk_at "go"
            refine ⟨rfl, h3, M3, f3, p3, fun pm => ?_, fun pm => ?_⟩
            · rw [if_pos pm] at hM
              simp only [bind, Option.bind_eq_some_iff] at hM
              obtain ⟨s, hs, hM⟩ := hM
              refine ⟨s, hs, ?_⟩
              by_cases c5 : s % 4 = 2
              · rw [if_pos c5] at hM ⊢
                unfold shadeTM
                have e6 : (isRef v' && !h3.isY (v' / 2)) = true := by
                  rw [ey]
                  simp only [isRef, Bool.and_eq_true, Bool.not_eq_true', decide_eq_true_eq, decide_eq_false_iff_not, Bool.not_false, and_true]
                  omega
                rw [if_pos e6]
                exact hM
              · rw [if_neg c5] at hM ⊢
                exact hM
            · rw [if_neg pm] at hM
              exact Option.some.inj hM
        · rintro σ' H' ⟨rfl, h1, M4, f4, p4, k1, k2⟩
          obtain ⟨hm4, hW4, hG4, hR4, _, _, _⟩ := id M4
          have hm4' := hm4
          unfold shotV at hm4'
          walk_at "go"
          refine ite_b (fun d6 => ?_) (fun d6 => ?_)
          · have c6 := of_decide_eq_true d6
            obtain ⟨s, hs, e7⟩ := k1 c6
            walk_at "go"
            refine ite_b (fun d7 => ?_) (fun d7 => ?_)
            · have c7 := of_decide_eq_true d7
              rw [if_pos c7] at e7
              walk_at "go"
              refine ⟨i, h1, v', h', by rw [p4], M4, c2, e7, fun H5 M5 f5 => ?_⟩
              exact q _ M5 (f4.trans f5 fun b hb => .inl hb)
            · have c7 := of_decide_eq_false d7
              rw [if_neg c7] at e7
              cases e7
              walk_at "go"
              exact q _ M4 f4
          · have c6 := of_decide_eq_false d6
            have e8 := k2 c6
            subst e8
            walk_at "go"
            exact q _ M4 f4
      · have c3 := of_decide_eq_false d3
        have e1 : (isRef v' && !h.isY b') = false := by
          simp only [isRef, Bool.and_eq_false_iff, Bool.not_eq_false', decide_eq_true_eq, decide_eq_false_iff_not]
          omega
        rw [e1] at hM
        cases hM
        walk_at "go"
        exact q _ M3 f3
    · have c2 := of_decide_eq_false d2
      have e1 : (isRef v' && !h.isY b') = false := by
        unfold okw at ov
        simp only [Bool.or_eq_true, decide_eq_true_eq] at ov
        simp only [isRef, Bool.and_eq_false_iff, Bool.not_eq_false', decide_eq_true_eq, decide_eq_false_iff_not]
        omega
      rw [e1] at hM
      cases hM
      walk_at "go"
      exact q _ M3 f3
  · have c1 := of_decide_eq_false d1
    have e1 : (isRef v' && !h.isY b') = false := by
      simp only [isRef, HS.isY, Bool.and_eq_false_iff, Bool.not_eq_false', decide_eq_true_eq, decide_eq_false_iff_not, Bool.and_eq_true]
      omega
    rw [e1] at hM
    cases hM
    walk_at "go"
    exact q _ M3 f3
theorem shot_side {h : HS} {g r w : Addr} {s : Int} : atI (shotV h g r w) (3 + 2 * (if h.ph.late = true then 1 else 0)) = some (.int (claimM h s).1) := by
  unfold claimM
  cases e : h.ph.late
  · rw [if_neg Bool.false_ne_true, if_neg Bool.false_ne_true]
    rfl
  · rw [if_pos rfl, if_pos rfl]
    rfl
theorem shot_put {h : HS} {g r w : Addr} {s : Int} : ∃ j, ixN (shotV h g r w).length (3 + 2 * (if h.ph.late = true then 1 else 0)) = some j ∧ (shotV h g r w).set j (.int ((claimM h s).1 + s)) = shotV (claimM h s).2 g r w := by
  unfold claimM
  cases e : h.ph.late
  · rw [if_neg Bool.false_ne_true, if_neg Bool.false_ne_true]
    exact ⟨3, rfl, rfl⟩
  · rw [if_pos rfl, if_pos rfl]
    exact ⟨5, rfl, rfl⟩
theorem pure_l_lifted (T : HC K C) : PureOk (t_l_lifted K C) ["_law_mem", "_law_nur", "_law_word", "_law_moved", "_law_words", "_law_at", "_law_size", "_law_side", "_law_top", "_law_k"] 4 (phi_l_lifted K C) := by
  intro vs H Q hl h
  delta t_l_lifted
  obtain ⟨i, h, w, m, mv, p, rfl, M, hmv, nm, hM, q⟩ := h
  obtain ⟨hm, hW, hG, hR, n1, n2, n3⟩ := id M
  have m1 := M.mw
  have m2 := M.mg
  have m3 := M.mr
  have k1 : m ≠ i.m := fun z => nm (by simp [MIds.all, z])
  have k2 : m ≠ i.w := fun z => nm (by simp [MIds.all, z])
  have k3 : m ≠ i.g := fun z => nm (by simp [MIds.all, z])
  have k4 : m ≠ i.r := fun z => nm (by simp [MIds.all, z])
  have hm' := hm
  unfold shotV at hm'
  simp only [oldWordM, bind, Option.bind_eq_some_iff, grd_iff] at hM
  obtain ⟨_, ow, hM⟩ := hM
  have no : (isRef w && h.isY (w / 2)) = false → Q (.int w) H := fun x => by
    rw [x] at hM
    cases hM
    exact q _ M hmv (Fr.refl _ _)
  walk_at "go"
  refine ite_b (fun d => ?_) (fun d => ?_)
  · walk_at "go"
    refine no ?_
    have c := of_decide_eq_true d
    unfold okw at ow
    simp only [Bool.or_eq_true, decide_eq_true_eq] at ow
    simp only [isRef, HS.isY, Bool.and_eq_false_iff, Bool.not_eq_false', decide_eq_true_eq, decide_eq_false_iff_not, Bool.and_eq_true]
    omega
  · have c := of_decide_eq_false d
    walk_at "go"
    refine ite_b (fun d1 => ?_) (fun d1 => ?_)
    · walk_at "go"
      refine no ?_
      have c1 := of_decide_eq_true d1
      simp only [isRef, HS.isY, Bool.and_eq_false_iff, Bool.not_eq_false', decide_eq_true_eq, decide_eq_false_iff_not, Bool.and_eq_true]
      omega
    · have c1 := of_decide_eq_false d1
      walk_at "go"
      refine ite_b (fun d2 => ?_) (fun d2 => ?_)
      · walk_at "go"
        refine no ?_
        have c2 := of_decide_eq_true d2
        simp only [isRef, HS.isY, Bool.and_eq_false_iff, Bool.not_eq_false', decide_eq_true_eq, decide_eq_false_iff_not, Bool.and_eq_true]
        omega
      · have c2 := of_decide_eq_false d2
        have e1 : (isRef w && h.isY (w / 2)) = true := by
          simp only [isRef, HS.isY, Bool.and_eq_true, Bool.not_eq_true', decide_eq_true_eq, decide_eq_false_iff_not]
          omega
        rw [if_pos e1] at hM
        simp only [bind, Option.bind_eq_some_iff, Option.some.injEq] at hM
        obtain ⟨p1, hp1, rfl⟩ := hM
        simp only [promoteM, bind, Option.bind_eq_some_iff, grd_iff, Bool.and_eq_true, decide_eq_true_eq] at hp1
        obtain ⟨s, hs, _, ⟨g0, g1⟩, hp1⟩ := hp1
        walk_at "go"
        refine ite_b (fun d3 => ?_) (fun d3 => ?_)
        · have c3 := of_decide_eq_true d3
          rw [if_neg (by omega)] at hp1
          simp only [bind, Option.bind_eq_some_iff, Option.some.injEq, grd_iff, decide_eq_true_eq] at hp1
          obtain ⟨p2, hc, ws, hw, _, g2, rfl⟩ := hp1
          obtain ⟨f, ws2, hf, q0, q1, q2, q3, q4, q5, hw2, rfl⟩ := copyOld_iff.mp hc
          have q5' := q5
          walk_at "go"
          refine lstr_i (by simp) fun u1 H1 hu1 x1 hpu => ?_
          have M1 := M.ex x1
          obtain ⟨hm1, hW1, hG1, hR1, _, _, _⟩ := id M1
          have hm1' := hm1
          unfold shotV at hm1'
          walk_at "go"
          refine ixL_i hm1 (shot_side (s := f / 64 + 2)) ?_
          generalize ht : (claimM h (f / 64 + 2)).1 = t at *
          have hmv1 := x1 _ _ hmv
          walk_at "go"
          refine forR1_i (j := 2 + f / 64) (fun k σ' H' => ∃ v, σ' = [some (.ref i.m), some (.int h.nur), some (.int w), some (.ref m), some (.ref i.w), some (.int (w / 2)), some (.int (2 + f / 64)), some (.int (3 + 2 * (if h.ph.late = true then 1 else 0))), some (.int t), v] ∧
            Mem i { h with words := blit h.words (w / 2).toNat t.toNat k } H' ∧ H' m = some (il mv) ∧ Fr (m :: i.all) H H') ?he (by omega) (by omega) ?h0 ?hs ?hd
          case he =>
            intro Q' q'
            walk_at "go"
            exact q'
          case h0 => exact ⟨none, rfl, by rw [blit_zero (by omega)]; exact M1, hmv1, x1.fr⟩
          case hs =>
            rintro k σ' H' hk ⟨v, rfl, M2, hmv2, f2⟩
            obtain ⟨hm2, hW2, hG2, hR2, _, _, _⟩ := id M2
            have hk' : k < (f / 64 + 2).toNat := by omega
            refine name_i ?_
            obtain ⟨y, hy⟩ := rd_of_lt (l := h.words) (i := w / 2 + k) (by omega) (by omega)
            have hy2 : rd (blit h.words (w / 2).toNat t.toNat k) (w / 2 + k) = some y := by
              rw [rd_blit (by omega) (by omega), if_pos (by omega)]
              exact hy
            have hy3 : h.words[(w / 2).toNat + k]? = some y := by
              have := (rd_some.mp hy).2
              rw [← this]
              congr 1
              omega
            have hw3 : wr (blit h.words (w / 2).toNat t.toNat k) (t + k) y = some (blit h.words (w / 2).toNat t.toNat (k + 1)) := by
              have := blit_step (l := h.words) (a := (w / 2).toNat) (t := t.toNat) (k := k) (v := y) (by omega) (by omega) hy3
              rw [← this]
              congr 1
              omega
            walk_at "go"
            exact ⟨_, rfl, by walk_at "mrep", by walk_at "lk", f2.upd (.inl (by simp [MIds.all]))⟩
          case hd =>
            rintro σ' H' ⟨v, rfl, M2, hmv2, f2⟩
            rw [show (2 + f / 64).toNat = (f / 64 + 2).toNat by omega] at M2
            generalize hb : blit h.words (w / 2).toNat t.toNat (f / 64 + 2).toNat = wb at *
            obtain ⟨hm2, hW2, hG2, hR2, _, _, _⟩ := id M2
            replace hm2 : H' i.m = some (.lst (shotV h i.g i.r i.w)) := hm2
            replace hW2 : H' i.w = some (il wb) := hW2
            replace hG2 : H' i.g = some (il h.gr) := hG2
            replace hR2 : H' i.r = some (il h.rem) := hR2
            have hm2' := hm2
            unfold shotV at hm2'
            have hw2' : wr wb (t + 1) (if decide (h.ph = .marking) = true then 1 else 0) = some ws2 := by
              rw [← hw2]
              simp only [decide_eq_true_eq]
            walk_at "go"
            refine ite_b (fun d4 => ?_) (fun d4 => ?_)
            · have c4 := of_decide_eq_true d4
              simp only [if_pos c4] at q
              walk_at "go"
              obtain ⟨j, hj, hset⟩ := shot_put (h := h) (g := i.g) (r := i.r) (w := i.w) (s := f / 64 + 2)
              rw [ht] at hset
              refine setL_i (xs := shotV h i.g i.r i.w) (by walk_at "lk") hj ?_
              rw [show t + (2 + f / 64) = t + (f / 64 + 2) by omega, hset]
              have hw' : wr ws2 (w / 2 + 1) (8 * t) = some ws := hw
              have hr' := rd_wr_same hw'
              walk_at "go"
              rw [show 8 * t / 8 = t by omega]
              refine q _ ⟨?_, ?_, ?_, ?_, n1, n2, n3⟩ ?_ ?_
              · rw [upd_ne k1.symm, upd_ne m1]
                exact upd_same
              · rw [upd_ne k2.symm]
                exact upd_same
              · walk_at "lk"
              · show _ = some (il (claimM h (f / 64 + 2)).2.rem)
                rw [(claim_keep h _).rem]
                walk_at "lk"
              · exact upd_same
              · exact ((((f2.upd (.inl (by simp [MIds.all]))).upd (.inl (by simp [MIds.all]))).upd (.inl (by simp [MIds.all]))).upd (.inl (by simp [MIds.all]))).upd (.inl (by simp [MIds.all]))
            · have c4 := of_decide_eq_false d4
              simp only [if_neg c4] at q
              walk_at "go"
              obtain ⟨j, hj, hset⟩ := shot_put (h := h) (g := i.g) (r := i.r) (w := i.w) (s := f / 64 + 2)
              rw [ht] at hset
              refine setL_i (xs := shotV h i.g i.r i.w) (by walk_at "lk") hj ?_
              rw [show t + (2 + f / 64) = t + (f / 64 + 2) by omega, hset]
              have hw' : wr ws2 (w / 2 + 1) (8 * t) = some ws := hw
              have hr' := rd_wr_same hw'
              walk_at "go"
              rw [show 8 * t / 8 = t by omega]
              refine q _ ⟨?_, ?_, ?_, ?_, n1, n2, n3⟩ ?_ ?_
              · rw [upd_ne k1.symm, upd_ne m1]
                exact upd_same
              · rw [upd_ne k2.symm]
                exact upd_same
              · walk_at "lk"
              · show _ = some (il (claimM h (f / 64 + 2)).2.rem)
                rw [(claim_keep h _).rem]
                walk_at "lk"
              · exact upd_same
              · exact (((f2.upd (.inl (by simp [MIds.all]))).upd (.inl (by simp [MIds.all]))).upd (.inl (by simp [MIds.all]))).upd (.inl (by simp [MIds.all]))
        · have c3 := of_decide_eq_false d3
          rw [if_pos (by omega)] at hp1
          cases hp1
          walk_at "go"
          exact q _ M hmv (Fr.refl _ _)
theorem pure_l_lifted_block (T : HC K C) : PureOk (t_l_lifted_block K C) ["_law_mem", "_law_nur", "_law_at", "_law_moved", "_law_words", "_law_k"] 4 (phi_l_lifted_block K C) := by
  intro vs H Q hl h
  delta t_l_lifted_block
  obtain ⟨i, h, a, m, mv, p, rfl, M, hmv, nm, hM, q⟩ := h
  simp only [liftBlockM, bind, Option.bind_eq_some_iff, grd_iff, Bool.and_eq_true, decide_eq_true_eq] at hM
  obtain ⟨f, hf, _, ⟨⟨g0, g1⟩, g2⟩, hM⟩ := hM
  have ba := rd_lt hf
  obtain ⟨hm, hW, hG, hR, n1, n2, n3⟩ := id M
  have hm' := hm
  unfold shotV at hm'
  walk_at "go"
  refine forR2_i (i := a + 2) (j := a + 2 + f / 64) (fun k σ' H' => ∃ v h1 mv1, σ' = [some (.ref i.m), some (.int h.nur), some (.int a), some (.ref m), some (.ref i.w), v] ∧ Mem i h1 H' ∧ h1.nur = h.nur ∧ H' m = some (il mv1) ∧ Fr (m :: i.all) H H' ∧
    liftSpotsM h1 mv1 (a + 2 + k) ((f / 64).toNat - k) = some p) ?he ?hb1 ?hb2 ?h0 ?hs ?hd
  case he =>
    intro Q' q'
    walk_at "go"
    exact q'
  case hb1 => omega
  case hb2 => omega
  case h0 => exact ⟨none, h, mv, rfl, M, rfl, hmv, Fr.refl _ _, by
    rw [show a + 2 + ((0 : Nat) : Int) = a + 2 by omega]
    exact hM⟩
  case hs =>
    rintro k σ' H' hk ⟨v, h1, mv1, rfl, M1, en, hm1, f1, e1⟩
    have hk' : k < (f / 64).toNat := by omega
    rw [show (f / 64).toNat - k = ((f / 64).toNat - (k + 1)) + 1 by omega] at e1
    simp only [liftSpotsM, bind, Option.bind_eq_some_iff] at e1
    obtain ⟨x, hx, p2, e2, ws, hw, e3⟩ := e1
    obtain ⟨_, hW1, _, _, _, _, _⟩ := id M1
    refine name_i ?_
    rw [← en]
    walk_at "go"
    refine ⟨i, h1, _, m, mv1, p2, rfl, M1, hm1, nm, e2, fun H2 M2 hm2 f2 => ?_⟩
    have en2 : p2.2.1.nur = h1.nur := (oldWord_kept e2).nur
    obtain ⟨hM2, hW2, hG2, hR2, _, _, _⟩ := id M2
    have m1 := M2.mw
    have k2 : m ≠ i.w := fun z => nm (by simp [MIds.all, z])
    walk_at "go"
    refine ⟨_, { p2.2.1 with words := ws }, p2.2.2, rfl, by walk_at "mrep", en2, by walk_at "lk", (f1.trans f2 fun b hb => .inl hb).upd (.inl (by simp [MIds.all])), ?_⟩
    rw [show a + 2 + ((k + 1 : Nat) : Int) = a + 2 + k + 1 by omega]
    exact e3
  case hd =>
    rintro σ' H' ⟨v, h1, mv1, rfl, M1, en, hm1, f1, e1⟩
    rw [show (a + 2 + f / 64 - (a + 2)).toNat = (f / 64).toNat by congr 1; omega, Nat.sub_self] at e1
    cases e1
    exact q _ M1 hm1 f1
end
end Qb

set_option Elab.async false
set_option linter.all false
set_option maxRecDepth 100000
set_option maxHeartbeats 4000000
/-! Law4: the law's own young collection and placing. -/
namespace Qb
open PySem L2
local macro_rules | `(tactic| walk_at "lk") => `(tactic| first
  | assumption
  | exact upd_same
  | (refine upd_get ?_ ?_; walk_at "ne"; walk_at "lk")
  | (refine Ex.get (by assumption) ?_; walk_at "lk")
  | (refine Fr.get (by assumption) ?_ ?_; walk_at "lk"; walk_at "nin"))
local macro_rules | `(tactic| walk_at "ne") => `(tactic| first
  | assumption
  | (refine Ne.symm ?_; assumption)
  | (refine ne_of_none ?_ (by assumption); walk_at "lk")
  | (refine Ne.symm (ne_of_none ?_ (by assumption)); walk_at "lk"))
local macro_rules | `(tactic| walk_at "nin") => `(tactic| first
  | assumption
  | (simp only [List.mem_cons, List.not_mem_nil, or_false, not_or]; (try refine ⟨?_, ?_⟩) <;> (repeat' refine ⟨?_, ?_⟩) <;> walk_at "ne"))
local macro_rules | `(tactic| walk_at "lt") => `(tactic| first
  | assumption
  | exact Or.inl (by walk_at "lk")
  | exact Or.inr (by walk_at "lk")
  | (refine LT.ex ?_ (by assumption); walk_at "lt"))
local macro_rules | `(tactic| walk_at "mem") => `(tactic| first
  | exact Or.inl (by simp [Ids.all])
  | exact Or.inr (by assumption)
  | (refine Fr.fresh ?_ (by assumption); walk_at "fr"))
local macro_rules | `(tactic| walk_at "fr") => `(tactic| first
  | exact Fr.refl _ _
  | assumption
  | exact Ex.fr (by assumption)
  | (refine Fr.upd ?_ ?_; walk_at "fr"; walk_at "mem")
  | (refine Fr.ex ?_ (by assumption); walk_at "fr")
  | (refine Fr.trans ?_ (by assumption) ?_; walk_at "fr"; (intro a ha; exact Or.inl ha)))
local macro_rules | `(tactic| walk_at "rep") => `(tactic| first
  | assumption
  | exact ⟨by walk_at "lk", by walk_at "lk", by walk_at "lk", by walk_at "lk", by walk_at "ne", by walk_at "ne", by walk_at "ne"⟩)
local macro_rules | `(tactic| walk_at "n") => `(tactic| first | decide | omega)
local macro_rules | `(tactic| walk_at "go") => `(tactic| repeat (with_reducible first
  | (apply var_i; (k_dflt rfl))
  | apply c_i
  | apply op_i
  | apply fld_i
  | apply un_i
  | apply ru_i
  | apply cons_i
  | apply nil_i
  | apply call_i
  | apply plus_i
  | apply minus_i
  | apply i0_i
  | apply eq_i
  | apply ne_i
  | apply bl_i
  | apply test_i
  | apply tb_i
  | apply seq_i
  | apply asg_i
  | apply ret_i
  | apply if_i
  | apply iteT
  | apply iteF
  | apply next_i
  | apply drop_i
  | apply retN_i
  | apply and_i
  | apply or_i
  | apply not_i
  | apply andv_i
  | apply orv_i
  | apply notv_i
  | apply notvr_i
  | apply cb_i
  | apply tup_i
  | apply lst_i
  | apply chain_i
  | apply slice_i
  | apply part_i
  | apply part_int
  | apply nopart_i
  | apply bm_i
  | apply sfld_i
  | apply asub_i
  | apply aslice_i
  | apply atup2_i
  | apply break_i
  | apply eqMarking_i
  | apply eqIdle_i
  | apply eqMoving_i
  | apply neIdle_i
  | apply intU_i
  | apply intU_b
  | apply i1_i
  | apply i2_i
  | apply i3_i
  | (apply times_i; (walk_at "n"))
  | (apply times_j; (walk_at "n"))
  | (apply floor_i; (walk_at "n"); (walk_at "n"))
  | (apply rest_i; (walk_at "n"))
  | (apply len_i; (k_dflt rfl))
  | (apply f_words; assumption; (walk_at "lk"))
  | (apply f_nur; assumption; (walk_at "lk"))
  | (apply f_cap; assumption; (walk_at "lk"))
  | (apply f_yt; assumption; (walk_at "lk"))
  | (apply f_base; assumption; (walk_at "lk"))
  | (apply f_top; assumption; (walk_at "lk"))
  | (apply f_ob; assumption; (walk_at "lk"))
  | (apply f_ot; assumption; (walk_at "lk"))
  | (apply f_ph; assumption; (walk_at "lk"))
  | (apply f_cur; assumption; (walk_at "lk"))
  | (apply f_gr; assumption; (walk_at "lk"))
  | (apply f_rem; assumption; (walk_at "lk"))
  | (apply f_pend; assumption; (walk_at "lk"))
  | (apply ixI_i; (walk_at "lk"); assumption)
  | (apply ixL_i; (walk_at "lk"); (k_dflt rfl))
  | (apply ixLT_i; assumption; (k_dflt rfl))
  | (apply ixLTI_i; assumption; assumption)
  | (apply pow_i; (walk_at "n"); (walk_at "n"))
  | apply minU_i
  | apply maxU_i
  | (apply setI_i; (walk_at "lk"); assumption)
  | (apply tyl_i; (walk_at "lk"))
  | (apply appendI_i; (walk_at "lk"); (walk_at "n"))
  | (apply inLate_t; (walk_at "lk"))
  | (apply inLate_l; (walk_at "lk"))
  | (apply notLate_t; (walk_at "lk"))))
local macro_rules | `(tactic| walk_at "mrep") => `(tactic| first
  | assumption
  | exact ⟨by walk_at "lk", by walk_at "lk", by walk_at "lk", by walk_at "lk", by walk_at "ne", by walk_at "ne", by walk_at "ne"⟩)
section
variable {K : PySem.W.Frag} {C : Addr}
theorem pure_l_emptied (T : HC K C) : PureOk (t_l_emptied K C) ["_law_mem", "_law_cap", "_law_nur", "_law_rows", "_law_words", "_law_moved", "_law_row", "_law_k", "_law_address", "_law_at"] 4 (phi_l_emptied K C) := by
  intro vs H Q hl h
  delta t_l_emptied
  obtain ⟨i, h, ra, rl, rows, p, rfl, M, hra, hrows, nd, dj, nra, nrl, hz, hM, q⟩ := h
  simp only [collectYoungM, bind, Option.bind_eq_some_iff, Option.some.injEq, grd_iff, Bool.and_eq_true, decide_eq_true_eq] at hM
  obtain ⟨p1, e1, p2, e2, p3, e3, _, ⟨⟨g0, g1⟩, g2⟩, rfl⟩ := hM
  have hlen := hrows.len
  obtain ⟨hm, hW, hG, hR, n1, n2, n3⟩ := id M
  have hm' := hm
  unfold shotV at hm'
  walk_at "go"
  refine lstr_i (by simp) fun m H0 hm0 x0 hmm => ?_
  have nm : m ∉ i.all := fun z => M.some m z hm0
  have nmr : m ∉ rl := fun z => hrows.some m z hm0
  have nmra : m ≠ ra := fun z => by
    subst z
    rcases hra with z | z
    · rw [z] at hm0; cases hm0
    · rw [z] at hm0; cases hm0
  have dj' : ∀ b ∈ rl, b ∉ m :: i.all := fun b hb => by
    simp only [List.mem_cons, not_or]
    exact ⟨fun z => nmr (z ▸ hb), dj b hb⟩
  walk_at "go"
  refine forSeq_i (a := ra) (xs := rl.map V.ref) (fun k σ' H' => ∃ v1 v2 h1 mv1 done rest, σ' = [some (.ref i.m), some (.int h.cap), some (.int h.nur), some (.ref ra), some (.ref i.w), some (.ref m), v1, v2, none, none] ∧ Mem i h1 H' ∧ Keep h h1 ∧ H' m = some (il mv1) ∧ RowsAt H' rl (done ++ rest) ∧ done.length = k ∧ rest = rows.drop k ∧
    Fr (m :: (i.all ++ rl)) H H' ∧ ∃ p', liftRowsM h1 mv1 rest = some p' ∧ p1 = (done ++ p'.1, p'.2.1, p'.2.2)) ?he (hra.ex x0) ?h0 ?hk ?hs ?hd
  case he =>
    intro Q' q'
    walk_at "go"
    exact q'
  case h0 => exact ⟨none, none, h, [], [], rows, rfl, M.ex x0, Keep.refl h, hmm, hrows.ex x0, rfl, rfl, x0.fr, p1, e1, rfl⟩
  case hk =>
    rintro k σ' H' hk ⟨v1, v2, h1, mv1, done, rest, rfl, M1, kp, hm1, hr1, hd1, er, f1, p', e', ep⟩ o ho
    have nn : ra ∉ m :: (i.all ++ rl) := by
      simp only [List.mem_cons, List.mem_append, not_or]
      exact ⟨nmra.symm, nra, nrl⟩
    rcases hra with z | z
    · rw [x0 _ _ z] at ho
      cases ho
      exact f1 _ _ z nn
    · rw [x0 _ _ z] at ho
      cases ho
      exact f1 _ _ z nn
  case hs =>
    rintro k x σ' H' hx ⟨v1, v2, h1, mv1, done, rest, rfl, M1, kp, hm1, hr1, hd1, er, f1, p', e', ep⟩
    obtain ⟨a, rfl, ha⟩ := ref_of hx
    obtain ⟨r, hr, har⟩ := hr1.get ha
    have hkl : k < rl.length := (List.getElem?_eq_some_iff.mp ha).1
    have hk2 : k < rows.length := by omega
    rw [List.drop_eq_getElem_cons hk2] at er
    subst er
    have hr2 : r = rows[k] := by
      rw [List.getElem?_append_right (by omega), hd1, Nat.sub_self] at hr
      exact (Option.some.inj hr).symm
    subst hr2
    simp only [liftRowsM, bind, Option.bind_eq_some_iff, Option.some.injEq] at e'
    obtain ⟨p4, e4, p5, e5, rfl⟩ := e'
    have am : a ∈ rl := List.mem_iff_getElem?.mpr ⟨k, ha⟩
    have hzk := hz _ (List.getElem_mem hk2)
    generalize hrow : rows[k] = row at *
    have na : a ∉ m :: i.all := dj' a am
    refine name_i ?_
    refine forR1_i (j := row.length) (fun j σ' H2 => ∃ v h2 mv2 row1, σ' = [some (.ref i.m), some (.int h.cap), some (.int h.nur), some (.ref ra), some (.ref i.w), some (.ref m), some (.ref a), v, none, none] ∧ Mem i h2 H2 ∧ Keep h h2 ∧ H2 m = some (il mv2) ∧ H2 a = some (il (row1 ++ row.drop j)) ∧ row1.length = j ∧
      Fr (a :: m :: i.all) H' H2 ∧ ∃ p6, liftRowM h2 mv2 (row.drop j) = some p6 ∧ p4 = (row1 ++ p6.1, p6.2.1, p6.2.2)) ?he2 (by omega) (by omega) ?h02 ?hs2 ?hd2
    case he2 =>
      intro Q' q'
      walk_at "go"
      exact lenI_i har q'
    case h02 => exact ⟨_, h1, mv1, [], rfl, M1, kp, hm1, har, rfl, Fr.refl _ _, p4, e4, rfl⟩
    case hs2 =>
      rintro j σ' H2 hj ⟨v, h2, mv2, row1, rfl, M2, kp2, hm2, ha2, hl2, f2, p6, e6, ep4⟩
      have hj' : j < row.length := by simpa using hj
      have ed : row.drop j = row[j] :: row.drop (j + 1) := List.drop_eq_getElem_cons hj'
      rw [ed] at e6 ha2
      simp only [liftRowM, bind, Option.bind_eq_some_iff, Option.some.injEq] at e6
      obtain ⟨p7, e7, p8, e8, rfl⟩ := e6
      refine name_i ?_
      have hr : rd (row1 ++ row[j] :: row.drop (j + 1)) (j : Int) = some row[j] := rd_mid hl2
      rw [← kp2.nur]
      walk_at "go"
      refine ⟨i, h2, _, m, mv2, p7, rfl, M2, hm2, nm, e7, fun H3 M3 hm3 f3 => ?_⟩
      have ha3 : H3 a = some (il (row1 ++ row[j] :: row.drop (j + 1))) := f3 _ _ ha2 na
      have hw : wr (row1 ++ row[j] :: row.drop (j + 1)) (j : Int) p7.1 = some ((row1 ++ [p7.1]) ++ row.drop (j + 1)) := wr_mid hl2
      walk_at "go"
      have d1 : a ≠ m := fun z => na (by rw [z]; simp)
      have d2 : ∀ b ∈ i.all, b ≠ a := fun b hb z => na (by rw [← z]; exact List.mem_cons_of_mem _ hb)
      refine ⟨_, p7.2.1, p7.2.2, row1 ++ [p7.1], by rw [kp2.nur]; rfl, ?_, kp2.trans (oldWord_kept e7), ?_, upd_same, by rw [List.length_append, hl2]; rfl, ?_, p8, e8, by rw [ep4, List.append_assoc]; rfl⟩
      · exact M3.fr (S := [a]) (fun b o e n => by rw [upd_ne (by simpa using n)]; exact e) fun b hb z => d2 b hb (by simpa using z)
      · rw [upd_ne d1.symm]
        exact hm3
      · exact (f2.trans f3 fun b hb => .inl (List.mem_cons_of_mem _ hb)).upd (.inl (by simp))
    case hd2 =>
      rintro σ' H2 ⟨v, h2, mv2, row1, rfl, M2, kp2, hm2, ha2, hl2, f2, p6, e6, ep4⟩
      have ez : row.drop ((row.length : Int).toNat) = [] := by simp
      rw [ez] at e6 ha2
      cases e6
      rw [List.append_nil] at ha2
      have ep5 : p4 = (row1, h2, mv2) := by rw [ep4]; simp
      subst ep5
      refine ⟨_, _, h2, mv2, done ++ [row1], rows.drop (k + 1), rfl, M2, kp2, hm2, ?_, by rw [List.length_append, hd1]; rfl, rfl, f1.trans f2 fun b hb => .inl ?_, p5, e5, by rw [ep, List.append_assoc]; rfl⟩
      · rw [List.append_assoc]
        exact hr1.step nd (by rw [hd1]; exact ha) f2 dj' ha2
      · simp only [List.mem_cons, List.mem_append] at hb ⊢
        rcases hb with z | z | z
        · rw [z]; exact .inr (.inr am)
        · exact .inl z
        · exact .inr (.inl z)
  case hd =>
    rintro σ' H' ⟨v1, v2, h1, mv1, done, rest, rfl, M1, kp, hm1, hr1, hd1, er, f1, p', e', ep⟩
    have ez : rest = [] := by rw [er, List.length_map, hlen, List.drop_length]
    subst ez
    cases e'
    rw [List.append_nil] at hr1
    have ep5 : p1 = (done, h1, mv1) := by rw [ep]; simp
    subst ep5
    replace e2 : liftRemM h1 mv1 h1.rem = some p2 := e2
    have hM1' := M1.m
    unfold shotV at hM1'
    walk_at "go"
    refine forSeq_i (a := i.r) (xs := h1.rem.map V.int) (fun k σ' H2 => ∃ w1 w2 w3 w4 h2 mv2, σ' = [some (.ref i.m), some (.int h.cap), some (.int h.nur), some (.ref ra), some (.ref i.w), some (.ref m), w1, w2, w3, w4] ∧ Mem i h2 H2 ∧ Keep h1 h2 ∧ H2 m = some (il mv2) ∧ Fr (m :: i.all) H' H2 ∧
      liftRemM h2 mv2 (h1.rem.drop k) = some p2) ?hf (.inl M1.r) ?hf0 ?hfk ?hfs ?hfd
    case hf =>
      intro Q' q'
      walk_at "go"
      exact q'
    case hf0 => exact ⟨_, _, _, _, h1, mv1, rfl, M1, Keep.refl h1, hm1, Fr.refl _ _, e2⟩
    case hfk =>
      rintro k σ' H2 hk ⟨w1, w2, w3, w4, h2, mv2, rfl, M2, kp2, hm2, f2, e4⟩ o ho
      have z := M2.r
      rw [kp2.rem] at z
      rw [M1.r] at ho
      cases ho
      exact z
    case hfs =>
      rintro k x σ' H2 hx ⟨w1, w2, w3, w4, h2, mv2, rfl, M2, kp2, hm2, f2, e4⟩
      obtain ⟨y, rfl, hy⟩ := int_of hx
      obtain ⟨hk', ey⟩ := List.getElem?_eq_some_iff.mp hy
      rw [List.drop_eq_getElem_cons hk', ey] at e4
      simp only [liftRemM, bind, Option.bind_eq_some_iff, grd_iff, decide_eq_true_eq] at e4
      obtain ⟨b, hb, p4, e5, s, hs, _, q0, ws, hw, e6⟩ := e4
      refine name_i ?_
      have hc : h2.cap = h.cap := (kp.trans kp2).cap
      have hn : h2.nur = h.nur := (kp.trans kp2).nur
      rw [← hc, ← hn]
      walk_at "go"
      refine ⟨i.m, h2, _, _, rfl, M2.read, hb, fun H3 x3 => ?_⟩
      have M3 := M2.ex x3
      walk_at "go"
      refine ⟨i, h2, _, m, mv2, p4, rfl, M3, x3 _ _ hm2, nm, e5, fun H4 M4 hm4 f4 => ?_⟩
      obtain ⟨hM4, hW4, hG4, hR4, _, _, _⟩ := id M4
      have m1 := M4.mw
      have k2 : m ≠ i.w := fun z => nm (by simp [MIds.all, z])
      have hw' : wr p4.1.words (b + 1) (s - 4) = some ws := by
        rw [← hw]
        congr 1
        omega
      walk_at "go"
      have kp4 : Keep h2 { p4.1 with words := ws } := (liftBlock_kept e5).words (wr_len hw)
      refine ⟨_, _, _, _, { p4.1 with words := ws }, p4.2, by rw [hc, hn]; rfl, by walk_at "mrep", kp2.trans kp4, by walk_at "lk", ((f2.ex x3).trans f4 fun b hb => .inl hb).upd (.inl (by simp [MIds.all])), e6⟩
    case hfd =>
      rintro σ' H2 ⟨w1, w2, w3, w4, h2, mv2, rfl, M2, kp2, hm2, f2, e4⟩
      rw [List.length_map, List.drop_length] at e4
      cases e4
      have f3 : Fr (m :: (i.all ++ rl)) H H2 := f1.trans f2 fun b hb => .inl (by
        simp only [List.mem_cons, List.mem_append] at hb ⊢
        rcases hb with z | z
        · exact .inl z
        · exact .inr (.inl z))
      have hr2 : RowsAt H2 rl done := hr1.fr f2 dj'
      have kp3 := kp.trans kp2
      obtain ⟨hM2, hW2, hG2, hR2, _, _, _⟩ := id M2
      walk_at "go"
      refine lstr_i (by simp) fun u H3 hu x3 hp3 => ?_
      have M3 := M2.ex x3
      obtain ⟨hM3, hW3, hG3, hR3, _, _, _⟩ := id M3
      walk_at "go"
      refine setL_i (j := 8) hM3 rfl ?_
      have nu1 : i.m ≠ u := ne_of_none hM2 hu
      have nu2 : i.w ≠ u := ne_of_none hW2 hu
      have nu3 : i.g ≠ u := ne_of_none hG2 hu
      have nu4 : m ≠ u := ne_of_none hm2 hu
      have nu5 : ∀ b ∈ rl, b ≠ u := fun b hb z => hr2.some b hb (by rw [z]; exact hu)
      have m1 := M3.mw
      have m2 := M3.mg
      have k1 : m ≠ i.m := fun z => nm (by simp [MIds.all, z])
      have M4 : Mem ⟨i.m, i.w, i.g, u⟩ { h2 with rem := [] } (upd H3 i.m (.lst ((shotV h2 i.g i.r i.w).set 8 (.ref u)))) := ⟨upd_same, by walk_at "lk", by walk_at "lk", by
        show upd H3 i.m _ u = some (il [])
        rw [upd_ne nu1.symm]
        exact hp3, n1, nu2, nu3⟩
      have f4 : Fr (m :: (i.all ++ rl)) H (upd H3 i.m (.lst ((shotV h2 i.g i.r i.w).set 8 (.ref u)))) := (f3.ex x3).upd (.inl (by simp [MIds.all]))
      have hm4 : (upd H3 i.m (.lst ((shotV h2 i.g i.r i.w).set 8 (.ref u)))) m = some (il mv2) := by walk_at "lk"
      have hr4 : RowsAt (upd H3 i.m (.lst ((shotV h2 i.g i.r i.w).set 8 (.ref u)))) rl done := (hr2.ex x3).rel fun b hb o ho => by
        rw [upd_ne (fun z => dj b hb (by rw [z]; simp [MIds.all]))]
        exact ho
      have hu0 : H u = none := by
        rcases f3.fresh hu with z | z
        · exfalso
          simp only [List.mem_cons, List.mem_append] at z
          rcases z with z | z | z
          · rw [z, hm2] at hu; cases hu
          · exact M2.some u z hu
          · exact hr2.some u z hu
        · exact z
      have nx4 : i.nx ⟨i.m, i.w, i.g, u⟩ H := ⟨rfl, rfl, rfl, .inr hu0⟩
      generalize (upd H3 i.m (.lst ((shotV h2 i.g i.r i.w).set 8 (.ref u)))) = H4 at *
      have nm4 : m ∉ (⟨i.m, i.w, i.g, u⟩ : MIds).all := by
        simp only [MIds.all, List.mem_cons, List.not_mem_nil, or_false, not_or]
        exact ⟨k1, fun z => nm (by simp [MIds.all, z]), fun z => nm (by simp [MIds.all, z]), nu4⟩
      have dj4 : ∀ b ∈ rl, b ∉ m :: (⟨i.m, i.w, i.g, u⟩ : MIds).all := fun b hb => by
        have := dj' b hb
        simp only [MIds.all, List.mem_cons, List.not_mem_nil, or_false, not_or] at this ⊢
        exact ⟨this.1, this.2.1, this.2.2.1, this.2.2.2.1, nu5 b hb⟩
      have fin : ∀ (H5 : Hp) (v1 v2 v3 v4 : Option V), Mem ⟨i.m, i.w, i.g, u⟩ p3.1 H5 → RowsAt H5 rl done → Fr (m :: (i.all ++ rl)) H H5 → p3.1.nur = h.nur →
          tThen (tFor (iRng2 (tCons (tC (.int 1)) (tCons (tOp (rPlus K) (tVar 2) (tC (.int 1))) tNil))) (gName 7) (tAsg (tC (.int 0)) (gSub (tVar 4) (tVar 7) rSetL))) (tAsg (tC (.int 1)) (gSub (tVar 0) (tC (.int 1)) rSetL))
            { nx := fun _ H' => Q .non H', rt := Q } [some (.ref i.m), some (.int h.cap), some (.int h.nur), some (.ref ra), some (.ref i.w), some (.ref m), v1, v2, v3, v4] H5 := by
        intro H5 v1 v2 v3 v4 M5 hr5 f5 en
        rw [en] at g0 g1
        refine seq_i ?_
        refine forR2_i (i := 1) (j := h.nur + 1) (fun k σ' H6 => ∃ z1, σ' = [some (.ref i.m), some (.int h.cap), some (.int h.nur), some (.ref ra), some (.ref i.w), some (.ref m), v1, z1, v3, v4] ∧ Mem ⟨i.m, i.w, i.g, u⟩ { p3.1 with words := zeroFrom p3.1.words 1 k } H6 ∧ Fr i.all H5 H6)
          ?hz (by omega) (by omega) ?hz0 ?hzs ?hzd
        case hz =>
          intro Q' q'
          walk_at "go"
          exact q'
        case hz0 => exact ⟨_, rfl, by rw [zeroFrom_zero (by omega)]; exact M5, Fr.refl _ _⟩
        case hzs =>
          rintro k σ' H6 hk ⟨z1, rfl, M6, f6⟩
          obtain ⟨hM6, hW6, hG6, hR6, _, _, _⟩ := id M6
          have m1 := M6.mw
          have hw : wr (zeroFrom p3.1.words 1 k) (1 + k) 0 = some (zeroFrom p3.1.words 1 (k + 1)) := by
            have := zeroFrom_step (l := p3.1.words) (lo := 1) (k := k) (by omega)
            exact this
          refine name_i ?_
          walk_at "go"
          exact ⟨_, rfl, by walk_at "mrep", f6.upd (.inl (by simp [MIds.all]))⟩
        case hzd =>
          rintro σ' H6 ⟨z1, rfl, M6, f6⟩
          obtain ⟨hM6, hW6, hG6, hR6, _, _, _⟩ := id M6
          have m1 := M6.mw
          have m2 := M6.mg
          have m3 := M6.mr
          walk_at "go"
          refine setL_i (j := 1) hM6 rfl ?_
          have ew : zeroFrom p3.1.words 1 (h.nur + 1 - 1).toNat = (clearYoung p3.1).words := by
            unfold clearYoung zeroFrom
            rw [show (h.nur + 1 - 1).toNat = p3.1.nur.toNat by omega, show 1 + p3.1.nur.toNat = p3.1.nur.toNat + 1 by omega]
          refine q _ ⟨i.m, i.w, i.g, u⟩ nx4 ⟨upd_same, ?_, by walk_at "lk", by walk_at "lk", n1, nu2, nu3⟩ ?_ ?_
          · rw [← ew]
            walk_at "lk"
          · refine (hr5.fr f6 fun b hb => dj b hb).rel fun b hb o ho => ?_
            rw [upd_ne (fun z => dj b hb (by rw [z]; simp [MIds.all]))]
            exact ho
          · intro b o ho hn
            have bm : b ≠ m := fun z => by rw [z, hm0] at ho; cases ho
            simp only [List.mem_append, not_or] at hn
            have a5 : H5 b = some o := f5 b o ho (by simp only [List.mem_cons, List.mem_append, not_or]; exact ⟨bm, hn⟩)
            have a6 := f6 b o a5 hn.1
            rw [upd_ne (fun z => hn.1 (by rw [z]; simp [MIds.all]))]
            exact a6
      have M4' : Mem ⟨i.m, i.w, i.g, u⟩ { h2 with rem := [] } H4 := M4
      generalize hh4 : ({ h2 with rem := [] } : HS) = h4 at *
      have n4 : h4.nur = h.nur := by rw [← hh4]; exact kp3.nur
      refine seq_i ?_
      refine forR1_i (j := 100000) (fun k σ' H5 => ∃ v1 v2 v3 v4 h5 mv5, σ' = [some (.ref i.m), some (.int h.cap), some (.int h.nur), some (.ref ra), some (.ref i.w), some (.ref m), v1, v2, v3, v4] ∧ Mem ⟨i.m, i.w, i.g, u⟩ h5 H5 ∧ h5.nur = h.nur ∧ H5 m = some (il mv5) ∧ RowsAt H5 rl done ∧ Fr (m :: (i.all ++ rl)) H H5 ∧
        scanM h5 mv5 k (scanFuel - k) = some p3) ?hg (by omega) (by omega) ?hg0 ?hgs ?hgd
      case hg =>
        intro Q' q'
        walk_at "go"
        exact q'
      case hg0 => exact ⟨_, _, _, _, h4, mv2, rfl, M4', n4, hm4, hr4, f4, e3⟩
      case hgs =>
        rintro k σ' H5 hk ⟨v1, v2, v3, v4, h5, mv5, rfl, M5, n5, hm5, hr5, f5, e5⟩
        refine name_i ?_
        walk_at "go"
        refine lenI_i hm5 ?_
        walk_at "go"
        refine ite_b (fun d => ?_) (fun d => ?_)
        · have c := of_decide_eq_true d
          have ee := scan_end (by omega) e5
          subst ee
          exact break_i (fin _ _ _ _ _ M5 hr5 f5 n5)
        · have c := of_decide_eq_false d
          obtain ⟨n', en, a, ha, p1, e6, e7⟩ := scan_go (by omega) e5
          have en' : n' = scanFuel - (k + 1) := by omega
          subst en'
          have hr : rd mv5 (k : Int) = some a := rd_some.mpr ⟨by omega, by rw [Int.toNat_natCast]; exact ha⟩
          rw [← n5]
          walk_at "go"
          refine ⟨⟨i.m, i.w, i.g, u⟩, h5, a, m, mv5, p1, rfl, M5, hm5, nm4, e6, fun H6 M6 hm6 f6 => ?_⟩
          refine ⟨_, _, _, _, p1.1, p1.2, by rw [n5]; rfl, M6, (liftBlock_kept e6).nur, hm6, hr5.fr f6 dj4, f5.trans f6 fun b hb => ?_, e7⟩
          simp only [List.mem_cons, List.mem_append] at hb ⊢
          rcases hb with z | z
          · exact .inl (.inl z)
          · simp only [MIds.all, List.mem_cons, List.not_mem_nil, or_false] at z
            rcases z with z | z | z | z
            · exact .inl (.inr (.inl (by rw [z]; simp [MIds.all])))
            · exact .inl (.inr (.inl (by rw [z]; simp [MIds.all])))
            · exact .inl (.inr (.inl (by rw [z]; simp [MIds.all])))
            · rw [z]; exact .inr hu0
      case hgd =>
        rintro σ' H5 ⟨v1, v2, v3, v4, h5, mv5, rfl, M5, n5, hm5, hr5, f5, e5⟩
        have ef : scanFuel - (100000 : Int).toNat = 0 := rfl
        rw [ef] at e5
        unfold scanM at e5
        split at e5
        · cases e5
          exact fin _ _ _ _ _ M5 hr5 f5 n5
        · cases e5
end
end Qb

set_option Elab.async false
set_option linter.all false
set_option maxRecDepth 100000
set_option maxHeartbeats 4000000
/-! Law5: the law's own placing; what is met. -/
namespace Qb
open PySem L2
local macro_rules | `(tactic| walk_at "lk") => `(tactic| first
  | assumption
  | exact upd_same
  | (refine upd_get ?_ ?_; walk_at "ne"; walk_at "lk")
  | (refine Ex.get (by assumption) ?_; walk_at "lk")
  | (refine Fr.get (by assumption) ?_ ?_; walk_at "lk"; walk_at "nin"))
local macro_rules | `(tactic| walk_at "ne") => `(tactic| first
  | assumption
  | (refine Ne.symm ?_; assumption)
  | (refine ne_of_none ?_ (by assumption); walk_at "lk")
  | (refine Ne.symm (ne_of_none ?_ (by assumption)); walk_at "lk"))
local macro_rules | `(tactic| walk_at "nin") => `(tactic| first
  | assumption
  | (simp only [List.mem_cons, List.not_mem_nil, or_false, not_or]; (try refine ⟨?_, ?_⟩) <;> (repeat' refine ⟨?_, ?_⟩) <;> walk_at "ne"))
local macro_rules | `(tactic| walk_at "lt") => `(tactic| first
  | assumption
  | exact Or.inl (by walk_at "lk")
  | exact Or.inr (by walk_at "lk")
  | (refine LT.ex ?_ (by assumption); walk_at "lt"))
local macro_rules | `(tactic| walk_at "mem") => `(tactic| first
  | exact Or.inl (by simp [Ids.all])
  | exact Or.inr (by assumption)
  | (refine Fr.fresh ?_ (by assumption); walk_at "fr"))
local macro_rules | `(tactic| walk_at "fr") => `(tactic| first
  | exact Fr.refl _ _
  | assumption
  | exact Ex.fr (by assumption)
  | (refine Fr.upd ?_ ?_; walk_at "fr"; walk_at "mem")
  | (refine Fr.ex ?_ (by assumption); walk_at "fr")
  | (refine Fr.trans ?_ (by assumption) ?_; walk_at "fr"; (intro a ha; exact Or.inl ha)))
local macro_rules | `(tactic| walk_at "rep") => `(tactic| first
  | assumption
  | exact ⟨by walk_at "lk", by walk_at "lk", by walk_at "lk", by walk_at "lk", by walk_at "ne", by walk_at "ne", by walk_at "ne"⟩)
local macro_rules | `(tactic| walk_at "n") => `(tactic| first | decide | omega)
local macro_rules | `(tactic| walk_at "go") => `(tactic| repeat (with_reducible first
  | (apply var_i; (k_dflt rfl))
  | apply c_i
  | apply op_i
  | apply fld_i
  | apply un_i
  | apply ru_i
  | apply cons_i
  | apply nil_i
  | apply call_i
  | apply plus_i
  | apply minus_i
  | apply i0_i
  | apply eq_i
  | apply ne_i
  | apply bl_i
  | apply test_i
  | apply tb_i
  | apply seq_i
  | apply asg_i
  | apply ret_i
  | apply if_i
  | apply iteT
  | apply iteF
  | apply next_i
  | apply drop_i
  | apply retN_i
  | apply and_i
  | apply or_i
  | apply not_i
  | apply andv_i
  | apply orv_i
  | apply notv_i
  | apply notvr_i
  | apply cb_i
  | apply tup_i
  | apply lst_i
  | apply chain_i
  | apply slice_i
  | apply part_i
  | apply part_int
  | apply nopart_i
  | apply bm_i
  | apply sfld_i
  | apply asub_i
  | apply aslice_i
  | apply atup2_i
  | apply break_i
  | apply eqMarking_i
  | apply eqIdle_i
  | apply eqMoving_i
  | apply neIdle_i
  | apply intU_i
  | apply intU_b
  | apply i1_i
  | apply i2_i
  | apply i3_i
  | (apply times_i; (walk_at "n"))
  | (apply times_j; (walk_at "n"))
  | (apply floor_i; (walk_at "n"); (walk_at "n"))
  | (apply rest_i; (walk_at "n"))
  | (apply len_i; (k_dflt rfl))
  | (apply f_words; assumption; (walk_at "lk"))
  | (apply f_nur; assumption; (walk_at "lk"))
  | (apply f_cap; assumption; (walk_at "lk"))
  | (apply f_yt; assumption; (walk_at "lk"))
  | (apply f_base; assumption; (walk_at "lk"))
  | (apply f_top; assumption; (walk_at "lk"))
  | (apply f_ob; assumption; (walk_at "lk"))
  | (apply f_ot; assumption; (walk_at "lk"))
  | (apply f_ph; assumption; (walk_at "lk"))
  | (apply f_cur; assumption; (walk_at "lk"))
  | (apply f_gr; assumption; (walk_at "lk"))
  | (apply f_rem; assumption; (walk_at "lk"))
  | (apply f_pend; assumption; (walk_at "lk"))
  | (apply ixI_i; (walk_at "lk"); assumption)
  | (apply ixL_i; (walk_at "lk"); (k_dflt rfl))
  | (apply ixLT_i; assumption; (k_dflt rfl))
  | (apply ixLTI_i; assumption; assumption)
  | (apply pow_i; (walk_at "n"); (walk_at "n"))
  | apply minU_i
  | apply maxU_i
  | (apply setI_i; (walk_at "lk"); assumption)
  | (apply tyl_i; (walk_at "lk"))
  | (apply appendI_i; (walk_at "lk"); (walk_at "n"))
  | (apply inLate_t; (walk_at "lk"))
  | (apply inLate_l; (walk_at "lk"))
  | (apply notLate_t; (walk_at "lk"))))
local macro_rules | `(tactic| walk_at "mrep") => `(tactic| first
  | assumption
  | exact ⟨by walk_at "lk", by walk_at "lk", by walk_at "lk", by walk_at "lk", by walk_at "ne", by walk_at "ne", by walk_at "ne"⟩)
/-- the side n of h1 gives t and moves on to h2 -/
def Sd (h1 h2 : HS) (n : Nat) (t size : Int) : Prop := (∀ g r w, (shotV h1 g r w)[n]? = some (.int t) ∧ (shotV h1 g r w).set n (.int (t + size)) = shotV h2 g r w) ∧ h2.gr = h1.gr ∧ h2.rem = h1.rem ∧ h2.words = h1.words ∧ h2.ph = h1.ph
theorem andvr_c {tb : TE} {σ : St} {d e : Bool} {H : Hp} {Q : VK} (h1 : d = true → ∀ Q' : VK, Q' (.bl e) H → tb σ H Q') (h : Q (.bl (d && e)) H) : AndVR tb σ (.bl d) H Q := by
  refine andvr_i (fun z => ?_) (fun z => ?_)
  · subst z
    exact h1 rfl _ h
  · subst z
    exact h
section
variable {K : PySem.W.Frag} {C : Addr}
theorem pure_l_passed (T : HC K C) : PureOk (t_l_passed K C) ["_law_rows", "_law_digit"] 2 (phi_l_passed K C) := by
  intro vs H Q hl h
  delta t_l_passed
  obtain ⟨ra, xs, d, rfl, hra, q⟩ := h
  walk_at "go"
  refine ite_b (fun d => ?_) (fun d => ?_)
  · walk_at "go"
    exact tupL_i hra fun p H1 hp x1 h1 => q p H1 hp x1 (.inr h1)
  · walk_at "go"
    exact listLT_i (.inl hra) fun p H1 hp x1 h1 => q p H1 hp x1 (.inl h1)
theorem pure_l_laid (T : HC K C) : PureOk (t_l_laid K C) ["_law_mem", "_law_cap", "_law_nur", "_law_rows", "_law_shape", "_law_payload_here", "_law_words", "_law_size", "_law_side", "_law_at", "_law_k"] 6 (phi_l_laid K C) := by
  intro vs H Q hl h
  delta t_l_laid
  obtain ⟨i, h, ra, rl, rows, shape, pa, pl, p, rfl, M, hra, hrows, nd, dj, nra, nrl, hz, hpa, npa, hM, q⟩ := h
  obtain ⟨hm, hW, hG, hR, n1, n2, n3⟩ := id M
  have hm' := hm
  unfold shotV at hm'
  walk_at "go"
  refine lenLT_i hpa ?_
  rw [List.length_map]
  refine plus_i (seq_i (asg_i (c_i ?_)))
  refine cut_i (fun σ' H' => ∃ (i1 : MIds) (h1 h2 : HS) (rows1 : List (List Int)) (n : Nat) (t : Int) (ws : List Int), σ' = [some (.ref i.m), some (.int h.cap), some (.int h.nur), some (.ref ra), some (.int shape), some (.ref pa), some (.ref i.w), some (.int (2 + (pl.length : Int))), some (.int n), none, none] ∧
    i.nx i1 H ∧ Mem i1 h1 H' ∧ RowsAt H' rl rows1 ∧ Fr (i.all ++ rl) H H' ∧ Sd h1 h2 n t (2 + (pl.length : Int)) ∧ n < 9 ∧ (0 ≤ t ∧ t + (2 + pl.length) ≤ (h1.words.length : Int) ∧ h1.words.length ≤ 100000) ∧
    p = (t, { h2 with words := lay h1.words t.toNat ([64 * (pl.length : Int) + shape, if 1 < n ∧ h1.ph = .marking then 2 else 0] ++ pl) }, rows1)) ?_ ?_
  · unfold placeM at hM
    walk_at "go"
    refine ite_b (fun d => ?_) (fun d => ?_)
    · have c := of_decide_eq_true d
      rw [if_neg (by omega)] at hM
      simp only [bind, Option.bind_eq_some_iff, Option.some.injEq, layM, grd_iff, Bool.and_eq_true, decide_eq_true_eq] at hM
      obtain ⟨ws, ⟨_, ⟨⟨g0, g1⟩, g2⟩, rfl⟩, rfl⟩ := hM
      rw [List.length_append] at g1
      simp only [List.length_cons, List.length_nil] at g1
      walk_at "go"
      refine lstr_i (by simp) fun pz H1 hp1 x1 hpz => ?_
      walk_at "go"
      have M1 := M.ex x1
      have es : (pl.length : Int) + 2 = 2 + pl.length := by omega
      by_cases cl : h.ph.late = true
      · have ec : claimM h ((pl.length : Int) + 2) = (h.ot, { h with ot := h.ot + (2 + pl.length) }) := by
          unfold claimM
          rw [if_pos cl, es]
        rw [ec] at g0 g1 ⊢
        refine ⟨i, h, { h with ot := h.ot + (2 + pl.length) }, rows, 5, h.ot, [], by rw [cl]; rfl, MIds.nx_refl _ _, M1, hrows.ex x1, x1.fr, ⟨fun g r w => ⟨rfl, rfl⟩, rfl, rfl, rfl, rfl⟩, by decide, ⟨g0, by omega, g2⟩, ?_⟩
        rw [show (if 1 < 5 ∧ h.ph = .marking then (2 : Int) else 0) = (if h.ph = .marking then 2 else 0) by simp]
        rfl
      · have ec : claimM h ((pl.length : Int) + 2) = (h.top, { h with top := h.top + (2 + pl.length) }) := by
          unfold claimM
          rw [if_neg cl, es]
        rw [ec] at g0 g1 ⊢
        refine ⟨i, h, { h with top := h.top + (2 + pl.length) }, rows, 3, h.top, [], by rw [Bool.not_eq_true] at cl; rw [cl]; rfl, MIds.nx_refl _ _, M1, hrows.ex x1, x1.fr, ⟨fun g r w => ⟨rfl, rfl⟩, rfl, rfl, rfl, rfl⟩, by decide, ⟨g0, by omega, g2⟩, ?_⟩
        rw [show (if 1 < 3 ∧ h.ph = .marking then (2 : Int) else 0) = (if h.ph = .marking then 2 else 0) by simp]
        rfl
    · have c := of_decide_eq_false d
      rw [if_pos (by omega)] at hM
      simp only [bind, Option.bind_eq_some_iff, Option.some.injEq, layM, grd_iff, Bool.and_eq_true, decide_eq_true_eq] at hM
      obtain ⟨p1, e1, ws, ⟨_, ⟨⟨g0, g1⟩, g2⟩, rfl⟩, rfl⟩ := hM
      rw [List.length_append] at g1
      simp only [List.length_cons, List.length_nil] at g1
      have fin : ∀ (i1 : MIds) H1, i.nx i1 H → Mem i1 p1.1 H1 → RowsAt H1 rl p1.2 → Fr (i.all ++ rl) H H1 → ∃ (i1 : MIds) (h1 h2 : HS) (rows1 : List (List Int)) (n : Nat) (t : Int) (ws : List Int), [some (V.ref i.m), some (.int h.cap), some (.int h.nur), some (.ref ra), some (.int shape), some (.ref pa), some (.ref i.w), some (.int (2 + (pl.length : Int))), some (.int 1), none, none] = [some (.ref i.m), some (.int h.cap), some (.int h.nur), some (.ref ra), some (.int shape), some (.ref pa), some (.ref i.w), some (.int (2 + (pl.length : Int))), some (.int n), none, none] ∧
          i.nx i1 H ∧ Mem i1 h1 H1 ∧ RowsAt H1 rl rows1 ∧ Fr (i.all ++ rl) H H1 ∧ Sd h1 h2 n t (2 + (pl.length : Int)) ∧ n < 9 ∧ (0 ≤ t ∧ t + (2 + pl.length) ≤ (h1.words.length : Int) ∧ h1.words.length ≤ 100000) ∧
          (p1.1.yt, { p1.1 with words := p1.1.words.take p1.1.yt.toNat ++ ([64 * (pl.length : Int) + shape, 0] ++ pl) ++ p1.1.words.drop (p1.1.yt.toNat + ([64 * (pl.length : Int) + shape, 0] ++ pl).length), yt := p1.1.yt + (pl.length + 2) }, p1.2) = (t, { h2 with words := lay h1.words t.toNat ([64 * (pl.length : Int) + shape, if 1 < n ∧ h1.ph = .marking then 2 else 0] ++ pl) }, rows1) := by
        intro i1 H1 nx M1 hr1 f1
        refine ⟨i1, p1.1, { p1.1 with yt := p1.1.yt + (2 + pl.length) }, p1.2, 1, p1.1.yt, [], rfl, nx, M1, hr1, f1, ⟨fun g r w => ⟨rfl, rfl⟩, rfl, rfl, rfl, rfl⟩, by decide, ⟨g0, by omega, g2⟩, ?_⟩
        rw [if_neg (by omega), show p1.1.yt + (pl.length + 2) = p1.1.yt + (2 + (pl.length : Int)) by omega]
        rfl
      walk_at "go"
      refine ite_b (fun d1 => ?_) (fun d1 => ?_)
      · have c1 := of_decide_eq_true d1
        rw [if_pos (by omega)] at e1
        walk_at "go"
        refine ⟨i, h, ra, rl, rows, p1, rfl, M, hra, hrows, nd, dj, nra, nrl, hz, e1, fun H1 i1 nx M1 hr1 f1 => ?_⟩
        exact fin i1 H1 nx M1 hr1 f1
      · have c1 := of_decide_eq_false d1
        rw [if_neg (by omega)] at e1
        cases e1
        walk_at "go"
        exact fin i H (MIds.nx_refl _ _) M hrows (Fr.refl _ _)
  · rintro σ' H' ⟨i1, h1, h2, rows1, n, t, ws, rfl, nx, M1, hr1, f1, sd, hn, ⟨t0, t1, t2⟩, rfl⟩
    obtain ⟨hm1, hW1, hG1, hR1, m1, m2, m3⟩ := id M1
    obtain ⟨sd1, sg, sr, sw, sp⟩ := sd
    obtain ⟨sd2, sd3⟩ := sd1 i1.g i1.r i1.w
    have e1 : i1.m = i.m := nx.1
    have e2 : i1.w = i.w := nx.2.1
    rw [← e1, ← e2]
    have k1 := M1.mw
    have k2 := M1.mg
    have k3 := M1.mr
    have l11 : (shotV h1 i1.g i1.r i1.w).length = 11 := rfl
    have npa1 : pa ∉ i1.all := fun z => by
      rcases MIds.nx_all nx pa z with y | y
      · exact npa (List.mem_append_left _ y)
      · rcases hpa with w | w
        · rw [w] at y; cases y
        · rw [w] at y; cases y
    have hpa1 : LT H' pa (pl.map V.int) := hpa.fr f1 npa
    have pm : pa ≠ i1.m := fun z => npa1 (by simp [MIds.all, z])
    have pw : pa ≠ i1.w := fun z => npa1 (by simp [MIds.all, z])
    have dj1 : ∀ b ∈ rl, b ∉ i1.all := fun b hb z => by
      rcases MIds.nx_all nx b z with y | y
      · exact dj b hb y
      · exact hrows.some b hb y
    walk_at "go"
    refine ixL_i hm1 (atI_nat sd2) ?_
    walk_at "go"
    refine setL_i hm1 (j := n) (by unfold ixN; rw [if_pos (by omega), l11, if_pos (by omega)]; rfl) ?_
    rw [sd3]
    have M2 : Mem i1 h2 (upd H' i1.m (.lst (shotV h2 i1.g i1.r i1.w))) := ⟨upd_same, by rw [sw]; walk_at "lk", by rw [sg]; walk_at "lk", by rw [sr]; walk_at "lk", m1, m2, m3⟩
    have f2 : Fr i1.all H' (upd H' i1.m (.lst (shotV h2 i1.g i1.r i1.w))) := (Fr.refl _ _).upd (.inl (by simp [MIds.all]))
    generalize (upd H' i1.m (.lst (shotV h2 i1.g i1.r i1.w))) = H2 at *
    have hpa2 := hpa1.fr f2 npa1
    obtain ⟨hm2, hW2, hG2, hR2, _, _, _⟩ := id M2
    rw [sw] at hW2
    have w1 : wr h1.words t (64 * (pl.length : Int) + shape) = some (lay h1.words t.toNat [64 * (pl.length : Int) + shape]) := by
      have := lay_step (l := h1.words) (b := []) (t := t.toNat) (v := 64 * (pl.length : Int) + shape) (by simp; omega)
      rw [lay_nil (by omega)] at this
      rw [show ((t.toNat : Nat) : Int) + (([] : List Int).length : Int) = t by simp; omega] at this
      exact this
    walk_at "go"
    refine lenLT_i hpa2 ?_
    rw [List.length_map]
    walk_at "go"
    have pm3 : i1.w ≠ i1.m := k1.symm
    have hm3 : (upd H2 i1.w (il (lay h1.words t.toNat [64 * (pl.length : Int) + shape]))) i1.m = some (.lst (shotV h2 i1.g i1.r i1.w)) := by walk_at "lk"
    have hm3' := hm3
    unfold shotV at hm3'
    refine andvr_c (e := decide (h2.ph = .marking)) (fun d Q' q' => ?_) ?_
    · walk_at "go"
      exact q'
    · have em : 2 * (if (decide (1 < (n : Int)) && decide (h2.ph = .marking)) = true then 1 else 0) = (if 1 < n ∧ h1.ph = .marking then (2 : Int) else 0) := by
        rw [sp]
        have : (1 < (n : Int)) ↔ 1 < n := by omega
        simp only [Bool.and_eq_true, decide_eq_true_eq, this]
        split <;> rfl
      have w2 : wr (lay h1.words t.toNat [64 * (pl.length : Int) + shape]) (t + 1) (if 1 < n ∧ h1.ph = .marking then (2 : Int) else 0) = some (lay h1.words t.toNat ([64 * (pl.length : Int) + shape, if 1 < n ∧ h1.ph = .marking then (2 : Int) else 0] ++ pl.take 0)) := by
        have := lay_step (l := h1.words) (b := [64 * (pl.length : Int) + shape]) (t := t.toNat) (v := if 1 < n ∧ h1.ph = .marking then (2 : Int) else 0) (by simp; omega)
        rw [show ((t.toNat : Nat) : Int) + (([64 * (pl.length : Int) + shape] : List Int).length : Int) = t + 1 by simp; omega] at this
        rw [List.take_zero]
        exact this
      walk_at "go"
      rw [em]
      refine setI_i upd_same w2 ?_
      have fz : Fr i1.all H2 (upd (upd H2 i1.w (il (lay h1.words t.toNat [64 * (pl.length : Int) + shape]))) i1.w (il (lay h1.words t.toNat ([64 * (pl.length : Int) + shape, if 1 < n ∧ h1.ph = .marking then (2 : Int) else 0] ++ pl.take 0)))) := ((Fr.refl _ _).upd (.inl (by simp [MIds.all]))).upd (.inl (by simp [MIds.all]))
      have M3 : Mem i1 { h2 with words := lay h1.words t.toNat ([64 * (pl.length : Int) + shape, if 1 < n ∧ h1.ph = .marking then (2 : Int) else 0] ++ pl.take 0) } (upd (upd H2 i1.w (il (lay h1.words t.toNat [64 * (pl.length : Int) + shape]))) i1.w (il (lay h1.words t.toNat ([64 * (pl.length : Int) + shape, if 1 < n ∧ h1.ph = .marking then (2 : Int) else 0] ++ pl.take 0)))) := by walk_at "mrep"
      generalize (upd (upd H2 i1.w (il (lay h1.words t.toNat [64 * (pl.length : Int) + shape]))) i1.w (il (lay h1.words t.toNat ([64 * (pl.length : Int) + shape, if 1 < n ∧ h1.ph = .marking then (2 : Int) else 0] ++ pl.take 0)))) = H3 at *
      have hpa3 := hpa2.fr fz npa1
      refine seq_i ?_
      refine forR1_i (j := pl.length) (fun k σ' H4 => ∃ v, σ' = [some (.ref i1.m), some (.int h.cap), some (.int h.nur), some (.ref ra), some (.int shape), some (.ref pa), some (.ref i1.w), some (.int (2 + (pl.length : Int))), some (.int n), some (.int t), v] ∧
        Mem i1 { h2 with words := lay h1.words t.toNat ([64 * (pl.length : Int) + shape, if 1 < n ∧ h1.ph = .marking then (2 : Int) else 0] ++ pl.take k) } H4 ∧ Fr i1.all H2 H4) ?ha (by omega) (by omega) ⟨_, rfl, M3, fz⟩ ?hb ?hc
      case ha =>
        intro Q' q'
        walk_at "go"
        refine lenLT_i hpa3 ?_
        rw [List.length_map]
        exact q'
      case hb =>
        rintro k σ' H4 hk ⟨v, rfl, M4, f4⟩
        obtain ⟨hm4, hW4, hG4, hR4, _, _, _⟩ := id M4
        have hpa4 := hpa2.fr f4 npa1
        have hk' : k < pl.length := by omega
        have hr : rd pl (k : Int) = some pl[k] := rd_some.mpr ⟨by omega, by rw [Int.toNat_natCast]; exact List.getElem?_eq_getElem hk'⟩
        have hl4 : ([64 * (pl.length : Int) + shape, if 1 < n ∧ h1.ph = .marking then (2 : Int) else 0] ++ pl.take k).length = 2 + k := by
          rw [List.length_append, List.length_take]
          simp
          omega
        have w4 : wr (lay h1.words t.toNat ([64 * (pl.length : Int) + shape, if 1 < n ∧ h1.ph = .marking then (2 : Int) else 0] ++ pl.take k)) (t + 2 + k) pl[k] = some (lay h1.words t.toNat ([64 * (pl.length : Int) + shape, if 1 < n ∧ h1.ph = .marking then (2 : Int) else 0] ++ pl.take (k + 1))) := by
          have := lay_step (l := h1.words) (b := [64 * (pl.length : Int) + shape, if 1 < n ∧ h1.ph = .marking then (2 : Int) else 0] ++ pl.take k) (t := t.toNat) (v := pl[k]) (by rw [hl4]; omega)
          rw [hl4, List.append_assoc, show ((t.toNat : Nat) : Int) + ((2 + k : Nat) : Int) = t + 2 + k by omega, List.take_append_getElem hk'] at this
          exact this
        refine name_i ?_
        walk_at "go"
        exact ⟨_, rfl, by walk_at "mrep", f4.upd (.inl (by simp [MIds.all]))⟩
      case hc =>
        rintro σ' H4 ⟨v, rfl, M4, f4⟩
        rw [Int.toNat_natCast, List.take_length] at M4
        walk_at "go"
        have f5 : Fr i1.all H' H4 := f2.trans f4 fun b hb => .inl hb
        refine q H4 i1 nx M4 (hr1.fr f5 dj1) (f1.trans f5 fun b hb => ?_)
        rcases MIds.nx_all nx b hb with y | y
        · exact .inl (List.mem_append_left _ y)
        · exact .inr y
end
end Qb

set_option Elab.async false
set_option linter.all false
set_option maxRecDepth 100000
set_option maxHeartbeats 4000000
/-! Law6: what the rows hold. -/
namespace Qb
open PySem L2
local macro_rules | `(tactic| walk_at "lk") => `(tactic| first
  | assumption
  | exact upd_same
  | (refine upd_get ?_ ?_; walk_at "ne"; walk_at "lk")
  | (refine Ex.get (by assumption) ?_; walk_at "lk")
  | (refine Fr.get (by assumption) ?_ ?_; walk_at "lk"; walk_at "nin"))
local macro_rules | `(tactic| walk_at "ne") => `(tactic| first
  | assumption
  | (refine Ne.symm ?_; assumption)
  | (refine ne_of_none ?_ (by assumption); walk_at "lk")
  | (refine Ne.symm (ne_of_none ?_ (by assumption)); walk_at "lk"))
local macro_rules | `(tactic| walk_at "nin") => `(tactic| first
  | assumption
  | (simp only [List.mem_cons, List.not_mem_nil, or_false, not_or]; (try refine ⟨?_, ?_⟩) <;> (repeat' refine ⟨?_, ?_⟩) <;> walk_at "ne"))
local macro_rules | `(tactic| walk_at "lt") => `(tactic| first
  | assumption
  | exact Or.inl (by walk_at "lk")
  | exact Or.inr (by walk_at "lk")
  | (refine LT.ex ?_ (by assumption); walk_at "lt"))
local macro_rules | `(tactic| walk_at "mem") => `(tactic| first
  | exact Or.inl (by simp [Ids.all])
  | exact Or.inr (by assumption)
  | (refine Fr.fresh ?_ (by assumption); walk_at "fr"))
local macro_rules | `(tactic| walk_at "fr") => `(tactic| first
  | exact Fr.refl _ _
  | assumption
  | exact Ex.fr (by assumption)
  | (refine Fr.upd ?_ ?_; walk_at "fr"; walk_at "mem")
  | (refine Fr.ex ?_ (by assumption); walk_at "fr")
  | (refine Fr.trans ?_ (by assumption) ?_; walk_at "fr"; (intro a ha; exact Or.inl ha)))
local macro_rules | `(tactic| walk_at "rep") => `(tactic| first
  | assumption
  | exact ⟨by walk_at "lk", by walk_at "lk", by walk_at "lk", by walk_at "lk", by walk_at "ne", by walk_at "ne", by walk_at "ne"⟩)
local macro_rules | `(tactic| walk_at "n") => `(tactic| first | decide | omega)
local macro_rules | `(tactic| walk_at "go") => `(tactic| repeat (with_reducible first
  | (apply var_i; (k_dflt rfl))
  | apply c_i
  | apply op_i
  | apply fld_i
  | apply un_i
  | apply ru_i
  | apply cons_i
  | apply nil_i
  | apply call_i
  | apply plus_i
  | apply minus_i
  | apply i0_i
  | apply eq_i
  | apply ne_i
  | apply bl_i
  | apply test_i
  | apply tb_i
  | apply seq_i
  | apply asg_i
  | apply ret_i
  | apply if_i
  | apply iteT
  | apply iteF
  | apply next_i
  | apply drop_i
  | apply retN_i
  | apply and_i
  | apply or_i
  | apply not_i
  | apply andv_i
  | apply orv_i
  | apply notv_i
  | apply notvr_i
  | apply cb_i
  | apply tup_i
  | apply lst_i
  | apply chain_i
  | apply slice_i
  | apply part_i
  | apply part_int
  | apply nopart_i
  | apply bm_i
  | apply sfld_i
  | apply asub_i
  | apply aslice_i
  | apply atup2_i
  | apply break_i
  | apply eqMarking_i
  | apply eqIdle_i
  | apply eqMoving_i
  | apply neIdle_i
  | apply intU_i
  | apply intU_b
  | apply i1_i
  | apply i2_i
  | apply i3_i
  | (apply times_i; (walk_at "n"))
  | (apply times_j; (walk_at "n"))
  | (apply floor_i; (walk_at "n"); (walk_at "n"))
  | (apply rest_i; (walk_at "n"))
  | (apply len_i; (k_dflt rfl))
  | (apply f_words; assumption; (walk_at "lk"))
  | (apply f_nur; assumption; (walk_at "lk"))
  | (apply f_cap; assumption; (walk_at "lk"))
  | (apply f_yt; assumption; (walk_at "lk"))
  | (apply f_base; assumption; (walk_at "lk"))
  | (apply f_top; assumption; (walk_at "lk"))
  | (apply f_ob; assumption; (walk_at "lk"))
  | (apply f_ot; assumption; (walk_at "lk"))
  | (apply f_ph; assumption; (walk_at "lk"))
  | (apply f_cur; assumption; (walk_at "lk"))
  | (apply f_gr; assumption; (walk_at "lk"))
  | (apply f_rem; assumption; (walk_at "lk"))
  | (apply f_pend; assumption; (walk_at "lk"))
  | (apply ixI_i; (walk_at "lk"); assumption)
  | (apply ixL_i; (walk_at "lk"); (k_dflt rfl))
  | (apply ixLT_i; assumption; (k_dflt rfl))
  | (apply ixLTI_i; assumption; assumption)
  | (apply pow_i; (walk_at "n"); (walk_at "n"))
  | apply minU_i
  | apply maxU_i
  | (apply setI_i; (walk_at "lk"); assumption)
  | (apply tyl_i; (walk_at "lk"))
  | (apply appendI_i; (walk_at "lk"); (walk_at "n"))
  | (apply inLate_t; (walk_at "lk"))
  | (apply inLate_l; (walk_at "lk"))
  | (apply notLate_t; (walk_at "lk"))))
/-- the known, the found, the queue of _law_met -/
structure MetI (H : Hp) (D F G : Addr) (H' : Hp) (f : List (Int × Int)) (fl : List Addr) (qs : List (List Int)) (qa : List Addr) : Prop where
  xx : Ex H H'
  d : H' D = some (.dK (Kn f))
  ff : H' F = some (.lst (fl.map V.ref))
  g : H' G = some (.lst (qa.map V.ref))
  r : RowsAt H' fl (prs f)
  q : QAt H' qa qs
  n : ∀ a ∈ fl, H a = none
  nn : ∀ a ∈ fl ++ qa, a ≠ D ∧ a ≠ F ∧ a ≠ G
theorem MetI.ex {H : Hp} {D F G : Addr} {H' H2 : Hp} {f : List (Int × Int)} {fl : List Addr} {qs : List (List Int)} {qa : List Addr} (M : MetI H D F G H' f fl qs qa) (e : Ex H' H2) : MetI H D F G H2 f fl qs qa :=
  ⟨M.xx.trans e, e _ _ M.d, e _ _ M.ff, e _ _ M.g, M.r.ex e, M.q.ex e, M.n, M.nn⟩
theorem MetI.add {H : Hp} {D F G : Addr} {H5 H7 H9 : Hp} {f : List (Int × Int)} {fl : List Addr} {qs : List (List Int)} {qa : List Addr} {x a : Int} {p s : Addr} {pay : List Int} (M : MetI H D F G H5 f fl qs qa) (hD : H D = none) (hF : H F = none) (hG : H G = none)
    (nDF : D ≠ F) (nDG : D ≠ G) (nFG : F ≠ G) (hp : (upd H5 D (.dK (Kn (f ++ [(x, a)])))) p = none) (x7 : Ex (upd H5 D (.dK (Kn (f ++ [(x, a)])))) H7) (hp7 : H7 p = some (il [x, a]))
    (hs : (upd H7 F (.lst (fl.map V.ref ++ [V.ref p]))) s = none) (x9 : Ex (upd H7 F (.lst (fl.map V.ref ++ [V.ref p]))) H9) (hs9 : LT H9 s (pay.map V.int)) :
    MetI H D F G (upd H9 G (.lst (qa.map V.ref ++ [V.ref s]))) (f ++ [(x, a)]) (fl ++ [p]) (qs ++ [pay]) (qa ++ [s]) ∧ ∀ b, b ≠ D → b ≠ F → b ≠ G → ∀ o, H5 b = some o → (upd H9 G (.lst (qa.map V.ref ++ [V.ref s]))) b = some o := by
  have pD : p ≠ D := fun z => by rw [z, upd_same] at hp; cases hp
  have p5 : H5 p = none := by rw [upd_ne pD] at hp; exact hp
  have pF : p ≠ F := fun z => by rw [z, M.ff] at p5; cases p5
  have pG : p ≠ G := fun z => by rw [z, M.g] at p5; cases p5
  have sF : s ≠ F := fun z => by rw [z, upd_same] at hs; cases hs
  have s7 : H7 s = none := by rw [upd_ne sF] at hs; exact hs
  have s6 := x7.back s7
  have sD : s ≠ D := fun z => by rw [z, upd_same] at s6; cases s6
  have s5 : H5 s = none := by rw [upd_ne sD] at s6; exact s6
  have sG : s ≠ G := fun z => by rw [z, M.g] at s5; cases s5
  have ps : p ≠ s := fun z => by rw [← z, hp7] at s7; cases s7
  have kk : ∀ b, b ≠ D → b ≠ F → b ≠ G → ∀ o, H5 b = some o → (upd H9 G (.lst (qa.map V.ref ++ [V.ref s]))) b = some o := fun b b1 b2 b3 o ho => by
    rw [upd_ne b3]
    refine x9 _ _ ?_
    rw [upd_ne b2]
    refine x7 _ _ ?_
    rw [upd_ne b1]
    exact ho
  refine ⟨⟨?_, ?_, ?_, ?_, ?_, ?_, ?_, ?_⟩, kk⟩
  · exact ((((M.xx.mut hD).trans x7).mut hF).trans x9).mut hG
  · rw [upd_ne nDG]
    refine x9 _ _ ?_
    rw [upd_ne nDF]
    refine x7 _ _ ?_
    exact upd_same
  · rw [upd_ne nFG]
    refine x9 _ _ ?_
    rw [upd_same, List.map_append]
    rfl
  · rw [upd_same, List.map_append]
    rfl
  · have e : prs (f ++ [(x, a)]) = prs f ++ [[x, a]] := by
      unfold prs
      rw [List.map_append]
      rfl
    rw [e]
    refine RowsAt.snoc ?_ (M.r.rel fun b hb o ho => ?_)
    · rw [upd_ne pG]
      refine x9 _ _ ?_
      rw [upd_ne pF]
      exact hp7
    · obtain ⟨b1, b2, b3⟩ := M.nn b (List.mem_append_left _ hb)
      exact kk b b1 b2 b3 o ho
  · refine QAt.snoc (M.q.rel fun b hb o ho => ?_) ?_
    · obtain ⟨b1, b2, b3⟩ := M.nn b (List.mem_append_right _ hb)
      exact kk b b1 b2 b3 o ho
    · exact hs9.rel fun o ho => by rw [upd_ne sG]; exact ho
  · intro b hb
    rcases List.mem_append.mp hb with z | z
    · exact M.n b z
    · rw [List.mem_singleton.mp z]
      exact M.xx.back p5
  · intro b hb
    simp only [List.mem_append, List.mem_singleton] at hb
    rcases hb with (z | z) | (z | z)
    · exact M.nn b (List.mem_append_left _ z)
    · rw [z]; exact ⟨pD, pF, pG⟩
    · exact M.nn b (List.mem_append_right _ z)
    · rw [z]; exact ⟨sD, sF, sG⟩
section
variable {K : PySem.W.Frag} {C : Addr}
theorem pure_l_places (T : HC K C) : PureOk (t_l_places K C) ["_law_rows", "_law_row"] 1 (phi_l_places K C) := by
  intro vs H Q hl h
  delta t_l_places
  obtain ⟨ra, rl, rows, rfl, hra, hr, hz, q⟩ := h
  have hlen := hr.len
  refine ret_i (cb_i (cons_i ?_))
  refine compP_i (fun k y => ∃ r : List Int, rows[k]? = some r ∧ y = .int r.length) (a := ra) (xs := rl.map V.ref) ?_ hra (by rw [List.length_map]; omega) ?_ ?_
  · intro Q' q'
    walk_at "go"
    exact q'
  · rintro k x H1 x1 hx Q' q'
    obtain ⟨a, rfl, ha⟩ := ref_of hx
    obtain ⟨r, h1, h2⟩ := hr.get ha
    walk_at "go"
    exact lenI_i (x1 _ _ h2) (q' _ _ (Ex.refl _) ⟨r, h1, rfl⟩)
  · intro p H1 l hp x1 hl he hG
    have el : l = (rows.map fun r => (r.length : Int)).map V.int := by
      rw [List.length_map, hlen] at he
      apply List.ext_getElem (by rw [List.length_map, List.length_map, he])
      intro k k1 k2
      obtain ⟨r, a1, a2⟩ := hG k _ (List.getElem?_eq_getElem k1)
      rw [a2]
      simp only [List.getElem_map]
      have : rows[k]'(by omega) = r := by
        have := List.getElem?_eq_getElem (l := rows) (i := k) (by omega)
        rw [this] at a1
        exact Option.some.inj a1
      rw [this]
    subst el
    refine nil_i (sumI_i hl ?_)
    exact q _ x1
theorem pure_l_met (T : HC K C) : PureOk (t_l_met K C) ["_law_mem", "_law_cap", "_law_rows", "_law_known", "_law_found", "_law_queue", "_law_k", "_law_row", "_law_word", "_law_at"] 3 (phi_l_met K C) := by
  intro vs H Q hl h
  delta t_l_met
  obtain ⟨m, h, ra, rl, rows, found, rfl, M, hra, hr, hz, hM, q⟩ := h
  have hlen := hr.len
  refine seq_i (asg_i (dnew_i fun D H1 hD x1 h1 => ?_))
  refine seq_i (asg_i (lst_i (nil_i (lstr_i (by simp) fun F H2 hF x2 h2 => ?_))))
  refine seq_i (asg_i ?_)
  refine compRows_i (fun k row => rows[k]? = some row) (a := ra) (xs := rl.map V.ref) ?_ ((hra.ex x1).ex x2) (by rw [List.length_map]; omega) ?_ ?_
  · intro Q' q'
    walk_at "go"
    exact q'
  · rintro k x H3 x3 hx Q' q'
    obtain ⟨a, rfl, ha⟩ := ref_of hx
    obtain ⟨row, e1, e2⟩ := hr.get ha
    walk_at "go"
    exact listLT_i (.inl (x3 _ _ (x2 _ _ (x1 _ _ e2)))) fun p H4 hp x4 h4 => q' _ _ _ hp x4 h4 e1
  intro G H3 ql rows' hG x3 h3 hl' hF' hq nd hGq hq0
  have er : rows' = rows := by
    rw [List.length_map, hlen] at hl'
    apply List.ext_getElem? 
    intro k
    by_cases c : k < rows'.length
    · rw [hF' k _ (List.getElem?_eq_getElem c), List.getElem?_eq_getElem c]
    · rw [List.getElem?_eq_none (by omega), List.getElem?_eq_none (by omega)]
  subst er
  have hF1 : H F = none := x1.back hF
  have hG1 : H G = none := x1.back (x2.back hG)
  have nDF : D ≠ F := fun z => by rw [z, hF] at h1; cases h1
  have nDG : D ≠ G := fun z => by
    have := x2 _ _ h1
    rw [z, hG] at this
    cases this
  have nFG : F ≠ G := fun z => by
    rw [z, hG] at h2
    cases h2
  have x03 : Ex H H3 := (x1.trans x2).trans x3
  have M3 : MetI H D F G H3 [] [] rows' ql := by
    refine ⟨x03, x3 _ _ (x2 _ _ h1), x3 _ _ h2, h3, True.intro, hq.q, (fun a ha => by cases ha), fun a ha => ?_⟩
    have := hq0 a ha
    exact ⟨(fun z => by rw [z, x2 _ _ h1] at this; cases this), (fun z => by rw [z, h2] at this; cases this), fun z => hGq (z ▸ ha)⟩
  refine seq_i ?_
  refine forR1_i (j := 100000) (fun k σ' H' => ∃ (v7 v8 v9 v6 : Option V) (f : List (Int × Int)) (fl : List Addr) (qs : List (List Int)) (qa : List Addr), σ' = [some (.ref m), some (.int h.cap), some (.ref ra), some (.ref D), some (.ref F), some (.ref G), v6, v7, v8, v9] ∧
    MetI H D F G H' f fl qs qa ∧ metLoop h f qs k (metFuel - k) = some found) ?ha (by omega) (by omega) ⟨_, _, _, _, [], [], _, ql, rfl, M3, hM⟩ ?hs ?hd
  case ha =>
    intro Q' q'
    walk_at "go"
    exact q'
  case hd =>
    rintro σ' H' ⟨v7, v8, v9, v6, f, fl, qs, qa, rfl, I, e⟩
    have e' : some f = some found := e
    cases e'
    walk_at "go"
    exact q F fl H' hF1 I.xx I.ff I.r I.n
  case hs =>
    rintro k σ' H' hk ⟨v7, v8, v9, v6, f, fl, qs, qa, rfl, I, e⟩
    rw [show metFuel - k = (metFuel - (k + 1)) + 1 by unfold metFuel; omega] at e
    unfold metLoop at e
    refine name_i ?_
    walk_at "go"
    refine lenL_i I.g ?_
    rw [List.length_map]
    walk_at "go"
    refine ite_b (fun d => ?_) (fun d => ?_)
    · have c := of_decide_eq_true d
      rw [List.getElem?_eq_none (by rw [← I.q.1]; omega)] at e
      cases e
      walk_at "go"
      exact q F fl H' hF1 I.xx I.ff I.r I.n
    · have c := of_decide_eq_false d
      have hk1 : k < qa.length := by omega
      have hk2 : k < qs.length := by rw [← I.q.1]; exact hk1
      rw [List.getElem?_eq_getElem hk2] at e
      obtain ⟨p2, e2, e3⟩ := Option.bind_eq_some_iff.mp e
      have hrow := I.q.2 k _ _ (List.getElem?_eq_getElem hk1) (List.getElem?_eq_getElem hk2)
      have hra' : atI (qa.map V.ref) (k : Int) = some (.ref qa[k]) := atI_nat (by rw [List.getElem?_map, List.getElem?_eq_getElem hk1]; rfl)
      have kka := I.nn qa[k] (List.mem_append_right _ (List.getElem_mem hk1))
      generalize qa[k] = ka at *
      generalize qs[k] = row at *
      walk_at "go"
      refine ixL_i I.g hra' ?_
      refine forSeq_i (a := ka) (xs := row.map V.int) (fun j σ' H4 => ∃ (v8 v9 : Option V) (f : List (Int × Int)) (fl : List Addr) (qs : List (List Int)) (qa : List Addr), σ' = [some (.ref m), some (.int h.cap), some (.ref ra), some (.ref D), some (.ref F), some (.ref G), some (.int k), some (.ref ka), v8, v9] ∧
        MetI H D F G H4 f fl qs qa ∧ (∀ o, H' ka = some o → H4 ka = some o) ∧ metRow h f qs (row.drop j) = some p2) ?hb hrow ⟨_, _, f, fl, qs, qa, rfl, I, fun o ho => ho, e2⟩ ?hbk ?hbs ?hbd
      case hb =>
        intro Q' q'
        walk_at "go"
        exact q'
      case hbk =>
        rintro j σ' H4 hj ⟨v8, v9, f, fl, qs, qa, rfl, I, kp, e⟩
        exact kp
      case hbd =>
        rintro σ' H4 ⟨v8, v9, f, fl, qs, qa, rfl, I, kp, e⟩
        rw [List.length_map, List.drop_length] at e
        cases e
        exact ⟨_, _, _, _, f, fl, qs, qa, rfl, I, e3⟩
      case hbs =>
        clear I e e2
        rintro j x σ' H4 hx ⟨v8, v9, f, fl, qs, qa, rfl, I, kp, e⟩
        obtain ⟨y, rfl, hy⟩ := int_of hx
        obtain ⟨hj', ey⟩ := List.getElem?_eq_some_iff.mp hy
        rw [List.drop_eq_getElem_cons hj', ey] at e
        unfold metRow at e
        obtain ⟨p4, e4, e5⟩ := Option.bind_eq_some_iff.mp e
        have same : ∀ (H5 : Hp) (v9 : Option V), Ex H4 H5 → some (f, qs) = some p4 → ∃ (v8' v9' : Option V) (f : List (Int × Int)) (fl : List Addr) (qs : List (List Int)) (qa : List Addr), [some (V.ref m), some (.int h.cap), some (.ref ra), some (.ref D), some (.ref F), some (.ref G), some (.int k), some (.ref ka), some (.int y), v9] = [some (.ref m), some (.int h.cap), some (.ref ra), some (.ref D), some (.ref F), some (.ref G), some (.int k), some (.ref ka), v8', v9'] ∧
            MetI H D F G H5 f fl qs qa ∧ (∀ o, H' ka = some o → H5 ka = some o) ∧ metRow h f qs (row.drop (j + 1)) = some p2 := by
          intro H5 v9 x5 ep
          cases ep
          exact ⟨_, _, f, fl, qs, qa, rfl, I.ex x5, fun o ho => x5 _ _ (kp o ho), e5⟩
        refine name_i ?_
        unfold metWord at e4
        walk_at "go"
        refine ite_b (fun d1 => ?_) (fun d1 => ?_)
        · have c1 := of_decide_eq_true d1
          walk_at "go"
          refine ite_b (fun d2 => ?_) (fun d2 => ?_)
          · have c2 := of_decide_eq_true d2
            rw [if_pos ⟨c1, c2⟩] at e4
            obtain ⟨b, hb, e6⟩ := Option.bind_eq_some_iff.mp e4
            refine tb_i (notin_i ?_)
            walk_at "go"
            refine ⟨m, h, _, _, rfl, M.ex I.xx, hb, fun H5 x5 => ?_⟩
            have I5 := I.ex x5
            walk_at "go"
            refine getK_i I5.d ?_
            rw [kn_val]
            walk_at "go"
            refine ite_b (fun d3 => ?_) (fun d3 => ?_)
            · have c3 : b ∉ f.map (·.2) := by simpa using d3
              rw [if_neg c3] at e6
              obtain ⟨l, hl, e7⟩ := Option.bind_eq_some_iff.mp e6
              split at e7
              · rename_i c4
                obtain ⟨g0, g1, g2, g3, g4⟩ := c4
                cases e7
                walk_at "go"
                refine ⟨m, h, _, _, rfl, M.ex I5.xx, hb, fun H6 x6 => ?_⟩
                have I6 := I5.ex x6
                refine seq_i (dput_i ?_)
                walk_at "go"
                have hfl : f.length < 1000000 := by omega
                refine putK_i I6.d (by unfold Kn; rw [List.length_map]; exact hfl) ?_
                rw [kn_put (y / 2) c3]
                have hF6 : (upd H6 D (.dK (Kn (f ++ [(y / 2, b)])))) F = some (.lst (fl.map V.ref)) := by rw [upd_ne nDF.symm]; exact I6.ff
                have hlf : fl.length = f.length := by
                  have := I6.r.len
                  unfold prs at this
                  rw [List.length_map] at this
                  exact this
                have hlq : qa.length = qs.length := I6.q.1
                walk_at "go"
                refine lstr_i (xs := [.int (y / 2), .int b]) (by simp) fun p H7 hp x7 h7 => ?_
                walk_at "go"
                refine append_i (x7 _ _ hF6) (by rw [List.length_map]; omega) ?_
                have x8 : Ex H (upd H7 F (.lst (fl.map V.ref ++ [V.ref p]))) := ((I6.xx.mut hD).trans x7).mut hF1
                have hG8 : (upd H7 F (.lst (fl.map V.ref ++ [V.ref p]))) G = some (.lst (qa.map V.ref)) := by
                  rw [upd_ne nFG.symm]
                  refine x7 _ _ ?_
                  rw [upd_ne nDG.symm]
                  exact I6.g
                obtain ⟨g, r, w, Mm, Mg, Mr, Mw⟩ := M.ex x8
                unfold shotV at Mm
                have eP : (upd H7 F (.lst (fl.map V.ref ++ [V.ref p]))) = (upd H7 F (.lst (fl.map V.ref ++ [V.ref p]))) := rfl
                generalize hH8 : (upd H7 F (.lst (fl.map V.ref ++ [V.ref p]))) = H8 at *
                have hb0 := (rd_lt hl).1
                walk_at "go"
                refine slLT_i (l := h.words) Mw (by omega) (by omega) (by omega) fun s H9 hs x9 h9 => ?_
                walk_at "go"
                refine append_i (x9 _ _ hG8) (by rw [List.length_map]; omega) ?_
                have et : (b + 2 + l / 64).toNat - (b + 2).toNat = (l / 64).toNat := by omega
                rw [et] at h9
                subst hH8
                obtain ⟨I9, k9⟩ := MetI.add I6 hD hF1 hG1 nDF nDG nFG hp x7 h7 hs x9 h9
                exact ⟨_, _, _, _, _, _, rfl, I9, fun o ho => k9 ka kka.1 kka.2.1 kka.2.2 o (x6 _ _ (x5 _ _ (kp o ho))), e5⟩
              · cases e7
            · have c3 : b ∈ f.map (·.2) := by simpa using d3
              rw [if_pos c3] at e6
              walk_at "go"
              exact same _ _ x5 e6
          · have c2 := of_decide_eq_false d2
            rw [if_neg (fun z => c2 z.2)] at e4
            walk_at "go"
            exact same _ _ (Ex.refl _) e4
        · have c1 := of_decide_eq_false d1
          rw [if_neg (fun z => c1 z.1)] at e4
          walk_at "go"
          exact same _ _ (Ex.refl _) e4
end
end Qb

set_option Elab.async false
set_option linter.all false
set_option maxRecDepth 100000
set_option maxHeartbeats 4000000
/-! Phi53: the world of the laws over the phase idle; what k53's own functions promise. -/
namespace Qb
open PySem L2
/-- what stands at F stays -/
def Kp (F : List Addr) (H H1 : Hp) : Prop := ∀ a ∈ F, ∀ o, H a = some o → H1 a = some o
theorem Kp.refl (F : List Addr) (H : Hp) : Kp F H H := fun _ _ _ e => e
theorem Kp.trans {F : List Addr} {H H1 H2 : Hp} (a : Kp F H H1) (b : Kp F H1 H2) : Kp F H H2 := fun x hx o e => b x hx o (a x hx o e)
theorem Kp.tail {F : List Addr} {H H1 : Hp} {d : Addr} (k : Kp (d :: F) H H1) : Kp F H H1 := fun x hx o e => k x (List.mem_cons_of_mem _ hx) o e
theorem Ex.kp {F : List Addr} {H H1 : Hp} (e : Ex H H1) : Kp F H H1 := fun a _ o h => e a o h
def Dj (A B : List Addr) : Prop := ∀ a ∈ A, a ∉ B
theorem Dj.symm {A B : List Addr} (h : Dj A B) : Dj B A := fun a ha hb => h a hb ha
/-- the program's memory at i (h), the law's at mi (hm), the rows at ra / rl, the law's own at ma / ml; F: lists that nothing changes -/
structure Wd (C : Addr) (i : Ids) (mi : MIds) (ra : Addr) (rl : List Addr) (ma : Addr) (ml : List Addr) (F : List Addr) (h hm : HS) (rows mine : List (List Int)) (H : Hp) : Prop where
  rep : Rep C i h H
  mem : Mem mi hm H
  hra : H ra = some (.lst (rl.map V.ref))
  hrl : RowsAt H rl rows
  hma : H ma = some (.lst (ml.map V.ref))
  hml : RowsAt H ml mine
  fs : ∀ a ∈ F, H a ≠ none
  ab : Dj i.all mi.all
  ar : Dj i.all rl
  am : Dj i.all ml
  af : Dj i.all F
  br : Dj mi.all rl
  bm : Dj mi.all ml
  bf : Dj mi.all F
  rm : Dj rl ml
  rf : Dj rl F
  mf : Dj ml F
  ndr : rl.Nodup
  ndm : ml.Nodup
  fr : ra ∈ F
  fm : ma ∈ F
section
variable {C : Addr} {i : Ids} {mi : MIds} {ra ma : Addr} {rl ml F : List Addr} {h hm : HS} {rows mine : List (List Int)} {H H1 : Hp}
theorem Wd.ex (W : Wd C i mi ra rl ma ml F h hm rows mine H) (e : Ex H H1) : Wd C i mi ra rl ma ml F h hm rows mine H1 :=
  ⟨W.rep.ex e, W.mem.ex e, e _ _ W.hra, W.hrl.ex e, e _ _ W.hma, W.hml.ex e, (fun a ha => by
    have := W.fs a ha
    cases hx : H a with
    | none => exact absurd hx this
    | some o => rw [e _ _ hx]; exact fun z => nomatch z), W.ab, W.ar, W.am, W.af, W.br, W.bm, W.bf, W.rm, W.rf, W.mf, W.ndr, W.ndm, W.fr, W.fm⟩
theorem keep_some {S : List Addr} {a : Addr} (f : Fr S H H1) (h : H a ≠ none) (n : a ∉ S) : H1 a ≠ none := by
  cases hx : H a with
  | none => exact absurd hx h
  | some o => rw [f _ _ hx n]; exact fun z => nomatch z
theorem Wd.prog {i' : Ids} {h' : HS} {rows' : List (List Int)} (W : Wd C i mi ra rl ma ml F h hm rows mine H) (n : i.nx i' H) (R : Rep C i' h' H1) (hr : RowsAt H1 rl rows') (f : Fr (i.all ++ rl) H H1) : Wd C i' mi ra rl ma ml F h' hm rows' mine H1 := by
  have na := Ids.nx_all n
  have dj : ∀ B : List Addr, Dj i.all B → (∀ b ∈ B, H b ≠ none) → Dj i'.all B := fun B d s a ha hb => by
    rcases na a ha with z | z
    · exact d a z hb
    · exact s a hb z
  have out : ∀ B : List Addr, Dj i.all B → Dj rl B → ∀ b ∈ B, b ∉ i.all ++ rl := fun B d1 d2 b hb z => by
    rcases List.mem_append.mp z with y | y
    · exact d1 b y hb
    · exact d2 b y hb
  have oF := out F W.af W.rf
  exact ⟨R, W.mem.fr f (out _ W.ab W.br.symm), f _ _ W.hra (oF _ W.fr), hr, f _ _ W.hma (oF _ W.fm), W.hml.fr f (out _ W.am W.rm), fun a ha => keep_some f (W.fs a ha) (oF a ha),
    dj _ W.ab W.mem.some, dj _ W.ar W.hrl.some, dj _ W.am W.hml.some, dj _ W.af W.fs, W.br, W.bm, W.bf, W.rm, W.rf, W.mf, W.ndr, W.ndm, W.fr, W.fm⟩
theorem Wd.law {mi' : MIds} {hm' : HS} {mine' : List (List Int)} (W : Wd C i mi ra rl ma ml F h hm rows mine H) (n : mi.nx mi' H) (R : Mem mi' hm' H1) (hr : RowsAt H1 ml mine') (f : Fr (mi.all ++ ml) H H1) : Wd C i mi' ra rl ma ml F h hm' rows mine' H1 := by
  have na := MIds.nx_all n
  have dj : ∀ B : List Addr, Dj mi.all B → (∀ b ∈ B, H b ≠ none) → Dj mi'.all B := fun B d s a ha hb => by
    rcases na a ha with z | z
    · exact d a z hb
    · exact s a hb z
  have out : ∀ B : List Addr, Dj mi.all B → Dj ml B → ∀ b ∈ B, b ∉ mi.all ++ ml := fun B d1 d2 b hb z => by
    rcases List.mem_append.mp z with y | y
    · exact d1 b y hb
    · exact d2 b y hb
  have oF := out F W.bf W.mf
  exact ⟨W.rep.fr f (out _ W.ab.symm W.am.symm), R, f _ _ W.hra (oF _ W.fr), W.hrl.fr f (out _ W.br W.rm.symm), f _ _ W.hma (oF _ W.fm), hr, fun a ha => keep_some f (W.fs a ha) (oF a ha),
    (dj _ W.ab.symm W.rep.some).symm, W.ar, W.am, W.af, dj _ W.br W.hrl.some, dj _ W.bm W.hml.some, dj _ W.bf W.fs, W.rm, W.rf, W.mf, W.ndr, W.ndm, W.fr, W.fm⟩
theorem Wd.add (W : Wd C i mi ra rl ma ml F h hm rows mine H) (e : Ex H H1) {d : Addr} (hd : H d = none) (hd1 : H1 d ≠ none) : Wd C i mi ra rl ma ml (d :: F) h hm rows mine H1 := by
  have W1 := W.ex e
  have dj : ∀ B : List Addr, Dj B F → (∀ b ∈ B, H b ≠ none) → Dj B (d :: F) := fun B x s a ha hb => by
    rcases List.mem_cons.mp hb with z | z
    · exact s a ha (by rw [z]; exact hd)
    · exact x a ha z
  exact ⟨W1.rep, W1.mem, W1.hra, W1.hrl, W1.hma, W1.hml, fun a ha => by
    rcases List.mem_cons.mp ha with z | z
    · rw [z]; exact hd1
    · exact W1.fs a z, W.ab, W.ar, W.am, dj _ W.af W.rep.some, W.br, W.bm, dj _ W.bf W.mem.some, W.rm, dj _ W.rf W.hrl.some, dj _ W.mf W.hml.some, W.ndr, W.ndm, List.mem_cons_of_mem _ W.fr, List.mem_cons_of_mem _ W.fm⟩
theorem Wd.mono {F' : List Addr} (W : Wd C i mi ra rl ma ml F h hm rows mine H) (k : ∀ a ∈ F', a ∈ F) (r : ra ∈ F') (m : ma ∈ F') : Wd C i mi ra rl ma ml F' h hm rows mine H :=
  ⟨W.rep, W.mem, W.hra, W.hrl, W.hma, W.hml, fun a ha => W.fs a (k a ha), W.ab, W.ar, W.am, fun a ha z => W.af a ha (k a z), W.br, W.bm, fun a ha z => W.bf a ha (k a z), W.rm, fun a ha z => W.rf a ha (k a z), fun a ha z => W.mf a ha (k a z), W.ndr, W.ndm, r, m⟩
end
/-- sizes that rows may have -/
def Rz (rows : List (List Int)) : Prop := rows.length ≤ 100 ∧ (∀ r ∈ rows, r.length ≤ 1000) ∧ 0 < (rows.map fun r => (r.length : Int)).sum
theorem Rz.of {rows rows' : List (List Int)} (h : Rz rows) (e : rows'.map List.length = rows.map List.length) : Rz rows' := by
  have el : rows'.length = rows.length := by
    have := congrArg List.length e
    rw [List.length_map, List.length_map] at this
    exact this
  refine ⟨by rw [el]; exact h.1, fun r hr => ?_, ?_⟩
  · have : r.length ∈ rows'.map List.length := List.mem_map.mpr ⟨r, hr, rfl⟩
    rw [e] at this
    obtain ⟨s, hs, es⟩ := List.mem_map.mp this
    rw [← es]
    exact h.2.1 s hs
  · have e2 : (rows'.map fun r => (r.length : Int)) = rows.map fun r => (r.length : Int) := by
      have := congrArg (List.map fun n : Nat => (n : Int)) e
      rw [List.map_map, List.map_map] at this
      exact this
    rw [e2]
    exact h.2.2
/-- both memories and both rows are the same, and the phase is idle -/
def W53 (C p m ra ma ba : Addr) (F : List Addr) (H : Hp) : Prop := ∃ (i : Ids) (mi : MIds) (rl ml : List Addr) (h : HS) (rows : List (List Int)) (ys os : List Int), i.p = p ∧ mi.m = m ∧ Wd C i mi ra rl ma ml F h h rows rows H ∧ Idle h ys os rows ∧ H ba = some (il [h.cap, h.nur]) ∧ ba ∈ F ∧ Rz rows ∧ h.cap ≤ 500
theorem W53.ex {C p m ra ma ba : Addr} {F : List Addr} {H H1 : Hp} (W : W53 C p m ra ma ba F H) (e : Ex H H1) : W53 C p m ra ma ba F H1 := by
  obtain ⟨i, mi, rl, ml, h, rows, ys, os, a1, a2, a3, a4, a5, a6, a7, a8⟩ := W
  exact ⟨i, mi, rl, ml, h, rows, ys, os, a1, a2, a3.ex e, a4, e _ _ a5, a6, a7, a8⟩
theorem W53.add {C p m ra ma ba : Addr} {F : List Addr} {H H1 : Hp} (W : W53 C p m ra ma ba F H) (e : Ex H H1) {d : Addr} (hd : H d = none) (hd1 : H1 d ≠ none) : W53 C p m ra ma ba (d :: F) H1 := by
  obtain ⟨i, mi, rl, ml, h, rows, ys, os, a1, a2, a3, a4, a5, a6, a7, a8⟩ := W
  exact ⟨i, mi, rl, ml, h, rows, ys, os, a1, a2, a3.add e hd hd1, a4, e _ _ a5, List.mem_cons_of_mem _ a6, a7, a8⟩
theorem W53.mono {C p m ra ma ba d : Addr} {F : List Addr} {H : Hp} (W : W53 C p m ra ma ba (d :: F) H) (b : ba ∈ F) (r : ra ∈ F) (m' : ma ∈ F) : W53 C p m ra ma ba F H := by
  obtain ⟨i, mi, rl, ml, h, rows, ys, os, a1, a2, a3, a4, a5, a6, a7, a8⟩ := W
  exact ⟨i, mi, rl, ml, h, rows, ys, os, a1, a2, a3.mono (fun a ha => List.mem_cons_of_mem _ ha) r m', a4, a5, b, a7, a8⟩
def phi_law (K : PySem.W.Frag) (C : Addr) : Phi := fun vs H Q => ∃ (s : Addr) (ns : List Int), vs = [.ref s] ∧ SqL K H s (ns.map V.int) ∧ ns.length ≤ 63 ∧ ∀ H1, Q (.bl true) H1
/-- putM keeps the lengths -/
theorem putM_len : ∀ (rows : List (List Int)) (s w : Int), (putM rows s w).map List.length = rows.map List.length
  | [], _, _ => rfl
  | r :: rs, s, w => by
    rw [putM_cons, List.map_cons, List.map_cons, putM_len rs]
    congr 1
    split
    · exact List.length_set
    · rfl
theorem putM_all {P : Int → Prop} {w : Int} (hw : P w) : ∀ (rows : List (List Int)) (s : Int), (∀ r ∈ rows, ∀ x ∈ r, P x) → ∀ r ∈ putM rows s w, ∀ x ∈ r, P x
  | [], _, _, r, hr, x, hx => by cases hr
  | r0 :: rs, s, h, r, hr, x, hx => by
    rw [putM_cons] at hr
    rcases List.mem_cons.mp hr with z | z
    · subst z
      split at hx
      · rcases List.mem_or_eq_of_mem_set hx with y | y
        · exact h r0 (by simp) x y
        · rw [y]; exact hw
      · exact h r0 (by simp) x hx
    · exact putM_all hw rs _ (fun r' h' => h r' (List.mem_cons_of_mem _ h')) r z x hx
theorem Idle.rows {h : HS} {ys os : List Int} {rows rows' : List (List Int)} (I : Idle h ys os rows) (k : ∀ r ∈ rows', ∀ w ∈ r, VV ys (· ∈ os) [] w) : Idle h ys os rows' :=
  ⟨I.ph, I.nur, I.cap, I.geo, I.ot, I.len, I.small, I.yt, I.used, I.gr, I.ty, I.to, I.zy, I.zo, I.rs, I.rn, I.py, I.po, I.pn, k⟩
/-- a reference to a block -/
theorem vv_ref {h : HS} {ys os : List Int} {rows : List (List Int)} (I : Idle h ys os rows) {b : Int} (hb : b ∈ ys ∨ b ∈ os) : 1 ≤ b ∧ VV ys (· ∈ os) [] (2 * b) := by
  have b1 : 1 ≤ b := by
    have := I.base0
    have := I.nur
    rcases hb with z | z
    · exact (I.ty.mem z).1
    · have := (I.to.mem z).1
      omega
  refine ⟨b1, okw_iff.mpr (.inr (by omega)), fun _ => ?_⟩
  rw [show 2 * b / 2 = b by omega]
  exact hb.imp id .inl
end Qb

set_option Elab.async false
set_option linter.all false
set_option maxRecDepth 100000
set_option maxHeartbeats 4000000
/-! Call: calls in a world of two memories. -/
namespace Qb
open PySem L2
theorem Fr.kp {S F : List Addr} {H H1 : Hp} (f : Fr S H H1) (d : ∀ a ∈ F, a ∉ S) : Kp F H H1 := fun a ha o h => f a o h (d a ha)
theorem Kp.lt {F : List Addr} {H H1 : Hp} (k : Kp F H H1) {a : Addr} {xs : List V} (ha : a ∈ F) (h : LT H a xs) : LT H1 a xs := h.imp (k a ha _) (k a ha _)
section
variable {K : PySem.W.Frag} {C : Addr} {i : Ids} {mi : MIds} {ra ma : Addr} {rl ml F : List Addr} {h hm : HS} {rows mine : List (List Int)} {H : Hp} {Q : VK}
theorem Wd.offP (W : Wd C i mi ra rl ma ml F h hm rows mine H) : ∀ a ∈ F, a ∉ i.all ++ rl := fun a ha z => by
  rcases List.mem_append.mp z with y | y
  · exact W.af a y ha
  · exact W.rf a y ha
theorem Wd.offL (W : Wd C i mi ra rl ma ml F h hm rows mine H) : ∀ a ∈ F, a ∉ mi.all ++ ml := fun a ha z => by
  rcases List.mem_append.mp z with y | y
  · exact W.bf a y ha
  · exact W.mf a y ha
theorem Wd.newP (W : Wd C i mi ra rl ma ml F h hm rows mine H) {a : Addr} (ha : H a = none) : a ∉ i.all ∧ a ∉ rl := ⟨fun z => W.rep.some a z ha, fun z => W.hrl.some a z ha⟩
theorem call_passed (W : Wd C i mi ra rl ma ml F h hm rows mine H) (d : Int) (k : ∀ pa H1, Wd C i mi ra rl ma ml F h hm rows mine H1 → Ex H H1 → LT H1 pa (rl.map V.ref) → pa ∉ i.all → pa ∉ rl → Q (.ref pa) H1) : phi_l_passed K C [.ref ra, .int d] H Q :=
  ⟨ra, _, d, rfl, W.hra, fun p H1 hp x l => k p H1 (W.ex x) x l (W.newP hp).1 (W.newP hp).2⟩
theorem call_collect (W : Wd C i mi ra rl ma ml F h hm rows mine H) {pa : Addr} (hp : LT H pa (rl.map V.ref)) (n1 : pa ∉ i.all) (n2 : pa ∉ rl) (hz : ∀ r ∈ rows, r.length ≤ 1000000) {p : HS × List (List Int)} (e : collectYoungM h rows = some p)
    (k : ∀ H1 i', i'.p = i.p → Wd C i' mi ra rl ma ml F p.1 hm p.2 mine H1 → Kp F H H1 → Q .non H1) : phi_collect_young K C [.ref i.p, .ref pa] H Q :=
  ⟨i, h, pa, rl, rows, p, rfl, W.rep, hp, W.hrl, W.ndr, fun a ha z => W.ar a z ha, n1, n2, hz, e, fun H1 i' nx R hr f => k H1 i' nx.1 (W.prog nx R hr f) (f.kp W.offP)⟩
theorem call_emptied (W : Wd C i mi ra rl ma ml F h hm rows mine H) (hz : ∀ r ∈ mine, r.length ≤ 1000000) {p : HS × List (List Int)} (e : collectYoungM hm mine = some p)
    (k : ∀ H1 mi', mi'.m = mi.m → Wd C i mi' ra rl ma ml F h p.1 rows p.2 H1 → Kp F H H1 → Q .non H1) : phi_l_emptied K C [.ref mi.m, .int hm.cap, .int hm.nur, .ref ma] H Q :=
  ⟨mi, hm, ma, ml, mine, p, rfl, W.mem, .inl W.hma, W.hml, W.ndm, fun a ha z => W.bm a z ha, fun z => W.bf ma z W.fm, fun z => W.mf ma z W.fm, hz, e, fun H1 i' nx R hr f => k H1 i' nx.1 (W.law nx R hr f) (f.kp W.offL)⟩
theorem call_place (W : Wd C i mi ra rl ma ml F h hm rows mine H) {pa la : Addr} {shape : Int} {pl : List Int} (hp : LT H pa (rl.map V.ref)) (n1 : pa ∉ i.all) (n2 : pa ∉ rl) (hz : ∀ r ∈ rows, r.length ≤ 1000000) (hl : LT H la (pl.map V.int)) (l1 : la ∉ i.all) (l2 : la ∉ rl) {p : Int × HS × List (List Int)} (e : placeM h rows shape pl = some p)
    (k : ∀ H1 i', i'.p = i.p → Wd C i' mi ra rl ma ml F p.2.1 hm p.2.2 mine H1 → Kp F H H1 → Q (.int p.1) H1) : phi_place_block K C [.ref i.p, .ref pa, .int shape, .ref la] H Q :=
  ⟨i, h, pa, rl, rows, shape, la, pl, p, rfl, W.rep, hp, W.hrl, W.ndr, fun a ha z => W.ar a z ha, n1, n2, hz, hl, by simp [l1, l2], e, fun H1 i' nx R hr f => k H1 i' nx.1 (W.prog nx R hr f) (f.kp W.offP)⟩
theorem call_laid (W : Wd C i mi ra rl ma ml F h hm rows mine H) {la : Addr} {shape : Int} {pl : List Int} (hz : ∀ r ∈ mine, r.length ≤ 1000000) (hl : LT H la (pl.map V.int)) (l1 : la ∈ F) {p : Int × HS × List (List Int)} (e : placeM hm mine shape pl = some p)
    (k : ∀ H1 mi', mi'.m = mi.m → Wd C i mi' ra rl ma ml F h p.2.1 rows p.2.2 H1 → Kp F H H1 → Q (.int p.1) H1) : phi_l_laid K C [.ref mi.m, .int hm.cap, .int hm.nur, .ref ma, .int shape, .ref la] H Q :=
  ⟨mi, hm, ma, ml, mine, shape, la, pl, p, rfl, W.mem, .inl W.hma, W.hml, W.ndm, fun a ha z => W.bm a z ha, fun z => W.bf ma z W.fm, fun z => W.mf ma z W.fm, hz, hl, W.offL la l1, e, fun H1 i' nx R hr f => k H1 i' nx.1 (W.law nx R hr f) (f.kp W.offL)⟩
theorem call_write (W : Wd C i mi ra rl ma ml F h hm rows mine H) {a p w : Int} {h' : HS} (e : writeM h a p w = some h') (k : ∀ H1, Wd C i mi ra rl ma ml F h' hm rows mine H1 → Kp F H H1 → Q .non H1) : phi_write_word K C [.ref i.p, .int a, .int p, .int w] H Q :=
  ⟨i, h, a, p, w, h', rfl, W.rep, e, fun H1 R f => k H1 (W.prog (Ids.nx_refl i H) R (W.hrl.fr f fun b hb z => W.ar b z hb) (f.mono fun b hb => List.mem_append_left _ hb)) (f.kp fun b hb z => W.af b z hb)⟩
theorem call_wrote (W : Wd C i mi ra rl ma ml F h hm rows mine H) {a p w b v : Int} {h' : HS} (e1 : resolveM hm a = some b) (e2 : 1 ≤ b) (e3 : resolveW hm w = some v) (e4 : okw w = true) (e5 : okw v = true) (e : writeM hm a p w = some h') (k : ∀ H1, Wd C i mi ra rl ma ml F h h' rows mine H1 → Kp F H H1 → Q .non H1) :
    phi_l_wrote K C [.ref mi.m, .int hm.cap, .int hm.nur, .int a, .int p, .int w] H Q :=
  ⟨mi, hm, a, p, w, b, v, h', rfl, W.mem, e1, e2, e3, e4, e5, e, fun H1 R f => k H1 (W.law (MIds.nx_refl mi H) R (W.hml.fr f fun b hb z => W.bm b z hb) (f.mono fun b hb => List.mem_append_left _ hb)) (f.kp fun b hb z => W.bf b z hb)⟩
theorem call_putR (W : Wd C i mi ra rl ma ml F h hm rows mine H) (s w : Int) (hz : ∀ r ∈ rows, r.length ≤ 1000000) (k : ∀ H1, Wd C i mi ra rl ma ml F h hm (putM rows s w) mine H1 → Kp F H H1 → Q .non H1) : phi_l_put K C [.ref ra, .int s, .int w] H Q :=
  ⟨ra, rl, rows, s, w, rfl, .inl W.hra, W.hrl, W.ndr, fun z => W.rf ra z W.fr, hz, fun H1 hr f => k H1 (W.prog (Ids.nx_refl i H) (W.rep.fr f fun b hb => W.ar b hb) hr (f.mono fun b hb => List.mem_append_right _ hb)) (f.kp fun b hb z => W.rf b z hb)⟩
theorem call_putM (W : Wd C i mi ra rl ma ml F h hm rows mine H) (s w : Int) (hz : ∀ r ∈ mine, r.length ≤ 1000000) (k : ∀ H1, Wd C i mi ra rl ma ml F h hm rows (putM mine s w) H1 → Kp F H H1 → Q .non H1) : phi_l_put K C [.ref ma, .int s, .int w] H Q :=
  ⟨ma, ml, mine, s, w, rfl, .inl W.hma, W.hml, W.ndm, fun z => W.mf ma z W.fm, hz, fun H1 hr f => k H1 (W.law (MIds.nx_refl mi H) (W.mem.fr f fun b hb => W.bm b hb) hr (f.mono fun b hb => List.mem_append_right _ hb)) (f.kp fun b hb z => W.mf b z hb)⟩
theorem call_met (W : Wd C i mi ra rl ma ml F h hm rows mine H) (hn : mine.length ≤ 1000) {found : List (Int × Int)} (e : metM hm mine = some found) (k : ∀ p fl H1, H p = none → Ex H H1 → H1 p = some (.lst (fl.map V.ref)) → RowsAt H1 fl (prs found) → Q (.ref p) H1) : phi_l_met K C [.ref mi.m, .int hm.cap, .ref ma] H Q :=
  ⟨mi.m, hm, ma, ml, mine, found, rfl, W.mem.read, .inl W.hma, W.hml, by rw [W.hml.len]; exact hn, e, fun p fl H1 a b c d _ => k p fl H1 a b c d⟩
theorem call_places (W : Wd C i mi ra rl ma ml F h hm rows mine H) (hn : mine.length ≤ 1000) (k : ∀ H1, Ex H H1 → Q (.int ((mine.map fun r => (r.length : Int)).sum)) H1) : phi_l_places K C [.ref ma] H Q :=
  ⟨ma, ml, mine, rfl, .inl W.hma, W.hml, by rw [W.hml.len]; exact hn, k⟩
theorem call_used (W : Wd C i mi ra rl ma ml F h hm rows mine H) (k : ∀ H1, Ex H H1 → Q (.int hm.used) H1) : phi_l_used K C [.ref mi.m] H Q := ⟨mi.m, hm, rfl, W.mem.read, k⟩
theorem pair_at {fa : Addr} {fl : List Addr} {found : List (Int × Int)} (hr : RowsAt H fl (prs found)) {n : Int} (h0 : 0 ≤ n) (h1 : n < (found.length : Int)) : ∃ (a : Addr) (x y : Int), atI (fl.map V.ref) n = some (.ref a) ∧ H a = some (il [x, y]) ∧ (x, y) ∈ found := by
  have hl : fl.length = found.length := by
    have := hr.len
    unfold prs at this
    rwa [List.length_map] at this
  obtain ⟨k, rfl⟩ := Int.eq_ofNat_of_zero_le h0
  have hk : k < fl.length := by omega
  obtain ⟨r, e1, e2⟩ := hr.get (List.getElem?_eq_getElem hk)
  unfold prs at e1
  rw [List.getElem?_map, List.getElem?_eq_getElem (by omega)] at e1
  cases e1
  exact ⟨fl[k], _, _, atI_nat (by rw [List.getElem?_map, List.getElem?_eq_getElem hk]; rfl), e2, List.getElem_mem _⟩
theorem mod_in {x : Int} {n : Nat} (h : 0 < n) : 0 ≤ x % (n : Int) ∧ x % (n : Int) < n := ⟨Int.emod_nonneg _ (by omega), Int.emod_lt_of_pos _ (by omega)⟩
end
end Qb

set_option Elab.async false
set_option linter.all false
set_option maxRecDepth 100000
set_option maxHeartbeats 4000000
/-! P54: what k54's own functions promise. -/
namespace Qb
open PySem L2
def sz54 : List Int := [24, 840, 840, 840, 8, 17179869184, 16, 40, 6, 2]
structure D54 (H : Hp) (d : Addr) (r0 r1 r2 r3 r4 r5 r6 r7 r8 r9 : Int) : Prop where
  e : H d = some (.lst [.int r0, .int r1, .int r2, .int r3, .int r4, .int r5, .int r6, .int r7, .int r8, .int r9])
  b0 : 0 ≤ r0 ∧ r0 < 24
  b1 : 0 ≤ r1 ∧ r1 < 840
  b2 : 0 ≤ r2 ∧ r2 < 840
  b3 : 0 ≤ r3 ∧ r3 < 840
  b4 : 0 ≤ r4 ∧ r4 < 8
  b5 : 0 ≤ r5 ∧ r5 < 17179869184
  b6 : 0 ≤ r6 ∧ r6 < 16
  b7 : 0 ≤ r7 ∧ r7 < 40
  b8 : 0 ≤ r8 ∧ r8 < 6
  b9 : 0 ≤ r9 ∧ r9 < 2
theorem d54_of {H : Hp} {d : Addr} {row : List Int} (e : H d = some (il row)) (h : Dg sz54 row) : ∃ r0 r1 r2 r3 r4 r5 r6 r7 r8 r9, row = [r0, r1, r2, r3, r4, r5, r6, r7, r8, r9] ∧ D54 H d r0 r1 r2 r3 r4 r5 r6 r7 r8 r9 := by
  match row, h with
  | [r0, r1, r2, r3, r4, r5, r6, r7, r8, r9], h =>
    obtain ⟨h0, h1, h2, h3, h4, h5, h6, h7, h8, h9, _⟩ := h
    exact ⟨r0, r1, r2, r3, r4, r5, r6, r7, r8, r9, rfl, e, h0, h1, h2, h3, h4, h5, h6, h7, h8, h9⟩
theorem D54.mv {H H1 : Hp} {d : Addr} {r0 r1 r2 r3 r4 r5 r6 r7 r8 r9 : Int} (D : D54 H d r0 r1 r2 r3 r4 r5 r6 r7 r8 r9) (k : ∀ o, H d = some o → H1 d = some o) : D54 H1 d r0 r1 r2 r3 r4 r5 r6 r7 r8 r9 :=
  ⟨k _ D.e, D.b0, D.b1, D.b2, D.b3, D.b4, D.b5, D.b6, D.b7, D.b8, D.b9⟩
/-- a write in both memories -/
def phi_l_written (K : PySem.W.Frag) (C : Addr) : Phi := fun vs H Q => ∃ (i : Ids) (mi : MIds) (ra : Addr) (rl : List Addr) (ma : Addr) (ml F : List Addr) (h h' : HS) (rows mine : List (List Int)) (ba : Addr) (a p w b v : Int), vs = [.ref i.p, .ref mi.m, .ref ba, .int a, .int p, .int w] ∧
  Wd C i mi ra rl ma ml F h h rows mine H ∧ H ba = some (il [h.cap, h.nur]) ∧ ba ∈ F ∧ resolveM h a = some b ∧ 1 ≤ b ∧ resolveW h w = some v ∧ okw w = true ∧ okw v = true ∧ writeM h a p w = some h' ∧
  ∀ H1, Wd C i mi ra rl ma ml F h' h' rows mine H1 → Kp F H H1 → Q .non H1
/-- the blocks with a payload, all blocks, the old ones of those, the young ones of these -/
def phi_l_sides (K : PySem.W.Frag) (C : Addr) : Phi := fun vs H Q => ∃ (i : Ids) (mi : MIds) (ra : Addr) (rl : List Addr) (ma : Addr) (ml F : List Addr) (h : HS) (rows : List (List Int)) (ys os : List Int) (ba : Addr), vs = [.ref mi.m, .ref ba, .ref ma] ∧
  Wd C i mi ra rl ma ml F h h rows rows H ∧ Idle h ys os rows ∧ H ba = some (il [h.cap, h.nur]) ∧ Rz rows ∧
  ∀ p a b c d H1 full found olds youngs, H p = none → Ex H H1 → H1 p = some (.lst [.ref a, .ref b, .ref c, .ref d]) → H1 a = some (il full) → H1 b = some (il found) → H1 c = some (il olds) → H1 d = some (il youngs) →
    (∀ x ∈ full, (x ∈ ys ∨ x ∈ os) ∧ ∃ f, rd h.words x = some f ∧ 64 ≤ f) → (∀ x ∈ found, x ∈ ys ∨ x ∈ os) → (∀ x ∈ olds, x ∈ full) → (∀ x ∈ youngs, x ∈ found) → (full.length ≤ found.length) → found.length ≤ 100000 → Q (.ref p) H1
def phi_l_emptying (K : PySem.W.Frag) (C : Addr) : Phi := fun vs H Q => ∃ (p m ba ra ma : Addr) (F : List Addr) (d : Int), vs = [.ref p, .ref m, .ref ba, .ref ra, .ref ma, .int d] ∧ W53 C p m ra ma ba F H ∧ ∀ H1, W53 C p m ra ma ba F H1 → Kp F H H1 → Q (.bl true) H1
def phi_l_placed (K : PySem.W.Frag) (C : Addr) : Phi := fun vs H Q => ∃ p m ba ra ma da F r0 r1 r2 r3 r4 r5 r6 r7 r8 r9, vs = [.ref p, .ref m, .ref ba, .ref ra, .ref ma, .ref da] ∧ W53 C p m ra ma ba F H ∧ da ∈ F ∧ D54 H da r0 r1 r2 r3 r4 r5 r6 r7 r8 r9 ∧ ∀ H1, W53 C p m ra ma ba F H1 → Kp F H H1 → Q (.bl true) H1
def phi_l_linked (K : PySem.W.Frag) (C : Addr) : Phi := fun vs H Q => ∃ p m ba ra ma da F r0 r1 r2 r3 r4 r5 r6 r7 r8 r9, vs = [.ref p, .ref m, .ref ba, .ref ma, .ref da] ∧ W53 C p m ra ma ba F H ∧ da ∈ F ∧ D54 H da r0 r1 r2 r3 r4 r5 r6 r7 r8 r9 ∧ ∀ H1, W53 C p m ra ma ba F H1 → Kp F H H1 → Q (.bl true) H1
def phi_l_done (K : PySem.W.Frag) (C : Addr) : Phi := fun vs H Q => ∃ p m ba ra ma da F r0 r1 r2 r3 r4 r5 r6 r7 r8 r9, vs = [.ref p, .ref m, .ref ba, .ref ra, .ref ma, .ref da] ∧ W53 C p m ra ma ba F H ∧ da ∈ F ∧ D54 H da r0 r1 r2 r3 r4 r5 r6 r7 r8 r9 ∧ ∀ H1, W53 C p m ra ma ba F H1 → Kp F H H1 → Q (.bl true) H1
/-- what is left without rows -/
def W54 (C p m : Addr) (H : Hp) : Prop := ∃ (i : Ids) (mi : MIds) (h : HS) (ys os : List Int), i.p = p ∧ mi.m = m ∧ Rep C i h H ∧ Mem mi h H ∧ Idle h ys os []
def phi_l_rootless (K : PySem.W.Frag) (C : Addr) : Phi := fun vs H Q => ∃ p m ba ra ma da F r0 r1 r2 r3 r4 r5 r6 r7 r8 r9, vs = [.ref p, .ref m, .ref ba, .ref da] ∧ W53 C p m ra ma ba F H ∧ da ∈ F ∧ D54 H da r0 r1 r2 r3 r4 r5 r6 r7 r8 r9 ∧ ∀ H1, W54 C p m H1 → Q (.bl true) H1
end Qb

set_option Elab.async false
set_option linter.all false
set_option maxRecDepth 100000
set_option maxHeartbeats 4000000
/-! Law9: the deeds of k54. -/
namespace Qb
open PySem L2
def t_l_written (K : PySem.W.Frag) (C : Addr) : TS := (tThen (tDrop (tCallF 4 (phi_write_word K C) (tCons (tVar 0) (tCons (tVar 3) (tCons (tVar 4) (tCons (tVar 5) tNil)))))) (tDrop (tCallF 6 (phi_l_wrote K C) (tCons (tVar 1) (tCons (tOp (rIx K) (tVar 2) (tC (.int 0))) (tCons (tOp (rIx K) (tVar 2) (tC (.int 1))) (tCons (tVar 3) (tCons (tVar 4) (tCons (tVar 5) tNil)))))))))
def t_l_sides (K : PySem.W.Frag) (C : Addr) : TS := (tThen (tAsg (tLc (iSeq K (tCallF 3 (phi_l_met K C) (tCons (tVar 0) (tCons (tOp (rIx K) (tVar 1) (tC (.int 0))) (tCons (tVar 2) tNil))))) (gName 5) tYes (tOp (rIx K) (tVar 5) (tC (.int 1))) [5]) (gName 3)) (tThen (tAsg (tLc (iSeq K (tVar 3)) (gName 6) (tTest (tOp rGe (tOp (rIx K) (tOp (rIx K) (tVar 0) (tC (.int 10))) (tVar 6)) (tC (.int 64)))) (tVar 6) [6]) (gName 4)) (tRet (tLst (tCons (tVar 4) (tCons (tVar 3) (tCons (tLc (iSeq K (tVar 4)) (gName 6) (tTest (tOp rGt (tVar 6) (tOp (rIx K) (tVar 1) (tC (.int 1))))) (tVar 6) [6]) (tCons (tLc (iSeq K (tVar 3)) (gName 6) (tTest (tOp rLe (tVar 6) (tOp (rIx K) (tVar 1) (tC (.int 1))))) (tVar 6) [6]) tNil))))))))
def t_l_placed (K : PySem.W.Frag) (C : Addr) : TS := (tThen (tAsg (tCallF 2 (phi_l_length K C) (tCons (tOp (rIx K) (tVar 5) (tC (.int 6))) (tCons (tOp (rIx K) (tVar 5) (tC (.int 4))) tNil))) (gName 6)) (tThen (tIfS (tTest (tOp rGt (tOp (rPlus K) (tOp (rPlus K) (tCallF 1 (phi_l_used K C) (tCons (tVar 1) tNil)) (tC (.int 2))) (tVar 6)) (tOp (rIx K) (tVar 2) (tC (.int 0))))) (tRet (tCallF 6 (phi_l_emptying K C) (tCons (tVar 0) (tCons (tVar 1) (tCons (tVar 2) (tCons (tVar 3) (tCons (tVar 4) (tCons (tOp (rIx K) (tVar 5) (tC (.int 9))) tNil)))))))) tNext) (tThen (tAsg (tCallF 3 (phi_l_payload K C) (tCons (tVar 6) (tCons (tOp (rIx K) (tVar 5) (tC (.int 4))) (tCons (tOp (rIx K) (tVar 5) (tC (.int 5))) tNil)))) (gName 7)) (tThen (tAsg (tCallF 4 (phi_place_block K C) (tCons (tVar 0) (tCons (tCallF 2 (phi_l_passed K C) (tCons (tVar 3) (tCons (tOp (rIx K) (tVar 5) (tC (.int 9))) tNil))) (tCons (tOp (rIx K) (tVar 5) (tC (.int 7))) (tCons (tCB (rListU K) (tCons (tVar 7) tNil)) tNil))))) (gName 8)) (tThen (tAsg (tCallF 6 (phi_l_laid K C) (tCons (tVar 1) (tCons (tOp (rIx K) (tVar 2) (tC (.int 0))) (tCons (tOp (rIx K) (tVar 2) (tC (.int 1))) (tCons (tVar 4) (tCons (tOp (rIx K) (tVar 5) (tC (.int 7))) (tCons (tVar 7) tNil))))))) (gName 9)) (tThen (tIfS (tOr (tNot (tB (tCallF 1 (phi_l_whole K C) (tCons (tVar 8) tNil)))) (tTest (tOp (rNeU K) (tVar 8) (tVar 9)))) (tRet (tC (.bl false))) tNext) (tThen (tAsg (tCallF 3 (phi_l_sides K C) (tCons (tVar 1) (tCons (tVar 2) (tCons (tVar 4) tNil)))) (gName 10)) (tThen (tIfS (tAnd (tTest (tOp rGt (tCB (rLenU K) (tCons (tOp (rIx K) (tVar 10) (tC (.int 0))) tNil)) (tC (.int 0)))) (tTest (tOp rLt (tOp (rIx K) (tVar 5) (tC (.int 8))) (tC (.int 3))))) (tThen (tAsg (tOp (rIx K) (tOp (rIx K) (tVar 10) (tC (.int 0))) (tOp rRest (tCB rIntU (tCons (tOp (rIx K) (tVar 5) (tC (.int 1))) tNil)) (tCB (rLenU K) (tCons (tOp (rIx K) (tVar 10) (tC (.int 0))) tNil)))) (gName 11)) (tThen (tIfS (tTest (tOp rGt (tCB (rLenU K) (tCons (tOp (rIx K) (tVar 10) (tC (.int 2))) tNil)) (tC (.int 0)))) (tAsg (tOp (rIx K) (tOp (rIx K) (tVar 10) (tC (.int 2))) (tOp rRest (tCB rIntU (tCons (tOp (rIx K) (tVar 5) (tC (.int 1))) tNil)) (tCB (rLenU K) (tCons (tOp (rIx K) (tVar 10) (tC (.int 2))) tNil)))) (gName 11)) tNext) (tThen (tDrop (tCallF 6 (phi_l_written K C) (tCons (tVar 0) (tCons (tVar 1) (tCons (tVar 2) (tCons (tVar 11) (tCons (tOp rRest (tCB rIntU (tCons (tOp (rIx K) (tVar 5) (tC (.int 3))) tNil)) (tOp rFloor (tOp (rIx K) (tOp (rIx K) (tVar 1) (tC (.int 10))) (tVar 11)) (tC (.int 64)))) (tCons (tOp rTimes (tC (.int 2)) (tVar 9)) tNil)))))))) (tRet (tC (.bl true)))))) tNext) (tThen (tIfS (tAnd (tTest (tOp rGt (tVar 6) (tC (.int 0)))) (tTest (tOp rGt (tCB (rLenU K) (tCons (tOp (rIx K) (tVar 10) (tC (.int 1))) tNil)) (tC (.int 0))))) (tDrop (tCallF 6 (phi_l_written K C) (tCons (tVar 0) (tCons (tVar 1) (tCons (tVar 2) (tCons (tVar 9) (tCons (tOp rRest (tCB rIntU (tCons (tOp (rIx K) (tVar 5) (tC (.int 3))) tNil)) (tVar 6)) (tCons (tOp rTimes (tC (.int 2)) (tOp (rIx K) (tOp (rIx K) (tVar 10) (tC (.int 1))) (tOp rRest (tCB rIntU (tCons (tOp (rIx K) (tVar 5) (tC (.int 2))) tNil)) (tCB (rLenU K) (tCons (tOp (rIx K) (tVar 10) (tC (.int 1))) tNil))))) tNil)))))))) tNext) (tThen (tDrop (tCallF 3 (phi_l_put K C) (tCons (tVar 3) (tCons (tOp rRest (tCB rIntU (tCons (tOp (rIx K) (tVar 5) (tC (.int 1))) tNil)) (tCallF 1 (phi_l_places K C) (tCons (tVar 4) tNil))) (tCons (tOp rTimes (tC (.int 2)) (tVar 9)) tNil))))) (tThen (tDrop (tCallF 3 (phi_l_put K C) (tCons (tVar 4) (tCons (tOp rRest (tCB rIntU (tCons (tOp (rIx K) (tVar 5) (tC (.int 1))) tNil)) (tCallF 1 (phi_l_places K C) (tCons (tVar 4) tNil))) (tCons (tOp rTimes (tC (.int 2)) (tVar 9)) tNil))))) (tRet (tC (.bl true))))))))))))))
def t_l_linked (K : PySem.W.Frag) (C : Addr) : TS := (tThen (tAsg (tCallF 3 (phi_l_sides K C) (tCons (tVar 1) (tCons (tVar 2) (tCons (tVar 3) tNil)))) (gName 5)) (tThen (tIfS (tTest (tOp (rEqU K) (tCB (rLenU K) (tCons (tOp (rIx K) (tVar 5) (tC (.int 0))) tNil)) (tC (.int 0)))) (tRet (tC (.bl true))) tNext) (tThen (tAsg (tOp rTimes (tC (.int 2)) (tCB rIntU (tCons (tAndV (tOp rLt (tOp (rIx K) (tVar 4) (tC (.int 8))) (tC (.int 3))) (tAndV (tOp rGt (tCB (rLenU K) (tCons (tOp (rIx K) (tVar 5) (tC (.int 2))) tNil)) (tC (.int 0))) (tOp rGt (tCB (rLenU K) (tCons (tOp (rIx K) (tVar 5) (tC (.int 3))) tNil)) (tC (.int 0))))) tNil))) (gName 6)) (tThen (tAsg (tOp (rIx K) (tOp (rIx K) (tVar 5) (tVar 6)) (tOp rRest (tCB rIntU (tCons (tOp (rIx K) (tVar 4) (tC (.int 1))) tNil)) (tCB (rLenU K) (tCons (tOp (rIx K) (tVar 5) (tVar 6)) tNil)))) (gName 7)) (tThen (tAsg (tOp rTimes (tC (.int 2)) (tOp (rIx K) (tOp (rIx K) (tVar 5) (tOp (rPlus K) (tVar 6) (tC (.int 1)))) (tOp rRest (tCB rIntU (tCons (tOp (rIx K) (tVar 4) (tC (.int 2))) tNil)) (tCB (rLenU K) (tCons (tOp (rIx K) (tVar 5) (tOp (rPlus K) (tVar 6) (tC (.int 1)))) tNil))))) (gName 8)) (tThen (tIfS (tTest (tOp (rEqU K) (tOp (rIx K) (tVar 4) (tC (.int 8))) (tC (.int 5)))) (tAsg (tOp (rIx K) (tLst (tCons (tC (.int 0)) (tCons (tCallF 1 (phi_l_odd K C) (tCons (tOp (rIx K) (tVar 4) (tC (.int 5))) tNil)) tNil))) (tOp rRest (tCB rIntU (tCons (tOp (rIx K) (tVar 4) (tC (.int 4))) tNil)) (tC (.int 2)))) (gName 8)) tNext) (tThen (tDrop (tCallF 6 (phi_l_written K C) (tCons (tVar 0) (tCons (tVar 1) (tCons (tVar 2) (tCons (tVar 7) (tCons (tOp rRest (tCB rIntU (tCons (tOp (rIx K) (tVar 4) (tC (.int 3))) tNil)) (tOp rFloor (tOp (rIx K) (tOp (rIx K) (tVar 1) (tC (.int 10))) (tVar 7)) (tC (.int 64)))) (tCons (tVar 8) tNil)))))))) (tRet (tC (.bl true))))))))))
def t_l_emptying (K : PySem.W.Frag) (C : Addr) : TS := (tThen (tDrop (tCallF 4 (phi_l_emptied K C) (tCons (tVar 1) (tCons (tOp (rIx K) (tVar 2) (tC (.int 0))) (tCons (tOp (rIx K) (tVar 2) (tC (.int 1))) (tCons (tVar 4) tNil)))))) (tRet (tOp rIsNone (tCallF 2 (phi_collect_young K C) (tCons (tVar 0) (tCons (tCallF 2 (phi_l_passed K C) (tCons (tVar 3) (tCons (tVar 5) tNil))) tNil))) (tC .non))))
def t_l_rootless (K : PySem.W.Frag) (C : Addr) : TS := (tThen (tAsg (tCallF 2 (phi_l_passed K C) (tCons (tLst tNil) (tCons (tOp (rIx K) (tVar 3) (tC (.int 9))) tNil))) (gName 4)) (tThen (tDrop (tCallF 4 (phi_l_emptied K C) (tCons (tVar 1) (tCons (tOp (rIx K) (tVar 2) (tC (.int 0))) (tCons (tOp (rIx K) (tVar 2) (tC (.int 1))) (tCons (tLst tNil) tNil)))))) (tThen (tIfS (tOr (tTest (tOp rIsNotNone (tCallF 2 (phi_collect_young K C) (tCons (tVar 0) (tCons (tVar 4) tNil))) (tC .non))) (tTest (tOp (rNeU K) (tCallF 1 (phi_snapshot K C) (tCons (tVar 0) tNil)) (tCallF 1 (phi_l_shot K C) (tCons (tVar 1) tNil))))) (tRet (tC (.bl false))) tNext) (tThen (tAsg (tCallF 2 (phi_l_length K C) (tCons (tOp (rIx K) (tVar 3) (tC (.int 6))) (tCons (tOp (rIx K) (tVar 3) (tC (.int 4))) tNil))) (gName 5)) (tThen (tFor (iRng1 (tCons (tC (.int 4)) tNil)) (gName 6) (tThen (tIfS (tTest (tOp rGt (tOp (rPlus K) (tOp (rPlus K) (tCallF 1 (phi_l_used K C) (tCons (tVar 1) tNil)) (tC (.int 2))) (tVar 5)) (tOp (rIx K) (tVar 2) (tC (.int 0))))) (tRet (tC (.bl true))) tNext) (tThen (tAsg (tCallF 3 (phi_l_payload K C) (tCons (tVar 5) (tCons (tOp (rIx K) (tVar 3) (tC (.int 4))) (tCons (tOp (rIx K) (tVar 3) (tC (.int 5))) tNil)))) (gName 7)) (tThen (tAsg (tCallF 4 (phi_place_block K C) (tCons (tVar 0) (tCons (tVar 4) (tCons (tOp (rIx K) (tVar 3) (tC (.int 7))) (tCons (tCB (rListU K) (tCons (tVar 7) tNil)) tNil))))) (gName 8)) (tThen (tAsg (tCallF 6 (phi_l_laid K C) (tCons (tVar 1) (tCons (tOp (rIx K) (tVar 2) (tC (.int 0))) (tCons (tOp (rIx K) (tVar 2) (tC (.int 1))) (tCons (tLst tNil) (tCons (tOp (rIx K) (tVar 3) (tC (.int 7))) (tCons (tVar 7) tNil))))))) (gName 9)) (tIfS (tOr (tNot (tB (tCallF 1 (phi_l_whole K C) (tCons (tVar 8) tNil)))) (tOr (tTest (tOp (rNeU K) (tVar 8) (tVar 9))) (tOr (tTest (tOp (rNeU K) (tCallF 1 (phi_snapshot K C) (tCons (tVar 0) tNil)) (tCallF 1 (phi_l_shot K C) (tCons (tVar 1) tNil)))) (tTest (tOp rGt (tCB (rLenU K) (tCons (tVar 4) tNil)) (tC (.int 0))))))) (tRet (tC (.bl false))) tNext)))))) (tRet (tC (.bl true))))))))
def t_l_done (K : PySem.W.Frag) (C : Addr) : TS := (tThen (tIfS (tTest (tOp rLe (tOp (rIx K) (tVar 5) (tC (.int 0))) (tC (.int 8)))) (tAsg (tCallF 6 (phi_l_placed K C) (tCons (tVar 0) (tCons (tVar 1) (tCons (tVar 2) (tCons (tVar 3) (tCons (tVar 4) (tCons (tVar 5) tNil))))))) (gName 6)) (tIfS (tTest (tOp rLe (tOp (rIx K) (tVar 5) (tC (.int 0))) (tC (.int 20)))) (tAsg (tCallF 5 (phi_l_linked K C) (tCons (tVar 0) (tCons (tVar 1) (tCons (tVar 2) (tCons (tVar 4) (tCons (tVar 5) tNil)))))) (gName 6)) (tIfS (tTest (tOp rLe (tOp (rIx K) (tVar 5) (tC (.int 0))) (tC (.int 22)))) (tThen (tAsg (tOp (rPlus K) (tLst (tCons (tC (.int 0)) (tCons (tCallF 1 (phi_l_odd K C) (tCons (tOp (rIx K) (tVar 5) (tC (.int 5))) tNil)) (tCons (tC (.int 0)) tNil)))) (tLc (iSeq K (tOp (rIx K) (tCallF 3 (phi_l_sides K C) (tCons (tVar 1) (tCons (tVar 2) (tCons (tVar 4) tNil)))) (tC (.int 1)))) (gName 8) tYes (tOp rTimes (tC (.int 2)) (tVar 8)) [8])) (gName 7)) (tThen (tAsg (tC (.bl true)) (gName 6)) (tThen (tDrop (tCallF 3 (phi_l_put K C) (tCons (tVar 3) (tCons (tOp rRest (tCB rIntU (tCons (tOp (rIx K) (tVar 5) (tC (.int 1))) tNil)) (tCallF 1 (phi_l_places K C) (tCons (tVar 4) tNil))) (tCons (tOp (rIx K) (tVar 7) (tOp rRest (tCB rIntU (tCons (tOp (rIx K) (tVar 5) (tC (.int 2))) tNil)) (tCB rMinU (tCons (tCB (rLenU K) (tCons (tVar 7) tNil)) (tCons (tC (.int 5)) tNil))))) tNil))))) (tDrop (tCallF 3 (phi_l_put K C) (tCons (tVar 4) (tCons (tOp rRest (tCB rIntU (tCons (tOp (rIx K) (tVar 5) (tC (.int 1))) tNil)) (tCallF 1 (phi_l_places K C) (tCons (tVar 4) tNil))) (tCons (tOp (rIx K) (tVar 7) (tOp rRest (tCB rIntU (tCons (tOp (rIx K) (tVar 5) (tC (.int 2))) tNil)) (tCB rMinU (tCons (tCB (rLenU K) (tCons (tVar 7) tNil)) (tCons (tC (.int 5)) tNil))))) tNil)))))))) (tAsg (tCallF 6 (phi_l_emptying K C) (tCons (tVar 0) (tCons (tVar 1) (tCons (tVar 2) (tCons (tVar 3) (tCons (tVar 4) (tCons (tOp (rIx K) (tVar 5) (tC (.int 9))) tNil))))))) (gName 6))))) (tRet (tAndV (tVar 6) (tAndV (tOp (rEqU K) (tVar 3) (tVar 4)) (tOp (rEqU K) (tCallF 1 (phi_snapshot K C) (tCons (tVar 0) tNil)) (tCallF 1 (phi_l_shot K C) (tCons (tVar 1) tNil)))))))
def t_law (K : PySem.W.Frag) (C : Addr) : TS := (tThen (tAsg (tCallF 2 (phi_l_digits K C) (tCons (tCallF 2 (phi_l_cell K C) (tCons (tVar 0) (tCons (tC (.int 0)) tNil))) (tCons (tLst (tCons (tC (.int 16)) (tCons (tC (.int 12)) (tCons (tC (.int 1080)) (tCons (tC (.int 6)) (tCons (tC (.int 30)) (tCons (tC (.int 2)) tNil))))))) tNil))) (gName 1)) (tThen (tAsg (tLc (iSeq K (tCallF 1 (phi_l_bounds K C) (tCons (tVar 1) tNil))) (gName 12) tYes (tOp rTimes (tVar 12) (tOp (rIx K) (tLst (tCons (tC (.int 1)) (tCons (tC (.int 4)) tNil))) (tOp (rIx K) (tVar 1) (tC (.int 5))))) [12]) (gName 2)) (tThen (tAsg (tMakeF C 3 (phi_Heap_init K C) (tCons (tOp (rIx K) (tVar 2) (tC (.int 0))) (tCons (tOp (rIx K) (tVar 2) (tC (.int 1))) tNil))) (gName 3)) (tThen (tAsg (tMakeF C 3 (phi_Heap_init K C) (tCons (tC (.int 9)) (tCons (tC (.int 4)) tNil))) (gName 4)) (tThen (tAsg (tCallF 2 (phi_l_memory K C) (tCons (tOp (rIx K) (tVar 2) (tC (.int 0))) (tCons (tOp (rIx K) (tVar 2) (tC (.int 1))) tNil))) (gName 5)) (tThen (tAsg (tOp (rIx K) (tLst (tCons (tLst (tCons (tC (.int 2)) (tCons (tC (.int 0)) (tCons (tC (.int 3)) tNil)))) (tCons (tLst (tCons (tC (.int 1)) (tCons (tC (.int 6)) (tCons (tC (.int 5)) (tCons (tC (.int 0)) tNil))))) (tCons (tLst (tCons (tC (.int 0)) (tCons (tC (.int 12)) (tCons (tC (.int 0)) tNil)))) (tCons (tLst (tCons (tC (.int 9)) (tCons (tC (.int 0)) (tCons (tC (.int 7)) tNil)))) (tCons (tLst (tCons (tC (.int 2)) (tCons (tC (.int 0)) (tCons (tC (.int 20)) (tCons (tC (.int 1)) tNil))))) (tCons (tLst (tCons (tC (.int 5)) tNil)) tNil))))))) (tOp (rIx K) (tVar 1) (tC (.int 3)))) (gName 6)) (tThen (tAsg (tLc (iSeq K (tVar 6)) (gName 13) tYes (tOp rTimes (tLst (tCons (tC (.int 0)) tNil)) (tVar 13)) [13]) (gName 7)) (tThen (tAsg (tLc (iSeq K (tVar 6)) (gName 13) tYes (tOp rTimes (tLst (tCons (tC (.int 0)) tNil)) (tVar 13)) [13]) (gName 8)) (tThen (tAsg (tLst (tCons (tC (.int 24)) (tCons (tC (.int 840)) (tCons (tC (.int 840)) (tCons (tC (.int 840)) (tCons (tC (.int 8)) (tCons (tC (.int 17179869184)) (tCons (tC (.int 16)) (tCons (tC (.int 40)) (tCons (tC (.int 6)) (tCons (tC (.int 2)) tNil))))))))))) (gName 9)) (tThen (tFor (iRng1 (tCons (tOp (rPlus K) (tC (.int 24)) (tOp (rIx K) (tVar 1) (tC (.int 4)))) tNil)) (gName 10) (tThen (tAsg (tCallF 2 (phi_l_digits K C) (tCons (tCallF 2 (phi_l_cell K C) (tCons (tVar 0) (tCons (tOp (rPlus K) (tC (.int 1)) (tVar 10)) tNil))) (tCons (tVar 9) tNil))) (gName 11)) (tIfS (tOr (tNot (tB (tCallF 6 (phi_l_done K C) (tCons (tVar 3) (tCons (tVar 5) (tCons (tVar 2) (tCons (tVar 7) (tCons (tVar 8) (tCons (tVar 11) tNil))))))))) (tTest (tOp (rNeU K) (tCallF 1 (phi_snapshot K C) (tCons (tVar 4) tNil)) (tCallF 1 (phi_l_shot K C) (tCons (tCallF 2 (phi_l_memory K C) (tCons (tC (.int 9)) (tCons (tC (.int 4)) tNil))) tNil))))) (tRet (tC (.bl false))) tNext))) (tThen (tAsg (tCallF 2 (phi_l_digits K C) (tCons (tCallF 2 (phi_l_cell K C) (tCons (tVar 0) (tCons (tC (.int 55)) tNil))) (tCons (tVar 9) tNil))) (gName 11)) (tThen (tIfS (tAnd (tTest (tOp rLt (tOp (rIx K) (tVar 11) (tC (.int 8))) (tC (.int 3)))) (tNot (tB (tCallF 6 (phi_l_done K C) (tCons (tVar 3) (tCons (tVar 5) (tCons (tVar 2) (tCons (tVar 7) (tCons (tVar 8) (tCons (tOp (rPlus K) (tLst (tCons (tC (.int 23)) tNil)) (tSl (rSlU K) (tVar 11) (tPart (tC (.int 1))) tNoPart)) tNil)))))))))) (tRet (tC (.bl false))) tNext) (tRet (tAndV (tCallF 4 (phi_l_rootless K C) (tCons (tVar 3) (tCons (tVar 5) (tCons (tVar 2) (tCons (tVar 11) tNil))))) (tCallF 1 (phi_l_kinds K C) (tCons (tCallF 1 (phi_snapshot K C) (tCons (tVar 3) tNil)) tNil))))))))))))))))
local macro_rules | `(tactic| walk_at "lk") => `(tactic| first
  | assumption
  | exact upd_same
  | (refine upd_get ?_ ?_; walk_at "ne"; walk_at "lk")
  | (refine Ex.get (by assumption) ?_; walk_at "lk")
  | (refine Fr.get (by assumption) ?_ ?_; walk_at "lk"; walk_at "nin"))
local macro_rules | `(tactic| walk_at "ne") => `(tactic| first
  | assumption
  | (refine Ne.symm ?_; assumption)
  | (refine ne_of_none ?_ (by assumption); walk_at "lk")
  | (refine Ne.symm (ne_of_none ?_ (by assumption)); walk_at "lk"))
local macro_rules | `(tactic| walk_at "nin") => `(tactic| first
  | assumption
  | (simp only [List.mem_cons, List.not_mem_nil, or_false, not_or]; (try refine ⟨?_, ?_⟩) <;> (repeat' refine ⟨?_, ?_⟩) <;> walk_at "ne"))
local macro_rules | `(tactic| walk_at "lt") => `(tactic| first
  | assumption
  | exact Or.inl (by walk_at "lk")
  | exact Or.inr (by walk_at "lk")
  | (refine LT.ex ?_ (by assumption); walk_at "lt"))
local macro_rules | `(tactic| walk_at "mem") => `(tactic| first
  | exact Or.inl (by simp [Ids.all])
  | exact Or.inr (by assumption)
  | (refine Fr.fresh ?_ (by assumption); walk_at "fr"))
local macro_rules | `(tactic| walk_at "fr") => `(tactic| first
  | exact Fr.refl _ _
  | assumption
  | exact Ex.fr (by assumption)
  | (refine Fr.upd ?_ ?_; walk_at "fr"; walk_at "mem")
  | (refine Fr.ex ?_ (by assumption); walk_at "fr")
  | (refine Fr.trans ?_ (by assumption) ?_; walk_at "fr"; (intro a ha; exact Or.inl ha)))
local macro_rules | `(tactic| walk_at "rep") => `(tactic| first
  | assumption
  | exact ⟨by walk_at "lk", by walk_at "lk", by walk_at "lk", by walk_at "lk", by walk_at "ne", by walk_at "ne", by walk_at "ne"⟩)
local macro_rules | `(tactic| walk_at "n") => `(tactic| first | decide | omega)
local macro_rules | `(tactic| walk_at "go") => `(tactic| repeat (with_reducible first
  | (apply var_i; (k_dflt rfl))
  | apply c_i
  | apply op_i
  | apply fld_i
  | apply un_i
  | apply ru_i
  | apply cons_i
  | apply nil_i
  | apply call_i
  | apply plus_i
  | apply minus_i
  | apply i0_i
  | apply eq_i
  | apply ne_i
  | apply bl_i
  | apply test_i
  | apply tb_i
  | apply seq_i
  | apply asg_i
  | apply ret_i
  | apply if_i
  | apply iteT
  | apply iteF
  | apply next_i
  | apply drop_i
  | apply retN_i
  | apply and_i
  | apply or_i
  | apply not_i
  | apply andv_i
  | apply orv_i
  | apply notv_i
  | apply notvr_i
  | apply cb_i
  | apply tup_i
  | apply lst_i
  | apply chain_i
  | apply slice_i
  | apply part_i
  | apply part_int
  | apply nopart_i
  | apply bm_i
  | apply sfld_i
  | apply asub_i
  | apply aslice_i
  | apply atup2_i
  | apply break_i
  | apply eqMarking_i
  | apply eqIdle_i
  | apply eqMoving_i
  | apply neIdle_i
  | apply intU_i
  | apply intU_b
  | apply i1_i
  | apply i2_i
  | apply i3_i
  | (apply times_i; (walk_at "n"))
  | (apply times_j; (walk_at "n"))
  | (apply floor_i; (walk_at "n"); (walk_at "n"))
  | (apply rest_i; (walk_at "n"))
  | (apply len_i; (k_dflt rfl))
  | (apply f_words; assumption; (walk_at "lk"))
  | (apply f_nur; assumption; (walk_at "lk"))
  | (apply f_cap; assumption; (walk_at "lk"))
  | (apply f_yt; assumption; (walk_at "lk"))
  | (apply f_base; assumption; (walk_at "lk"))
  | (apply f_top; assumption; (walk_at "lk"))
  | (apply f_ob; assumption; (walk_at "lk"))
  | (apply f_ot; assumption; (walk_at "lk"))
  | (apply f_ph; assumption; (walk_at "lk"))
  | (apply f_cur; assumption; (walk_at "lk"))
  | (apply f_gr; assumption; (walk_at "lk"))
  | (apply f_rem; assumption; (walk_at "lk"))
  | (apply f_pend; assumption; (walk_at "lk"))
  | (apply ixI_i; (walk_at "lk"); assumption)
  | (apply ixL_i; (walk_at "lk"); (k_dflt rfl))
  | (apply ixLT_i; assumption; (k_dflt rfl))
  | (apply ixLTI_i; assumption; assumption)
  | (apply pow_i; (walk_at "n"); (walk_at "n"))
  | apply minU_i
  | apply maxU_i
  | (apply setI_i; (walk_at "lk"); assumption)
  | (apply tyl_i; (walk_at "lk"))
  | (apply appendI_i; (walk_at "lk"); (walk_at "n"))
  | (apply inLate_t; (walk_at "lk"))
  | (apply inLate_l; (walk_at "lk"))
  | (apply notLate_t; (walk_at "lk"))))
section
variable {K : PySem.W.Frag} {C : Addr}
theorem isNone_i {x : V} {H : Hp} {Q : VK} (q : Q (.bl (decide (x = .non))) H) : rIsNone x .non H Q := ⟨rfl, q⟩
theorem isNotNone_i {x : V} {H : Hp} {Q : VK} (q : Q (.bl (!decide (x = .non))) H) : rIsNotNone x .non H Q := ⟨rfl, q⟩
theorem Rz.le {rows : List (List Int)} (h : Rz rows) : ∀ r ∈ rows, r.length ≤ 1000000 := fun r hr => Nat.le_trans (h.2.1 r hr) (by decide)
theorem compN2_i {σ : St} {H : Hp} {Q : VK} {te ts : TE} {j : Nat} (P : Addr → Hp → Prop) (he : ∀ Q : VK, (∀ p H1, P p H1 → Q (.ref p) H1) → ts σ H Q) (k : ∀ p H1, P p H1 → tLc (iList K fun _ H Q => Q (.ref p) H) (gName j) tYes te [j] σ H1 Q) : tLc (iSeq K ts) (gName j) tYes te [j] σ H Q :=
  .inl (he _ fun p H1 hp => k p H1 hp)
theorem pure_l_written (T : HC K C) : PureOk (t_l_written K C) ["_law_heap", "_law_mem", "_law_bounds_here", "_law_at", "_law_place", "_law_word"] 6 (phi_l_written K C) := by
  intro vs H Q hl h
  delta t_l_written
  obtain ⟨i, mi, ra, rl, ma, ml, F, h, h', rows, mine, ba, a, p, w, b, v, rfl, W, hba, hbF, e1, e2, e3, e4, e5, e6, q⟩ := h
  have hba' : H ba = some (.lst [.int h.cap, .int h.nur]) := hba
  walk_at "go"
  refine call_write W e6 fun H1 W1 k1 => ?_
  have hba1 := k1 _ hbF _ hba'
  clear hba hba'
  walk_at "go"
  refine call_wrote W1 e1 e2 e3 e4 e5 e6 fun H2 W2 k2 => ?_
  exact q H2 W2 (k1.trans k2)
theorem pure_l_emptying (T : HC K C) : PureOk (t_l_emptying K C) ["_law_heap", "_law_mem", "_law_bounds_here", "_law_rows", "_law_mine", "_law_digit"] 6 (phi_l_emptying K C) := by
  intro vs H Q hl h
  delta t_l_emptying
  obtain ⟨p, m, ba, ra, ma, F, d, rfl, W, q⟩ := h
  obtain ⟨i, mi, rl, ml, h, rows, ys, os, rfl, rfl, W, I, hba, hbF, hz, hcap⟩ := W
  have hba' : H ba = some (.lst [.int h.cap, .int h.nur]) := hba
  obtain ⟨h', rows', os', ec, I', y1, c1, n1, u1, l1⟩ := idle_collect I
  walk_at "go"
  refine call_emptied W hz.le ec fun H3 mi' em W3 k3 => ?_
  walk_at "go"
  refine call_passed W3 _ fun pa H4 W4 x4 lp n4 n5 => ?_
  walk_at "go"
  refine call_collect W4 lp n4 n5 hz.le ec fun H5 i' ei W5 k5 => ?_
  walk_at "go"
  refine isNone_i ?_
  refine q H5 ⟨i', mi', rl, ml, h', rows', [], os', ei, em, W5, I', ?_, hbF, hz.of l1, by rw [c1]; exact hcap⟩ ((k3.trans x4.kp).trans k5)
  rw [c1, n1]
  exact k5 _ hbF _ (x4 _ _ (k3 _ hbF _ hba'))
theorem pure_l_sides (T : HC K C) : PureOk (t_l_sides K C) ["_law_mem", "_law_bounds_here", "_law_mine", "_law_found", "_law_full", "_law_pair", "_law_at"] 3 (phi_l_sides K C) := by
  intro vs H Q hl h
  delta t_l_sides
  obtain ⟨i, mi, ra, rl, ma, ml, F, h, rows, ys, os, ba, rfl, W, I, hba, hz, q⟩ := h
  have hba' : H ba = some (.lst [.int h.cap, .int h.nur]) := hba
  obtain ⟨found, ef, nd, hin⟩ := idle_met I (Nat.le_trans hz.1 (by decide))
  have hfs : found.length ≤ 100000 := by
    have : found.length ≤ (ys ++ os).length := by
      have := nodup_le (l := found.map (·.2)) (m := ys ++ os) nd fun x hx => by
        obtain ⟨p, hp, rfl⟩ := List.mem_map.mp hx
        exact List.mem_append.mpr (hin p hp)
      rwa [List.length_map] at this
    have k1 := I.ty.many
    have k2 := I.to.many
    have k3 := I.yt
    have k4 := I.used
    have k5 := I.len
    have k6 := I.small
    have k7 := I.nur
    have k8 := I.ty.le
    rw [List.length_append] at this
    omega
  refine seq_i (asg_i ?_)
  refine compN2_i (fun fa H1 => ∃ fl : List Addr, Ex H H1 ∧ H1 fa = some (.lst (fl.map V.ref)) ∧ RowsAt H1 fl (prs found)) ?_ ?_
  · intro Q' q'
    walk_at "go"
    exact call_met W (Nat.le_trans hz.1 (by decide)) ef fun fa fl H1 hfa x1 hf1 hfl1 => q' fa H1 ⟨fl, x1, hf1, hfl1⟩
  · rintro fa H1 ⟨fl, x1, hf1, hfl1⟩
    have hfll : fl.length = found.length := by
      have := hfl1.len
      unfold prs at this
      rwa [List.length_map] at this
    refine compPL (xs := fl.map V.ref) (fun k y => ∃ n : Int, y = .int n ∧ (n ∈ ys ∨ n ∈ os)) hf1 (by rw [List.length_map]; omega) ?_ ?_
    · rintro k x H2 x2 hx Q' q'
      obtain ⟨a, rfl, ha⟩ := ref_of hx
      obtain ⟨r, e1, e2⟩ := hfl1.get ha
      unfold prs at e1
      rw [List.getElem?_map] at e1
      obtain ⟨⟨y, z⟩, e3, rfl⟩ := Option.map_eq_some_iff.mp e1
      have e4 : H2 a = some (il [y, z]) := x2 _ _ e2
      have hz2 : rd [y, z] (1 : Int) = some z := rfl
      walk_at "go"
      exact q' _ _ (Ex.refl _) ⟨z, rfl, hin _ (List.mem_of_getElem? e3)⟩
    · intro fb H2 l hfb x2 hl2 ll hG
      obtain ⟨fnd, rfl, hfnd⟩ := ints_out (P := fun n => n ∈ ys ∨ n ∈ os) (l := l) fun y hy => by
        obtain ⟨k, hk⟩ := List.mem_iff_getElem?.mp hy
        exact hG k y hk
      rw [List.length_map, List.length_map, hfll] at ll
      have hl2' : H2 fb = some (il fnd) := hl2
      have X2 := x1.trans x2
      have W2 := W.ex X2
      have hba2 := X2 _ _ hba'
      clear hba'
      refine seq_i (asg_i ?_)
      refine compL_i (fun y => ∃ n : Int, y = .int n ∧ (n ∈ ys ∨ n ∈ os) ∧ ∃ f, rd h.words n = some f ∧ 64 ≤ f) (a := fb) (xs := fnd.map V.int) ?_ (.inl hl2) (by rw [List.length_map]; omega) ?_ ?_
      · intro Q' q'
        walk_at "go"
        exact q'
      · rintro k x H3 x3 hx Q' hq
        obtain ⟨n, rfl, hn⟩ := int_of hx
        have hnb := hfnd n (List.mem_of_getElem? hn)
        obtain ⟨f, hf⟩ : ∃ f, rd h.words n = some f := by
          rcases hnb with w | w
          · obtain ⟨_, f, hf, _⟩ := I.ty.mem w
            exact ⟨f, hf⟩
          · obtain ⟨_, f, hf, _⟩ := I.to.mem w
            exact ⟨f, hf⟩
        obtain ⟨hm, hW, _, _, _, _, _⟩ := (W2.ex x3).mem
        unfold shotV at hm
        clear hba2
        walk_at "go"
        refine hq _ _ (Ex.refl _) fun d Q2 q2 => ?_
        have c := of_decide_eq_true d
        walk_at "go"
        exact q2 _ _ (Ex.refl _) ⟨n, rfl, hnb, f, hf, c⟩
      · intro fc H3 l3 hfc x3 hl3 ll3 hG3
        obtain ⟨full, rfl, hfull⟩ := ints_out hG3
        rw [List.length_map, List.length_map] at ll3
        have hba3 := x3 _ _ hba2
        have hfn3 := x3 _ _ hl2
        have W3 := W2.ex x3
        clear hba2
        refine ret_i (lst_i (cons_i (var_i (v := .ref fc) (by rfl) (cons_i (var_i (v := .ref fb) (by rfl) (cons_i ?_))))))
        refine compL_i (fun y => ∃ n : Int, y = .int n ∧ n ∈ full) (a := fc) (xs := full.map V.int) ?_ (.inl hl3) (by rw [List.length_map]; omega) ?_ ?_
        · intro Q' q'
          walk_at "go"
          exact q'
        · rintro k x H4 x4 hx Q' hq
          obtain ⟨n, rfl, hn⟩ := int_of hx
          have hba4 := x4 _ _ hba3
          clear hba3
          walk_at "go"
          refine hq _ _ (Ex.refl _) fun d Q2 q2 => ?_
          walk_at "go"
          exact q2 _ _ (Ex.refl _) ⟨n, rfl, List.mem_of_getElem? hn⟩
        · intro fd H4 l4 hfd x4 hl4 ll4 hG4
          obtain ⟨olds, rfl, holds⟩ := ints_out hG4
          have hba4 := x4 _ _ hba3
          clear hba3
          refine cons_i ?_
          refine compL_i (fun y => ∃ n : Int, y = .int n ∧ n ∈ fnd) (a := fb) (xs := fnd.map V.int) ?_ (.inl (x4 _ _ hfn3)) (by rw [List.length_map]; omega) ?_ ?_
          · intro Q' q'
            walk_at "go"
            exact q'
          · rintro k x H5 x5 hx Q' hq
            obtain ⟨n, rfl, hn⟩ := int_of hx
            have hba5 := x5 _ _ hba4
            clear hba4
            walk_at "go"
            refine hq _ _ (Ex.refl _) fun d Q2 q2 => ?_
            walk_at "go"
            exact q2 _ _ (Ex.refl _) ⟨n, rfl, List.mem_of_getElem? hn⟩
          · intro fe H5 l5 hfe x5 hl5 ll5 hG5
            obtain ⟨youngs, rfl, hyoungs⟩ := ints_out hG5
            refine nil_i (lstr_i (by simp) fun p H6 np x6 h6 => ?_)
            exact q p fc fb fd fe H6 full fnd olds youngs ((((X2.trans x3).trans x4).trans x5).back np) ((((X2.trans x3).trans x4).trans x5).trans x6) h6 ((x4.trans (x5.trans x6)) _ _ hl3) ((x4.trans (x5.trans x6)) _ _ hfn3) ((x5.trans x6) _ _ hl4) (x6 _ _ hl5) hfull hfnd holds hyoungs ll3 (by omega)
theorem pure_l_linked (T : HC K C) : PureOk (t_l_linked K C) ["_law_heap", "_law_mem", "_law_bounds_here", "_law_mine", "_law_row", "_law_sides_here", "_law_side", "_law_at", "_law_word"] 5 (phi_l_linked K C) := by
  intro vs H Q hl h
  delta t_l_linked
  obtain ⟨p, m, ba, ra, ma, da, F, r0, r1, r2, r3, r4, r5, r6, r7, r8, r9, rfl, W, hda, D, q⟩ := h
  obtain ⟨i, mi, rl, ml, h, rows, ys, os, rfl, rfl, W, I, hba, hbF, hz, hcap⟩ := W
  have De := D.e
  walk_at "go"
  refine ⟨i, mi, ra, rl, ma, ml, F, h, rows, ys, os, ba, rfl, W, I, hba, hz, fun sp sa sb sc sd H1 full found olds youngs np x1 hp ha hb hc hd p1 p2 p3 p4 p5 p6 => ?_⟩
  have W1 := W.ex x1
  have De1 := x1 _ _ De
  have hba1 := x1 _ _ hba
  clear De hba
  walk_at "go"
  refine lenI_i ha ?_
  walk_at "go"
  refine ite_b (fun d => ?_) (fun d => ?_)
  · walk_at "go"
    exact q H1 ⟨i, mi, rl, ml, h, rows, ys, os, rfl, rfl, W1, I, hba1, hbF, hz, hcap⟩ x1.kp
  · have c := of_decide_eq_false d
    walk_at "go"
    refine andvr_c (e := decide (0 < (olds.length : Int)) && decide (0 < (youngs.length : Int))) (fun _ Q' q' => ?_) ?_
    · walk_at "go"
      refine lenI_i hc ?_
      walk_at "go"
      refine andvr_c (e := decide (0 < (youngs.length : Int))) (fun _ Q2 q2 => ?_) ?_
      · walk_at "go"
        refine lenI_i hd ?_
        walk_at "go"
        exact q2
      · exact q'
    generalize hbb : (decide (r8 < 3) && (decide (0 < (olds.length : Int)) && decide (0 < (youngs.length : Int)))) = bb
    obtain ⟨S, T, s1, t1, e1, e2, e3, e4, e5, e6, e7, e8⟩ : ∃ (S T : List Int) (s1 t1 : Addr), atI [V.ref sa, .ref sb, .ref sc, .ref sd] (2 * (if bb = true then 1 else 0)) = some (.ref s1) ∧ H1 s1 = some (il S) ∧ atI [V.ref sa, .ref sb, .ref sc, .ref sd] (2 * (if bb = true then 1 else 0) + 1) = some (.ref t1) ∧ H1 t1 = some (il T) ∧ 0 < S.length ∧ 0 < T.length ∧ (∀ x ∈ S, x ∈ full) ∧ (∀ x ∈ T, x ∈ found) := by
      cases bb with
      | true =>
        simp only [Bool.and_eq_true, decide_eq_true_eq] at hbb
        exact ⟨olds, youngs, sc, sd, rfl, hc, rfl, hd, by omega, by omega, p3, p4⟩
      | false => exact ⟨full, found, sa, sb, rfl, ha, rfl, hb, by omega, by omega, fun _ h => h, fun _ h => h⟩
    walk_at "go"
    refine ixL_i hp e1 ?_
    walk_at "go"
    refine ixL_i hp e1 ?_
    walk_at "go"
    refine lenI_i e2 ?_
    have hn := mod_in (x := r1) (n := S.length) e5
    obtain ⟨n, hn', hnS⟩ : ∃ v, rd S (r1 % (S.length : Int)) = some v ∧ v ∈ S := by
      obtain ⟨v, hv⟩ := rd_of_lt hn.1 hn.2
      exact ⟨v, hv, List.mem_of_getElem? (rd_some.mp hv).2⟩
    obtain ⟨hnb, f, hf, hf64⟩ := p1 n (e7 n hnS)
    have hnb1 := (vv_ref I hnb).1
    walk_at "go"
    refine ixL_i hp e3 ?_
    walk_at "go"
    refine ixL_i hp e3 ?_
    walk_at "go"
    refine lenI_i e4 ?_
    have hm := mod_in (x := r2) (n := T.length) e6
    obtain ⟨y, hy', hyT⟩ : ∃ v, rd T (r2 % (T.length : Int)) = some v ∧ v ∈ T := by
      obtain ⟨v, hv⟩ := rd_of_lt hm.1 hm.2
      exact ⟨v, hv, List.mem_of_getElem? (rd_some.mp hv).2⟩
    have hyb := vv_ref I (p2 y (e8 y hyT))
    refine rest_i (by omega) ?_
    refine ixI_i e4 hy' ?_
    refine times_i (by decide) ?_
    generalize hsv : (2 * (if bb = true then 1 else 0) : Int) = sv at *
    refine cut_i (fun σ' H' => ∃ (w : Int), σ' = [some (.ref i.p), some (.ref mi.m), some (.ref ba), some (.ref ma), some (.ref da), some (.ref sp), some (.int sv), some (.int n), some (.int w)] ∧ Ex H1 H' ∧ VV ys (· ∈ os) [] w) ?_ ?_
    · walk_at "go"
      refine ite_b (fun d1 => ?_) (fun d1 => ?_)
      · walk_at "go"
        refine ⟨r5, rfl, D.b5.1, by have := D.b5.2; omega, fun v H4 hv x4 => ?_⟩
        have De4 := x4 _ _ De1
        clear De1
        walk_at "go"
        refine lstr_i (by simp) fun pz H5 hp5 x5 h5 => ?_
        have De5 := x5 _ _ De4
        clear De4
        walk_at "go"
        have h5' : H5 pz = some (il [0, v]) := h5
        have hr4 : r4 % 2 = 0 ∨ r4 % 2 = 1 := by omega
        rcases hr4 with z | z
        · rw [z]
          refine ixI_i h5' (v := 0) rfl ?_
          exact ⟨0, rfl, x4.trans x5, noref_vv (.inl rfl)⟩
        · rw [z]
          refine ixI_i h5' (v := v) rfl ?_
          exact ⟨v, rfl, x4.trans x5, noref_vv (.inr hv)⟩
      · walk_at "go"
        exact ⟨_, rfl, Ex.refl _, hyb.2⟩
    · rintro σ' H3 ⟨w, rfl, x3, vw⟩
      have W3 := W1.ex x3
      have De3 := x3 _ _ De1
      have hba3 := x3 _ _ hba1
      obtain ⟨hM, hW, _, _, _, _, _⟩ := id W3.mem
      unfold shotV at hM
      clear De1 hba1
      have hpl : 0 < f / 64 := by omega
      have hm0 : 0 ≤ r3 % (f / 64) := Int.emod_nonneg _ (by omega)
      have hm1 : r3 % (f / 64) < f / 64 := Int.emod_lt_of_pos _ hpl
      obtain ⟨h2, e2, I2, k1, k2, k3, k4⟩ := idle_write I hnb hf hm0 hm1 vw
      walk_at "go"
      refine ⟨i, mi, ra, rl, ma, ml, F, h, h2, rows, rows, ba, n, _, w, n, w, rfl, W3, hba3, hbF, idle_res I n, hnb1, idle_resW I _, vw.1, vw.1, e2, fun H5 W5 kp5 => ?_⟩
      walk_at "go"
      exact q H5 ⟨i, mi, rl, ml, h2, rows, ys, os, rfl, rfl, W5, I2, by rw [k1, k2]; exact kp5 _ hbF _ hba3, hbF, hz, by rw [k1]; exact hcap⟩ ((x1.trans x3).kp.trans kp5)
theorem pick_in {l : List Int} (x : Int) (h : 0 < l.length) : ∃ v, rd l (x % (l.length : Int)) = some v ∧ v ∈ l := by
  have hn := mod_in (x := x) (n := l.length) h
  obtain ⟨v, hv⟩ := rd_of_lt hn.1 hn.2
  exact ⟨v, hv, List.mem_of_getElem? (rd_some.mp hv).2⟩
theorem pure_l_placed (T : HC K C) : PureOk (t_l_placed K C) ["_law_heap", "_law_mem", "_law_bounds_here", "_law_rows", "_law_mine", "_law_row", "_law_many", "_law_payload_here", "_law_at", "_law_due", "_law_sides_here", "_law_held"] 6 (phi_l_placed K C) := by
  intro vs H Q hl h
  delta t_l_placed
  obtain ⟨p, m, ba, ra, ma, da, F, r0, r1, r2, r3, r4, r5, r6, r7, r8, r9, rfl, W, hda, D, q⟩ := h
  have De := D.e
  have W0 := W
  obtain ⟨i, mi, rl, ml, h, rows, ys, os, rfl, rfl, W, I, hba, hbF, hz, hcap⟩ := W
  walk_at "go"
  refine ⟨r6, r4, rfl, D.b6.1, D.b6.2, D.b4.1, D.b4.2, fun v H1 v0 v1 x1 => ?_⟩
  have W1 := W.ex x1
  have D1e := x1 _ _ De
  have hba1 : H1 ba = some (.lst [.int h.cap, .int h.nur]) := x1 _ _ hba
  clear De
  walk_at "go"
  refine call_used W1 fun H2 x2 => ?_
  have W2 := W1.ex x2
  have D2e := x2 _ _ D1e
  have hba2 : H2 ba = some (.lst [.int h.cap, .int h.nur]) := x2 _ _ hba1
  clear D1e hba1
  walk_at "go"
  refine ite_b (fun d => ?_) (fun d => ?_)
  · walk_at "go"
    refine ⟨i.p, mi.m, ba, ra, ma, F, r9, rfl, (W0.ex x1).ex x2, fun H3 W3 k3 => ?_⟩
    exact q H3 W3 ((x1.trans x2).kp.trans k3)
  · have c := of_decide_eq_false d
    walk_at "go"
    refine ⟨v, r4, r5, rfl, v0, by omega, D.b4.1, D.b4.2, D.b5.1, D.b5.2, fun la H3 pl hla x3 hl3 lpl npl => ?_⟩
    have W3 := W2.add x3 hla (by rw [hl3]; exact fun z => nomatch z)
    have D3e := x3 _ _ D2e
    have hda3 : da ∈ la :: F := List.mem_cons_of_mem _ hda
    have hbF3 : ba ∈ la :: F := List.mem_cons_of_mem _ hbF
    have hba3 := x3 _ _ hba2
    obtain ⟨t, h', rows', ys', os', ep, I', ht, cc, nn, ll, hf⟩ := idle_place I (shape := r7) npl (by omega) ⟨D.b7.1, by have := D.b7.2; omega⟩
    clear D2e
    walk_at "go"
    refine call_passed W3 _ fun pa H4 W4 x4 lp n4 n5 => ?_
    have D4e := x4 _ _ D3e
    clear D3e
    walk_at "go"
    refine listLT_i (xs := pl.map V.int) (.inl (x4 _ _ hl3)) fun lb H5 hlb x5 hl5 => ?_
    have W5 := W4.ex x5
    walk_at "go"
    refine call_place W5 (lp.ex x5) n4 n5 hz.le (.inl hl5) (W4.newP hlb).1 (W4.newP hlb).2 ep fun H6 i' ei W6 k6 => ?_
    have D6e := k6 _ hda3 _ (x5 _ _ D4e)
    have hba6 := k6 _ hbF3 _ (x5 _ _ (x4 _ _ hba3))
    have hl6 := k6 _ (List.mem_cons_self ..) _ (x5 _ _ (x4 _ _ hl3))
    clear D4e hl5 hba2
    walk_at "go"
    refine call_laid W6 hz.le (.inl hl6) (List.mem_cons_self ..) ep fun H7 mi' em W7 k7 => ?_
    have D7e := k7 _ hda3 _ D6e
    have hba7 : H7 ba = some (.lst [.int h.cap, .int h.nur]) := k7 _ hbF3 _ hba6
    clear D6e hba6 hl6
    walk_at "go"
    refine ⟨_, rfl, ?_⟩
    walk_at "go"
    refine ite_b (fun d => by cases d) (fun _ => ?_)
    walk_at "go"
    refine ite_b (fun d => by simp at d) (fun _ => ?_)
    walk_at "go"
    dsimp only at W7 ⊢
    have hz' : Rz rows' := hz.of ll
    have hnr : rows'.length ≤ 1000 := Nat.le_trans hz'.1 (by decide)
    rw [← cc, ← nn] at hba7
    rw [← ei, ← em]
    refine ⟨i', mi', ra, rl, ma, ml, la :: F, h', rows', ys', os', ba, rfl, W7, I', hba7, hz', fun sp sa sb sc sd H8 full found olds youngs np x8 hp ha hb hc hd p1 p2 p3 p4 p5 p6 => ?_⟩
    have W8 := W7.ex x8
    have D8e := x8 _ _ D7e
    have hba8 : H8 ba = some (il [h'.cap, h'.nur]) := x8 _ _ hba7
    have kpa : Kp F H H8 := (((((x1.trans x2).trans x3).trans x4).trans x5).kp.trans (k6.tail.trans k7.tail)).trans x8.kp
    have htb := (vv_ref I' ht)
    clear D7e hba7
    have fin : ∀ H9 h2, Wd C i' mi' ra rl ma ml (la :: F) h2 h2 rows' rows' H9 → Idle h2 ys' os' rows' → h2.cap = h'.cap → h2.nur = h'.nur → Kp (la :: F) H8 H9 → W53 C i.p mi.m ra ma ba F H9 ∧ Kp F H H9 := by
      intro H9 h2 W9 I2 k1 k2 kp9
      refine ⟨⟨i', mi', rl, ml, h2, rows', ys', os', ei, em, W9.mono (fun a ha => List.mem_cons_of_mem _ ha) W.fr W.fm, I2, ?_, hbF, hz', by rw [k1, cc]; exact hcap⟩, kpa.trans kp9.tail⟩
      rw [k1, k2]
      exact kp9 _ hbF3 _ hba8
    have rest : (tThen (tIfS (tAnd (tTest (tOp rGt (tVar 6) (tC (.int 0)))) (tTest (tOp rGt (tCB (rLenU K) (tCons (tOp (rIx K) (tVar 10) (tC (.int 1))) tNil)) (tC (.int 0))))) (tDrop (tCallF 6 (phi_l_written K C) (tCons (tVar 0) (tCons (tVar 1) (tCons (tVar 2) (tCons (tVar 9) (tCons (tOp rRest (tCB rIntU (tCons (tOp (rIx K) (tVar 5) (tC (.int 3))) tNil)) (tVar 6)) (tCons (tOp rTimes (tC (.int 2)) (tOp (rIx K) (tOp (rIx K) (tVar 10) (tC (.int 1))) (tOp rRest (tCB rIntU (tCons (tOp (rIx K) (tVar 5) (tC (.int 2))) tNil)) (tCB (rLenU K) (tCons (tOp (rIx K) (tVar 10) (tC (.int 1))) tNil))))) tNil)))))))) tNext) (tThen (tDrop (tCallF 3 (phi_l_put K C) (tCons (tVar 3) (tCons (tOp rRest (tCB rIntU (tCons (tOp (rIx K) (tVar 5) (tC (.int 1))) tNil)) (tCallF 1 (phi_l_places K C) (tCons (tVar 4) tNil))) (tCons (tOp rTimes (tC (.int 2)) (tVar 9)) tNil))))) (tThen (tDrop (tCallF 3 (phi_l_put K C) (tCons (tVar 4) (tCons (tOp rRest (tCB rIntU (tCons (tOp (rIx K) (tVar 5) (tC (.int 1))) tNil)) (tCallF 1 (phi_l_places K C) (tCons (tVar 4) tNil))) (tCons (tOp rTimes (tC (.int 2)) (tVar 9)) tNil))))) (tRet (tC (.bl true))))))
        { nx := fun _ H' => Q .non H', rt := Q } [some (.ref i'.p), some (.ref mi'.m), some (.ref ba), some (.ref ra), some (.ref ma), some (.ref da), some (.int v), some (.ref la), some (.int t), some (.int t), some (.ref sp), none] H8 := by
      refine cut_i (fun σ' H' => ∃ (h2 : HS), σ' = [some (.ref i'.p), some (.ref mi'.m), some (.ref ba), some (.ref ra), some (.ref ma), some (.ref da), some (.int v), some (.ref la), some (.int t), some (.int t), some (.ref sp), none] ∧
        Wd C i' mi' ra rl ma ml (la :: F) h2 h2 rows' rows' H' ∧ Idle h2 ys' os' rows' ∧ h2.cap = h'.cap ∧ h2.nur = h'.nur ∧ Kp (la :: F) H8 H') ?_ ?_
      · walk_at "go"
        refine ite_b (fun d1 => ?_) (fun d1 => ?_)
        · have c1 := of_decide_eq_true d1
          walk_at "go"
          refine lenI_i hb ?_
          walk_at "go"
          refine ite_b (fun d2 => ?_) (fun d2 => ?_)
          · have c2 := of_decide_eq_true d2
            obtain ⟨y, hy1, hy2⟩ := pick_in r2 (l := found) (by omega)
            have hyb := vv_ref I' (p2 y hy2)
            have hm := mod_in (x := r3) (n := pl.length) (by omega)
            rw [lpl] at hm
            obtain ⟨h2, e2, I2, k1, k2, k3, k4⟩ := idle_write I' ht hf (p := r3 % v) hm.1 (by have := D.b7; omega) hyb.2
            walk_at "go"
            refine lenI_i hb ?_
            walk_at "go"
            refine ⟨i', mi', ra, rl, ma, ml, la :: F, h', h2, rows', rows', ba, t, _, 2 * y, t, 2 * y, rfl, W8, hba8, hbF3, idle_res I' t, htb.1, idle_resW I' _, hyb.2.1, hyb.2.1, e2, fun H9 W9 kp9 => ?_⟩
            exact ⟨h2, rfl, W9, I2, k1, k2, kp9⟩
          · walk_at "go"
            exact ⟨h', rfl, W8, I', rfl, rfl, Kp.refl _ _⟩
        · walk_at "go"
          exact ⟨h', rfl, W8, I', rfl, rfl, Kp.refl _ _⟩
      · rintro σ' H9 ⟨h2, rfl, W9, I2, k1, k2, kp9⟩
        have D9e := kp9 _ hda3 _ D8e
        have hba9 : H9 ba = some (.lst [.int h'.cap, .int h'.nur]) := kp9 _ hbF3 _ hba8
        clear D8e
        have vt := (vv_ref I2 ht).2
        walk_at "go"
        refine call_places W9 hnr fun H10 x10 => ?_
        have hs := hz'.2.2
        generalize hS : ((rows'.map fun r => (r.length : Int)).sum) = S at *
        have W10 := W9.ex x10
        have D10e := x10 _ _ D9e
        clear D9e
        walk_at "go"
        refine call_putR W10 _ _ hz'.le fun H11 W11 kp11 => ?_
        have D11e := kp11 _ hda3 _ D10e
        clear D10e
        walk_at "go"
        refine call_places W11 hnr fun H12 x12 => ?_
        have W12 := W11.ex x12
        have D12e := x12 _ _ D11e
        clear D11e
        rw [hS]
        walk_at "go"
        refine call_putM W12 _ _ hz'.le fun H13 W13 kp13 => ?_
        walk_at "go"
        have kk := (((kp9.trans x10.kp).trans kp11).trans x12.kp).trans kp13
        refine q H13 ⟨i', mi', rl, ml, h2, _, ys', os', ei, em, W13.mono (fun a ha => List.mem_cons_of_mem _ ha) W.fr W.fm, I2.rows (putM_all vt _ _ I2.row), ?_, hbF, hz'.of (putM_len _ _ _), by rw [k1, cc]; exact hcap⟩ (kpa.trans kk.tail)
        rw [k1, k2]
        exact kk _ hbF3 _ hba8
    walk_at "go"
    refine lenI_i ha ?_
    walk_at "go"
    refine ite_b (fun d1 => ?_) (fun d1 => ?_)
    · have c1 := of_decide_eq_true d1
      walk_at "go"
      refine ite_b (fun d2 => ?_) (fun d2 => ?_)
      · walk_at "go"
        refine lenI_i ha ?_
        obtain ⟨n0, hn0, hm0⟩ := pick_in r1 (l := full) (by omega)
        refine rest_i (by omega) ?_
        refine ixI_i ha hn0 ?_
        refine cut_i (fun σ' H' => ∃ (n : Int), σ' = [some (.ref i'.p), some (.ref mi'.m), some (.ref ba), some (.ref ra), some (.ref ma), some (.ref da), some (.int v), some (.ref la), some (.int t), some (.int t), some (.ref sp), some (.int n)] ∧ n ∈ full ∧ H' = H8) ?_ ?_
        · walk_at "go"
          refine lenI_i hc ?_
          walk_at "go"
          refine ite_b (fun d3 => ?_) (fun d3 => ?_)
          · have c3 := of_decide_eq_true d3
            obtain ⟨n1, hn1, hm1⟩ := pick_in r1 (l := olds) (by omega)
            walk_at "go"
            refine lenI_i hc ?_
            walk_at "go"
            exact ⟨n1, rfl, p3 n1 hm1, rfl⟩
          · walk_at "go"
            exact ⟨n0, rfl, hm0, rfl⟩
        · rintro σ' H9 ⟨n, rfl, hnf, rfl⟩
          obtain ⟨hnb, f, hf', hf64⟩ := p1 n hnf
          have hnb1 := (vv_ref I' hnb).1
          obtain ⟨hM, hW, _, _, _, _, _⟩ := id W8.mem
          unfold shotV at hM
          have hpl : 0 < f / 64 := by omega
          have hm0 : 0 ≤ r3 % (f / 64) := Int.emod_nonneg _ (by omega)
          have hm1 : r3 % (f / 64) < f / 64 := Int.emod_lt_of_pos _ hpl
          obtain ⟨h2, e2, I2, k1, k2, k3, k4⟩ := idle_write I' hnb hf' hm0 hm1 htb.2
          walk_at "go"
          refine ⟨i', mi', ra, rl, ma, ml, la :: F, h', h2, rows', rows', ba, n, _, 2 * t, n, 2 * t, rfl, W8, hba8, hbF3, idle_res I' n, hnb1, idle_resW I' _, htb.2.1, htb.2.1, e2, fun H10 W10 kp10 => ?_⟩
          walk_at "go"
          obtain ⟨z1, z2⟩ := fin H10 h2 W10 I2 k1 k2 kp10
          exact q H10 z1 z2
      · exact next_i rest
    · exact next_i rest
end
end Qb

set_option Elab.async false
set_option linter.all false
set_option maxRecDepth 100000
set_option maxHeartbeats 4000000
/-! Law10: the rest of k54. -/
namespace Qb
open PySem L2
local macro_rules | `(tactic| walk_at "lk") => `(tactic| first
  | assumption
  | exact upd_same
  | (refine upd_get ?_ ?_; walk_at "ne"; walk_at "lk")
  | (refine Ex.get (by assumption) ?_; walk_at "lk")
  | (refine Fr.get (by assumption) ?_ ?_; walk_at "lk"; walk_at "nin"))
local macro_rules | `(tactic| walk_at "ne") => `(tactic| first
  | assumption
  | (refine Ne.symm ?_; assumption)
  | (refine ne_of_none ?_ (by assumption); walk_at "lk")
  | (refine Ne.symm (ne_of_none ?_ (by assumption)); walk_at "lk"))
local macro_rules | `(tactic| walk_at "nin") => `(tactic| first
  | assumption
  | (simp only [List.mem_cons, List.not_mem_nil, or_false, not_or]; (try refine ⟨?_, ?_⟩) <;> (repeat' refine ⟨?_, ?_⟩) <;> walk_at "ne"))
local macro_rules | `(tactic| walk_at "lt") => `(tactic| first
  | assumption
  | exact Or.inl (by walk_at "lk")
  | exact Or.inr (by walk_at "lk")
  | (refine LT.ex ?_ (by assumption); walk_at "lt"))
local macro_rules | `(tactic| walk_at "mem") => `(tactic| first
  | exact Or.inl (by simp [Ids.all])
  | exact Or.inr (by assumption)
  | (refine Fr.fresh ?_ (by assumption); walk_at "fr"))
local macro_rules | `(tactic| walk_at "fr") => `(tactic| first
  | exact Fr.refl _ _
  | assumption
  | exact Ex.fr (by assumption)
  | (refine Fr.upd ?_ ?_; walk_at "fr"; walk_at "mem")
  | (refine Fr.ex ?_ (by assumption); walk_at "fr")
  | (refine Fr.trans ?_ (by assumption) ?_; walk_at "fr"; (intro a ha; exact Or.inl ha)))
local macro_rules | `(tactic| walk_at "rep") => `(tactic| first
  | assumption
  | exact ⟨by walk_at "lk", by walk_at "lk", by walk_at "lk", by walk_at "lk", by walk_at "ne", by walk_at "ne", by walk_at "ne"⟩)
local macro_rules | `(tactic| walk_at "n") => `(tactic| first | decide | omega)
local macro_rules | `(tactic| walk_at "go") => `(tactic| repeat (with_reducible first
  | (apply var_i; (k_dflt rfl))
  | apply c_i
  | apply op_i
  | apply fld_i
  | apply un_i
  | apply ru_i
  | apply cons_i
  | apply nil_i
  | apply call_i
  | apply plus_i
  | apply minus_i
  | apply i0_i
  | apply eq_i
  | apply ne_i
  | apply bl_i
  | apply test_i
  | apply tb_i
  | apply seq_i
  | apply asg_i
  | apply ret_i
  | apply if_i
  | apply iteT
  | apply iteF
  | apply next_i
  | apply drop_i
  | apply retN_i
  | apply and_i
  | apply or_i
  | apply not_i
  | apply andv_i
  | apply orv_i
  | apply notv_i
  | apply notvr_i
  | apply cb_i
  | apply tup_i
  | apply lst_i
  | apply chain_i
  | apply slice_i
  | apply part_i
  | apply part_int
  | apply nopart_i
  | apply bm_i
  | apply sfld_i
  | apply asub_i
  | apply aslice_i
  | apply atup2_i
  | apply break_i
  | apply eqMarking_i
  | apply eqIdle_i
  | apply eqMoving_i
  | apply neIdle_i
  | apply intU_i
  | apply intU_b
  | apply i1_i
  | apply i2_i
  | apply i3_i
  | (apply times_i; (walk_at "n"))
  | (apply times_j; (walk_at "n"))
  | (apply floor_i; (walk_at "n"); (walk_at "n"))
  | (apply rest_i; (walk_at "n"))
  | (apply len_i; (k_dflt rfl))
  | (apply f_words; assumption; (walk_at "lk"))
  | (apply f_nur; assumption; (walk_at "lk"))
  | (apply f_cap; assumption; (walk_at "lk"))
  | (apply f_yt; assumption; (walk_at "lk"))
  | (apply f_base; assumption; (walk_at "lk"))
  | (apply f_top; assumption; (walk_at "lk"))
  | (apply f_ob; assumption; (walk_at "lk"))
  | (apply f_ot; assumption; (walk_at "lk"))
  | (apply f_ph; assumption; (walk_at "lk"))
  | (apply f_cur; assumption; (walk_at "lk"))
  | (apply f_gr; assumption; (walk_at "lk"))
  | (apply f_rem; assumption; (walk_at "lk"))
  | (apply f_pend; assumption; (walk_at "lk"))
  | (apply ixI_i; (walk_at "lk"); assumption)
  | (apply ixL_i; (walk_at "lk"); (k_dflt rfl))
  | (apply ixLT_i; assumption; (k_dflt rfl))
  | (apply ixLTI_i; assumption; assumption)
  | (apply pow_i; (walk_at "n"); (walk_at "n"))
  | apply minU_i
  | apply maxU_i
  | (apply setI_i; (walk_at "lk"); assumption)
  | (apply tyl_i; (walk_at "lk"))
  | (apply appendI_i; (walk_at "lk"); (walk_at "n"))
  | (apply inLate_t; (walk_at "lk"))
  | (apply inLate_l; (walk_at "lk"))
  | (apply notLate_t; (walk_at "lk"))))
theorem neShot_i {K : PySem.W.Frag} {H : Hp} {Q : VK} {h : HS} {t u : Addr} (h1 : Shot h t H) (h2 : Shot h u H) (q : Q (.bl false) H) : rNeU K (.ref t) (.ref u) H Q := by
  have sh : PySem.SeqAt.shaped (shotD h) = true := by
    unfold PySem.SeqAt.shaped
    rw [shot_lay, decide_eq_true (Nat.le_trans (shot_dep h) (by decide))]
    rfl
  refine .inr ⟨shotD h, shotD h, dp_shot h1, dp_shot h2, sh, sh, ?_⟩
  rw [PySem.SeqAt.eqv_refl _ (shot_lay h)]
  exact q
section
variable {K : PySem.W.Frag} {C : Addr}
theorem pure_l_done (T : HC K C) : PureOk (t_l_done K C) ["_law_heap", "_law_mem", "_law_bounds_here", "_law_rows", "_law_mine", "_law_row", "_law_well", "_law_words", "_law_at"] 6 (phi_l_done K C) := by
  intro vs H Q hl h
  delta t_l_done
  obtain ⟨p, m, ba, ra, ma, da, F, r0, r1, r2, r3, r4, r5, r6, r7, r8, r9, rfl, W, hda, D, q⟩ := h
  have De := D.e
  have fin : ∀ H1 v7, W53 C p m ra ma ba F H1 → Kp F H H1 → (tRet (tAndV (tVar 6) (tAndV (tOp (rEqU K) (tVar 3) (tVar 4)) (tOp (rEqU K) (tCallF 1 (phi_snapshot K C) (tCons (tVar 0) tNil)) (tCallF 1 (phi_l_shot K C) (tCons (tVar 1) tNil)))))) { nx := fun _ H' => Q .non H', rt := Q } [some (.ref p), some (.ref m), some (.ref ba), some (.ref ra), some (.ref ma), some (.ref da), some (.bl true), v7, none] H1 := by
    intro H1 v7 W0 kq
    obtain ⟨i, mi, rl, ml, h, rows, ys, os, rfl, rfl, W, I, hba, hbF, hz, hcap⟩ := id W0
    walk_at "go"
    refine andvr_i (fun _ => ?_) (fun d => by cases d)
    walk_at "go"
    refine eqRows_i W.hra W.hma W.hrl W.hml ?_
    refine andvr_i (fun _ => ?_) (fun d => by cases d)
    walk_at "go"
    refine ⟨i, h, rfl, W.rep, fun H2 t ht x2 s2 => ?_⟩
    have W2 := W.ex x2
    walk_at "go"
    refine ⟨mi, h, rfl, W2.mem, fun H3 u hu x3 s3 => ?_⟩
    walk_at "go"
    refine eqShot_i (s2.ex x3) s3 ?_
    exact q _ ((W0.ex x2).ex x3) (kq.trans (x2.trans x3).kp)
  refine seq_i ?_
  walk_at "go"
  refine ite_b (fun d => ?_) (fun d => ?_)
  · walk_at "go"
    refine ⟨p, m, ba, ra, ma, da, F, r0, r1, r2, r3, r4, r5, r6, r7, r8, r9, rfl, W, hda, D, fun H1 W1 kq => ?_⟩
    exact fin H1 _ W1 kq
  · walk_at "go"
    refine ite_b (fun d => ?_) (fun d => ?_)
    · walk_at "go"
      refine ⟨p, m, ba, ra, ma, da, F, r0, r1, r2, r3, r4, r5, r6, r7, r8, r9, rfl, W, hda, D, fun H1 W1 kq => ?_⟩
      exact fin H1 _ W1 kq
    · walk_at "go"
      refine ite_b (fun d => ?_) (fun d => ?_)
      · obtain ⟨i, mi, rl, ml, h, rows, ys, os, rfl, rfl, W, I, hba, hbF, hz, hcap⟩ := W
        walk_at "go"
        refine ⟨r5, rfl, D.b5.1, by have := D.b5.2; omega, fun v H1 hv x1 => ?_⟩
        walk_at "go"
        refine lstr_i (by simp) fun wa H2 hwa x2 hw2 => ?_
        have hw2' : H2 wa = some (il [0, v, 0]) := hw2
        have X2 := x1.trans x2
        have W2 := W.ex X2
        have hba2 := X2 _ _ hba
        refine compN2_i (fun fb H3 => ∃ found : List Int, Ex H2 H3 ∧ H3 fb = some (il found) ∧ (∀ x ∈ found, x ∈ ys ∨ x ∈ os) ∧ found.length ≤ 100000) ?_ ?_
        · intro Q' q'
          walk_at "go"
          refine ⟨i, mi, ra, rl, ma, ml, F, h, rows, ys, os, ba, rfl, W2, I, hba2, hz, fun sp sa sb sc sd H3 full found olds youngs np x3 hp ha hb hc hd p1 p2 p3 p4 p5 p6 => ?_⟩
          walk_at "go"
          exact q' _ _ ⟨found, x3, hb, p2, p6⟩
        · rintro fb H3 ⟨found, x3, hf3, hin, hfl⟩
          refine compPL (xs := found.map V.int) (fun k y => ∃ n : Int, y = .int n ∧ VV ys (· ∈ os) [] n) hf3 (by rw [List.length_map]; omega) ?_ ?_
          · rintro k x H4 x4 hx Q' q'
            obtain ⟨n, rfl, hn⟩ := int_of hx
            walk_at "go"
            exact q' _ _ (Ex.refl _) ⟨_, rfl, (vv_ref I (hin n (List.mem_of_getElem? hn))).2⟩
          · intro fc H4 l hfc x4 hl4 ll hG
            obtain ⟨ws, rfl, hws⟩ := ints_out (P := fun n => VV ys (· ∈ os) [] n) (l := l) fun y hy => by
              obtain ⟨k, hk⟩ := List.mem_iff_getElem?.mp hy
              exact hG k y hk
            rw [List.length_map, List.length_map] at ll
            have hl4' : H4 fc = some (il ws) := hl4
            refine catI_i ((x3.trans x4) _ _ hw2') hl4' (by simp; omega) fun wb H5 hwb x5 hw5 => ?_
            have hall : ∀ w ∈ [0, v, 0] ++ ws, VV ys (· ∈ os) [] w := fun w hw => by
              rcases List.mem_append.mp hw with z | z
              · simp only [List.mem_cons, List.not_mem_nil, or_false] at z
                rcases z with y | y | y
                · rw [y]; exact noref_vv (.inl rfl)
                · rw [y]; exact noref_vv (.inr hv)
                · rw [y]; exact noref_vv (.inl rfl)
              · exact hws w z
            have hlen : 0 < ([0, v, 0] ++ ws).length := by simp
            generalize [0, v, 0] ++ ws = words at *
            have X5 := (X2.trans x3).trans (x4.trans x5)
            have W5 := (W.ex ((X2.trans x3).trans x4)).add x5 hwb (by rw [hw5]; exact fun z => nomatch z)
            have hda' : da ∈ wb :: F := List.mem_cons_of_mem _ hda
            have De5 := X5 _ _ De
            have hs := hz.2.2
            have hnr : rows.length ≤ 1000 := Nat.le_trans hz.1 (by decide)
            have hmin : 0 < (if (5 : Int) < (words.length : Int) then (5 : Int) else (words.length : Int)) ∧ (if (5 : Int) < (words.length : Int) then (5 : Int) else (words.length : Int)) ≤ words.length := by
              split <;> omega
            have hn0 := Int.emod_nonneg r2 (b := (if (5 : Int) < (words.length : Int) then (5 : Int) else (words.length : Int))) (by omega)
            have hn1 := Int.emod_lt_of_pos r2 hmin.1
            obtain ⟨w, hw⟩ := rd_of_lt (l := words) (i := r2 % (if (5 : Int) < (words.length : Int) then (5 : Int) else (words.length : Int))) hn0 (by omega)
            have vw := hall w (List.mem_of_getElem? (rd_some.mp hw).2)
            clear De
            walk_at "go"
            refine call_places W5 hnr fun H6 x6 => ?_
            generalize hS : ((rows.map fun r => (r.length : Int)).sum) = S at *
            have W6 := W5.ex x6
            have De6 := x6 _ _ De5
            have hw6 := x6 _ _ hw5
            clear De5
            walk_at "go"
            refine lenI_i hw6 ?_
            walk_at "go"
            refine call_putR W6 _ _ hz.le fun H7 W7 kp7 => ?_
            have De7 := kp7 _ hda' _ De6
            have hw7 := kp7 _ (List.mem_cons_self ..) _ hw6
            clear De6 hw6
            walk_at "go"
            refine call_places W7 hnr fun H8 x8 => ?_
            have W8 := W7.ex x8
            have De8 := x8 _ _ De7
            have hw8 := x8 _ _ hw7
            clear De7 hw7
            rw [hS]
            walk_at "go"
            refine lenI_i hw8 ?_
            walk_at "go"
            refine call_putM W8 _ _ hz.le fun H9 W9 kp9 => ?_
            have kk : Kp F H H9 := (((X5.kp.trans x6.kp).trans kp7.tail).trans x8.kp).trans kp9.tail
            exact fin H9 _ ⟨i, mi, rl, ml, h, _, ys, os, rfl, rfl, W9.mono (fun a ha => List.mem_cons_of_mem _ ha) W.fr W.fm, I.rows (putM_all vw _ _ I.row), kk _ hbF _ hba, hbF, hz.of (putM_len _ _ _), hcap⟩ kk
      · walk_at "go"
        refine ⟨p, m, ba, ra, ma, F, r9, rfl, W, fun H1 W1 kq => ?_⟩
        exact fin H1 _ W1 kq
theorem Wd.bare {i : Ids} {mi : MIds} {ra ma e : Addr} {rl ml F : List Addr} {h hm : HS} {rows mine : List (List Int)} {H : Hp} (W : Wd C i mi ra rl ma ml F h hm rows mine H) (he : H e = some (.lst [])) (hF : e ∈ F) : Wd C i mi e [] e [] F h hm [] [] H :=
  ⟨W.rep, W.mem, he, True.intro, he, True.intro, W.fs, W.ab, (fun a _ z => by cases z), (fun a _ z => by cases z), W.af, (fun a _ z => by cases z), (fun a _ z => by cases z), W.bf, (fun a z => by cases z), (fun a z => by cases z), (fun a z => by cases z), List.nodup_nil, List.nodup_nil, hF, hF⟩
theorem Wd.reM {i : Ids} {mi : MIds} {ra ma e : Addr} {rl F : List Addr} {h hm : HS} {rows : List (List Int)} {H : Hp} (W : Wd C i mi ra rl ma [] F h hm rows [] H) (he : H e = some (.lst [])) (hF : e ∈ F) : Wd C i mi ra rl e [] F h hm rows [] H :=
  ⟨W.rep, W.mem, W.hra, W.hrl, he, W.hml, W.fs, W.ab, W.ar, W.am, W.af, W.br, W.bm, W.bf, W.rm, W.rf, W.mf, W.ndr, W.ndm, W.fr, hF⟩
theorem pure_l_rootless (T : HC K C) : PureOk (t_l_rootless K C) ["_law_heap", "_law_mem", "_law_bounds_here", "_law_row", "_law_none", "_law_many", "_law_k", "_law_payload_here", "_law_at", "_law_due"] 4 (phi_l_rootless K C) := by
  intro vs H Q hl h
  delta t_l_rootless
  obtain ⟨p, m, ba, ra, ma, da, F, r0, r1, r2, r3, r4, r5, r6, r7, r8, r9, rfl, W, hda, D, q⟩ := h
  obtain ⟨i, mi, rl, ml, h, rows, ys, os, rfl, rfl, W, I, hba, hbF, hz, hcap⟩ := W
  have De := D.e
  have I0 : Idle h ys os [] := I.rows (fun r hr => by cases hr)
  obtain ⟨h1, rows1, os1, ec, I1, y1, c1, n1, u1, l1⟩ := idle_collect I0
  have er1 : rows1 = [] := by
    have := congrArg List.length l1
    rw [List.length_map, List.length_map] at this
    exact List.length_eq_zero_iff.mp this
  subst er1
  walk_at "go"
  refine lstr_i (by simp) fun e0 H1 ne0 x1 he0 => ?_
  have W1 := (W.add x1 ne0 (by rw [he0]; exact fun z => nomatch z)).bare he0 (by simp)
  have De1 := x1 _ _ De
  have hba1 := x1 _ _ hba
  clear De hba
  walk_at "go"
  refine ⟨e0, [], r9, rfl, he0, fun na H2 hn x2 hl2 => ?_⟩
  have W2 := W1.add x2 hn (by rcases hl2 with z | z <;> (rw [z]; exact fun y => nomatch y))
  have De2 := x2 _ _ De1
  have hba2 : H2 ba = some (.lst [.int h.cap, .int h.nur]) := x2 _ _ hba1
  clear De1 hba1
  walk_at "go"
  refine lstr_i (by simp) fun e1 H3 ne1 x3 he1 => ?_
  have W3 := (W2.add x3 ne1 (by rw [he1]; exact fun z => nomatch z)).reM he1 (by simp)
  have De3 := x3 _ _ De2
  have hba3 := x3 _ _ hba2
  have hl3 := hl2.ex x3
  clear De2 hba2
  have hF : ∀ a ∈ na :: e0 :: F, a ∈ e1 :: na :: e0 :: F := fun a ha => List.mem_cons_of_mem _ ha
  have mda : da ∈ na :: e0 :: F := by simp [hda]
  have mba : ba ∈ na :: e0 :: F := by simp [hbF]
  have mna : na ∈ na :: e0 :: F := by simp
  have me0 : e0 ∈ na :: e0 :: F := by simp
  walk_at "go"
  refine call_emptied W3 (fun r hr => by cases hr) ec fun H4 mi' em W4 k4 => ?_
  dsimp only at W4
  have De4 := k4 _ (hF _ mda) _ De3
  have hba4 := k4 _ (hF _ mba) _ hba3
  have hl4 := k4.lt (hF _ mna) hl3
  clear De3 hba3
  rw [← em]
  walk_at "go"
  refine call_collect W4 (rows := []) (rl := []) hl4 (fun z => W4.af na z (hF _ mna)) (by simp) (fun r hr => by cases hr) ec fun H5 i' ei W5 k5 => ?_
  dsimp only at W5
  have De5 := k5 _ (hF _ mda) _ De4
  have hba5 := k5 _ (hF _ mba) _ hba4
  have hl5 := k5.lt (hF _ mna) hl4
  clear De4 hba4
  rw [← ei]
  walk_at "go"
  refine isNotNone_i ?_
  walk_at "go"
  refine ite_b (fun d => by simp at d) (fun _ => ?_)
  walk_at "go"
  refine ⟨i', h1, rfl, W5.rep, fun H6 t nt x6 s6 => ?_⟩
  have W6 := W5.ex x6
  have De6 := x6 _ _ De5
  have hba6 := x6 _ _ hba5
  have hl6 := hl5.ex x6
  clear De5 hba5
  walk_at "go"
  refine ⟨mi', h1, rfl, W6.mem, fun H7 u nu x7 s7 => ?_⟩
  have W7 := W6.ex x7
  have De7 := x7 _ _ De6
  have hba7 := x7 _ _ hba6
  have hl7 := hl6.ex x7
  clear De6 hba6
  walk_at "go"
  refine neShot_i (s6.ex x7) s7 ?_
  walk_at "go"
  refine ⟨r6, r4, rfl, D.b6.1, D.b6.2, D.b4.1, D.b4.2, fun v H8 v0 v1 x8 => ?_⟩
  have W8 := ((W7.ex x8).reM (x8 _ _ W7.hra) (hF _ me0)).mono hF me0 me0
  have De8 := x8 _ _ De7
  have hba8 : H8 ba = some (.lst [.int h1.cap, .int h1.nur]) := by rw [c1, n1]; exact x8 _ _ hba7
  have hl8 := hl7.ex x8
  clear De7 hba7
  refine seq_i ?_
  refine forR1_i (j := 4) (fun k σ' H' => ∃ (i : Ids) (mi : MIds) (h : HS) (ys os : List Int) (v6 v7 v8 v9 : Option V), i.p = i'.p ∧ mi.m = mi'.m ∧ σ' = [some (.ref i'.p), some (.ref mi'.m), some (.ref ba), some (.ref da), some (.ref na), some (.int v), v6, v7, v8, v9] ∧
    Wd C i mi e0 [] e0 [] (na :: e0 :: F) h h [] [] H' ∧ Idle h ys os [] ∧ D54 H' da r0 r1 r2 r3 r4 r5 r6 r7 r8 r9 ∧ H' ba = some (.lst [.int h.cap, .int h.nur]) ∧ LT H' na []) ?ha (by omega) (by omega) ⟨i', mi', h1, [], os1, _, _, _, _, rfl, rfl, rfl, W8, I1, ⟨De8, D.b0, D.b1, D.b2, D.b3, D.b4, D.b5, D.b6, D.b7, D.b8, D.b9⟩, hba8, hl8⟩ ?hs ?hd
  case ha =>
    intro Q' q'
    walk_at "go"
    exact q'
  case hd =>
    rintro σ' H' ⟨i, mi, h, ys, os, v6, v7, v8, v9, e1, e2, rfl, W, I, D, hb, hl⟩
    walk_at "go"
    exact q H' ⟨i, mi, h, ys, os, e1.trans ei, e2.trans em, W.rep, W.mem, I⟩
  case hs =>
    clear W8 De8 hba8 hl8 W7 W6 W5 W4 W3 W2 W1
    rintro k σ' H' hk ⟨i2, mi2, h, ys, os, v6, v7, v8, v9, e2, e3, rfl, W, I, D, hb, hl⟩
    have De := D.e
    refine name_i ?_
    rw [← e2, ← e3]
    walk_at "go"
    refine call_used W fun H1 x1 => ?_
    have W1 := W.ex x1
    have De1 := x1 _ _ De
    have hb1 := x1 _ _ hb
    have hl1 := hl.ex x1
    clear De
    walk_at "go"
    refine ite_b (fun d => ?_) (fun d => ?_)
    · walk_at "go"
      exact q H1 ⟨i2, mi2, h, ys, os, e2.trans ei, e3.trans em, W1.rep, W1.mem, I⟩
    · have c := of_decide_eq_false d
      walk_at "go"
      refine ⟨v, r4, r5, rfl, v0, by omega, D.b4.1, D.b4.2, D.b5.1, D.b5.2, fun la H2 pl hla x2 hl2 lpl npl => ?_⟩
      have W2 := W1.add x2 hla (by rw [hl2]; exact fun z => nomatch z)
      have De2 := x2 _ _ De1
      have hb2 := x2 _ _ hb1
      have hn2 := hl1.ex x2
      obtain ⟨t, h', rows', ys', os', ep, I', ht, cc, nn, ll, hf⟩ := idle_place I (shape := r7) npl (by omega) ⟨D.b7.1, by have := D.b7.2; omega⟩
      have er2 : rows' = [] := by
        have := congrArg List.length ll
        rw [List.length_map, List.length_map] at this
        exact List.length_eq_zero_iff.mp this
      subst er2
      clear De1 hb1
      walk_at "go"
      refine listLT_i (xs := pl.map V.int) (.inl hl2) fun lb H3 hlb x3 hl3 => ?_
      have W3 := W2.ex x3
      have De3 := x3 _ _ De2
      clear De2
      walk_at "go"
      refine call_place W3 (rl := []) (hn2.ex x3) (fun z => W3.af na z (by simp)) (by simp) (fun r hr => by cases hr) (.inl hl3) (W2.newP hlb).1 (by simp) ep fun H4 i4 ei4 W4 k4 => ?_
      dsimp only at W4
      have De4 := k4 _ (by simp [hda]) _ De3
      have hb4 := k4 _ (by simp [hbF]) _ (x3 _ _ hb2)
      have hl4 := k4 _ (List.mem_cons_self ..) _ (x3 _ _ hl2)
      have hn4 := k4.lt (by simp) (hn2.ex x3)
      clear De3 hl3 hb2
      walk_at "go"
      refine lstr_i (by simp) fun e1 H5 ne1 x5 he1 => ?_
      have W5 := (W4.add x5 ne1 (by rw [he1]; exact fun z => nomatch z)).reM he1 (by simp)
      have De5 := x5 _ _ De4
      clear De4
      walk_at "go"
      refine call_laid W5 (fun r hr => by cases hr) (.inl (x5 _ _ hl4)) (by simp) ep fun H6 mi6 em6 W6 k6 => ?_
      dsimp only at W6
      have De6 := k6 _ (by simp [hda]) _ De5
      have hb6 := k6 _ (by simp [hbF]) _ (x5 _ _ hb4)
      have hn6 := k6.lt (by simp) (hn4.ex x5)
      clear De5 hb4
      walk_at "go"
      refine ⟨_, rfl, ?_⟩
      walk_at "go"
      refine ite_b (fun d => by cases d) (fun _ => ?_)
      walk_at "go"
      refine ite_b (fun d => by simp at d) (fun _ => ?_)
      rw [← ei4, ← em6]
      walk_at "go"
      refine ⟨i4, h', rfl, W6.rep, fun H7 t7 nt7 x7 s7 => ?_⟩
      have W7 := W6.ex x7
      walk_at "go"
      refine ⟨mi6, h', rfl, W7.mem, fun H8 u8 nu8 x8 s8 => ?_⟩
      have W8 := W7.ex x8
      have X8 := x7.trans x8
      have hn8 := hn6.ex X8
      walk_at "go"
      refine neShot_i (s7.ex x8) s8 ?_
      walk_at "go"
      refine lenLT_i hn8 ?_
      walk_at "go"
      refine ite_b (fun d => by simp at d) (fun _ => ?_)
      refine next_i ⟨i4, mi6, h', ys', os', _, _, _, _, rfl, rfl, rfl, (W8.reM W8.hra (by simp)).mono (fun a ha => List.mem_cons_of_mem _ (List.mem_cons_of_mem _ ha)) (by simp) (by simp), I', ⟨X8 _ _ De6, D.b0, D.b1, D.b2, D.b3, D.b4, D.b5, D.b6, D.b7, D.b8, D.b9⟩, by rw [cc, nn]; exact X8 _ _ hb6, hn8⟩
end
end Qb

set_option Elab.async false
set_option linter.all false
set_option maxRecDepth 100000
set_option maxHeartbeats 4000000
/-! Kit: what the laws' own beginnings and ends need. -/
namespace Qb
open PySem L2
section
variable {K : PySem.W.Frag} {C : Addr}
theorem il_in {l : List Int} {n : Int} (h0 : 0 ≤ n) (h1 : n < (l.length : Int)) : ∃ v, rd l n = some v ∧ v ∈ l := by
  obtain ⟨v, hv⟩ := rd_of_lt h0 h1
  exact ⟨v, hv, List.mem_of_getElem? (rd_some.mp hv).2⟩
theorem Dg.all {B : Int} : ∀ {a b : List Int}, Dg a b → (∀ s ∈ a, s ≤ B) → ∀ v ∈ b, 0 ≤ v ∧ v < B
  | [], [], _, _, v, hv => by cases hv
  | s :: ss, w :: ws, h, k, v, hv => by
    rcases List.mem_cons.mp hv with z | z
    · rw [z]
      have := k s (by simp)
      have := h.1
      omega
    · exact Dg.all h.2 (fun s' h' => k s' (List.mem_cons_of_mem _ h')) v z
theorem sum_nn : ∀ {l : List Int}, (∀ v ∈ l, 0 ≤ v) → 0 ≤ l.sum
  | [], _ => Int.le_refl _
  | x :: l, h => by
    have h1 := h x (by simp)
    have h2 := sum_nn (l := l) fun v hv => h v (List.mem_cons_of_mem _ hv)
    rw [List.sum_cons]
    omega
theorem sq_keep {H : Hp} {s : Addr} {xs : List V} (h : SqL K H s xs) : ∃ S : List Addr, (∀ a ∈ S, H a ≠ none) ∧ ∀ H1, Kp S H H1 → SqL K H1 s xs := by
  rcases h with h | h
  · refine ⟨[s], fun a ha => ?_, fun H1 k => ?_⟩
    · rw [List.mem_singleton.mp ha]
      rcases h with z | ⟨d, z⟩
      · rw [z]; exact fun w => nomatch w
      · rw [z]; exact fun w => nomatch w
    · rcases h with z | ⟨d, z⟩
      · exact .inl (.inl (k s (by simp) _ z))
      · exact .inl (.inr ⟨d, k s (by simp) _ z⟩)
  · exact ⟨[], (fun a ha => by cases ha), fun H1 _ => .inr h⟩
theorem idle_new {cap nur : Int} (c0 : 0 ≤ cap) (n0 : 0 ≤ nur) (hb : 1 + nur + 2 * cap ≤ 90000) (rows : List (List Int)) (hr : ∀ r ∈ rows, ∀ w ∈ r, w = 0) : Idle (newM cap nur) [] [] rows := by
  refine ⟨rfl, n0, c0, .inl ⟨rfl, rfl⟩, rfl, ?_, ?_, ?_, ?_, rfl, rfl, rfl, (fun a ha => by cases ha), (fun a ha => by cases ha), (fun a ha => by cases ha), List.nodup_nil, (fun a ha => by cases ha), (fun a ha => by cases ha), (fun a ha => by cases ha), fun r h w hw => ?_⟩
  · show ((List.replicate _ (0 : Int)).length : Int) = _
    rw [List.length_replicate]
    show ((1 + nur + 2 * cap).toNat : Int) = 1 + nur + 2 * cap
    omega
  · show (List.replicate _ (0 : Int)).length ≤ _
    rw [List.length_replicate]
    omega
  · show (1 : Int) ≤ nur + 1
    omega
  · show 1 - 1 + (nur + 1 - (nur + 1)) ≤ cap
    omega
  · exact noref_vv (.inl (hr r h w hw))
theorem make_i {C : Addr} {n : Nat} {φ : Phi} {t : TA} {σ : St} {H : Hp} {Q : VK} (h : t σ H fun vs H1 => ∀ x dx, H1 x = none → H1 dx = none → dx ≠ x → (vs.length + 1 = n ∧ φ (.ref x :: vs) (upd (upd H1 dx (.own x)) x (.ins C dx [])) (fun v H2 => v = .non ∧ Q (.ref x) H2))) : tMakeF C n φ t σ H Q := h
theorem none_ne {H : Hp} {a b : Addr} (h1 : H a = none) (h2 : H b ≠ none) : a ≠ b := fun z => h2 (z ▸ h1)
theorem Ex.some {H H1 : Hp} {a : Addr} (e : Ex H H1) (h : H a ≠ none) : H1 a ≠ none := by
  cases hx : H a with
  | none => exact absurd hx h
  | some o => rw [e _ _ hx]; exact fun z => nomatch z
/-- the sizes of the rows -/
theorem rz_of {l : List Int} {rows : List (List Int)} (e : rows = l.map fun n => List.replicate n.toNat 0) (h1 : l.length ≤ 100) (h2 : ∀ v ∈ l, 0 ≤ v ∧ v ≤ 1000) (h3 : 0 < l.sum) : Rz rows ∧ ∀ r ∈ rows, ∀ w ∈ r, w = 0 := by
  subst e
  refine ⟨⟨by rw [List.length_map]; exact h1, fun r hr => ?_, ?_⟩, fun r hr w hw => ?_⟩
  · obtain ⟨n, hn, rfl⟩ := List.mem_map.mp hr
    rw [List.length_replicate]
    have := h2 n hn
    omega
  · have : ∀ l : List Int, (∀ v ∈ l, 0 ≤ v ∧ v ≤ 1000) → ((l.map fun n => List.replicate n.toNat (0 : Int)).map fun r => (r.length : Int)).sum = l.sum := by
      intro l
      induction l with
      | nil => intro _; rfl
      | cons x l ih =>
        intro h
        have hx := h x (by simp)
        rw [List.map_cons, List.map_cons, List.sum_cons, List.sum_cons, ih fun v hv => h v (List.mem_cons_of_mem _ hv), List.length_replicate]
        omega
    rw [this l h2]
    exact h3
  · obtain ⟨n, hn, rfl⟩ := List.mem_map.mp hr
    exact List.eq_of_mem_replicate hw
theorem idle_kinds {h : HS} {ys os : List Int} {rows : List (List Int)} (I : Idle h ys os rows) : h.gr.length + h.rem.length + h.words.length ≤ 900000 := by
  have := nodup_le I.rn I.rs
  have k1 := I.to.many
  have k2 := I.used
  have k3 := I.len
  have k4 := I.small
  have k5 := I.nur
  have k6 := I.ty.le
  rw [I.gr]
  simp only [List.length_nil]
  omega
/-- Heap(cap, nur) -/
theorem newHeap_i {t : TA} {σ : St} {H : Hp} {Q : VK} {cap nur : Int} (ht : ∀ Q : List V → Hp → Prop, Q [.int cap, .int nur] H → t σ H Q) (h0 : 0 ≤ nur) (h1 : 0 ≤ cap) (h2 : nur ≤ 100000) (h3 : cap ≤ 100000)
    (k : ∀ i H1, Ex H H1 → (∀ a ∈ i.all, H a = none) → Rep C i (newM cap nur) H1 → Q (.ref i.p) H1) : tMakeF C 3 (phi_Heap_init K C) t σ H Q := by
  refine make_i (ht _ fun x dx nx ndx ne => ?_)
  refine ⟨rfl, x, dx, cap, nur, rfl, upd_same, h0, h1, h2, h3, fun H4 w g r nw ng nr R f => ⟨rfl, ?_⟩⟩
  refine k ⟨x, dx, w, g, r⟩ H4 (fun a o e => ?_) (fun a ha => ?_) R
  · have nax : a ≠ x := fun z => by rw [z, nx] at e; cases e
    have nadx : a ≠ dx := fun z => by rw [z, ndx] at e; cases e
    exact f a o (by rw [upd_ne nax, upd_ne nadx]; exact e) (by simpa using nax)
  · simp only [Ids.all, List.mem_cons, List.not_mem_nil, or_false] at ha
    rcases ha with z | z | z | z
    · rw [z]; exact nx
    · rw [z]; exact upd_back (upd_back nw)
    · rw [z]; exact upd_back (upd_back ng)
    · rw [z]; exact upd_back (upd_back nr)
theorem Rep.kp {i : Ids} {h : HS} {F : List Addr} {H H1 : Hp} (R : Rep C i h H) (k : Kp F H H1) (hF : ∀ a ∈ i.all, a ∈ F) : Rep C i h H1 :=
  ⟨k _ (hF _ (by simp [Ids.all])) _ R.o, k _ (hF _ (by simp [Ids.all])) _ R.w, k _ (hF _ (by simp [Ids.all])) _ R.g, k _ (hF _ (by simp [Ids.all])) _ R.r, R.wg, R.wr, R.gr⟩
/-- [0] * n, a row for each size -/
theorem rowsStep {sl : List Int} (hs : ∀ v ∈ sl, 0 ≤ v ∧ v ≤ 1000) (j : Nat) (σ : St) (Hs : Hp) (k : Nat) (y : V) (hy : (sl.map V.int)[k]? = some y) (hσ : j < σ.length) (Q' : VK) (q' : ∀ H2 p row, Hs p = none → Ex Hs H2 → H2 p = some (il row) → (∃ n : Int, sl[k]? = some n ∧ row = List.replicate n.toNat 0) → Q' (.ref p) H2) :
    (tOp rTimes (tLst (tCons (tC (.int 0)) tNil)) (tVar j)) ((σ.set j none).set j (some y)) Hs Q' := by
  obtain ⟨n, rfl, hn⟩ := int_of hy
  have hb := hs n (List.mem_of_getElem? hn)
  refine op_i (lst_i (cons_i (c_i (nil_i (lstr_i (by simp) fun a7 H7 n7 x7 h7 => ?_)))))
  have h7' : H7 a7 = some (il [0]) := h7
  refine var_i (v := .int n) (by rw [List.getElem?_set_self (by rw [List.length_set]; exact hσ)]) ?_
  refine repI_i h7' hb.1 (by omega) (by decide) fun p H8 n8 x8 h8 => ?_
  refine q' H8 p _ (x7.back n8) (x7.trans x8) h8 ⟨n, hn, ?_⟩
  have : ∀ k : Nat, (List.replicate k [(0 : Int)]).flatten = List.replicate k 0 := by
    intro k
    induction k with
    | zero => rfl
    | succ k ih => rw [List.replicate_succ, List.flatten_cons, ih, List.replicate_succ]; rfl
  rw [this]
theorem rowsEq {sl : List Int} {rows : List (List Int)} (hl : rows.length = (sl.map V.int).length) (hF : ∀ (k : Nat) (row : List Int), rows[k]? = some row → ∃ n : Int, sl[k]? = some n ∧ row = List.replicate n.toNat 0) : rows = sl.map fun n : Int => List.replicate n.toNat 0 := by
  rw [List.length_map] at hl
  apply List.ext_getElem?
  intro k
  rw [List.getElem?_map]
  by_cases c : k < rows.length
  · obtain ⟨n, e1, e2⟩ := hF k _ (List.getElem?_eq_getElem c)
    rw [List.getElem?_eq_getElem c, e1, e2]
    rfl
  · rw [List.getElem?_eq_none (by omega), List.getElem?_eq_none (by omega)]
    rfl
/-- the two memories and rows that a law begins with: each thing is new when it is made -/
theorem wd_new {i : Ids} {mi : MIds} {ra ma : Addr} {rl ml F : List Addr} {h : HS} {rows mine : List (List Int)} {H4 H5 H6 H7 H8 : Hp} (iF : ∀ a ∈ i.all, a ∉ F) (R : Rep C i h H4) (x45 : Ex H4 H5) (mN : ∀ a ∈ mi.all, H4 a = none) (M : Mem mi h H5) (x56 : Ex H5 H6)
    (nra : H6 ra = none) (x67 : Ex H6 H7) (hra : H7 ra = some (.lst (rl.map V.ref))) (hrl : RowsAt H7 rl rows) (ndr : rl.Nodup) (nrl : ra ∉ rl) (rlN : ∀ b ∈ rl, H6 b = none)
    (nma : H7 ma = none) (x78 : Ex H7 H8) (hma : H8 ma = some (.lst (ml.map V.ref))) (hml : RowsAt H8 ml mine) (ndm : ml.Nodup) (nml : ma ∉ ml) (mlN : ∀ b ∈ ml, H7 b = none) (hF : ∀ a ∈ F, H4 a ≠ none) : Wd C i mi ra rl ma ml (ra :: ma :: F) h h rows mine H8 := by
  have iS4 : ∀ a ∈ i.all, H4 a ≠ none := R.some
  have mS5 : ∀ a ∈ mi.all, H5 a ≠ none := M.some
  have rS7 : ∀ a ∈ rl, H7 a ≠ none := hrl.some
  have raS7 : H7 ra ≠ none := by rw [hra]; exact fun z => nomatch z
  have dF : ∀ A : List Addr, (∀ a ∈ A, a ≠ ra) → (∀ a ∈ A, a ≠ ma) → (∀ a ∈ A, ∀ b ∈ F, a ≠ b) → Dj A (ra :: ma :: F) := fun A h1 h2 h3 a ha hm => by
    rcases List.mem_cons.mp hm with z | z
    · exact h1 a ha z
    · rcases List.mem_cons.mp z with y | y
      · exact h2 a ha y
      · exact h3 a ha a y rfl
  exact {
    rep := R.ex (((x45.trans x56).trans x67).trans x78)
    mem := M.ex ((x56.trans x67).trans x78)
    hra := x78 _ _ hra
    hrl := hrl.ex x78
    hma := hma
    hml := hml
    fs := fun a ha => by
      rcases List.mem_cons.mp ha with z | z
      · rw [z]; exact x78.some raS7
      · rcases List.mem_cons.mp z with y | y
        · rw [y, hma]; exact fun z => nomatch z
        · exact (((x45.trans x56).trans x67).trans x78).some (hF a y)
    ab := fun a ha hb => none_ne (mN a hb) (iS4 a ha) rfl
    ar := fun a ha hb => none_ne (rlN a hb) ((x45.trans x56).some (iS4 a ha)) rfl
    am := fun a ha hb => none_ne (mlN a hb) (((x45.trans x56).trans x67).some (iS4 a ha)) rfl
    af := dF _ (fun a ha => (none_ne nra ((x45.trans x56).some (iS4 a ha))).symm) (fun a ha => (none_ne nma (((x45.trans x56).trans x67).some (iS4 a ha))).symm) (fun a ha b hb z => iF a ha (z ▸ hb))
    br := fun a ha hb => none_ne (rlN a hb) (x56.some (mS5 a ha)) rfl
    bm := fun a ha hb => none_ne (mlN a hb) ((x56.trans x67).some (mS5 a ha)) rfl
    bf := dF _ (fun a ha => (none_ne nra (x56.some (mS5 a ha))).symm) (fun a ha => (none_ne nma ((x56.trans x67).some (mS5 a ha))).symm) (fun a ha b hb => none_ne (mN a ha) (hF b hb))
    rm := fun a ha hb => none_ne (mlN a hb) (rS7 a ha) rfl
    rf := dF _ (fun a ha z => nrl (z ▸ ha)) (fun a ha => (none_ne nma (rS7 a ha)).symm) (fun a ha b hb => none_ne (rlN a ha) ((x45.trans x56).some (hF b hb)))
    mf := dF _ (fun a ha => none_ne (mlN a ha) raS7) (fun a ha z => nml (z ▸ ha)) (fun a ha b hb => none_ne (mlN a ha) (((x45.trans x56).trans x67).some (hF b hb)))
    ndr := ndr
    ndm := ndm
    fr := by simp
    fm := by simp }
end
end Qb

set_option Elab.async false
set_option linter.all false
set_option maxRecDepth 100000
set_option maxHeartbeats 4000000
/-! Law11: k54's law itself. -/
namespace Qb
open PySem L2
local macro_rules | `(tactic| walk_at "lk") => `(tactic| first
  | assumption
  | exact upd_same
  | (refine upd_get ?_ ?_; walk_at "ne"; walk_at "lk")
  | (refine Ex.get (by assumption) ?_; walk_at "lk")
  | (refine Fr.get (by assumption) ?_ ?_; walk_at "lk"; walk_at "nin"))
local macro_rules | `(tactic| walk_at "ne") => `(tactic| first
  | assumption
  | (refine Ne.symm ?_; assumption)
  | (refine ne_of_none ?_ (by assumption); walk_at "lk")
  | (refine Ne.symm (ne_of_none ?_ (by assumption)); walk_at "lk"))
local macro_rules | `(tactic| walk_at "nin") => `(tactic| first
  | assumption
  | (simp only [List.mem_cons, List.not_mem_nil, or_false, not_or]; (try refine ⟨?_, ?_⟩) <;> (repeat' refine ⟨?_, ?_⟩) <;> walk_at "ne"))
local macro_rules | `(tactic| walk_at "lt") => `(tactic| first
  | assumption
  | exact Or.inl (by walk_at "lk")
  | exact Or.inr (by walk_at "lk")
  | (refine LT.ex ?_ (by assumption); walk_at "lt"))
local macro_rules | `(tactic| walk_at "mem") => `(tactic| first
  | exact Or.inl (by simp [Ids.all])
  | exact Or.inr (by assumption)
  | (refine Fr.fresh ?_ (by assumption); walk_at "fr"))
local macro_rules | `(tactic| walk_at "fr") => `(tactic| first
  | exact Fr.refl _ _
  | assumption
  | exact Ex.fr (by assumption)
  | (refine Fr.upd ?_ ?_; walk_at "fr"; walk_at "mem")
  | (refine Fr.ex ?_ (by assumption); walk_at "fr")
  | (refine Fr.trans ?_ (by assumption) ?_; walk_at "fr"; (intro a ha; exact Or.inl ha)))
local macro_rules | `(tactic| walk_at "rep") => `(tactic| first
  | assumption
  | exact ⟨by walk_at "lk", by walk_at "lk", by walk_at "lk", by walk_at "lk", by walk_at "ne", by walk_at "ne", by walk_at "ne"⟩)
local macro_rules | `(tactic| walk_at "n") => `(tactic| first | decide | omega)
local macro_rules | `(tactic| walk_at "go") => `(tactic| repeat (with_reducible first
  | (apply var_i; (k_dflt rfl))
  | apply c_i
  | apply op_i
  | apply fld_i
  | apply un_i
  | apply ru_i
  | apply cons_i
  | apply nil_i
  | apply call_i
  | apply plus_i
  | apply minus_i
  | apply i0_i
  | apply eq_i
  | apply ne_i
  | apply bl_i
  | apply test_i
  | apply tb_i
  | apply seq_i
  | apply asg_i
  | apply ret_i
  | apply if_i
  | apply iteT
  | apply iteF
  | apply next_i
  | apply drop_i
  | apply retN_i
  | apply and_i
  | apply or_i
  | apply not_i
  | apply andv_i
  | apply orv_i
  | apply notv_i
  | apply notvr_i
  | apply cb_i
  | apply tup_i
  | apply lst_i
  | apply chain_i
  | apply slice_i
  | apply part_i
  | apply part_int
  | apply nopart_i
  | apply bm_i
  | apply sfld_i
  | apply asub_i
  | apply aslice_i
  | apply atup2_i
  | apply break_i
  | apply eqMarking_i
  | apply eqIdle_i
  | apply eqMoving_i
  | apply neIdle_i
  | apply intU_i
  | apply intU_b
  | apply i1_i
  | apply i2_i
  | apply i3_i
  | (apply times_i; (walk_at "n"))
  | (apply times_j; (walk_at "n"))
  | (apply floor_i; (walk_at "n"); (walk_at "n"))
  | (apply rest_i; (walk_at "n"))
  | (apply len_i; (k_dflt rfl))
  | (apply f_words; assumption; (walk_at "lk"))
  | (apply f_nur; assumption; (walk_at "lk"))
  | (apply f_cap; assumption; (walk_at "lk"))
  | (apply f_yt; assumption; (walk_at "lk"))
  | (apply f_base; assumption; (walk_at "lk"))
  | (apply f_top; assumption; (walk_at "lk"))
  | (apply f_ob; assumption; (walk_at "lk"))
  | (apply f_ot; assumption; (walk_at "lk"))
  | (apply f_ph; assumption; (walk_at "lk"))
  | (apply f_cur; assumption; (walk_at "lk"))
  | (apply f_gr; assumption; (walk_at "lk"))
  | (apply f_rem; assumption; (walk_at "lk"))
  | (apply f_pend; assumption; (walk_at "lk"))
  | (apply ixI_i; (walk_at "lk"); assumption)
  | (apply ixL_i; (walk_at "lk"); (k_dflt rfl))
  | (apply ixLT_i; assumption; (k_dflt rfl))
  | (apply ixLTI_i; assumption; assumption)
  | (apply pow_i; (walk_at "n"); (walk_at "n"))
  | apply minU_i
  | apply maxU_i
  | (apply setI_i; (walk_at "lk"); assumption)
  | (apply tyl_i; (walk_at "lk"))
  | (apply appendI_i; (walk_at "lk"); (walk_at "n"))
  | (apply inLate_t; (walk_at "lk"))
  | (apply inLate_l; (walk_at "lk"))
  | (apply notLate_t; (walk_at "lk"))))
section
variable {K : PySem.W.Frag} {C : Addr}
/-- a row of sizes -/
def Sz54 (l : List Int) : Prop := l.length ≤ 100 ∧ (∀ v ∈ l, 0 ≤ v ∧ v ≤ 1000) ∧ 0 < l.sum
theorem pure_law (T : HC K C) : PureOk (t_law K C) ["_law_script", "_law_head", "_law_bounds_here", "_law_heap", "_law_other", "_law_mem", "_law_sizes", "_law_rows", "_law_mine", "_law_digits_here", "_law_k", "_law_row", "_law_number", "_law_many"] 1 (phi_law K C) := by
  intro vs H Q hl h
  delta t_law
  obtain ⟨s, ns, rfl, hs, hl63, q⟩ := h
  obtain ⟨S, hS, kS⟩ := sq_keep hs
  refine seq_i ?_
  walk_at "go"
  refine ⟨s, ns, 0, rfl, hs, hl63, by decide, by decide, fun v => ?_⟩
  walk_at "go"
  refine lstr_i (by simp) fun a0 H0 n0 x0 h0 => ?_
  walk_at "go"
  refine ⟨v, a0, [16, 12, 1080, 6, 30, 2], rfl, h0, (by intro s hs; simp at hs; omega), by decide, fun ha H1 row n1 x1 h1 hd => ?_⟩
  match row, h1, hd with
  | [d0, d1, d2, d3, d4, d5], h1, hd =>
  obtain ⟨b0, b1, b2, b3, b4, b5, _⟩ := hd
  have X1 := x0.trans x1
  refine seq_i (asg_i ?_)
  refine compN2_i (fun p H2 => ∃ cap nur, Ex H1 H2 ∧ H2 p = some (il [cap, nur]) ∧ 0 ≤ nur ∧ nur ≤ cap ∧ cap ≤ 107) ?_ ?_
  · intro Q' q'
    walk_at "go"
    exact ⟨ha, d0, d1, d2, [d3, d4, d5], rfl, h1, b0.1, b0.2, b1.1, b1.2, b2.1, b2.2, fun p H2 cap nur n2 x2 h2 c0 c1 c2 => q' p H2 ⟨cap, nur, x2, h2, c0, c1, c2⟩⟩
  · rintro p H2 ⟨cap, nur, x2, h2, c0, c1, c2⟩
    have hd2 := x2 _ _ h1
    obtain ⟨m, hm, hm14⟩ : ∃ m, rd [1, 4] d5 = some m ∧ (m = 1 ∨ m = 4) := by
      have : d5 = 0 ∨ d5 = 1 := by omega
      rcases this with z | z
      · rw [z]; exact ⟨1, rfl, .inl rfl⟩
      · rw [z]; exact ⟨4, rfl, .inr rfl⟩
    have e5 : rd [d0, d1, d2, d3, d4, d5] (5 : Int) = some d5 := rfl
    refine compPL (xs := [.int cap, .int nur]) (fun k y => y = .int ((if k = 0 then cap else nur) * m)) h2 (by simp) ?_ ?_
    · rintro k x H3 x3 hx Q' q'
      have hk : k = 0 ∧ x = .int cap ∨ k = 1 ∧ x = .int nur := by
        match k, hx with
        | 0, hx => exact .inl ⟨rfl, (Option.some.inj hx).symm⟩
        | 1, hx => exact .inr ⟨rfl, (Option.some.inj hx).symm⟩
        | k + 2, hx => simp at hx
      have hd3 := x3 _ _ hd2
      clear hd2
      obtain ⟨w, rfl, ew, bw⟩ : ∃ w, x = .int w ∧ (if k = 0 then cap else nur) = w ∧ (0 ≤ w ∧ w ≤ 107) := by
        rcases hk with ⟨rfl, rfl⟩ | ⟨rfl, rfl⟩
        · exact ⟨cap, rfl, rfl, by omega⟩
        · exact ⟨nur, rfl, rfl, by omega⟩
      rw [ew] at q'
      walk_at "go"
      refine lstr_i (by simp) fun a4 H4 n4 x4 h4 => ?_
      have h4' : H4 a4 = some (il [1, 4]) := h4
      have hd4 := x4 _ _ hd3
      clear hd3 h4
      walk_at "go"
      exact q' _ _ x4 rfl
    · intro ba H3 l nb x3 hb hlen hG
      have baS3 : H3 ba ≠ none := by rw [hb]; exact fun z => nomatch z
      obtain ⟨bc, bn, rfl, B0, B1, B2⟩ : ∃ bc bn : Int, l = [.int bc, .int bn] ∧ 0 ≤ bn ∧ bn ≤ bc ∧ bc ≤ 428 := by
        match l, hlen with
        | [y0, y1], _ =>
          have g0 := hG 0 y0 rfl
          have g1 := hG 1 y1 rfl
          rw [if_pos rfl] at g0
          rw [if_neg (by decide)] at g1
          subst g0 g1
          refine ⟨cap * m, nur * m, rfl, ?_⟩
          rcases hm14 with z | z
          · subst z; omega
          · subst z; omega
      have hd3 := x3 _ _ hd2
      have X3 := (X1.trans x2).trans x3
      have S3 : ∀ a ∈ S, H3 a ≠ none := fun a ha => X3.some (hS a ha)
      clear hd2 h1 h2
      refine seq_i (asg_i (newHeap_i (cap := bc) (nur := bn) ?_ B0 (by omega) (by omega) (by omega) fun i H4 x4 iN R => ?_))
      · intro Q' q'
        walk_at "go"
        exact q'
      have hb4 := x4 _ _ hb
      have hd4 : H4 ha = some (il [d0, d1, d2, d3, d4, d5]) := x4 _ _ hd3
      clear hb hd3
      refine seq_i (asg_i (newHeap_i (cap := 9) (nur := 4) ?_ (by decide) (by decide) (by decide) (by decide) fun io H5 x5 ioN Ro => ?_))
      · intro Q' q'
        walk_at "go"
        exact q'
      have hb5 := x5 _ _ hb4
      have hd5 := x5 _ _ hd4
      have e3 : rd [d0, d1, d2, d3, d4, d5] (3 : Int) = some d3 := rfl
      have e4 : rd [d0, d1, d2, d3, d4, d5] (4 : Int) = some d4 := rfl
      clear hb4 hd4
      walk_at "go"
      refine ⟨bc, bn, rfl, B0, by omega, by omega, by omega, fun H6 mi mN x6 M6 => ?_⟩
      have hd6 := x6 _ _ hd5
      clear hd5
      refine seq_i (asg_i ?_)
      walk_at "go"
      refine lstr_i (by simp) fun z0 H10 n10 x10 h10 => ?_
      walk_at "go"
      refine lstr_i (by simp) fun z1 H11 n11 x11 h11 => ?_
      walk_at "go"
      refine lstr_i (by simp) fun z2 H12 n12 x12 h12 => ?_
      walk_at "go"
      refine lstr_i (by simp) fun z3 H13 n13 x13 h13 => ?_
      walk_at "go"
      refine lstr_i (by simp) fun z4 H14 n14 x14 h14 => ?_
      walk_at "go"
      refine lstr_i (by simp) fun z5 H15 n15 x15 h15 => ?_
      walk_at "go"
      refine lstr_i (by simp) fun z6 H16 n16 x16 h16 => ?_
      have X16 := (((((x10.trans x11).trans x12).trans x13).trans x14).trans x15).trans x16
      have hd16 := X16 _ _ hd6
      clear hd6
      obtain ⟨sa, sl, esa, hsl, s1, s2, s3⟩ : ∃ (sa : Addr) (sl : List Int), atI [V.ref z0, .ref z1, .ref z2, .ref z3, .ref z4, .ref z5] d3 = some (.ref sa) ∧ H16 sa = some (il sl) ∧ Sz54 sl := by
        have hk : d3 = 0 ∨ d3 = 1 ∨ d3 = 2 ∨ d3 = 3 ∨ d3 = 4 ∨ d3 = 5 := by omega
        rcases hk with z | z | z | z | z | z
        · rw [z]; exact ⟨z0, [2, 0, 3], rfl, ((((((x11.trans x12).trans x13).trans x14).trans x15).trans x16) _ _ h10), by decide, by decide, by decide⟩
        · rw [z]; exact ⟨z1, [1, 6, 5, 0], rfl, (((((x12.trans x13).trans x14).trans x15).trans x16) _ _ h11), by decide, by decide, by decide⟩
        · rw [z]; exact ⟨z2, [0, 12, 0], rfl, ((((x13.trans x14).trans x15).trans x16) _ _ h12), by decide, by decide, by decide⟩
        · rw [z]; exact ⟨z3, [9, 0, 7], rfl, (((x14.trans x15).trans x16) _ _ h13), by decide, by decide, by decide⟩
        · rw [z]; exact ⟨z4, [2, 0, 20, 1], rfl, ((x15.trans x16) _ _ h14), by decide, by decide, by decide⟩
        · rw [z]; exact ⟨z5, [5], rfl, (x16 _ _ h15), by decide, by decide, by decide⟩
      walk_at "go"
      refine ixL_i h16 esa ?_
      have h6s : H16 sa = some (.lst (sl.map V.int)) := hsl
      refine seq_i (asg_i ?_)
      refine compRows_i (fun k row => ∃ n : Int, sl[k]? = some n ∧ row = List.replicate n.toNat 0) (a := sa) (xs := sl.map V.int) ?_ (.inl h6s) (by rw [List.length_map]; omega) (fun k y Hs xs hy Q' q' => rowsStep s2 13 _ Hs k y hy (by show 13 < 14; decide) Q' q') ?_
      · intro Q' q'
        walk_at "go"
        exact q'
      intro ra H7 rl rows nra x7 hra hl7 hF7 hrl ndr nrl rlN
      refine seq_i (asg_i ?_)
      refine compRows_i (fun k row => ∃ n : Int, sl[k]? = some n ∧ row = List.replicate n.toNat 0) (a := sa) (xs := sl.map V.int) ?_ (.inl (x7 _ _ h6s)) (by rw [List.length_map]; omega) (fun k y Hs xs hy Q' q' => rowsStep s2 13 _ Hs k y hy (by show 13 < 14; decide) Q' q') ?_
      · intro Q' q'
        walk_at "go"
        exact q'
      intro ma H8 ml mine nma x8 hma hl8 hF8 hml ndm nml mlN
      have er := rowsEq hl7 hF7
      have em := rowsEq hl8 hF8
      rw [← er] at em
      subst em
      obtain ⟨hrz, hr0⟩ := rz_of er s1 s2 s3
      have I0 := idle_new (cap := bc) (nur := bn) (by omega) B0 (by omega) mine hr0
      have X5 := X3.trans (x4.trans x5)
      have F5 : ∀ a ∈ ba :: (io.all ++ S), H5 a ≠ none := fun a ha => by
        rcases List.mem_cons.mp ha with z | z
        · rw [z]; exact (x4.trans x5).some baS3
        · rcases List.mem_append.mp z with y | y
          · exact Ro.some a y
          · exact (x4.trans x5).some (S3 a y)
      have Wn := wd_new (i := i) (mi := mi) (F := ba :: (io.all ++ S)) (fun a ha hm => by
          rcases List.mem_cons.mp hm with z | z
          · exact none_ne (iN a ha) baS3 z
          · rcases List.mem_append.mp z with y | y
            · exact R.some a ha (ioN a y)
            · exact none_ne (iN a ha) (S3 a y) rfl) (R.ex x5) x6 mN M6 X16 nra x7 hra hrl ndr nrl rlN nma x8 hma hml ndm nml mlN F5
      have X58 := ((x6.trans X16).trans x7).trans x8
      have W : W53 C i.p mi.m ra ma ba (ra :: ma :: ba :: (io.all ++ S)) H8 := ⟨i, mi, rl, ml, newM bc bn, mine, [], [], rfl, rfl, Wn, I0, X58 _ _ hb5, by simp, hrz, by show bc ≤ 500; omega⟩
      have hd8 := (x7.trans x8) _ _ hd16
      have Ro8 := Ro.ex X58
      refine seq_i (asg_i ?_)
      walk_at "go"
      refine lstr_i (by simp) fun dg H9 ndg x9 hdg => ?_
      have hdg' : H9 dg = some (il sz54) := hdg
      have W9 := W.add x9 ndg (by rw [hdg]; exact fun z => nomatch z)
      have Ro9 := Ro8.ex x9
      have hd9 := x9 _ _ hd8
      have kp9 : Kp S H H9 := ((X5.trans X58).trans x9).kp
      generalize hFF : dg :: ra :: ma :: ba :: (io.all ++ S) = FF at *
      have mS : ∀ a ∈ S, a ∈ FF := fun a ha => by rw [← hFF]; simp [ha]
      have mo : ∀ a ∈ io.all, a ∈ FF := fun a ha => by rw [← hFF]; simp [ha]
      have mdg : dg ∈ FF := by rw [← hFF]; simp
      have mba : ba ∈ FF := by rw [← hFF]; simp
      have mra : ra ∈ FF := by rw [← hFF]; simp
      have mma : ma ∈ FF := by rw [← hFF]; simp
      have kpS : ∀ H', Kp FF H9 H' → Kp S H H' := fun H' k => kp9.trans fun a ha o e => k a (mS a ha) o e
      have szs : Szs sz54 := by
        intro s hs
        simp [sz54] at hs
        omega
      refine seq_i ?_
      refine forR1_i (j := 24 + d4) (fun k σ' H' => ∃ (v10 v11 : Option V), σ' = [some (.ref s), some (.ref ha), some (.ref ba), some (.ref i.p), some (.ref io.p), some (.ref mi.m), some (.ref sa), some (.ref ra), some (.ref ma), some (.ref dg), v10, v11, none, none] ∧ W53 C i.p mi.m ra ma ba FF H' ∧ Kp FF H9 H') ?qa (by omega) (by omega) ⟨_, _, rfl, W9, Kp.refl _ _⟩ ?qb ?qc
      case qa =>
        intro Q' q'
        walk_at "go"
        exact q'
      case qb =>
        rintro k σ' H' hk ⟨v10, v11, rfl, W', kp'⟩
        refine name_i ?_
        walk_at "go"
        refine ⟨s, ns, 1 + k, rfl, kS H' (kpS H' kp'), hl63, by omega, by omega, fun v => ?_⟩
        walk_at "go"
        refine ⟨v, dg, sz54, rfl, kp' _ mdg _ hdg', szs, by decide, fun da H10 row n10 x10 h10 hd10 => ?_⟩
        obtain ⟨r0, r1, r2, r3, r4, r5, r6, r7, r8, r9, rfl, D⟩ := d54_of h10 hd10
        have Wa := W'.add x10 n10 (by rw [h10]; exact fun z => nomatch z)
        walk_at "go"
        refine ⟨i.p, mi.m, ba, ra, ma, da, _, r0, r1, r2, r3, r4, r5, r6, r7, r8, r9, rfl, Wa, by simp, D, fun H11 W11 kp11 => ?_⟩
        have kpb : Kp FF H9 H11 := (kp'.trans x10.kp).trans kp11.tail
        walk_at "go"
        refine ite_b (fun d => by cases d) (fun _ => ?_)
        walk_at "go"
        refine ⟨io, newM 9 4, rfl, Ro9.kp kpb mo, fun H12 t nt x12 s12 => ?_⟩
        walk_at "go"
        refine ⟨9, 4, rfl, by decide, by decide, by decide, by decide, fun H13 mj mjN x13 M13 => ?_⟩
        walk_at "go"
        refine ⟨mj, newM 9 4, rfl, M13, fun H14 u nu x14 s14 => ?_⟩
        walk_at "go"
        refine neShot_i (s12.ex (x13.trans x14)) s14 ?_
        walk_at "go"
        have X14 := (x12.trans x13).trans x14
        exact ⟨_, _, rfl, (W11.mono mba mra mma).ex X14, kpb.trans X14.kp⟩
      case qc =>
        rintro σ' H' ⟨v10, v11, rfl, W', kp'⟩
        walk_at "go"
        refine ⟨s, ns, 55, rfl, kS H' (kpS H' kp'), hl63, by decide, by decide, fun v => ?_⟩
        walk_at "go"
        refine ⟨v, dg, sz54, rfl, kp' _ mdg _ hdg', szs, by decide, fun da H10 row n10 x10 h10 hd10 => ?_⟩
        obtain ⟨r0, r1, r2, r3, r4, r5, r6, r7, r8, r9, rfl, D⟩ := d54_of h10 hd10
        have Wa := W'.add x10 n10 (by rw [h10]; exact fun z => nomatch z)
        have De := D.e
        have fin : ∀ H' v10, D54 H' da r0 r1 r2 r3 r4 r5 r6 r7 r8 r9 → W53 C i.p mi.m ra ma ba (da :: FF) H' → (tRet (tAndV (tCallF 4 (phi_l_rootless K C) (tCons (tVar 3) (tCons (tVar 5) (tCons (tVar 2) (tCons (tVar 11) tNil))))) (tCallF 1 (phi_l_kinds K C) (tCons (tCallF 1 (phi_snapshot K C) (tCons (tVar 3) tNil)) tNil)))) { nx := fun _ H' => Q .non H', rt := Q }
            [some (.ref s), some (.ref ha), some (.ref ba), some (.ref i.p), some (.ref io.p), some (.ref mi.m), some (.ref sa), some (.ref ra), some (.ref ma), some (.ref dg), v10, some (.ref da), none, none] H' := by
          intro H' v10 D' W'
          walk_at "go"
          refine ⟨i.p, mi.m, ba, ra, ma, da, da :: FF, r0, r1, r2, r3, r4, r5, r6, r7, r8, r9, rfl, W', by simp, D', fun H1 Wx => ?_⟩
          obtain ⟨i3, mi3, h3, ys3, os3, e1, e2, R3, M3, I3⟩ := Wx
          refine andvr_i (fun _ => ?_) (fun d => by cases d)
          rw [← e1]
          walk_at "go"
          refine ⟨i3, h3, rfl, R3, fun H2 t ht x2 s2 => ?_⟩
          walk_at "go"
          exact ⟨t, h3, rfl, s2, idle_kinds I3, fun H3 x3 => q H3⟩
        walk_at "go"
        refine ite_b (fun d1 => ?_) (fun d1 => ?_)
        · walk_at "go"
          refine lstr_i (by simp) fun la H12 n12 x12 h12 => ?_
          have De12 := x12 _ _ De
          have h12' : H12 la = some (.lst [.int 23]) := h12
          walk_at "go"
          refine slL_i (lo := some 1) (hi := none) De12 (ys := [.int r1, .int r2, .int r3, .int r4, .int r5, .int r6, .int r7, .int r8, .int r9]) (by rfl) fun lb H13 n13 x13 h13 => ?_
          refine catL_i (x13 _ _ h12') h13 (by simp) fun lc H14 n14 x14 h14 => ?_
          have X14 := (x12.trans x13).trans x14
          have Wb := ((Wa.ex x12).ex x13).add x14 n14 (by rw [h14]; exact fun z => nomatch z)
          have D2 : D54 H14 lc 23 r1 r2 r3 r4 r5 r6 r7 r8 r9 := ⟨h14, by decide, D.b1, D.b2, D.b3, D.b4, D.b5, D.b6, D.b7, D.b8, D.b9⟩
          walk_at "go"
          refine ⟨i.p, mi.m, ba, ra, ma, lc, _, 23, r1, r2, r3, r4, r5, r6, r7, r8, r9, rfl, Wb, by simp, D2, fun H15 W15 kp15 => ?_⟩
          walk_at "go"
          refine ite_b (fun d => by cases d) (fun _ => ?_)
          exact next_i (fin H15 _ (D.mv fun o ho => kp15 da (by simp) o (X14 _ _ ho)) (W15.mono (List.mem_cons_of_mem _ mba) (List.mem_cons_of_mem _ mra) (List.mem_cons_of_mem _ mma)))
        · exact next_i (fin H10 _ D Wa)
end
end Qb

set_option Elab.async false
set_option linter.all false
set_option maxRecDepth 100000
set_option maxHeartbeats 4000000
/-! Ok54: each def keeps its promise. -/
namespace Qb
open PySem PySem.Spec PyProof.Rows L2
def topS (i : Nat) : Stmt := PySem.Challenge.pw_quietbroom_k54_young_remembered.main.body.getD i (.Pass ⟨0, 0, 0, 0⟩)
/-- what the text's names stand for -/
structure Txt (K : PySem.W.Frag) (mg : Str → Option Value) (C : Addr) : Prop where
  hc : HC K C
  mgC : mg "Heap" = some (.ref C)
  mkp : ∀ f, Meth K C "__init__" f → Mk K C f
  b_len : mg "len" = none
  b_int : mg "int" = none
  b_range : mg "range" = none
  b_list : mg "list" = none
  b_tuple : mg "tuple" = none
  b_min : mg "min" = none
  b_max : mg "max" = none
  b_sum : mg "sum" = none
  b_isinstance : mg "isinstance" = none
  b_bool : mg "bool" = none
  b_str : mg "str" = none
  c_WHITE : ∃ t, mg "WHITE" = some (.int 0 t)
  c_GRAY : ∃ t, mg "GRAY" = some (.int 1 t)
  c_BLACK : ∃ t, mg "BLACK" = some (.int 2 t)
  c_NIL : ∃ t, mg "NIL" = some (.int 0 t)
theorem hu_of {k : Nat} {A} (hr : Room k A) : A.units + 1 < cLine := by
  have := hr.units
  omega
theorem GF.mkL {P : Program} {w : World} {K : PySem.W.Frag} {mg : Str → Option Value} {base : Heap} {k : Nat} {x : Str} {ps N : List Str} {φ : Phi} {st : Stmt} {f : Addr} {fd : FuncData} {t : TS} (F : FnP K x st f fd) (S : FnScope N ps (defScope st))
    (hs : ∀ (cdv : Value) (A : Around) (outer : List Env) (s : Shared) (H : Hp) (E : XK), Room k (A.deeper (envOfC x (defScope st) s.heap.objs.size f cdv)) → PSs (cxOf CX0 P w K mg base N x (defScope st) f cdv A outer s H E).nox (defBody st) t)
    (hp : ∀ vs H Q, vs.length = ps.length → φ vs H Q → t { nx := fun _ H' => Q .non H', rt := Q } (start N vs) H) : FnOk P w K mg base CX0 (k + 1) f fd ps (Spn ps.length φ) := by
  refine F.ok S (fun vs H Q E h => h.1) fun cdv A outer s H vs Q E hr h => ⟨t, ?_, hp vs H Q h.1 h.2⟩
  exact PSs.nox (hs cdv A outer s H E hr)
section
variable {P : Program} {w : World} {K : PySem.W.Frag} {mg : Str → Option Value} {base : Heap} {C : Addr}
abbrev s_form_word : Stmt := topS 4
theorem sc_form_word : FnScope ["shape_number", "length"] ["shape_number", "length"] (defScope s_form_word) := ⟨rfl, rfl, rfl, by decide +kernel, rfl, by decide +kernel, by decide +kernel⟩
theorem ok_form_word {L : Nat} (T : Txt K mg C)  {f : Addr} {fd : FuncData} (F : FnP K "form_word" s_form_word f fd) (hm : mg "form_word" = some (.ref f)) : GF P w K mg base (L + 1) "form_word" ["shape_number", "length"] (phi_form_word K C) :=
  GF.mk F hm sc_form_word (F.bindsN (fun _ _ _ _ _ _ us hl => match us, hl with | [_, _], _ => rfl)) (fun cdv A outer s H E hr => (pss_one (ps_ret (pe_op op_plus (pe_op op_times (pe_int) (pv 1)) (pv 0))))) (pure_form_word T.hc)
abbrev s_state_word : Stmt := topS 5
theorem sc_state_word : FnScope ["colour", "remembered", "forward"] ["colour", "remembered", "forward"] (defScope s_state_word) := ⟨rfl, rfl, rfl, by decide +kernel, rfl, by decide +kernel, by decide +kernel⟩
theorem ok_state_word {L : Nat} (T : Txt K mg C)  {f : Addr} {fd : FuncData} (F : FnP K "state_word" s_state_word f fd) (hm : mg "state_word" = some (.ref f)) : GF P w K mg base (L + 1) "state_word" ["colour", "remembered", "forward"] (phi_state_word K C) :=
  GF.mk F hm sc_state_word (F.bindsN (fun _ _ _ _ _ _ us hl => match us, hl with | [_, _, _], _ => rfl)) (fun cdv A outer s H E hr => (pss_one (ps_ret (pe_op op_plus (pe_op op_plus (pe_op op_times (pe_int) (pv 2)) (pe_op op_times (pe_int) (pv 1))) (pv 0))))) (pure_state_word T.hc)
abbrev s_length_of : Stmt := topS 6
theorem sc_length_of : FnScope ["word"] ["word"] (defScope s_length_of) := ⟨rfl, rfl, rfl, by decide +kernel, rfl, by decide +kernel, by decide +kernel⟩
theorem ok_length_of {L : Nat} (T : Txt K mg C)  {f : Addr} {fd : FuncData} (F : FnP K "length_of" s_length_of f fd) (hm : mg "length_of" = some (.ref f)) : GF P w K mg base (L + 1) "length_of" ["word"] (phi_length_of K C) :=
  GF.mk F hm sc_length_of (F.bindsN (fun _ _ _ _ _ _ us hl => match us, hl with | [_], _ => rfl)) (fun cdv A outer s H E hr => (pss_one (ps_ret (pe_op op_floor (pv 0) (pe_int))))) (pure_length_of T.hc)
abbrev s_colour_of : Stmt := topS 7
theorem sc_colour_of : FnScope ["word"] ["word"] (defScope s_colour_of) := ⟨rfl, rfl, rfl, by decide +kernel, rfl, by decide +kernel, by decide +kernel⟩
theorem ok_colour_of {L : Nat} (T : Txt K mg C)  {f : Addr} {fd : FuncData} (F : FnP K "colour_of" s_colour_of f fd) (hm : mg "colour_of" = some (.ref f)) : GF P w K mg base (L + 1) "colour_of" ["word"] (phi_colour_of K C) :=
  GF.mk F hm sc_colour_of (F.bindsN (fun _ _ _ _ _ _ us hl => match us, hl with | [_], _ => rfl)) (fun cdv A outer s H E hr => (pss_one (ps_ret (pe_op op_rest (pv 0) (pe_int))))) (pure_colour_of T.hc)
abbrev s_remembered_of : Stmt := topS 8
theorem sc_remembered_of : FnScope ["word"] ["word"] (defScope s_remembered_of) := ⟨rfl, rfl, rfl, by decide +kernel, rfl, by decide +kernel, by decide +kernel⟩
theorem ok_remembered_of {L : Nat} (T : Txt K mg C)  {f : Addr} {fd : FuncData} (F : FnP K "remembered_of" s_remembered_of f fd) (hm : mg "remembered_of" = some (.ref f)) : GF P w K mg base (L + 1) "remembered_of" ["word"] (phi_remembered_of K C) :=
  GF.mk F hm sc_remembered_of (F.bindsN (fun _ _ _ _ _ _ us hl => match us, hl with | [_], _ => rfl)) (fun cdv A outer s H E hr => (pss_one (ps_ret (pe_op op_rest (pe_op op_floor (pv 0) (pe_int)) (pe_int))))) (pure_remembered_of T.hc)
abbrev s_forward_of : Stmt := topS 9
theorem sc_forward_of : FnScope ["word"] ["word"] (defScope s_forward_of) := ⟨rfl, rfl, rfl, by decide +kernel, rfl, by decide +kernel, by decide +kernel⟩
theorem ok_forward_of {L : Nat} (T : Txt K mg C)  {f : Addr} {fd : FuncData} (F : FnP K "forward_of" s_forward_of f fd) (hm : mg "forward_of" = some (.ref f)) : GF P w K mg base (L + 1) "forward_of" ["word"] (phi_forward_of K C) :=
  GF.mk F hm sc_forward_of (F.bindsN (fun _ _ _ _ _ _ us hl => match us, hl with | [_], _ => rfl)) (fun cdv A outer s H E hr => (pss_one (ps_ret (pe_op op_floor (pv 0) (pe_int))))) (pure_forward_of T.hc)
abbrev s_reference_word : Stmt := topS 12
theorem sc_reference_word : FnScope ["address"] ["address"] (defScope s_reference_word) := ⟨rfl, rfl, rfl, by decide +kernel, rfl, by decide +kernel, by decide +kernel⟩
theorem ok_reference_word {L : Nat} (T : Txt K mg C)  {f : Addr} {fd : FuncData} (F : FnP K "reference_word" s_reference_word f fd) (hm : mg "reference_word" = some (.ref f)) : GF P w K mg base (L + 1) "reference_word" ["address"] (phi_reference_word K C) :=
  GF.mk F hm sc_reference_word (F.bindsN (fun _ _ _ _ _ _ us hl => match us, hl with | [_], _ => rfl)) (fun cdv A outer s H E hr => (pss_one (ps_ret (pe_op op_times (pe_int) (pv 0))))) (pure_reference_word T.hc)
abbrev s_is_reference : Stmt := topS 13
theorem sc_is_reference : FnScope ["word"] ["word"] (defScope s_is_reference) := ⟨rfl, rfl, rfl, by decide +kernel, rfl, by decide +kernel, by decide +kernel⟩
theorem ok_is_reference {L : Nat} (T : Txt K mg C)  {f : Addr} {fd : FuncData} (F : FnP K "is_reference" s_is_reference f fd) (hm : mg "is_reference" = some (.ref f)) : GF P w K mg base (L + 1) "is_reference" ["word"] (phi_is_reference K C) :=
  GF.mk F hm sc_is_reference (F.bindsN (fun _ _ _ _ _ _ us hl => match us, hl with | [_], _ => rfl)) (fun cdv A outer s H E hr => (pss_one (ps_ret (pe_and (pe_cmpR (op_eqU hr.units) (pe_op op_rest (pv 0) (pe_int)) (pe_int) (nomark _)) (pe_one (pe_cmpR (op_neU hr.units) (pv 0) (pe_glob (v := (.int 0)) rfl T.c_NIL.choose_spec ⟨_, rfl⟩) (nomark _))))))) (pure_is_reference T.hc)
abbrev s_address_of : Stmt := topS 14
theorem sc_address_of : FnScope ["word"] ["word"] (defScope s_address_of) := ⟨rfl, rfl, rfl, by decide +kernel, rfl, by decide +kernel, by decide +kernel⟩
theorem ok_address_of {L : Nat} (T : Txt K mg C)  {f : Addr} {fd : FuncData} (F : FnP K "address_of" s_address_of f fd) (hm : mg "address_of" = some (.ref f)) : GF P w K mg base (L + 1) "address_of" ["word"] (phi_address_of K C) :=
  GF.mk F hm sc_address_of (F.bindsN (fun _ _ _ _ _ _ us hl => match us, hl with | [_], _ => rfl)) (fun cdv A outer s H E hr => (pss_one (ps_ret (pe_op op_floor (pv 0) (pe_int))))) (pure_address_of T.hc)
abbrev s_size_of : Stmt := topS 16
theorem sc_size_of : FnScope ["length"] ["length"] (defScope s_size_of) := ⟨rfl, rfl, rfl, by decide +kernel, rfl, by decide +kernel, by decide +kernel⟩
theorem ok_size_of {L : Nat} (T : Txt K mg C)  {f : Addr} {fd : FuncData} (F : FnP K "size_of" s_size_of f fd) (hm : mg "size_of" = some (.ref f)) : GF P w K mg base (L + 1) "size_of" ["length"] (phi_size_of K C) :=
  GF.mk F hm sc_size_of (F.bindsN (fun _ _ _ _ _ _ us hl => match us, hl with | [_], _ => rfl)) (fun cdv A outer s H E hr => (pss_one (ps_ret (pe_op op_plus (pv 0) (pe_int))))) (pure_size_of T.hc)
abbrev s_is_young : Stmt := topS 19
theorem sc_is_young : FnScope ["heap", "address"] ["heap", "address"] (defScope s_is_young) := ⟨rfl, rfl, rfl, by decide +kernel, rfl, by decide +kernel, by decide +kernel⟩
theorem ok_is_young {L : Nat} (T : Txt K mg C)  {f : Addr} {fd : FuncData} (F : FnP K "is_young" s_is_young f fd) (hm : mg "is_young" = some (.ref f)) : GF P w K mg base (L + 1) "is_young" ["heap", "address"] (phi_is_young K C) :=
  GF.mk F hm sc_is_young (F.bindsN (fun _ _ _ _ _ _ us hl => match us, hl with | [_, _], _ => rfl)) (fun cdv A outer s H E hr => (pss_one (ps_ret (pe_chain op_le op_le (pe_int) (pv 1) (pe_fld (pv 0) rfl))))) (pure_is_young T.hc)
abbrev s_block_size : Stmt := topS 20
theorem sc_block_size : FnScope ["heap", "address"] ["heap", "address"] (defScope s_block_size) := ⟨rfl, rfl, rfl, by decide +kernel, rfl, by decide +kernel, by decide +kernel⟩
theorem ok_block_size {L : Nat} (T : Txt K mg C) (g_size_of : GF P w K mg base L "size_of" ["length"] (phi_size_of K C)) (g_length_of : GF P w K mg base L "length_of" ["word"] (phi_length_of K C)) {f : Addr} {fd : FuncData} (F : FnP K "block_size" s_block_size f fd) (hm : mg "block_size" = some (.ref f)) : GF P w K mg base (L + 1) "block_size" ["heap", "address"] (phi_block_size K C) :=
  GF.mk F hm sc_block_size (F.bindsN (fun _ _ _ _ _ _ us hl => match us, hl with | [_, _], _ => rfl)) (fun cdv A outer s H E hr => (pss_one (ps_ret (pe_callG g_size_of hr (by rfl) (pa_cons (pe_callG g_length_of hr (by rfl) (pa_cons (pe_ix ix_seq (pe_fld (pv 0) rfl) (pv 1) (fun _ _ => rfl)) pa_nil)) pa_nil))))) (pure_block_size T.hc)
abbrev s_payload_places : Stmt := topS 21
theorem sc_payload_places : FnScope ["heap", "address"] ["heap", "address"] (defScope s_payload_places) := ⟨rfl, rfl, rfl, by decide +kernel, rfl, by decide +kernel, by decide +kernel⟩
theorem ok_payload_places {L : Nat} (T : Txt K mg C) (g_block_size : GF P w K mg base L "block_size" ["heap", "address"] (phi_block_size K C)) {f : Addr} {fd : FuncData} (F : FnP K "payload_places" s_payload_places f fd) (hm : mg "payload_places" = some (.ref f)) : GF P w K mg base (L + 1) "payload_places" ["heap", "address"] (phi_payload_places K C) :=
  GF.mk F hm sc_payload_places (F.bindsN (fun _ _ _ _ _ _ us hl => match us, hl with | [_, _], _ => rfl)) (fun cdv A outer s H E hr => (pss_one (ps_ret (pe_tup (pa_cons (pe_op op_plus (pv 1) (pe_int)) (pa_cons (pe_op op_plus (pv 1) (pe_callG g_block_size hr (by rfl) (pa_cons (pv 0) (pa_cons (pv 1) pa_nil)))) pa_nil)))))) (pure_payload_places T.hc)
abbrev s_snapshot : Stmt := topS 22
theorem sc_snapshot : FnScope ["heap"] ["heap"] (defScope s_snapshot) := ⟨rfl, rfl, rfl, by decide +kernel, rfl, by decide +kernel, by decide +kernel⟩
theorem ok_snapshot {L : Nat} (T : Txt K mg C)  {f : Addr} {fd : FuncData} (F : FnP K "snapshot" s_snapshot f fd) (hm : mg "snapshot" = some (.ref f)) : GF P w K mg base (L + 1) "snapshot" ["heap"] (phi_snapshot K C) :=
  GF.mk F hm sc_snapshot (F.bindsN (fun _ _ _ _ _ _ us hl => match us, hl with | [_], _ => rfl)) (fun cdv A outer s H E hr => (pss_one (ps_ret (pe_tup (pa_cons (pe_fld (pv 0) rfl) (pa_cons (pe_fld (pv 0) rfl) (pa_cons (pe_fld (pv 0) rfl) (pa_cons (pe_fld (pv 0) rfl) (pa_cons (pe_fld (pv 0) rfl) (pa_cons (pe_fld (pv 0) rfl) (pa_cons (pe_fld (pv 0) rfl) (pa_cons (pe_callTy cb_tuple rfl T.b_tuple (by decide +kernel) (pa_cons (pe_fld (pv 0) rfl) pa_nil)) (pa_cons (pe_callTy cb_tuple rfl T.b_tuple (by decide +kernel) (pa_cons (pe_fld (pv 0) rfl) pa_nil)) (pa_cons (pe_fld (pv 0) rfl) (pa_cons (pe_callTy cb_tuple rfl T.b_tuple (by decide +kernel) (pa_cons (pe_fld (pv 0) rfl) pa_nil)) pa_nil))))))))))))))) (pure_snapshot T.hc)
abbrev s_resolve : Stmt := topS 24
theorem sc_resolve : FnScope ["heap", "address", "forward"] ["heap", "address"] (defScope s_resolve) := ⟨rfl, rfl, rfl, by decide +kernel, rfl, by decide +kernel, by decide +kernel⟩
theorem ok_resolve {L : Nat} (T : Txt K mg C) (g_forward_of : GF P w K mg base L "forward_of" ["word"] (phi_forward_of K C)) {f : Addr} {fd : FuncData} (F : FnP K "resolve" s_resolve f fd) (hm : mg "resolve" = some (.ref f)) : GF P w K mg base (L + 1) "resolve" ["heap", "address"] (phi_resolve K C) :=
  GF.mk F hm sc_resolve (F.bindsN (fun _ _ _ _ _ _ us hl => match us, hl with | [_, _], _ => rfl)) (fun cdv A outer s H E hr => (pss_then (ps_if (pt_cmpR op_notIn_seq (pe_fld (pv 0) rfl) (pe_tup (pa_cons (pe_str) (pa_cons (pe_str) pa_nil))) (by first | rfl | exact nomark _)) (pss_one (ps_ret (pv 1))) pss_nil) (pss_then (ps_if (pt_not (pt_chain op_le op_lt (pe_fld (pv 0) rfl) (pv 1) (pe_op op_plus (pe_fld (pv 0) rfl) (pe_fld (pv 0) rfl)))) (pss_one (ps_ret (pv 1))) pss_nil) (pss_then (ps_set (i := 2) sc_resolve.nd rfl (by first | exact Or.inl rfl | exact Or.inr rfl) (pe_callG g_forward_of hr (by rfl) (pa_cons (pe_ix ix_seq (pe_fld (pv 0) rfl) (pe_op op_plus (pv 1) (pe_int)) (fun _ _ => rfl)) pa_nil))) (pss_then (ps_if (pt_cmpR op_gt (pv 2) (pe_int) (nomark _)) (pss_one (ps_ret (pv 2))) pss_nil) (pss_one (ps_ret (pv 1)))))))) (pure_resolve T.hc)
abbrev s_resolve_word : Stmt := topS 25
theorem sc_resolve_word : FnScope ["heap", "word"] ["heap", "word"] (defScope s_resolve_word) := ⟨rfl, rfl, rfl, by decide +kernel, rfl, by decide +kernel, by decide +kernel⟩
theorem ok_resolve_word {L : Nat} (T : Txt K mg C) (g_is_reference : GF P w K mg base L "is_reference" ["word"] (phi_is_reference K C)) (g_reference_word : GF P w K mg base L "reference_word" ["address"] (phi_reference_word K C)) (g_resolve : GF P w K mg base L "resolve" ["heap", "address"] (phi_resolve K C)) (g_address_of : GF P w K mg base L "address_of" ["word"] (phi_address_of K C)) {f : Addr} {fd : FuncData} (F : FnP K "resolve_word" s_resolve_word f fd) (hm : mg "resolve_word" = some (.ref f)) : GF P w K mg base (L + 1) "resolve_word" ["heap", "word"] (phi_resolve_word K C) :=
  GF.mk F hm sc_resolve_word (F.bindsN (fun _ _ _ _ _ _ us hl => match us, hl with | [_, _], _ => rfl)) (fun cdv A outer s H E hr => (pss_then (ps_if (pt_val (pe_callG g_is_reference hr (by rfl) (pa_cons (pv 1) pa_nil))) (pss_one (ps_ret (pe_callG g_reference_word hr (by rfl) (pa_cons (pe_callG g_resolve hr (by rfl) (pa_cons (pv 0) (pa_cons (pe_callG g_address_of hr (by rfl) (pa_cons (pv 1) pa_nil)) pa_nil))) pa_nil)))) pss_nil) (pss_one (ps_ret (pv 1))))) (pure_resolve_word T.hc)
abbrev s_shade : Stmt := topS 26
theorem sc_shade : FnScope ["heap", "address", "state"] ["heap", "address"] (defScope s_shade) := ⟨rfl, rfl, rfl, by decide +kernel, rfl, by decide +kernel, by decide +kernel⟩
theorem ok_shade {L : Nat} (T : Txt K mg C) (g_state_word : GF P w K mg base L "state_word" ["colour", "remembered", "forward"] (phi_state_word K C)) (g_forward_of : GF P w K mg base L "forward_of" ["word"] (phi_forward_of K C)) (g_remembered_of : GF P w K mg base L "remembered_of" ["word"] (phi_remembered_of K C)) {f : Addr} {fd : FuncData} (F : FnP K "shade" s_shade f fd) (hm : mg "shade" = some (.ref f)) : GF P w K mg base (L + 1) "shade" ["heap", "address"] (phi_shade K C) :=
  GF.mk F hm sc_shade (F.bindsN (fun _ _ _ _ _ _ us hl => match us, hl with | [_, _], _ => rfl)) (fun cdv A outer s H E hr => (pss_then (ps_set (i := 2) sc_shade.nd rfl (by first | exact Or.inl rfl | exact Or.inr rfl) (pe_ix ix_seq (pe_fld (pv 0) rfl) (pe_op op_plus (pv 1) (pe_int)) (fun _ _ => rfl))) (pss_then (ps_asg (pe_callG g_state_word hr (by rfl) (pa_cons (pe_glob (v := (.int 1)) rfl T.c_GRAY.choose_spec ⟨_, rfl⟩) (pa_cons (pe_callG g_remembered_of hr (by rfl) (pa_cons (pv 2) pa_nil)) (pa_cons (pe_callG g_forward_of hr (by rfl) (pa_cons (pv 2) pa_nil)) pa_nil)))) (pg_sub (pe_fld (pv 0) rfl) (pe_op op_plus (pv 1) (pe_int)) set_list)) (pss_one (ps_expr (pe_bm PySem.F.plainAttrs_list PySem.F.slot_list_append PySem.F.type_list_append mt_append (pe_fld (pv 0) rfl) (by exact (pa_cons (pv 1) pa_nil)))))))) (pure_shade T.hc)
abbrev s_remember : Stmt := topS 27
theorem sc_remember : FnScope ["heap", "address", "state"] ["heap", "address"] (defScope s_remember) := ⟨rfl, rfl, rfl, by decide +kernel, rfl, by decide +kernel, by decide +kernel⟩
theorem ok_remember {L : Nat} (T : Txt K mg C) (g_remembered_of : GF P w K mg base L "remembered_of" ["word"] (phi_remembered_of K C)) (g_state_word : GF P w K mg base L "state_word" ["colour", "remembered", "forward"] (phi_state_word K C)) (g_forward_of : GF P w K mg base L "forward_of" ["word"] (phi_forward_of K C)) (g_colour_of : GF P w K mg base L "colour_of" ["word"] (phi_colour_of K C)) {f : Addr} {fd : FuncData} (F : FnP K "remember" s_remember f fd) (hm : mg "remember" = some (.ref f)) : GF P w K mg base (L + 1) "remember" ["heap", "address"] (phi_remember K C) :=
  GF.mk F hm sc_remember (F.bindsN (fun _ _ _ _ _ _ us hl => match us, hl with | [_, _], _ => rfl)) (fun cdv A outer s H E hr => (pss_then (ps_set (i := 2) sc_remember.nd rfl (by first | exact Or.inl rfl | exact Or.inr rfl) (pe_ix ix_seq (pe_fld (pv 0) rfl) (pe_op op_plus (pv 1) (pe_int)) (fun _ _ => rfl))) (pss_one (ps_if (pt_cmpR (op_eqU hr.units) (pe_callG g_remembered_of hr (by rfl) (pa_cons (pv 2) pa_nil)) (pe_int) (nomark _)) (pss_then (ps_asg (pe_callG g_state_word hr (by rfl) (pa_cons (pe_callG g_colour_of hr (by rfl) (pa_cons (pv 2) pa_nil)) (pa_cons (pe_int) (pa_cons (pe_callG g_forward_of hr (by rfl) (pa_cons (pv 2) pa_nil)) pa_nil)))) (pg_sub (pe_fld (pv 0) rfl) (pe_op op_plus (pv 1) (pe_int)) set_list)) (pss_one (ps_expr (pe_bm PySem.F.plainAttrs_list PySem.F.slot_list_append PySem.F.type_list_append mt_append (pe_fld (pv 0) rfl) (by exact (pa_cons (pv 1) pa_nil)))))) pss_nil)))) (pure_remember T.hc)
abbrev s_write_word : Stmt := topS 28
theorem sc_write_word : FnScope ["heap", "address", "place", "word", "block", "stored", "first", "_"] ["heap", "address", "place", "word"] (defScope s_write_word) := ⟨rfl, rfl, rfl, by decide +kernel, rfl, by decide +kernel, by decide +kernel⟩
theorem ok_write_word {L : Nat} (T : Txt K mg C) (g_resolve : GF P w K mg base L "resolve" ["heap", "address"] (phi_resolve K C)) (g_resolve_word : GF P w K mg base L "resolve_word" ["heap", "word"] (phi_resolve_word K C)) (g_payload_places : GF P w K mg base L "payload_places" ["heap", "address"] (phi_payload_places K C)) (g_is_reference : GF P w K mg base L "is_reference" ["word"] (phi_is_reference K C)) (g_is_young : GF P w K mg base L "is_young" ["heap", "address"] (phi_is_young K C)) (g_note_reference : GF P w K mg base L "note_reference" ["heap", "block", "target"] (phi_note_reference K C)) (g_address_of : GF P w K mg base L "address_of" ["word"] (phi_address_of K C)) {f : Addr} {fd : FuncData} (F : FnP K "write_word" s_write_word f fd) (hm : mg "write_word" = some (.ref f)) : GF P w K mg base (L + 1) "write_word" ["heap", "address", "place", "word"] (phi_write_word K C) :=
  GF.mk F hm sc_write_word (F.bindsN (fun _ _ _ _ _ _ us hl => match us, hl with | [_, _, _, _], _ => rfl)) (fun cdv A outer s H E hr => (pss_then (ps_set (i := 4) sc_write_word.nd rfl (by first | exact Or.inl rfl | exact Or.inr rfl) (pe_callG g_resolve hr (by rfl) (pa_cons (pv 0) (pa_cons (pv 1) pa_nil)))) (pss_then (ps_set (i := 5) sc_write_word.nd rfl (by first | exact Or.inl rfl | exact Or.inr rfl) (pe_callG g_resolve_word hr (by rfl) (pa_cons (pv 0) (pa_cons (pv 3) pa_nil)))) (pss_then (ps_asg (pe_callG g_payload_places hr (by rfl) (pa_cons (pv 0) (pa_cons (pv 4) pa_nil))) (pg_tup (by rfl) (pgs_cons (pg_name (i := 6) sc_write_word.nd rfl (by first | exact Or.inl rfl | exact Or.inr rfl)) (pgs_cons (pg_name (i := 7) sc_write_word.nd rfl (by first | exact Or.inl rfl | exact Or.inr rfl)) pgs_nil)))) (pss_then (ps_asg (pv 5) (pg_sub (pe_fld (pv 0) rfl) (pe_op op_plus (pv 6) (pv 2)) set_list)) (pss_one (ps_if (PW.pt (pw_and (pt_val (pe_callG g_is_reference hr (by rfl) (pa_cons (pv 5) pa_nil))) (pw_and1 (pt_not (pt_val (pe_callG g_is_young hr (by rfl) (pa_cons (pv 0) (pa_cons (pv 4) pa_nil)))))))) (pss_one (ps_expr (pe_callG g_note_reference hr (by rfl) (pa_cons (pv 0) (pa_cons (pv 4) (pa_cons (pe_callG g_address_of hr (by rfl) (pa_cons (pv 5) pa_nil)) pa_nil)))))) pss_nil))))))) (pure_write_word T.hc)
abbrev s_note_reference : Stmt := topS 29
theorem sc_note_reference : FnScope ["heap", "block", "target"] ["heap", "block", "target"] (defScope s_note_reference) := ⟨rfl, rfl, rfl, by decide +kernel, rfl, by decide +kernel, by decide +kernel⟩
theorem ok_note_reference {L : Nat} (T : Txt K mg C) (g_is_young : GF P w K mg base L "is_young" ["heap", "address"] (phi_is_young K C)) (g_remember : GF P w K mg base L "remember" ["heap", "address"] (phi_remember K C)) (g_colour_of : GF P w K mg base L "colour_of" ["word"] (phi_colour_of K C)) (g_shade : GF P w K mg base L "shade" ["heap", "address"] (phi_shade K C)) {f : Addr} {fd : FuncData} (F : FnP K "note_reference" s_note_reference f fd) (hm : mg "note_reference" = some (.ref f)) : GF P w K mg base (L + 1) "note_reference" ["heap", "block", "target"] (phi_note_reference K C) :=
  GF.mk F hm sc_note_reference (F.bindsN (fun _ _ _ _ _ _ us hl => match us, hl with | [_, _, _], _ => rfl)) (fun cdv A outer s H E hr => (pss_one (ps_if (pt_val (pe_callG g_is_young hr (by rfl) (pa_cons (pv 0) (pa_cons (pv 2) pa_nil)))) (pss_one (ps_expr (pe_callG g_remember hr (by rfl) (pa_cons (pv 0) (pa_cons (pv 1) pa_nil))))) (pss_one (ps_if (PW.pt (pw_and (pt_cmpR (op_eqU hr.units) (pe_fld (pv 0) rfl) (pe_str) (nomark _)) (pw_and1 (pt_cmpR (op_eqU hr.units) (pe_callG g_colour_of hr (by rfl) (pa_cons (pe_ix ix_seq (pe_fld (pv 0) rfl) (pe_op op_plus (pv 1) (pe_int)) (fun _ _ => rfl)) pa_nil)) (pe_glob (v := (.int 2)) rfl T.c_BLACK.choose_spec ⟨_, rfl⟩) (nomark _))))) (pss_one (ps_if (pt_cmpR (op_eqU hr.units) (pe_callG g_colour_of hr (by rfl) (pa_cons (pe_ix ix_seq (pe_fld (pv 0) rfl) (pe_op op_plus (pv 2) (pe_int)) (fun _ _ => rfl)) pa_nil)) (pe_glob (v := (.int 0)) rfl T.c_WHITE.choose_spec ⟨_, rfl⟩) (nomark _)) (pss_one (ps_expr (pe_callG g_shade hr (by rfl) (pa_cons (pv 0) (pa_cons (pv 2) pa_nil))))) pss_nil)) pss_nil))))) (pure_note_reference T.hc)
abbrev s_Heap_init : Stmt := inClass (topS 18) 0
theorem sc_Heap_init : FnScope ["self", "capacity", "nursery"] ["self", "capacity", "nursery"] (defScope s_Heap_init) := ⟨rfl, rfl, rfl, by decide +kernel, rfl, by decide +kernel, by decide +kernel⟩
theorem ok_Heap_init {L : Nat} (T : Txt K mg C)  {f : Addr} {fd : FuncData} (F : FnM K "__init__" "Heap.__init__" s_Heap_init f fd) (hm : Meth K C "__init__" f) : GM P w K mg base (L + 1) C "__init__" ["self", "capacity", "nursery"] (phi_Heap_init K C) :=
  GM.mk F hm sc_Heap_init (F.bindsN (fun _ _ _ _ _ _ us hl => match us, hl with | [_, _, _], _ => rfl)) (fun cdv A outer s H E hr => (pss_then (ps_fld (pv 0) (pv 1) rfl) (pss_then (ps_fld (pv 0) (pv 2) rfl) (pss_then (ps_fld (pv 0) (pe_op op_times (pe_lst (pa_cons (pe_int) pa_nil)) (pe_op op_plus (pe_op op_plus (pe_int) (pv 2)) (pe_op op_times (pe_int) (pv 1)))) rfl) (pss_then (ps_fld (pv 0) (pe_int) rfl) (pss_then (ps_fld (pv 0) (pe_op op_plus (pv 2) (pe_int)) rfl) (pss_then (ps_fld (pv 0) (pe_op op_plus (pv 2) (pe_int)) rfl) (pss_then (ps_fld (pv 0) (pe_op op_plus (pe_op op_plus (pv 2) (pe_int)) (pv 1)) rfl) (pss_then (ps_fld (pv 0) (pe_op op_plus (pe_op op_plus (pv 2) (pe_int)) (pv 1)) rfl) (pss_then (ps_fld (pv 0) (pe_str) rfl) (pss_then (ps_fld (pv 0) (pe_int) rfl) (pss_then (ps_fld (pv 0) (pe_lst pa_nil) rfl) (pss_then (ps_fld (pv 0) (pe_lst pa_nil) rfl) (pss_one (ps_fld (pv 0) (pe_int) rfl))))))))))))))) (pure_Heap_init T.hc)
abbrev s_claim_old : Stmt := topS 31
theorem sc_claim_old : FnScope ["heap", "size", "address"] ["heap", "size"] (defScope s_claim_old) := ⟨rfl, rfl, rfl, by decide +kernel, rfl, by decide +kernel, by decide +kernel⟩
theorem ok_claim_old {L : Nat} (T : Txt K mg C)  {f : Addr} {fd : FuncData} (F : FnP K "claim_old" s_claim_old f fd) (hm : mg "claim_old" = some (.ref f)) : GF P w K mg base (L + 1) "claim_old" ["heap", "size"] (phi_claim_old K C) :=
  GF.mk F hm sc_claim_old (F.bindsN (fun _ _ _ _ _ _ us hl => match us, hl with | [_, _], _ => rfl)) (fun cdv A outer s H E hr => (pss_then (ps_if (pt_cmpR op_in_seq (pe_fld (pv 0) rfl) (pe_tup (pa_cons (pe_str) (pa_cons (pe_str) pa_nil))) (by first | rfl | exact nomark _)) (pss_then (ps_set (i := 2) sc_claim_old.nd rfl (by first | exact Or.inl rfl | exact Or.inr rfl) (pe_fld (pv 0) rfl)) (pss_one (ps_fld (pv 0) (pe_op op_plus (pv 2) (pv 1)) rfl))) (pss_then (ps_set (i := 2) sc_claim_old.nd rfl (by first | exact Or.inl rfl | exact Or.inr rfl) (pe_fld (pv 0) rfl)) (pss_one (ps_fld (pv 0) (pe_op op_plus (pv 2) (pv 1)) rfl)))) (pss_one (ps_ret (pv 2))))) (pure_claim_old T.hc)
abbrev s_copy_old : Stmt := topS 32
theorem sc_copy_old : FnScope ["heap", "address", "size", "target"] ["heap", "address"] (defScope s_copy_old) := ⟨rfl, rfl, rfl, by decide +kernel, rfl, by decide +kernel, by decide +kernel⟩
theorem ok_copy_old {L : Nat} (T : Txt K mg C) (g_block_size : GF P w K mg base L "block_size" ["heap", "address"] (phi_block_size K C)) (g_claim_old : GF P w K mg base L "claim_old" ["heap", "size"] (phi_claim_old K C)) (g_state_word : GF P w K mg base L "state_word" ["colour", "remembered", "forward"] (phi_state_word K C)) {f : Addr} {fd : FuncData} (F : FnP K "copy_old" s_copy_old f fd) (hm : mg "copy_old" = some (.ref f)) : GF P w K mg base (L + 1) "copy_old" ["heap", "address"] (phi_copy_old K C) :=
  GF.mk F hm sc_copy_old (F.bindsN (fun _ _ _ _ _ _ us hl => match us, hl with | [_, _], _ => rfl)) (fun cdv A outer s H E hr => (pss_then (ps_set (i := 2) sc_copy_old.nd rfl (by first | exact Or.inl rfl | exact Or.inr rfl) (pe_callG g_block_size hr (by rfl) (pa_cons (pv 0) (pa_cons (pv 1) pa_nil)))) (pss_then (ps_set (i := 3) sc_copy_old.nd rfl (by first | exact Or.inl rfl | exact Or.inr rfl) (pe_callG g_claim_old hr (by rfl) (pa_cons (pv 0) (pa_cons (pv 2) pa_nil)))) (pss_then (ps_asg (pe_slice sl_any (pe_fld (pv 0) rfl) (po_some (pv 1)) (po_some (pe_op op_plus (pv 1) (pv 2)))) (pg_subSl (pe_fld (pv 0) rfl) (po_some (pv 3)) (po_some (pe_op op_plus (pv 3) (pv 2))))) (pss_then (ps_if (pt_cmpR (op_eqU hr.units) (pe_fld (pv 0) rfl) (pe_str) (nomark _)) (pss_then (ps_asg (pe_callG g_state_word hr (by rfl) (pa_cons (pe_glob (v := (.int 1)) rfl T.c_GRAY.choose_spec ⟨_, rfl⟩) (pa_cons (pe_int) (pa_cons (pe_int) pa_nil)))) (pg_sub (pe_fld (pv 0) rfl) (pe_op op_plus (pv 3) (pe_int)) set_list)) (pss_one (ps_expr (pe_bm PySem.F.plainAttrs_list PySem.F.slot_list_append PySem.F.type_list_append mt_append (pe_fld (pv 0) rfl) (by exact (pa_cons (pv 3) pa_nil)))))) (pss_one (ps_asg (pe_callG g_state_word hr (by rfl) (pa_cons (pe_glob (v := (.int 0)) rfl T.c_WHITE.choose_spec ⟨_, rfl⟩) (pa_cons (pe_int) (pa_cons (pe_int) pa_nil)))) (pg_sub (pe_fld (pv 0) rfl) (pe_op op_plus (pv 3) (pe_int)) set_list)))) (pss_one (ps_ret (pv 3)))))))) (pure_copy_old T.hc)
abbrev s_promote : Stmt := topS 33
theorem sc_promote : FnScope ["heap", "address", "promoted", "forward", "target"] ["heap", "address", "promoted"] (defScope s_promote) := ⟨rfl, rfl, rfl, by decide +kernel, rfl, by decide +kernel, by decide +kernel⟩
theorem ok_promote {L : Nat} (T : Txt K mg C) (g_forward_of : GF P w K mg base L "forward_of" ["word"] (phi_forward_of K C)) (g_copy_old : GF P w K mg base L "copy_old" ["heap", "address"] (phi_copy_old K C)) (g_state_word : GF P w K mg base L "state_word" ["colour", "remembered", "forward"] (phi_state_word K C)) (g_colour_of : GF P w K mg base L "colour_of" ["word"] (phi_colour_of K C)) {f : Addr} {fd : FuncData} (F : FnP K "promote" s_promote f fd) (hm : mg "promote" = some (.ref f)) : GF P w K mg base (L + 1) "promote" ["heap", "address", "promoted"] (phi_promote K C) :=
  GF.mk F hm sc_promote (F.bindsN (fun _ _ _ _ _ _ us hl => match us, hl with | [_, _, _], _ => rfl)) (fun cdv A outer s H E hr => (pss_then (ps_set (i := 3) sc_promote.nd rfl (by first | exact Or.inl rfl | exact Or.inr rfl) (pe_callG g_forward_of hr (by rfl) (pa_cons (pe_ix ix_seq (pe_fld (pv 0) rfl) (pe_op op_plus (pv 1) (pe_int)) (fun _ _ => rfl)) pa_nil))) (pss_then (ps_if (pt_cmpR op_gt (pv 3) (pe_int) (nomark _)) (pss_one (ps_ret (pv 3))) pss_nil) (pss_then (ps_set (i := 4) sc_promote.nd rfl (by first | exact Or.inl rfl | exact Or.inr rfl) (pe_callG g_copy_old hr (by rfl) (pa_cons (pv 0) (pa_cons (pv 1) pa_nil)))) (pss_then (ps_asg (pe_callG g_state_word hr (by rfl) (pa_cons (pe_callG g_colour_of hr (by rfl) (pa_cons (pe_ix ix_seq (pe_fld (pv 0) rfl) (pe_op op_plus (pv 1) (pe_int)) (fun _ _ => rfl)) pa_nil)) (pa_cons (pe_int) (pa_cons (pv 4) pa_nil)))) (pg_sub (pe_fld (pv 0) rfl) (pe_op op_plus (pv 1) (pe_int)) set_list)) (pss_then (ps_expr (pe_bm PySem.F.plainAttrs_list PySem.F.slot_list_append PySem.F.type_list_append mt_append (pv 2) (by exact (pa_cons (pv 4) pa_nil)))) (pss_one (ps_ret (pv 4))))))))) (pure_promote T.hc)
abbrev s_old_word : Stmt := topS 34
theorem sc_old_word : FnScope ["heap", "word", "promoted"] ["heap", "word", "promoted"] (defScope s_old_word) := ⟨rfl, rfl, rfl, by decide +kernel, rfl, by decide +kernel, by decide +kernel⟩
theorem ok_old_word {L : Nat} (T : Txt K mg C) (g_is_reference : GF P w K mg base L "is_reference" ["word"] (phi_is_reference K C)) (g_is_young : GF P w K mg base L "is_young" ["heap", "address"] (phi_is_young K C)) (g_address_of : GF P w K mg base L "address_of" ["word"] (phi_address_of K C)) (g_reference_word : GF P w K mg base L "reference_word" ["address"] (phi_reference_word K C)) (g_promote : GF P w K mg base L "promote" ["heap", "address", "promoted"] (phi_promote K C)) {f : Addr} {fd : FuncData} (F : FnP K "old_word" s_old_word f fd) (hm : mg "old_word" = some (.ref f)) : GF P w K mg base (L + 1) "old_word" ["heap", "word", "promoted"] (phi_old_word K C) :=
  GF.mk F hm sc_old_word (F.bindsN (fun _ _ _ _ _ _ us hl => match us, hl with | [_, _, _], _ => rfl)) (fun cdv A outer s H E hr => (pss_then (ps_if (PW.pt (pw_and (pt_val (pe_callG g_is_reference hr (by rfl) (pa_cons (pv 1) pa_nil))) (pw_and1 (pt_val (pe_callG g_is_young hr (by rfl) (pa_cons (pv 0) (pa_cons (pe_callG g_address_of hr (by rfl) (pa_cons (pv 1) pa_nil)) pa_nil))))))) (pss_one (ps_ret (pe_callG g_reference_word hr (by rfl) (pa_cons (pe_callG g_promote hr (by rfl) (pa_cons (pv 0) (pa_cons (pe_callG g_address_of hr (by rfl) (pa_cons (pv 1) pa_nil)) (pa_cons (pv 2) pa_nil)))) pa_nil)))) pss_nil) (pss_one (ps_ret (pv 1))))) (pure_old_word T.hc)
abbrev s_lift_row : Stmt := topS 35
theorem sc_lift_row : FnScope ["heap", "row", "promoted", "place"] ["heap", "row", "promoted"] (defScope s_lift_row) := ⟨rfl, rfl, rfl, by decide +kernel, rfl, by decide +kernel, by decide +kernel⟩
theorem ok_lift_row {L : Nat} (T : Txt K mg C) (g_old_word : GF P w K mg base L "old_word" ["heap", "word", "promoted"] (phi_old_word K C)) {f : Addr} {fd : FuncData} (F : FnP K "lift_row" s_lift_row f fd) (hm : mg "lift_row" = some (.ref f)) : GF P w K mg base (L + 1) "lift_row" ["heap", "row", "promoted"] (phi_lift_row K C) :=
  GF.mk F hm sc_lift_row (F.bindsN (fun _ _ _ _ _ _ us hl => match us, hl with | [_, _, _], _ => rfl)) (fun cdv A outer s H E hr => (pss_one (ps_for PassesOwn.never rfl (pi_range1 rfl T.b_range (pa_cons (pe_callB cb_len rfl T.b_len (by decide +kernel) (pa_cons (pv 1) pa_nil)) pa_nil)) (pg_name (i := 3) sc_lift_row.nd rfl (by first | exact Or.inl rfl | exact Or.inr rfl)) (pss_one (ps_asg (pe_callG g_old_word hr (by rfl) (pa_cons (pv 0) (pa_cons (pe_ix ix_seq (pv 1) (pv 3) (fun _ _ => rfl)) (pa_cons (pv 2) pa_nil)))) (pg_sub (pv 1) (pv 3) set_list)))))) (pure_lift_row T.hc)
abbrev s_lift_payload : Stmt := topS 36
theorem sc_lift_payload : FnScope ["heap", "address", "promoted", "first", "behind", "spot"] ["heap", "address", "promoted"] (defScope s_lift_payload) := ⟨rfl, rfl, rfl, by decide +kernel, rfl, by decide +kernel, by decide +kernel⟩
theorem ok_lift_payload {L : Nat} (T : Txt K mg C) (g_payload_places : GF P w K mg base L "payload_places" ["heap", "address"] (phi_payload_places K C)) (g_old_word : GF P w K mg base L "old_word" ["heap", "word", "promoted"] (phi_old_word K C)) {f : Addr} {fd : FuncData} (F : FnP K "lift_payload" s_lift_payload f fd) (hm : mg "lift_payload" = some (.ref f)) : GF P w K mg base (L + 1) "lift_payload" ["heap", "address", "promoted"] (phi_lift_payload K C) :=
  GF.mk F hm sc_lift_payload (F.bindsN (fun _ _ _ _ _ _ us hl => match us, hl with | [_, _, _], _ => rfl)) (fun cdv A outer s H E hr => (pss_then (ps_asg (pe_callG g_payload_places hr (by rfl) (pa_cons (pv 0) (pa_cons (pv 1) pa_nil))) (pg_tup (by rfl) (pgs_cons (pg_name (i := 3) sc_lift_payload.nd rfl (by first | exact Or.inl rfl | exact Or.inr rfl)) (pgs_cons (pg_name (i := 4) sc_lift_payload.nd rfl (by first | exact Or.inl rfl | exact Or.inr rfl)) pgs_nil)))) (pss_one (ps_for PassesOwn.never rfl (pi_range2 rfl T.b_range (pa_cons (pv 3) (pa_cons (pv 4) pa_nil))) (pg_name (i := 5) sc_lift_payload.nd rfl (by first | exact Or.inl rfl | exact Or.inr rfl)) (pss_one (ps_asg (pe_callG g_old_word hr (by rfl) (pa_cons (pv 0) (pa_cons (pe_ix ix_seq (pe_fld (pv 0) rfl) (pv 5) (fun _ _ => rfl)) (pa_cons (pv 2) pa_nil)))) (pg_sub (pe_fld (pv 0) rfl) (pv 5) set_list))))))) (pure_lift_payload T.hc)
abbrev s_lift_remembered : Stmt := topS 37
theorem sc_lift_remembered : FnScope ["heap", "promoted", "address", "block", "state"] ["heap", "promoted"] (defScope s_lift_remembered) := ⟨rfl, rfl, rfl, by decide +kernel, rfl, by decide +kernel, by decide +kernel⟩
theorem ok_lift_remembered {L : Nat} (T : Txt K mg C) (g_resolve : GF P w K mg base L "resolve" ["heap", "address"] (phi_resolve K C)) (g_lift_payload : GF P w K mg base L "lift_payload" ["heap", "address", "promoted"] (phi_lift_payload K C)) (g_state_word : GF P w K mg base L "state_word" ["colour", "remembered", "forward"] (phi_state_word K C)) (g_forward_of : GF P w K mg base L "forward_of" ["word"] (phi_forward_of K C)) (g_colour_of : GF P w K mg base L "colour_of" ["word"] (phi_colour_of K C)) {f : Addr} {fd : FuncData} (F : FnP K "lift_remembered" s_lift_remembered f fd) (hm : mg "lift_remembered" = some (.ref f)) : GF P w K mg base (L + 1) "lift_remembered" ["heap", "promoted"] (phi_lift_remembered K C) :=
  GF.mk F hm sc_lift_remembered (F.bindsN (fun _ _ _ _ _ _ us hl => match us, hl with | [_, _], _ => rfl)) (fun cdv A outer s H E hr => (pss_then (ps_for PassesOwn.never rfl (pi_seq (pe_fld (pv 0) rfl)) (pg_name (i := 2) sc_lift_remembered.nd rfl (by first | exact Or.inl rfl | exact Or.inr rfl)) (pss_then (ps_set (i := 3) sc_lift_remembered.nd rfl (by first | exact Or.inl rfl | exact Or.inr rfl) (pe_callG g_resolve hr (by rfl) (pa_cons (pv 0) (pa_cons (pv 2) pa_nil)))) (pss_then (ps_expr (pe_callG g_lift_payload hr (by rfl) (pa_cons (pv 0) (pa_cons (pv 3) (pa_cons (pv 1) pa_nil))))) (pss_then (ps_set (i := 4) sc_lift_remembered.nd rfl (by first | exact Or.inl rfl | exact Or.inr rfl) (pe_ix ix_seq (pe_fld (pv 0) rfl) (pe_op op_plus (pv 3) (pe_int)) (fun _ _ => rfl))) (pss_one (ps_asg (pe_callG g_state_word hr (by rfl) (pa_cons (pe_callG g_colour_of hr (by rfl) (pa_cons (pv 4) pa_nil)) (pa_cons (pe_int) (pa_cons (pe_callG g_forward_of hr (by rfl) (pa_cons (pv 4) pa_nil)) pa_nil)))) (pg_sub (pe_fld (pv 0) rfl) (pe_op op_plus (pv 3) (pe_int)) set_list))))))) (pss_one (ps_fld (pv 0) (pe_lst pa_nil) rfl)))) (pure_lift_remembered T.hc)
abbrev s_collect_young : Stmt := topS 38
theorem sc_collect_young : FnScope ["heap", "rows", "promoted", "row", "scanned"] ["heap", "rows"] (defScope s_collect_young) := ⟨rfl, rfl, rfl, by decide +kernel, rfl, by decide +kernel, by decide +kernel⟩
theorem ok_collect_young {L : Nat} (T : Txt K mg C) (g_lift_row : GF P w K mg base L "lift_row" ["heap", "row", "promoted"] (phi_lift_row K C)) (g_lift_remembered : GF P w K mg base L "lift_remembered" ["heap", "promoted"] (phi_lift_remembered K C)) (g_lift_payload : GF P w K mg base L "lift_payload" ["heap", "address", "promoted"] (phi_lift_payload K C)) {f : Addr} {fd : FuncData} (F : FnP K "collect_young" s_collect_young f fd) (hm : mg "collect_young" = some (.ref f)) : GF P w K mg base (L + 1) "collect_young" ["heap", "rows"] (phi_collect_young K C) :=
  GF.mk F hm sc_collect_young (F.bindsN (fun _ _ _ _ _ _ us hl => match us, hl with | [_, _], _ => rfl)) (fun cdv A outer s H E hr => (pss_then (ps_set (i := 2) sc_collect_young.nd rfl (by first | exact Or.inl rfl | exact Or.inr rfl) (pe_lst pa_nil)) (pss_then (ps_for PassesOwn.never rfl (pi_seq (pv 1)) (pg_name (i := 3) sc_collect_young.nd rfl (by first | exact Or.inl rfl | exact Or.inr rfl)) (pss_one (ps_expr (pe_callG g_lift_row hr (by rfl) (pa_cons (pv 0) (pa_cons (pv 3) (pa_cons (pv 2) pa_nil))))))) (pss_then (ps_expr (pe_callG g_lift_remembered hr (by rfl) (pa_cons (pv 0) (pa_cons (pv 2) pa_nil)))) (pss_then (ps_set (i := 4) sc_collect_young.nd rfl (by first | exact Or.inl rfl | exact Or.inr rfl) (pe_int)) (pss_then (ps_while PassesOwn.never (pt_cmpR op_lt (pv 4) (pe_callB cb_len rfl T.b_len (by decide +kernel) (pa_cons (pv 2) pa_nil)) (nomark _)) (pss_then (ps_expr (pe_callG g_lift_payload hr (by rfl) (pa_cons (pv 0) (pa_cons (pe_ix ix_seq (pv 2) (pv 4) (fun _ _ => rfl)) (pa_cons (pv 2) pa_nil))))) (pss_one (ps_set (i := 4) sc_collect_young.nd rfl (by first | exact Or.inl rfl | exact Or.inr rfl) (pe_op op_plus (pv 4) (pe_int)))))) (pss_then (ps_asg (pe_op op_times (pe_lst (pa_cons (pe_int) pa_nil)) (pe_fld (pv 0) rfl)) (pg_subSl (pe_fld (pv 0) rfl) (po_some (pe_int)) (po_some (pe_op op_plus (pe_fld (pv 0) rfl) (pe_int))))) (pss_one (ps_fld (pv 0) (pe_int) rfl))))))))) (pure_collect_young T.hc)
abbrev s_young_address : Stmt := topS 40
theorem sc_young_address : FnScope ["heap", "rows", "size", "address"] ["heap", "rows", "size"] (defScope s_young_address) := ⟨rfl, rfl, rfl, by decide +kernel, rfl, by decide +kernel, by decide +kernel⟩
theorem ok_young_address {L : Nat} (T : Txt K mg C) (g_collect_young : GF P w K mg base L "collect_young" ["heap", "rows"] (phi_collect_young K C)) {f : Addr} {fd : FuncData} (F : FnP K "young_address" s_young_address f fd) (hm : mg "young_address" = some (.ref f)) : GF P w K mg base (L + 1) "young_address" ["heap", "rows", "size"] (phi_young_address K C) :=
  GF.mk F hm sc_young_address (F.bindsN (fun _ _ _ _ _ _ us hl => match us, hl with | [_, _, _], _ => rfl)) (fun cdv A outer s H E hr => (pss_then (ps_if (pt_cmpR op_gt (pe_op op_plus (pe_fld (pv 0) rfl) (pv 2)) (pe_op op_plus (pe_fld (pv 0) rfl) (pe_int)) (nomark _)) (pss_one (ps_expr (pe_callG g_collect_young hr (by rfl) (pa_cons (pv 0) (pa_cons (pv 1) pa_nil))))) pss_nil) (pss_then (ps_set (i := 3) sc_young_address.nd rfl (by first | exact Or.inl rfl | exact Or.inr rfl) (pe_fld (pv 0) rfl)) (pss_then (ps_fld (pv 0) (pe_op op_plus (pv 3) (pv 2)) rfl) (pss_one (ps_ret (pv 3))))))) (pure_young_address T.hc)
abbrev s_place_block : Stmt := topS 41
theorem sc_place_block : FnScope ["heap", "rows", "shape_number", "payload", "size", "colour", "address", "header"] ["heap", "rows", "shape_number", "payload"] (defScope s_place_block) := ⟨rfl, rfl, rfl, by decide +kernel, rfl, by decide +kernel, by decide +kernel⟩
theorem ok_place_block {L : Nat} (T : Txt K mg C) (g_size_of : GF P w K mg base L "size_of" ["length"] (phi_size_of K C)) (g_young_address : GF P w K mg base L "young_address" ["heap", "rows", "size"] (phi_young_address K C)) (g_claim_old : GF P w K mg base L "claim_old" ["heap", "size"] (phi_claim_old K C)) (g_state_word : GF P w K mg base L "state_word" ["colour", "remembered", "forward"] (phi_state_word K C)) (g_form_word : GF P w K mg base L "form_word" ["shape_number", "length"] (phi_form_word K C)) {f : Addr} {fd : FuncData} (F : FnP K "place_block" s_place_block f fd) (hm : mg "place_block" = some (.ref f)) : GF P w K mg base (L + 1) "place_block" ["heap", "rows", "shape_number", "payload"] (phi_place_block K C) :=
  GF.mk F hm sc_place_block (F.bindsN (fun _ _ _ _ _ _ us hl => match us, hl with | [_, _, _, _], _ => rfl)) (fun cdv A outer s H E hr => (pss_then (ps_set (i := 4) sc_place_block.nd rfl (by first | exact Or.inl rfl | exact Or.inr rfl) (pe_callG g_size_of hr (by rfl) (pa_cons (pe_callB cb_len rfl T.b_len (by decide +kernel) (pa_cons (pv 3) pa_nil)) pa_nil))) (pss_then (ps_set (i := 5) sc_place_block.nd rfl (by first | exact Or.inl rfl | exact Or.inr rfl) (pe_glob (v := (.int 0)) rfl T.c_WHITE.choose_spec ⟨_, rfl⟩)) (pss_then (ps_if (pt_cmpR op_le (pv 4) (pe_fld (pv 0) rfl) (nomark _)) (pss_one (ps_set (i := 6) sc_place_block.nd rfl (by first | exact Or.inl rfl | exact Or.inr rfl) (pe_callG g_young_address hr (by rfl) (pa_cons (pv 0) (pa_cons (pv 1) (pa_cons (pv 4) pa_nil)))))) (pss_then (ps_set (i := 6) sc_place_block.nd rfl (by first | exact Or.inl rfl | exact Or.inr rfl) (pe_callG g_claim_old hr (by rfl) (pa_cons (pv 0) (pa_cons (pv 4) pa_nil)))) (pss_one (ps_if (pt_cmpR (op_eqU hr.units) (pe_fld (pv 0) rfl) (pe_str) (nomark _)) (pss_one (ps_set (i := 5) sc_place_block.nd rfl (by first | exact Or.inl rfl | exact Or.inr rfl) (pe_glob (v := (.int 2)) rfl T.c_BLACK.choose_spec ⟨_, rfl⟩))) pss_nil)))) (pss_then (ps_set (i := 7) sc_place_block.nd rfl (by first | exact Or.inl rfl | exact Or.inr rfl) (pe_lst (pa_cons (pe_callG g_form_word hr (by rfl) (pa_cons (pv 2) (pa_cons (pe_callB cb_len rfl T.b_len (by decide +kernel) (pa_cons (pv 3) pa_nil)) pa_nil))) (pa_cons (pe_callG g_state_word hr (by rfl) (pa_cons (pv 5) (pa_cons (pe_int) (pa_cons (pe_int) pa_nil)))) pa_nil)))) (pss_then (ps_asg (pe_op op_plus (pv 7) (pe_callTy cb_list rfl T.b_list (by decide +kernel) (pa_cons (pv 3) pa_nil))) (pg_subSl (pe_fld (pv 0) rfl) (po_some (pv 6)) (po_some (pe_op op_plus (pv 6) (pv 4))))) (pss_one (ps_ret (pv 6))))))))) (pure_place_block T.hc)
abbrev s_l_whole : Stmt := topS 43
theorem sc_l_whole : FnScope ["_law_value"] ["_law_value"] (defScope s_l_whole) := ⟨rfl, rfl, rfl, by decide +kernel, rfl, by decide +kernel, by decide +kernel⟩
theorem ok_l_whole {L : Nat} (T : Txt K mg C)  {f : Addr} {fd : FuncData} (F : FnP K "_law_whole" s_l_whole f fd) (hm : mg "_law_whole" = some (.ref f)) : GF P w K mg base (L + 1) "_law_whole" ["_law_value"] (phi_l_whole K C) :=
  GF.mk F hm sc_l_whole (F.bindsN (fun _ _ _ _ _ _ us hl => match us, hl with | [_], _ => rfl)) (fun cdv A outer s H E hr => (pss_one (ps_ret (pe_and (pe_callB call_isi rfl T.b_isinstance (by decide +kernel) (pa_cons (pv 0) (pa_cons (pe_bltn (v := .ty "int") (u := .type "int") rfl T.b_int (by decide +kernel) rfl) pa_nil))) (pe_one (pe_not (pe_callB call_isi rfl T.b_isinstance (by decide +kernel) (pa_cons (pv 0) (pa_cons (pe_bltn (v := .ty "bool") (u := .type "bool") rfl T.b_bool (by decide +kernel) rfl) pa_nil))))))))) (pure_l_whole T.hc)
abbrev s_l_cell : Stmt := topS 44
theorem sc_l_cell : FnScope ["_law_script", "_law_k", "_law_seed", "_law_cell_here"] ["_law_script", "_law_k"] (defScope s_l_cell) := ⟨rfl, rfl, rfl, by decide +kernel, rfl, by decide +kernel, by decide +kernel⟩
theorem ok_l_cell {L : Nat} (T : Txt K mg C)  {f : Addr} {fd : FuncData} (F : FnP K "_law_cell" s_l_cell f fd) (hm : mg "_law_cell" = some (.ref f)) : GF P w K mg base (L + 1) "_law_cell" ["_law_script", "_law_k"] (phi_l_cell K C) :=
  GF.mk F hm sc_l_cell (F.bindsN (fun _ _ _ _ _ _ us hl => match us, hl with | [_, _], _ => rfl)) (fun cdv A outer s H E hr => (pss_then (ps_if (pt_cmpR op_lt (pv 1) (pe_callB cb_len rfl T.b_len (by decide +kernel) (pa_cons (pv 0) pa_nil)) (nomark _)) (pss_one (ps_ret (pe_ix ix_seq (pv 0) (pv 1) (fun _ _ => rfl)))) pss_nil) (pss_then (ps_set (i := 2) sc_l_cell.nd rfl (by first | exact Or.inl rfl | exact Or.inr rfl) (pe_int)) (pss_then (ps_for PassesOwn.never rfl (pi_seq (pv 0)) (pg_name (i := 3) sc_l_cell.nd rfl (by first | exact Or.inl rfl | exact Or.inr rfl)) (pss_one (ps_set (i := 2) sc_l_cell.nd rfl (by first | exact Or.inl rfl | exact Or.inr rfl) (pe_op op_rest (pe_callTy cb_int rfl T.b_int (by decide +kernel) (pa_cons (pe_op op_plus (pe_op op_times (pv 2) (pe_int)) (pe_op op_rest (pe_callTy cb_int rfl T.b_int (by decide +kernel) (pa_cons (pv 3) pa_nil)) (pe_int))) pa_nil)) (pe_int))))) (pss_one (ps_ret (pe_op op_rest (pe_callTy cb_int rfl T.b_int (by decide +kernel) (pa_cons (pe_op op_times (pe_op op_times (pe_op op_plus (pv 2) (pe_int)) (pe_op op_plus (pv 1) (pe_int))) (pe_int)) pa_nil)) (pe_int)))))))) (pure_l_cell T.hc)
abbrev s_l_digits : Stmt := topS 45
theorem sc_l_digits : FnScope ["_law_cell_here", "_law_sizes", "_law_row", "_law_rest", "_law_size", "_law_seed", "_law_k", "_law_twice"] ["_law_cell_here", "_law_sizes"] (defScope s_l_digits) := ⟨rfl, rfl, rfl, by decide +kernel, rfl, by decide +kernel, by decide +kernel⟩
theorem ok_l_digits {L : Nat} (T : Txt K mg C)  {f : Addr} {fd : FuncData} (F : FnP K "_law_digits" s_l_digits f fd) (hm : mg "_law_digits" = some (.ref f)) : GF P w K mg base (L + 1) "_law_digits" ["_law_cell_here", "_law_sizes"] (phi_l_digits K C) :=
  GF.mk F hm sc_l_digits (F.bindsN (fun _ _ _ _ _ _ us hl => match us, hl with | [_, _], _ => rfl)) (fun cdv A outer s H E hr => (pss_then (ps_set (i := 2) sc_l_digits.nd rfl (by first | exact Or.inl rfl | exact Or.inr rfl) (pe_lst pa_nil)) (pss_then (ps_set (i := 3) sc_l_digits.nd rfl (by first | exact Or.inl rfl | exact Or.inr rfl) (pe_callTy cb_int rfl T.b_int (by decide +kernel) (pa_cons (pv 0) pa_nil))) (pss_then (ps_if (pt_cmpR op_ge (pv 3) (pe_op op_power (pe_int) (pe_int)) (nomark _)) (pss_then (ps_set (i := 3) sc_l_digits.nd rfl (by first | exact Or.inl rfl | exact Or.inr rfl) (pe_op op_minus (pv 3) (pe_op op_power (pe_int) (pe_int)))) (pss_then (ps_for PassesOwn.never rfl (pi_seq (pv 1)) (pg_name (i := 4) sc_l_digits.nd rfl (by first | exact Or.inl rfl | exact Or.inr rfl)) (pss_then (ps_expr (pe_bm PySem.F.plainAttrs_list PySem.F.slot_list_append PySem.F.type_list_append mt_append (pv 2) (by exact (pa_cons (pe_op op_rest (pe_callTy cb_int rfl T.b_int (by decide +kernel) (pa_cons (pv 3) pa_nil)) (pv 4)) pa_nil)))) (pss_one (ps_set (i := 3) sc_l_digits.nd rfl (by first | exact Or.inl rfl | exact Or.inr rfl) (pe_op op_floor (pe_callTy cb_int rfl T.b_int (by decide +kernel) (pa_cons (pv 3) pa_nil)) (pv 4)))))) (pss_one (ps_ret (pv 2))))) pss_nil) (pss_then (ps_set (i := 5) sc_l_digits.nd rfl (by first | exact Or.inl rfl | exact Or.inr rfl) (pe_op op_rest (pe_callTy cb_int rfl T.b_int (by decide +kernel) (pa_cons (pv 3) pa_nil)) (pe_int))) (pss_then (ps_for PassesOwn.never rfl (pi_range1 rfl T.b_range (pa_cons (pe_callB cb_len rfl T.b_len (by decide +kernel) (pa_cons (pv 1) pa_nil)) pa_nil)) (pg_name (i := 6) sc_l_digits.nd rfl (by first | exact Or.inl rfl | exact Or.inr rfl)) (pss_then (ps_set (i := 5) sc_l_digits.nd rfl (by first | exact Or.inl rfl | exact Or.inr rfl) (pe_op op_rest (pe_callTy cb_int rfl T.b_int (by decide +kernel) (pa_cons (pe_op op_plus (pe_op op_plus (pe_op op_times (pv 5) (pe_int)) (pe_op op_times (pe_int) (pv 6))) (pe_int)) pa_nil)) (pe_int))) (pss_then (ps_set (i := 7) sc_l_digits.nd rfl (by first | exact Or.inl rfl | exact Or.inr rfl) (pe_op op_rest (pe_callTy cb_int rfl T.b_int (by decide +kernel) (pa_cons (pe_op op_times (pv 5) (pe_op op_plus (pe_op op_floor (pv 5) (pe_int)) (pe_int))) pa_nil)) (pe_int))) (pss_one (ps_expr (pe_bm PySem.F.plainAttrs_list PySem.F.slot_list_append PySem.F.type_list_append mt_append (pv 2) (by exact (pa_cons (pe_op op_rest (pe_op op_floor (pv 7) (pe_int)) (pe_ix ix_seq (pv 1) (pv 6) (fun _ _ => rfl))) pa_nil)))))))) (pss_one (ps_ret (pv 2))))))))) (pure_l_digits T.hc)
abbrev s_l_bounds : Stmt := topS 46
theorem sc_l_bounds : FnScope ["_law_row", "_law_cap", "_law_menu"] ["_law_row"] (defScope s_l_bounds) := ⟨rfl, rfl, rfl, by decide +kernel, rfl, by decide +kernel, by decide +kernel⟩
theorem ok_l_bounds {L : Nat} (T : Txt K mg C)  {f : Addr} {fd : FuncData} (F : FnP K "_law_bounds" s_l_bounds f fd) (hm : mg "_law_bounds" = some (.ref f)) : GF P w K mg base (L + 1) "_law_bounds" ["_law_row"] (phi_l_bounds K C) :=
  GF.mk F hm sc_l_bounds (F.bindsN (fun _ _ _ _ _ _ us hl => match us, hl with | [_], _ => rfl)) (fun cdv A outer s H E hr => (pss_then (ps_set (i := 1) sc_l_bounds.nd rfl (by first | exact Or.inl rfl | exact Or.inr rfl) (pe_op op_plus (pe_ix ix_seq (pe_lst (pa_cons (pe_int) (pa_cons (pe_int) (pa_cons (pe_int) (pa_cons (pe_int) (pa_cons (pe_int) (pa_cons (pe_int) (pa_cons (pe_int) (pa_cons (pe_int) (pa_cons (pe_int) (pa_cons (pe_int) (pa_cons (pe_int) (pa_cons (pe_int) (pa_cons (pe_int) (pa_cons (pe_int) (pa_cons (pe_int) (pa_cons (pe_int) pa_nil))))))))))))))))) (pe_ix ix_seq (pv 0) (pe_int) (fun _ _ => rfl)) (fun _ _ => rfl)) (pe_ix ix_seq (pv 0) (pe_int) (fun _ _ => rfl)))) (pss_then (ps_set (i := 2) sc_l_bounds.nd rfl (by first | exact Or.inl rfl | exact Or.inr rfl) (pe_lst (pa_cons (pe_int) (pa_cons (pv 1) (pa_cons (pe_op op_floor (pv 1) (pe_int)) (pa_cons (pe_op op_floor (pv 1) (pe_int)) (pa_cons (pe_callB (cb_min rfl) rfl T.b_min (by decide +kernel) (pa_cons (pv 1) (pa_cons (pe_int) pa_nil))) (pa_cons (pe_callB (cb_min rfl) rfl T.b_min (by decide +kernel) (pa_cons (pv 1) (pa_cons (pe_int) pa_nil))) (pa_cons (pe_callB (cb_min rfl) rfl T.b_min (by decide +kernel) (pa_cons (pv 1) (pa_cons (pe_int) pa_nil))) (pa_cons (pe_op op_floor (pv 1) (pe_int)) (pa_cons (pe_callB (cb_min rfl) rfl T.b_min (by decide +kernel) (pa_cons (pv 1) (pa_cons (pe_int) pa_nil))) pa_nil))))))))))) (pss_one (ps_ret (pe_lst (pa_cons (pv 1) (pa_cons (pe_ix ix_seq (pe_op op_plus (pv 2) (pe_lst (pa_cons (pe_op op_rest (pe_op op_floor (pe_callTy cb_int rfl T.b_int (by decide +kernel) (pa_cons (pe_ix ix_seq (pv 0) (pe_int) (fun _ _ => rfl)) pa_nil)) (pe_int)) (pe_op op_plus (pv 1) (pe_int))) pa_nil))) (pe_op op_rest (pe_callTy cb_int rfl T.b_int (by decide +kernel) (pa_cons (pe_ix ix_seq (pv 0) (pe_int) (fun _ _ => rfl)) pa_nil)) (pe_int)) (fun _ _ => rfl)) pa_nil)))))))) (pure_l_bounds T.hc)
abbrev s_l_put : Stmt := topS 47
theorem sc_l_put : FnScope ["_law_rows", "_law_spot_here", "_law_word", "_law_row"] ["_law_rows", "_law_spot_here", "_law_word"] (defScope s_l_put) := ⟨rfl, rfl, rfl, by decide +kernel, rfl, by decide +kernel, by decide +kernel⟩
theorem ok_l_put {L : Nat} (T : Txt K mg C)  {f : Addr} {fd : FuncData} (F : FnP K "_law_put" s_l_put f fd) (hm : mg "_law_put" = some (.ref f)) : GF P w K mg base (L + 1) "_law_put" ["_law_rows", "_law_spot_here", "_law_word"] (phi_l_put K C) :=
  GF.mk F hm sc_l_put (F.bindsN (fun _ _ _ _ _ _ us hl => match us, hl with | [_, _, _], _ => rfl)) (fun cdv A outer s H E hr => (pss_one (ps_for PassesOwn.never rfl (pi_seq (pv 0)) (pg_name (i := 3) sc_l_put.nd rfl (by first | exact Or.inl rfl | exact Or.inr rfl)) (pss_then (ps_if (PW.pt (pw_and (pt_cmpR op_ge (pv 1) (pe_int) (nomark _)) (pw_and1 (pt_cmpR op_lt (pv 1) (pe_callB cb_len rfl T.b_len (by decide +kernel) (pa_cons (pv 3) pa_nil)) (nomark _))))) (pss_one (ps_asg (pv 2) (pg_sub (pv 3) (pv 1) set_list))) pss_nil) (pss_one (ps_set (i := 1) sc_l_put.nd rfl (by first | exact Or.inl rfl | exact Or.inr rfl) (pe_op op_minus (pv 1) (pe_callB cb_len rfl T.b_len (by decide +kernel) (pa_cons (pv 3) pa_nil))))))))) (pure_l_put T.hc)
abbrev s_l_length : Stmt := topS 48
theorem sc_l_length : FnScope ["_law_first", "_law_second", "_law_longer"] ["_law_first", "_law_second"] (defScope s_l_length) := ⟨rfl, rfl, rfl, by decide +kernel, rfl, by decide +kernel, by decide +kernel⟩
theorem ok_l_length {L : Nat} (T : Txt K mg C)  {f : Addr} {fd : FuncData} (F : FnP K "_law_length" s_l_length f fd) (hm : mg "_law_length" = some (.ref f)) : GF P w K mg base (L + 1) "_law_length" ["_law_first", "_law_second"] (phi_l_length K C) :=
  GF.mk F hm sc_l_length (F.bindsN (fun _ _ _ _ _ _ us hl => match us, hl with | [_, _], _ => rfl)) (fun cdv A outer s H E hr => (pss_then (ps_set (i := 2) sc_l_length.nd rfl (by first | exact Or.inl rfl | exact Or.inr rfl) (pe_ix ix_seq (pe_lst (pa_cons (pe_int) (pa_cons (pe_int) (pa_cons (pe_int) (pa_cons (pe_int) (pa_cons (pe_int) (pa_cons (pe_int) (pa_cons (pe_int) (pa_cons (pe_int) pa_nil))))))))) (pv 1) (fun _ _ => rfl))) (pss_one (ps_ret (pe_ix ix_seq (pe_lst (pa_cons (pe_int) (pa_cons (pe_int) (pa_cons (pe_int) (pa_cons (pe_int) (pa_cons (pe_int) (pa_cons (pe_int) (pa_cons (pe_int) (pa_cons (pe_int) (pa_cons (pe_int) (pa_cons (pe_int) (pa_cons (pe_int) (pa_cons (pe_int) (pa_cons (pe_int) (pa_cons (pe_int) (pa_cons (pv 2) (pa_cons (pe_int) pa_nil))))))))))))))))) (pv 0) (fun _ _ => rfl)))))) (pure_l_length T.hc)
abbrev s_l_odd : Stmt := topS 49
theorem sc_l_odd : FnScope ["_law_number", "_law_n"] ["_law_number"] (defScope s_l_odd) := ⟨rfl, rfl, rfl, by decide +kernel, rfl, by decide +kernel, by decide +kernel⟩
theorem ok_l_odd {L : Nat} (T : Txt K mg C)  {f : Addr} {fd : FuncData} (F : FnP K "_law_odd" s_l_odd f fd) (hm : mg "_law_odd" = some (.ref f)) : GF P w K mg base (L + 1) "_law_odd" ["_law_number"] (phi_l_odd K C) :=
  GF.mk F hm sc_l_odd (F.bindsN (fun _ _ _ _ _ _ us hl => match us, hl with | [_], _ => rfl)) (fun cdv A outer s H E hr => (pss_then (ps_set (i := 1) sc_l_odd.nd rfl (by first | exact Or.inl rfl | exact Or.inr rfl) (pe_op op_rest (pe_callTy cb_int rfl T.b_int (by decide +kernel) (pa_cons (pe_op op_times (pe_op op_floor (pe_callTy cb_int rfl T.b_int (by decide +kernel) (pa_cons (pv 0) pa_nil)) (pe_int)) (pe_int)) pa_nil)) (pe_int))) (pss_one (ps_ret (pe_ix ix_seq (pe_lst (pa_cons (pe_op op_minus (pe_op op_times (pe_int) (pv 1)) (pe_int)) (pa_cons (pe_op op_plus (pe_op op_times (pe_int) (pe_op op_rest (pe_callTy cb_int rfl T.b_int (by decide +kernel) (pa_cons (pv 1) pa_nil)) (pe_int))) (pe_int)) (pa_cons (pe_op op_minus (pe_op op_times (pe_int) (pv 1)) (pe_int)) (pa_cons (pe_ix ix_seq (pe_lst (pa_cons (pe_int) (pa_cons (pe_un un_neg (pe_int)) pa_nil))) (pe_op op_rest (pe_callTy cb_int rfl T.b_int (by decide +kernel) (pa_cons (pv 1) pa_nil)) (pe_int)) (fun _ _ => rfl)) pa_nil))))) (pe_op op_rest (pe_callTy cb_int rfl T.b_int (by decide +kernel) (pa_cons (pv 0) pa_nil)) (pe_int)) (fun _ _ => rfl)))))) (pure_l_odd T.hc)
abbrev s_l_payload : Stmt := topS 50
theorem sc_l_payload : FnScope ["_law_length_here", "_law_mix", "_law_number", "_law_menu", "_law_k"] ["_law_length_here", "_law_mix", "_law_number"] (defScope s_l_payload) := ⟨rfl, rfl, rfl, by decide +kernel, rfl, by decide +kernel, by decide +kernel⟩
theorem ok_l_payload {L : Nat} (T : Txt K mg C) (g_l_odd : GF P w K mg base L "_law_odd" ["_law_number"] (phi_l_odd K C)) {f : Addr} {fd : FuncData} (F : FnP K "_law_payload" s_l_payload f fd) (hm : mg "_law_payload" = some (.ref f)) : GF P w K mg base (L + 1) "_law_payload" ["_law_length_here", "_law_mix", "_law_number"] (phi_l_payload K C) :=
  GF.mk F hm sc_l_payload (F.bindsN (fun _ _ _ _ _ _ us hl => match us, hl with | [_, _, _], _ => rfl)) (fun cdv A outer s H E hr => (pss_then (ps_if (pt_cmpR op_gt (pv 1) (pe_int) (nomark _)) (pss_one (ps_ret (pe_lc (X := (cxOf CX0 P w K mg base ["_law_length_here", "_law_mix", "_law_number", "_law_menu", "_law_k"] "_law_payload" (defScope s_l_payload) f cdv A outer s H E).nox) (own := [("_law_k", 4)]) (g := gName 4) (tt := tYes) rfl sc_l_payload.nd (pi_range1 rfl T.b_range (pa_cons (pv 0) pa_nil)) (blkOk_by (own := [("_law_k", 4)]) (by kernel_rfl)) (fun _ _ _ _ _ => pg_name (i := 4) sc_l_payload.nd rfl (Or.inl rfl)) (fun _ _ _ _ _ => pts_nil) (fun _ _ _ _ _ => (pe_callG g_l_odd hr (by rfl) (pa_cons (pe_op op_plus (pv 2) (pe_op op_times (pe_int) (pv 4))) pa_nil)))))) pss_nil) (pss_then (ps_set (i := 3) sc_l_payload.nd rfl (by first | exact Or.inl rfl | exact Or.inr rfl) (pe_lst (pa_cons (pe_int) (pa_cons (pe_int) (pa_cons (pe_int) (pa_cons (pe_callG g_l_odd hr (by rfl) (pa_cons (pv 2) pa_nil)) (pa_cons (pe_int) (pa_cons (pe_int) (pa_cons (pe_int) (pa_cons (pe_op op_plus (pe_op op_times (pe_int) (pe_op op_rest (pe_callTy cb_int rfl T.b_int (by decide +kernel) (pa_cons (pv 2) pa_nil)) (pe_int))) (pe_int)) pa_nil)))))))))) (pss_one (ps_ret (pe_lc (X := (cxOf CX0 P w K mg base ["_law_length_here", "_law_mix", "_law_number", "_law_menu", "_law_k"] "_law_payload" (defScope s_l_payload) f cdv A outer s H E).nox) (own := [("_law_k", 4)]) (g := gName 4) (tt := tYes) rfl sc_l_payload.nd (pi_range1 rfl T.b_range (pa_cons (pv 0) pa_nil)) (blkOk_by (own := [("_law_k", 4)]) (by kernel_rfl)) (fun _ _ _ _ _ => pg_name (i := 4) sc_l_payload.nd rfl (Or.inl rfl)) (fun _ _ _ _ _ => pts_nil) (fun _ _ _ _ _ => (pe_ix ix_seq (pv 3) (pe_op op_rest (pe_callTy cb_int rfl T.b_int (by decide +kernel) (pa_cons (pe_op op_plus (pv 1) (pe_op op_times (pv 4) (pe_op op_plus (pe_int) (pe_op op_rest (pe_callTy cb_int rfl T.b_int (by decide +kernel) (pa_cons (pv 2) pa_nil)) (pe_int))))) pa_nil)) (pe_int)) (fun _ _ => rfl))))))))) (pure_l_payload T.hc)
abbrev s_l_kinds : Stmt := topS 51
theorem sc_l_kinds : FnScope ["_law_shot_here", "_law_k", "_law_numbers", "_law_number"] ["_law_shot_here"] (defScope s_l_kinds) := ⟨rfl, rfl, rfl, by decide +kernel, rfl, by decide +kernel, by decide +kernel⟩
theorem ok_l_kinds {L : Nat} (T : Txt K mg C) (g_l_whole : GF P w K mg base L "_law_whole" ["_law_value"] (phi_l_whole K C)) {f : Addr} {fd : FuncData} (F : FnP K "_law_kinds" s_l_kinds f fd) (hm : mg "_law_kinds" = some (.ref f)) : GF P w K mg base (L + 1) "_law_kinds" ["_law_shot_here"] (phi_l_kinds K C) :=
  GF.mk F hm sc_l_kinds (F.bindsN (fun _ _ _ _ _ _ us hl => match us, hl with | [_], _ => rfl)) (fun cdv A outer s H E hr => (pss_then (ps_if (PW.pt (pw_or (pt_not (pt_val (pe_callB call_isi rfl T.b_isinstance (by decide +kernel) (pa_cons (pv 0) (pa_cons (pe_bltn (v := .ty "tuple") (u := .type "tuple") rfl T.b_tuple (by decide +kernel) rfl) pa_nil))))) (pw_or (pt_cmpR (op_neU hr.units) (pe_callB cb_len rfl T.b_len (by decide +kernel) (pa_cons (pv 0) pa_nil)) (pe_int) (nomark _)) (pw_or1 (pt_not (pt_val (pe_callB call_isi rfl T.b_isinstance (by decide +kernel) (pa_cons (pe_ix ix_seq (pv 0) (pe_int) (fun _ _ => rfl)) (pa_cons (pe_bltn (v := .ty "str") (u := .type "str") rfl T.b_str (by decide +kernel) rfl) pa_nil))))))))) (pss_one (ps_ret (pe_bl))) pss_nil) (pss_then (ps_for PassesOwn.never rfl (pi_seq (pe_lst (pa_cons (pe_int) (pa_cons (pe_int) (pa_cons (pe_int) pa_nil))))) (pg_name (i := 1) sc_l_kinds.nd rfl (by first | exact Or.inl rfl | exact Or.inr rfl)) (pss_one (ps_if (pt_not (pt_val (pe_callB call_isi rfl T.b_isinstance (by decide +kernel) (pa_cons (pe_ix ix_seq (pv 0) (pv 1) (fun _ _ => rfl)) (pa_cons (pe_bltn (v := .ty "tuple") (u := .type "tuple") rfl T.b_tuple (by decide +kernel) rfl) pa_nil))))) (pss_one (ps_ret (pe_bl))) pss_nil))) (pss_then (ps_set (i := 2) sc_l_kinds.nd rfl (by first | exact Or.inl rfl | exact Or.inr rfl) (pe_op op_plus (pe_op op_plus (pe_op op_plus (pe_op op_plus (pe_callTy cb_list rfl T.b_list (by decide +kernel) (pa_cons (pe_slice sl_any (pv 0) (po_some (pe_int)) (po_some (pe_int))) pa_nil)) (pe_lst (pa_cons (pe_ix ix_seq (pv 0) (pe_int) (fun _ _ => rfl)) pa_nil))) (pe_callTy cb_list rfl T.b_list (by decide +kernel) (pa_cons (pe_ix ix_seq (pv 0) (pe_int) (fun _ _ => rfl)) pa_nil))) (pe_callTy cb_list rfl T.b_list (by decide +kernel) (pa_cons (pe_ix ix_seq (pv 0) (pe_int) (fun _ _ => rfl)) pa_nil))) (pe_callTy cb_list rfl T.b_list (by decide +kernel) (pa_cons (pe_ix ix_seq (pv 0) (pe_int) (fun _ _ => rfl)) pa_nil)))) (pss_one (ps_ret (pe_cmpR (op_eqU hr.units) (pe_bm PySem.F.plainAttrs_list PySem.F.slot_list_count PySem.F.type_list_count mt_cntB (pe_lc (X := (cxOf CX0 P w K mg base ["_law_shot_here", "_law_k", "_law_numbers", "_law_number"] "_law_kinds" (defScope s_l_kinds) f cdv A outer s H E).nox) (own := [("_law_number", 3)]) (g := gName 3) (tt := tYes) rfl sc_l_kinds.nd (pi_seq (pv 2)) (blkOk_by (own := [("_law_number", 3)]) (by kernel_rfl)) (fun _ _ _ _ _ => pg_name (i := 3) sc_l_kinds.nd rfl (Or.inl rfl)) (fun _ _ _ _ _ => pts_nil) (fun _ _ _ _ _ => (pe_callG g_l_whole hr (by rfl) (pa_cons (pv 3) pa_nil)))) (pa_cons (pe_bl) pa_nil)) (pe_int) (nomark _)))))))) (pure_l_kinds T.hc)
abbrev s_l_memory : Stmt := topS 52
theorem sc_l_memory : FnScope ["_law_cap", "_law_nur"] ["_law_cap", "_law_nur"] (defScope s_l_memory) := ⟨rfl, rfl, rfl, by decide +kernel, rfl, by decide +kernel, by decide +kernel⟩
theorem ok_l_memory {L : Nat} (T : Txt K mg C)  {f : Addr} {fd : FuncData} (F : FnP K "_law_memory" s_l_memory f fd) (hm : mg "_law_memory" = some (.ref f)) : GF P w K mg base (L + 1) "_law_memory" ["_law_cap", "_law_nur"] (phi_l_memory K C) :=
  GF.mk F hm sc_l_memory (F.bindsN (fun _ _ _ _ _ _ us hl => match us, hl with | [_, _], _ => rfl)) (fun cdv A outer s H E hr => (pss_one (ps_ret (pe_lst (pa_cons (pe_str) (pa_cons (pe_int) (pa_cons (pe_op op_plus (pv 1) (pe_int)) (pa_cons (pe_op op_plus (pv 1) (pe_int)) (pa_cons (pe_op op_plus (pe_op op_plus (pv 1) (pe_int)) (pv 0)) (pa_cons (pe_op op_plus (pe_op op_plus (pv 1) (pe_int)) (pv 0)) (pa_cons (pe_int) (pa_cons (pe_lst pa_nil) (pa_cons (pe_lst pa_nil) (pa_cons (pe_int) (pa_cons (pe_op op_times (pe_lst (pa_cons (pe_int) pa_nil)) (pe_op op_plus (pe_op op_plus (pe_int) (pv 1)) (pe_op op_times (pe_int) (pv 0)))) pa_nil))))))))))))))) (pure_l_memory T.hc)
abbrev s_l_shot : Stmt := topS 53
theorem sc_l_shot : FnScope ["_law_mem"] ["_law_mem"] (defScope s_l_shot) := ⟨rfl, rfl, rfl, by decide +kernel, rfl, by decide +kernel, by decide +kernel⟩
theorem ok_l_shot {L : Nat} (T : Txt K mg C)  {f : Addr} {fd : FuncData} (F : FnP K "_law_shot" s_l_shot f fd) (hm : mg "_law_shot" = some (.ref f)) : GF P w K mg base (L + 1) "_law_shot" ["_law_mem"] (phi_l_shot K C) :=
  GF.mk F hm sc_l_shot (F.bindsN (fun _ _ _ _ _ _ us hl => match us, hl with | [_], _ => rfl)) (fun cdv A outer s H E hr => (pss_one (ps_ret (pe_op op_plus (pe_callTy cb_tuple rfl T.b_tuple (by decide +kernel) (pa_cons (pe_slice sl_any (pv 0) po_none (po_some (pe_int))) pa_nil)) (pe_tup (pa_cons (pe_callTy cb_tuple rfl T.b_tuple (by decide +kernel) (pa_cons (pe_ix ix_seq (pv 0) (pe_int) (fun _ _ => rfl)) pa_nil)) (pa_cons (pe_callTy cb_tuple rfl T.b_tuple (by decide +kernel) (pa_cons (pe_ix ix_seq (pv 0) (pe_int) (fun _ _ => rfl)) pa_nil)) (pa_cons (pe_ix ix_seq (pv 0) (pe_int) (fun _ _ => rfl)) (pa_cons (pe_callTy cb_tuple rfl T.b_tuple (by decide +kernel) (pa_cons (pe_ix ix_seq (pv 0) (pe_int) (fun _ _ => rfl)) pa_nil)) pa_nil))))))))) (pure_l_shot T.hc)
abbrev s_l_used : Stmt := topS 54
theorem sc_l_used : FnScope ["_law_mem"] ["_law_mem"] (defScope s_l_used) := ⟨rfl, rfl, rfl, by decide +kernel, rfl, by decide +kernel, by decide +kernel⟩
theorem ok_l_used {L : Nat} (T : Txt K mg C)  {f : Addr} {fd : FuncData} (F : FnP K "_law_used" s_l_used f fd) (hm : mg "_law_used" = some (.ref f)) : GF P w K mg base (L + 1) "_law_used" ["_law_mem"] (phi_l_used K C) :=
  GF.mk F hm sc_l_used (F.bindsN (fun _ _ _ _ _ _ us hl => match us, hl with | [_], _ => rfl)) (fun cdv A outer s H E hr => (pss_then (ps_if (pt_cmpR op_in_seq (pe_ix ix_seq (pv 0) (pe_int) (fun _ _ => rfl)) (pe_lst (pa_cons (pe_str) (pa_cons (pe_str) pa_nil))) (by first | rfl | exact nomark _)) (pss_one (ps_ret (pe_op op_minus (pe_op op_plus (pe_op op_plus (pe_op op_minus (pe_ix ix_seq (pv 0) (pe_int) (fun _ _ => rfl)) (pe_int)) (pe_ix ix_seq (pv 0) (pe_int) (fun _ _ => rfl))) (pe_ix ix_seq (pv 0) (pe_int) (fun _ _ => rfl))) (pe_ix ix_seq (pv 0) (pe_int) (fun _ _ => rfl))))) pss_nil) (pss_one (ps_ret (pe_op op_minus (pe_op op_plus (pe_op op_minus (pe_ix ix_seq (pv 0) (pe_int) (fun _ _ => rfl)) (pe_int)) (pe_ix ix_seq (pv 0) (pe_int) (fun _ _ => rfl))) (pe_ix ix_seq (pv 0) (pe_int) (fun _ _ => rfl))))))) (pure_l_used T.hc)
abbrev s_l_spot : Stmt := topS 55
theorem sc_l_spot : FnScope ["_law_mem", "_law_cap", "_law_address"] ["_law_mem", "_law_cap", "_law_address"] (defScope s_l_spot) := ⟨rfl, rfl, rfl, by decide +kernel, rfl, by decide +kernel, by decide +kernel⟩
theorem ok_l_spot {L : Nat} (T : Txt K mg C)  {f : Addr} {fd : FuncData} (F : FnP K "_law_spot" s_l_spot f fd) (hm : mg "_law_spot" = some (.ref f)) : GF P w K mg base (L + 1) "_law_spot" ["_law_mem", "_law_cap", "_law_address"] (phi_l_spot K C) :=
  GF.mk F hm sc_l_spot (F.bindsN (fun _ _ _ _ _ _ us hl => match us, hl with | [_, _, _], _ => rfl)) (fun cdv A outer s H E hr => (pss_then (ps_if (PW.pt (pw_and (pt_cmpR op_in_seq (pe_ix ix_seq (pv 0) (pe_int) (fun _ _ => rfl)) (pe_lst (pa_cons (pe_str) (pa_cons (pe_str) pa_nil))) (by first | rfl | exact nomark _)) (pw_and (pt_cmpR op_le (pe_ix ix_seq (pv 0) (pe_int) (fun _ _ => rfl)) (pv 2) (nomark _)) (pw_and1 (pt_cmpR op_lt (pv 2) (pe_op op_plus (pe_ix ix_seq (pv 0) (pe_int) (fun _ _ => rfl)) (pv 1)) (nomark _)))))) (pss_one (ps_if (pt_cmpR op_gt (pe_op op_floor (pe_ix ix_seq (pe_ix ix_seq (pv 0) (pe_int) (fun _ _ => rfl)) (pe_op op_plus (pv 2) (pe_int)) (fun _ _ => rfl)) (pe_int)) (pe_int) (nomark _)) (pss_one (ps_ret (pe_op op_floor (pe_ix ix_seq (pe_ix ix_seq (pv 0) (pe_int) (fun _ _ => rfl)) (pe_op op_plus (pv 2) (pe_int)) (fun _ _ => rfl)) (pe_int)))) pss_nil)) pss_nil) (pss_one (ps_ret (pv 2))))) (pure_l_spot T.hc)
abbrev s_l_led : Stmt := topS 56
theorem sc_l_led : FnScope ["_law_mem", "_law_cap", "_law_word"] ["_law_mem", "_law_cap", "_law_word"] (defScope s_l_led) := ⟨rfl, rfl, rfl, by decide +kernel, rfl, by decide +kernel, by decide +kernel⟩
theorem ok_l_led {L : Nat} (T : Txt K mg C) (g_l_spot : GF P w K mg base L "_law_spot" ["_law_mem", "_law_cap", "_law_address"] (phi_l_spot K C)) {f : Addr} {fd : FuncData} (F : FnP K "_law_led" s_l_led f fd) (hm : mg "_law_led" = some (.ref f)) : GF P w K mg base (L + 1) "_law_led" ["_law_mem", "_law_cap", "_law_word"] (phi_l_led K C) :=
  GF.mk F hm sc_l_led (F.bindsN (fun _ _ _ _ _ _ us hl => match us, hl with | [_, _, _], _ => rfl)) (fun cdv A outer s H E hr => (pss_then (ps_if (PW.pt (pw_and (pt_cmpR op_gt (pv 2) (pe_int) (nomark _)) (pw_and1 (pt_cmpR (op_eqU hr.units) (pe_op op_rest (pe_callTy cb_int rfl T.b_int (by decide +kernel) (pa_cons (pv 2) pa_nil)) (pe_int)) (pe_int) (nomark _))))) (pss_one (ps_ret (pe_op op_times (pe_int) (pe_callG g_l_spot hr (by rfl) (pa_cons (pv 0) (pa_cons (pv 1) (pa_cons (pe_op op_floor (pv 2) (pe_int)) pa_nil))))))) pss_nil) (pss_one (ps_ret (pv 2))))) (pure_l_led T.hc)
abbrev s_l_met : Stmt := topS 57
theorem sc_l_met : FnScope ["_law_mem", "_law_cap", "_law_rows", "_law_known", "_law_found", "_law_queue", "_law_k", "_law_row", "_law_word", "_law_at"] ["_law_mem", "_law_cap", "_law_rows"] (defScope s_l_met) := ⟨rfl, rfl, rfl, by decide +kernel, rfl, by decide +kernel, by decide +kernel⟩
theorem ok_l_met {L : Nat} (T : Txt K mg C) (g_l_spot : GF P w K mg base L "_law_spot" ["_law_mem", "_law_cap", "_law_address"] (phi_l_spot K C)) {f : Addr} {fd : FuncData} (F : FnP K "_law_met" s_l_met f fd) (hm : mg "_law_met" = some (.ref f)) : GF P w K mg base (L + 1) "_law_met" ["_law_mem", "_law_cap", "_law_rows"] (phi_l_met K C) :=
  GF.mk F hm sc_l_met (F.bindsN (fun _ _ _ _ _ _ us hl => match us, hl with | [_, _, _], _ => rfl)) (fun cdv A outer s H E hr => (pss_then (ps_set (i := 3) sc_l_met.nd rfl (by first | exact Or.inl rfl | exact Or.inr rfl) (pe_dnewK)) (pss_then (ps_set (i := 4) sc_l_met.nd rfl (by first | exact Or.inl rfl | exact Or.inr rfl) (pe_lst pa_nil)) (pss_then (ps_setLc (i := 5) (X := (cxOf CX0 P w K mg base ["_law_mem", "_law_cap", "_law_rows", "_law_known", "_law_found", "_law_queue", "_law_k", "_law_row", "_law_word", "_law_at"] "_law_met" (defScope s_l_met) f cdv A outer s H E).nox) (own := [("_law_row", 7)]) (g := gName 7) (tt := tYes) rfl sc_l_met.nd rfl rfl (sw_true rfl rfl rfl (by decide +kernel)) (pi_seq (pv 2)) (blkOk_by (own := [("_law_row", 7)]) (by kernel_rfl)) (fun _ _ _ _ _ => pg_name (i := 7) sc_l_met.nd rfl (Or.inl rfl)) (fun _ _ _ _ _ => pts_nil) (fun _ _ _ _ _ => (pe_callTy cb_list rfl T.b_list (by decide +kernel) (pa_cons (pv 7) pa_nil)))) (pss_then (ps_for PassesOwn.never rfl (pi_range1 rfl T.b_range (pa_cons (pe_int) pa_nil)) (pg_name (i := 6) sc_l_met.nd rfl (by first | exact Or.inl rfl | exact Or.inr rfl)) (pss_then (ps_if (pt_cmpR op_ge (pv 6) (pe_callB cb_len rfl T.b_len (by decide +kernel) (pa_cons (pv 5) pa_nil)) (nomark _)) (pss_one (ps_break)) pss_nil) (pss_then (ps_set (i := 7) sc_l_met.nd rfl (by first | exact Or.inl rfl | exact Or.inr rfl) (pe_ix ix_seq (pv 5) (pv 6) (fun _ _ => rfl))) (pss_one (ps_for PassesOwn.never rfl (pi_seq (pv 7)) (pg_name (i := 8) sc_l_met.nd rfl (by first | exact Or.inl rfl | exact Or.inr rfl)) (pss_one (ps_if (PW.pt (pw_and (pt_cmpR op_gt (pv 8) (pe_int) (nomark _)) (pw_and (pt_cmpR (op_eqU hr.units) (pe_op op_rest (pe_callTy cb_int rfl T.b_int (by decide +kernel) (pa_cons (pv 8) pa_nil)) (pe_int)) (pe_int) (nomark _)) (pw_and1 (pt_cmp (pc_dnotin (hu_of hr) (pe_callG g_l_spot hr (by rfl) (pa_cons (pv 0) (pa_cons (pv 1) (pa_cons (pe_op op_floor (pv 8) (pe_int)) pa_nil)))) (pv 3))))))) (pss_then (ps_set (i := 9) sc_l_met.nd rfl (by first | exact Or.inl rfl | exact Or.inr rfl) (pe_callG g_l_spot hr (by rfl) (pa_cons (pv 0) (pa_cons (pv 1) (pa_cons (pe_op op_floor (pv 8) (pe_int)) pa_nil))))) (pss_then (ps_dput (hu_of hr) (pv 3) (pv 9) (pe_bl) rfl) (pss_then (ps_expr (pe_bm PySem.F.plainAttrs_list PySem.F.slot_list_append PySem.F.type_list_append mt_append (pv 4) (by exact (pa_cons (pe_lst (pa_cons (pe_op op_floor (pv 8) (pe_int)) (pa_cons (pv 9) pa_nil))) pa_nil)))) (pss_one (ps_expr (pe_bm PySem.F.plainAttrs_list PySem.F.slot_list_append PySem.F.type_list_append mt_append (pv 5) (by exact (pa_cons (pe_slice sl_any (pe_ix ix_seq (pv 0) (pe_int) (fun _ _ => rfl)) (po_some (pe_op op_plus (pv 9) (pe_int))) (po_some (pe_op op_plus (pe_op op_plus (pv 9) (pe_int)) (pe_op op_floor (pe_ix ix_seq (pe_ix ix_seq (pv 0) (pe_int) (fun _ _ => rfl)) (pv 9) (fun _ _ => rfl)) (pe_int))))) pa_nil)))))))) pss_nil))))))) (pss_one (ps_ret (pv 4)))))))) (pure_l_met T.hc)
abbrev s_l_shaded : Stmt := topS 58
theorem sc_l_shaded : FnScope ["_law_mem", "_law_nur", "_law_word", "_law_words"] ["_law_mem", "_law_nur", "_law_word"] (defScope s_l_shaded) := ⟨rfl, rfl, rfl, by decide +kernel, rfl, by decide +kernel, by decide +kernel⟩
theorem ok_l_shaded {L : Nat} (T : Txt K mg C)  {f : Addr} {fd : FuncData} (F : FnP K "_law_shaded" s_l_shaded f fd) (hm : mg "_law_shaded" = some (.ref f)) : GF P w K mg base (L + 1) "_law_shaded" ["_law_mem", "_law_nur", "_law_word"] (phi_l_shaded K C) :=
  GF.mk F hm sc_l_shaded (F.bindsN (fun _ _ _ _ _ _ us hl => match us, hl with | [_, _, _], _ => rfl)) (fun cdv A outer s H E hr => (pss_then (ps_set (i := 3) sc_l_shaded.nd rfl (by first | exact Or.inl rfl | exact Or.inr rfl) (pe_ix ix_seq (pv 0) (pe_int) (fun _ _ => rfl))) (pss_one (ps_if (PW.pt (pw_and (pt_cmpR op_gt (pv 2) (pe_int) (nomark _)) (pw_and (pt_cmpR (op_eqU hr.units) (pe_op op_rest (pe_callTy cb_int rfl T.b_int (by decide +kernel) (pa_cons (pv 2) pa_nil)) (pe_int)) (pe_int) (nomark _)) (pw_and (pt_cmpR op_gt (pe_op op_floor (pv 2) (pe_int)) (pv 1) (nomark _)) (pw_and1 (pt_cmpR (op_eqU hr.units) (pe_op op_rest (pe_callTy cb_int rfl T.b_int (by decide +kernel) (pa_cons (pe_ix ix_seq (pv 3) (pe_op op_plus (pe_op op_floor (pv 2) (pe_int)) (pe_int)) (fun _ _ => rfl)) pa_nil)) (pe_int)) (pe_int) (nomark _))))))) (pss_then (ps_asg (pe_op op_plus (pe_ix ix_seq (pv 3) (pe_op op_plus (pe_op op_floor (pv 2) (pe_int)) (pe_int)) (fun _ _ => rfl)) (pe_int)) (pg_sub (pv 3) (pe_op op_plus (pe_op op_floor (pv 2) (pe_int)) (pe_int)) set_list)) (pss_one (ps_expr (pe_bm PySem.F.plainAttrs_list PySem.F.slot_list_append PySem.F.type_list_append mt_append (pe_ix ix_seq (pv 0) (pe_int) (fun _ _ => rfl)) (by exact (pa_cons (pe_op op_floor (pv 2) (pe_int)) pa_nil)))))) pss_nil)))) (pure_l_shaded T.hc)
abbrev s_l_wrote : Stmt := topS 59
theorem sc_l_wrote : FnScope ["_law_mem", "_law_cap", "_law_nur", "_law_address", "_law_place", "_law_word", "_law_words", "_law_at", "_law_worth"] ["_law_mem", "_law_cap", "_law_nur", "_law_address", "_law_place", "_law_word"] (defScope s_l_wrote) := ⟨rfl, rfl, rfl, by decide +kernel, rfl, by decide +kernel, by decide +kernel⟩
theorem ok_l_wrote {L : Nat} (T : Txt K mg C) (g_l_spot : GF P w K mg base L "_law_spot" ["_law_mem", "_law_cap", "_law_address"] (phi_l_spot K C)) (g_l_led : GF P w K mg base L "_law_led" ["_law_mem", "_law_cap", "_law_word"] (phi_l_led K C)) (g_l_shaded : GF P w K mg base L "_law_shaded" ["_law_mem", "_law_nur", "_law_word"] (phi_l_shaded K C)) {f : Addr} {fd : FuncData} (F : FnP K "_law_wrote" s_l_wrote f fd) (hm : mg "_law_wrote" = some (.ref f)) : GF P w K mg base (L + 1) "_law_wrote" ["_law_mem", "_law_cap", "_law_nur", "_law_address", "_law_place", "_law_word"] (phi_l_wrote K C) :=
  GF.mk F hm sc_l_wrote (F.bindsN (fun _ _ _ _ _ _ us hl => match us, hl with | [_, _, _, _, _, _], _ => rfl)) (fun cdv A outer s H E hr => (pss_then (ps_set (i := 6) sc_l_wrote.nd rfl (by first | exact Or.inl rfl | exact Or.inr rfl) (pe_ix ix_seq (pv 0) (pe_int) (fun _ _ => rfl))) (pss_then (ps_set (i := 7) sc_l_wrote.nd rfl (by first | exact Or.inl rfl | exact Or.inr rfl) (pe_callG g_l_spot hr (by rfl) (pa_cons (pv 0) (pa_cons (pv 1) (pa_cons (pv 3) pa_nil))))) (pss_then (ps_set (i := 8) sc_l_wrote.nd rfl (by first | exact Or.inl rfl | exact Or.inr rfl) (pe_callG g_l_led hr (by rfl) (pa_cons (pv 0) (pa_cons (pv 1) (pa_cons (pv 5) pa_nil))))) (pss_then (ps_asg (pv 8) (pg_sub (pv 6) (pe_op op_plus (pe_op op_plus (pv 7) (pe_int)) (pv 4)) set_list)) (pss_one (ps_if (PW.pt (pw_and (pt_cmpR op_gt (pv 7) (pv 2) (nomark _)) (pw_and (pt_cmpR op_gt (pv 8) (pe_int) (nomark _)) (pw_and1 (pt_cmpR (op_eqU hr.units) (pe_op op_rest (pe_callTy cb_int rfl T.b_int (by decide +kernel) (pa_cons (pv 8) pa_nil)) (pe_int)) (pe_int) (nomark _)))))) (pss_then (ps_if (PW.pt (pw_and (pt_cmpR op_le (pe_op op_floor (pv 8) (pe_int)) (pv 2) (nomark _)) (pw_and1 (pt_cmpR (op_eqU hr.units) (pe_op op_rest (pe_op op_floor (pe_callTy cb_int rfl T.b_int (by decide +kernel) (pa_cons (pe_ix ix_seq (pv 6) (pe_op op_plus (pv 7) (pe_int)) (fun _ _ => rfl)) pa_nil)) (pe_int)) (pe_int)) (pe_int) (nomark _))))) (pss_then (ps_asg (pe_op op_plus (pe_ix ix_seq (pv 6) (pe_op op_plus (pv 7) (pe_int)) (fun _ _ => rfl)) (pe_int)) (pg_sub (pv 6) (pe_op op_plus (pv 7) (pe_int)) set_list)) (pss_one (ps_expr (pe_bm PySem.F.plainAttrs_list PySem.F.slot_list_append PySem.F.type_list_append mt_append (pe_ix ix_seq (pv 0) (pe_int) (fun _ _ => rfl)) (by exact (pa_cons (pv 7) pa_nil)))))) pss_nil) (pss_one (ps_if (PW.pt (pw_and (pt_cmpR (op_eqU hr.units) (pe_ix ix_seq (pv 0) (pe_int) (fun _ _ => rfl)) (pe_str) (nomark _)) (pw_and1 (pt_cmpR (op_eqU hr.units) (pe_op op_rest (pe_callTy cb_int rfl T.b_int (by decide +kernel) (pa_cons (pe_ix ix_seq (pv 6) (pe_op op_plus (pv 7) (pe_int)) (fun _ _ => rfl)) pa_nil)) (pe_int)) (pe_int) (nomark _))))) (pss_one (ps_expr (pe_callG g_l_shaded hr (by rfl) (pa_cons (pv 0) (pa_cons (pv 2) (pa_cons (pv 8) pa_nil)))))) pss_nil))) pss_nil))))))) (pure_l_wrote T.hc)
abbrev s_l_lifted : Stmt := topS 60
theorem sc_l_lifted : FnScope ["_law_mem", "_law_nur", "_law_word", "_law_moved", "_law_words", "_law_at", "_law_size", "_law_side", "_law_top", "_law_k"] ["_law_mem", "_law_nur", "_law_word", "_law_moved"] (defScope s_l_lifted) := ⟨rfl, rfl, rfl, by decide +kernel, rfl, by decide +kernel, by decide +kernel⟩
theorem ok_l_lifted {L : Nat} (T : Txt K mg C)  {f : Addr} {fd : FuncData} (F : FnP K "_law_lifted" s_l_lifted f fd) (hm : mg "_law_lifted" = some (.ref f)) : GF P w K mg base (L + 1) "_law_lifted" ["_law_mem", "_law_nur", "_law_word", "_law_moved"] (phi_l_lifted K C) :=
  GF.mk F hm sc_l_lifted (F.bindsN (fun _ _ _ _ _ _ us hl => match us, hl with | [_, _, _, _], _ => rfl)) (fun cdv A outer s H E hr => (pss_then (ps_if (PW.pt (pw_or (pt_cmpR op_le (pv 2) (pe_int) (nomark _)) (pw_or (pt_cmpR (op_eqU hr.units) (pe_op op_rest (pe_callTy cb_int rfl T.b_int (by decide +kernel) (pa_cons (pv 2) pa_nil)) (pe_int)) (pe_int) (nomark _)) (pw_or1 (pt_cmpR op_gt (pe_op op_floor (pv 2) (pe_int)) (pv 1) (nomark _)))))) (pss_one (ps_ret (pv 2))) pss_nil) (pss_then (ps_set (i := 4) sc_l_lifted.nd rfl (by first | exact Or.inl rfl | exact Or.inr rfl) (pe_ix ix_seq (pv 0) (pe_int) (fun _ _ => rfl))) (pss_then (ps_set (i := 5) sc_l_lifted.nd rfl (by first | exact Or.inl rfl | exact Or.inr rfl) (pe_op op_floor (pv 2) (pe_int))) (pss_then (ps_if (pt_cmpR (op_eqU hr.units) (pe_op op_floor (pe_ix ix_seq (pv 4) (pe_op op_plus (pv 5) (pe_int)) (fun _ _ => rfl)) (pe_int)) (pe_int) (nomark _)) (pss_then (ps_set (i := 6) sc_l_lifted.nd rfl (by first | exact Or.inl rfl | exact Or.inr rfl) (pe_op op_plus (pe_int) (pe_op op_floor (pe_ix ix_seq (pv 4) (pv 5) (fun _ _ => rfl)) (pe_int)))) (pss_then (ps_set (i := 7) sc_l_lifted.nd rfl (by first | exact Or.inl rfl | exact Or.inr rfl) (pe_op op_plus (pe_int) (pe_op op_times (pe_int) (pe_callTy cb_int rfl T.b_int (by decide +kernel) (pa_cons (pe_cmpR op_in_seq (pe_ix ix_seq (pv 0) (pe_int) (fun _ _ => rfl)) (pe_lst (pa_cons (pe_str) (pa_cons (pe_str) pa_nil))) (by first | rfl | exact nomark _)) pa_nil))))) (pss_then (ps_set (i := 8) sc_l_lifted.nd rfl (by first | exact Or.inl rfl | exact Or.inr rfl) (pe_ix ix_seq (pv 0) (pv 7) (fun _ _ => rfl))) (pss_then (ps_for PassesOwn.never rfl (pi_range1 rfl T.b_range (pa_cons (pv 6) pa_nil)) (pg_name (i := 9) sc_l_lifted.nd rfl (by first | exact Or.inl rfl | exact Or.inr rfl)) (pss_one (ps_asg (pe_ix ix_seq (pv 4) (pe_op op_plus (pv 5) (pv 9)) (fun _ _ => rfl)) (pg_sub (pv 4) (pe_op op_plus (pv 8) (pv 9)) set_list)))) (pss_then (ps_asg (pe_callTy cb_int rfl T.b_int (by decide +kernel) (pa_cons (pe_cmpR (op_eqU hr.units) (pe_ix ix_seq (pv 0) (pe_int) (fun _ _ => rfl)) (pe_str) (nomark _)) pa_nil)) (pg_sub (pv 4) (pe_op op_plus (pv 8) (pe_int)) set_list)) (pss_then (ps_if (pt_cmpR (op_eqU hr.units) (pe_ix ix_seq (pv 0) (pe_int) (fun _ _ => rfl)) (pe_str) (nomark _)) (pss_one (ps_expr (pe_bm PySem.F.plainAttrs_list PySem.F.slot_list_append PySem.F.type_list_append mt_append (pe_ix ix_seq (pv 0) (pe_int) (fun _ _ => rfl)) (by exact (pa_cons (pv 8) pa_nil))))) pss_nil) (pss_then (ps_asg (pe_op op_plus (pv 8) (pv 6)) (pg_sub (pv 0) (pv 7) set_list)) (pss_then (ps_asg (pe_op op_times (pe_int) (pv 8)) (pg_sub (pv 4) (pe_op op_plus (pv 5) (pe_int)) set_list)) (pss_one (ps_expr (pe_bm PySem.F.plainAttrs_list PySem.F.slot_list_append PySem.F.type_list_append mt_append (pv 3) (by exact (pa_cons (pv 8) pa_nil))))))))))))) pss_nil) (pss_one (ps_ret (pe_op op_times (pe_int) (pe_op op_floor (pe_ix ix_seq (pv 4) (pe_op op_plus (pv 5) (pe_int)) (fun _ _ => rfl)) (pe_int)))))))))) (pure_l_lifted T.hc)
abbrev s_l_lifted_block : Stmt := topS 61
theorem sc_l_lifted_block : FnScope ["_law_mem", "_law_nur", "_law_at", "_law_moved", "_law_words", "_law_k"] ["_law_mem", "_law_nur", "_law_at", "_law_moved"] (defScope s_l_lifted_block) := ⟨rfl, rfl, rfl, by decide +kernel, rfl, by decide +kernel, by decide +kernel⟩
theorem ok_l_lifted_block {L : Nat} (T : Txt K mg C) (g_l_lifted : GF P w K mg base L "_law_lifted" ["_law_mem", "_law_nur", "_law_word", "_law_moved"] (phi_l_lifted K C)) {f : Addr} {fd : FuncData} (F : FnP K "_law_lifted_block" s_l_lifted_block f fd) (hm : mg "_law_lifted_block" = some (.ref f)) : GF P w K mg base (L + 1) "_law_lifted_block" ["_law_mem", "_law_nur", "_law_at", "_law_moved"] (phi_l_lifted_block K C) :=
  GF.mk F hm sc_l_lifted_block (F.bindsN (fun _ _ _ _ _ _ us hl => match us, hl with | [_, _, _, _], _ => rfl)) (fun cdv A outer s H E hr => (pss_then (ps_set (i := 4) sc_l_lifted_block.nd rfl (by first | exact Or.inl rfl | exact Or.inr rfl) (pe_ix ix_seq (pv 0) (pe_int) (fun _ _ => rfl))) (pss_one (ps_for PassesOwn.never rfl (pi_range2 rfl T.b_range (pa_cons (pe_op op_plus (pv 2) (pe_int)) (pa_cons (pe_op op_plus (pe_op op_plus (pv 2) (pe_int)) (pe_op op_floor (pe_ix ix_seq (pv 4) (pv 2) (fun _ _ => rfl)) (pe_int))) pa_nil))) (pg_name (i := 5) sc_l_lifted_block.nd rfl (by first | exact Or.inl rfl | exact Or.inr rfl)) (pss_one (ps_asg (pe_callG g_l_lifted hr (by rfl) (pa_cons (pv 0) (pa_cons (pv 1) (pa_cons (pe_ix ix_seq (pv 4) (pv 5) (fun _ _ => rfl)) (pa_cons (pv 3) pa_nil))))) (pg_sub (pv 4) (pv 5) set_list))))))) (pure_l_lifted_block T.hc)
abbrev s_l_emptied : Stmt := topS 62
theorem sc_l_emptied : FnScope ["_law_mem", "_law_cap", "_law_nur", "_law_rows", "_law_words", "_law_moved", "_law_row", "_law_k", "_law_address", "_law_at"] ["_law_mem", "_law_cap", "_law_nur", "_law_rows"] (defScope s_l_emptied) := ⟨rfl, rfl, rfl, by decide +kernel, rfl, by decide +kernel, by decide +kernel⟩
theorem ok_l_emptied {L : Nat} (T : Txt K mg C) (g_l_lifted : GF P w K mg base L "_law_lifted" ["_law_mem", "_law_nur", "_law_word", "_law_moved"] (phi_l_lifted K C)) (g_l_spot : GF P w K mg base L "_law_spot" ["_law_mem", "_law_cap", "_law_address"] (phi_l_spot K C)) (g_l_lifted_block : GF P w K mg base L "_law_lifted_block" ["_law_mem", "_law_nur", "_law_at", "_law_moved"] (phi_l_lifted_block K C)) {f : Addr} {fd : FuncData} (F : FnP K "_law_emptied" s_l_emptied f fd) (hm : mg "_law_emptied" = some (.ref f)) : GF P w K mg base (L + 1) "_law_emptied" ["_law_mem", "_law_cap", "_law_nur", "_law_rows"] (phi_l_emptied K C) :=
  GF.mk F hm sc_l_emptied (F.bindsN (fun _ _ _ _ _ _ us hl => match us, hl with | [_, _, _, _], _ => rfl)) (fun cdv A outer s H E hr => (pss_then (ps_set (i := 4) sc_l_emptied.nd rfl (by first | exact Or.inl rfl | exact Or.inr rfl) (pe_ix ix_seq (pv 0) (pe_int) (fun _ _ => rfl))) (pss_then (ps_set (i := 5) sc_l_emptied.nd rfl (by first | exact Or.inl rfl | exact Or.inr rfl) (pe_lst pa_nil)) (pss_then (ps_for PassesOwn.never rfl (pi_seq (pv 3)) (pg_name (i := 6) sc_l_emptied.nd rfl (by first | exact Or.inl rfl | exact Or.inr rfl)) (pss_one (ps_for PassesOwn.never rfl (pi_range1 rfl T.b_range (pa_cons (pe_callB cb_len rfl T.b_len (by decide +kernel) (pa_cons (pv 6) pa_nil)) pa_nil)) (pg_name (i := 7) sc_l_emptied.nd rfl (by first | exact Or.inl rfl | exact Or.inr rfl)) (pss_one (ps_asg (pe_callG g_l_lifted hr (by rfl) (pa_cons (pv 0) (pa_cons (pv 2) (pa_cons (pe_ix ix_seq (pv 6) (pv 7) (fun _ _ => rfl)) (pa_cons (pv 5) pa_nil))))) (pg_sub (pv 6) (pv 7) set_list)))))) (pss_then (ps_for PassesOwn.never rfl (pi_seq (pe_ix ix_seq (pv 0) (pe_int) (fun _ _ => rfl))) (pg_name (i := 8) sc_l_emptied.nd rfl (by first | exact Or.inl rfl | exact Or.inr rfl)) (pss_then (ps_set (i := 9) sc_l_emptied.nd rfl (by first | exact Or.inl rfl | exact Or.inr rfl) (pe_callG g_l_spot hr (by rfl) (pa_cons (pv 0) (pa_cons (pv 1) (pa_cons (pv 8) pa_nil))))) (pss_then (ps_expr (pe_callG g_l_lifted_block hr (by rfl) (pa_cons (pv 0) (pa_cons (pv 2) (pa_cons (pv 9) (pa_cons (pv 5) pa_nil)))))) (pss_one (ps_asg (pe_op op_minus (pe_ix ix_seq (pv 4) (pe_op op_plus (pv 9) (pe_int)) (fun _ _ => rfl)) (pe_int)) (pg_sub (pv 4) (pe_op op_plus (pv 9) (pe_int)) set_list)))))) (pss_then (ps_asg (pe_lst pa_nil) (pg_sub (pv 0) (pe_int) set_list)) (pss_then (ps_for PassesOwn.never rfl (pi_range1 rfl T.b_range (pa_cons (pe_int) pa_nil)) (pg_name (i := 7) sc_l_emptied.nd rfl (by first | exact Or.inl rfl | exact Or.inr rfl)) (pss_then (ps_if (pt_cmpR op_ge (pv 7) (pe_callB cb_len rfl T.b_len (by decide +kernel) (pa_cons (pv 5) pa_nil)) (nomark _)) (pss_one (ps_break)) pss_nil) (pss_one (ps_expr (pe_callG g_l_lifted_block hr (by rfl) (pa_cons (pv 0) (pa_cons (pv 2) (pa_cons (pe_ix ix_seq (pv 5) (pv 7) (fun _ _ => rfl)) (pa_cons (pv 5) pa_nil))))))))) (pss_then (ps_for PassesOwn.never rfl (pi_range2 rfl T.b_range (pa_cons (pe_int) (pa_cons (pe_op op_plus (pv 2) (pe_int)) pa_nil))) (pg_name (i := 7) sc_l_emptied.nd rfl (by first | exact Or.inl rfl | exact Or.inr rfl)) (pss_one (ps_asg (pe_int) (pg_sub (pv 4) (pv 7) set_list)))) (pss_one (ps_asg (pe_int) (pg_sub (pv 0) (pe_int) set_list))))))))))) (pure_l_emptied T.hc)
abbrev s_l_laid : Stmt := topS 63
theorem sc_l_laid : FnScope ["_law_mem", "_law_cap", "_law_nur", "_law_rows", "_law_shape", "_law_payload_here", "_law_words", "_law_size", "_law_side", "_law_at", "_law_k"] ["_law_mem", "_law_cap", "_law_nur", "_law_rows", "_law_shape", "_law_payload_here"] (defScope s_l_laid) := ⟨rfl, rfl, rfl, by decide +kernel, rfl, by decide +kernel, by decide +kernel⟩
theorem ok_l_laid {L : Nat} (T : Txt K mg C) (g_l_emptied : GF P w K mg base L "_law_emptied" ["_law_mem", "_law_cap", "_law_nur", "_law_rows"] (phi_l_emptied K C)) {f : Addr} {fd : FuncData} (F : FnP K "_law_laid" s_l_laid f fd) (hm : mg "_law_laid" = some (.ref f)) : GF P w K mg base (L + 1) "_law_laid" ["_law_mem", "_law_cap", "_law_nur", "_law_rows", "_law_shape", "_law_payload_here"] (phi_l_laid K C) :=
  GF.mk F hm sc_l_laid (F.bindsN (fun _ _ _ _ _ _ us hl => match us, hl with | [_, _, _, _, _, _], _ => rfl)) (fun cdv A outer s H E hr => (pss_then (ps_set (i := 6) sc_l_laid.nd rfl (by first | exact Or.inl rfl | exact Or.inr rfl) (pe_ix ix_seq (pv 0) (pe_int) (fun _ _ => rfl))) (pss_then (ps_set (i := 7) sc_l_laid.nd rfl (by first | exact Or.inl rfl | exact Or.inr rfl) (pe_op op_plus (pe_int) (pe_callB cb_len rfl T.b_len (by decide +kernel) (pa_cons (pv 5) pa_nil)))) (pss_then (ps_set (i := 8) sc_l_laid.nd rfl (by first | exact Or.inl rfl | exact Or.inr rfl) (pe_int)) (pss_then (ps_if (pt_cmpR op_gt (pv 7) (pv 2) (nomark _)) (pss_one (ps_set (i := 8) sc_l_laid.nd rfl (by first | exact Or.inl rfl | exact Or.inr rfl) (pe_op op_plus (pe_int) (pe_op op_times (pe_int) (pe_callTy cb_int rfl T.b_int (by decide +kernel) (pa_cons (pe_cmpR op_in_seq (pe_ix ix_seq (pv 0) (pe_int) (fun _ _ => rfl)) (pe_lst (pa_cons (pe_str) (pa_cons (pe_str) pa_nil))) (by first | rfl | exact nomark _)) pa_nil)))))) (pss_one (ps_if (pt_cmpR op_lt (pe_op op_minus (pe_op op_plus (pv 2) (pe_int)) (pe_ix ix_seq (pv 0) (pe_int) (fun _ _ => rfl))) (pv 7) (nomark _)) (pss_one (ps_expr (pe_callG g_l_emptied hr (by rfl) (pa_cons (pv 0) (pa_cons (pv 1) (pa_cons (pv 2) (pa_cons (pv 3) pa_nil))))))) pss_nil))) (pss_then (ps_set (i := 9) sc_l_laid.nd rfl (by first | exact Or.inl rfl | exact Or.inr rfl) (pe_ix ix_seq (pv 0) (pv 8) (fun _ _ => rfl))) (pss_then (ps_asg (pe_op op_plus (pv 9) (pv 7)) (pg_sub (pv 0) (pv 8) set_list)) (pss_then (ps_asg (pe_op op_plus (pe_op op_times (pe_int) (pe_callB cb_len rfl T.b_len (by decide +kernel) (pa_cons (pv 5) pa_nil))) (pv 4)) (pg_sub (pv 6) (pv 9) set_list)) (pss_then (ps_asg (pe_op op_times (pe_int) (pe_callTy cb_int rfl T.b_int (by decide +kernel) (pa_cons (pe_and (pe_cmpR op_gt (pv 8) (pe_int) (nomark _)) (pe_one (pe_cmpR (op_eqU hr.units) (pe_ix ix_seq (pv 0) (pe_int) (fun _ _ => rfl)) (pe_str) (nomark _)))) pa_nil))) (pg_sub (pv 6) (pe_op op_plus (pv 9) (pe_int)) set_list)) (pss_then (ps_for PassesOwn.never rfl (pi_range1 rfl T.b_range (pa_cons (pe_callB cb_len rfl T.b_len (by decide +kernel) (pa_cons (pv 5) pa_nil)) pa_nil)) (pg_name (i := 10) sc_l_laid.nd rfl (by first | exact Or.inl rfl | exact Or.inr rfl)) (pss_one (ps_asg (pe_ix ix_seq (pv 5) (pv 10) (fun _ _ => rfl)) (pg_sub (pv 6) (pe_op op_plus (pe_op op_plus (pv 9) (pe_int)) (pv 10)) set_list)))) (pss_one (ps_ret (pv 9))))))))))))) (pure_l_laid T.hc)
abbrev s_l_passed : Stmt := topS 64
theorem sc_l_passed : FnScope ["_law_rows", "_law_digit"] ["_law_rows", "_law_digit"] (defScope s_l_passed) := ⟨rfl, rfl, rfl, by decide +kernel, rfl, by decide +kernel, by decide +kernel⟩
theorem ok_l_passed {L : Nat} (T : Txt K mg C)  {f : Addr} {fd : FuncData} (F : FnP K "_law_passed" s_l_passed f fd) (hm : mg "_law_passed" = some (.ref f)) : GF P w K mg base (L + 1) "_law_passed" ["_law_rows", "_law_digit"] (phi_l_passed K C) :=
  GF.mk F hm sc_l_passed (F.bindsN (fun _ _ _ _ _ _ us hl => match us, hl with | [_, _], _ => rfl)) (fun cdv A outer s H E hr => (pss_then (ps_if (pt_cmpR (op_eqU hr.units) (pv 1) (pe_int) (nomark _)) (pss_one (ps_ret (pe_callTy cb_tuple rfl T.b_tuple (by decide +kernel) (pa_cons (pv 0) pa_nil)))) pss_nil) (pss_one (ps_ret (pe_callTy cb_list rfl T.b_list (by decide +kernel) (pa_cons (pv 0) pa_nil)))))) (pure_l_passed T.hc)
abbrev s_l_places : Stmt := topS 65
theorem sc_l_places : FnScope ["_law_rows", "_law_row"] ["_law_rows"] (defScope s_l_places) := ⟨rfl, rfl, rfl, by decide +kernel, rfl, by decide +kernel, by decide +kernel⟩
theorem ok_l_places {L : Nat} (T : Txt K mg C)  {f : Addr} {fd : FuncData} (F : FnP K "_law_places" s_l_places f fd) (hm : mg "_law_places" = some (.ref f)) : GF P w K mg base (L + 1) "_law_places" ["_law_rows"] (phi_l_places K C) :=
  GF.mk F hm sc_l_places (F.bindsN (fun _ _ _ _ _ _ us hl => match us, hl with | [_], _ => rfl)) (fun cdv A outer s H E hr => (pss_one (ps_ret (pe_callB (cr_sum rfl) rfl T.b_sum (by decide +kernel) (pa_cons (pe_lc (X := (cxOf CX0 P w K mg base ["_law_rows", "_law_row"] "_law_places" (defScope s_l_places) f cdv A outer s H E).nox) (own := [("_law_row", 1)]) (g := gName 1) (tt := tYes) rfl sc_l_places.nd (pi_seq (pv 0)) (blkOk_by (own := [("_law_row", 1)]) (by kernel_rfl)) (fun _ _ _ _ _ => pg_name (i := 1) sc_l_places.nd rfl (Or.inl rfl)) (fun _ _ _ _ _ => pts_nil) (fun _ _ _ _ _ => (pe_callB cb_len rfl T.b_len (by decide +kernel) (pa_cons (pv 1) pa_nil)))) pa_nil))))) (pure_l_places T.hc)
abbrev s_l_written : Stmt := topS 66
theorem sc_l_written : FnScope ["_law_heap", "_law_mem", "_law_bounds_here", "_law_at", "_law_place", "_law_word"] ["_law_heap", "_law_mem", "_law_bounds_here", "_law_at", "_law_place", "_law_word"] (defScope s_l_written) := ⟨rfl, rfl, rfl, by decide +kernel, rfl, by decide +kernel, by decide +kernel⟩
theorem ok_l_written {L : Nat} (T : Txt K mg C) (g_write_word : GF P w K mg base L "write_word" ["heap", "address", "place", "word"] (phi_write_word K C)) (g_l_wrote : GF P w K mg base L "_law_wrote" ["_law_mem", "_law_cap", "_law_nur", "_law_address", "_law_place", "_law_word"] (phi_l_wrote K C)) {f : Addr} {fd : FuncData} (F : FnP K "_law_written" s_l_written f fd) (hm : mg "_law_written" = some (.ref f)) : GF P w K mg base (L + 1) "_law_written" ["_law_heap", "_law_mem", "_law_bounds_here", "_law_at", "_law_place", "_law_word"] (phi_l_written K C) :=
  GF.mk F hm sc_l_written (F.bindsN (fun _ _ _ _ _ _ us hl => match us, hl with | [_, _, _, _, _, _], _ => rfl)) (fun cdv A outer s H E hr => (pss_then (ps_expr (pe_callG g_write_word hr (by rfl) (pa_cons (pv 0) (pa_cons (pv 3) (pa_cons (pv 4) (pa_cons (pv 5) pa_nil)))))) (pss_one (ps_expr (pe_callG g_l_wrote hr (by rfl) (pa_cons (pv 1) (pa_cons (pe_ix ix_seq (pv 2) (pe_int) (fun _ _ => rfl)) (pa_cons (pe_ix ix_seq (pv 2) (pe_int) (fun _ _ => rfl)) (pa_cons (pv 3) (pa_cons (pv 4) (pa_cons (pv 5) pa_nil))))))))))) (pure_l_written T.hc)
abbrev s_l_sides : Stmt := topS 67
theorem sc_l_sides : FnScope ["_law_mem", "_law_bounds_here", "_law_mine", "_law_found", "_law_full", "_law_pair", "_law_at"] ["_law_mem", "_law_bounds_here", "_law_mine"] (defScope s_l_sides) := ⟨rfl, rfl, rfl, by decide +kernel, rfl, by decide +kernel, by decide +kernel⟩
theorem ok_l_sides {L : Nat} (T : Txt K mg C) (g_l_met : GF P w K mg base L "_law_met" ["_law_mem", "_law_cap", "_law_rows"] (phi_l_met K C)) {f : Addr} {fd : FuncData} (F : FnP K "_law_sides" s_l_sides f fd) (hm : mg "_law_sides" = some (.ref f)) : GF P w K mg base (L + 1) "_law_sides" ["_law_mem", "_law_bounds_here", "_law_mine"] (phi_l_sides K C) :=
  GF.mk F hm sc_l_sides (F.bindsN (fun _ _ _ _ _ _ us hl => match us, hl with | [_, _, _], _ => rfl)) (fun cdv A outer s H E hr => (pss_then (ps_setLc (i := 3) (X := (cxOf CX0 P w K mg base ["_law_mem", "_law_bounds_here", "_law_mine", "_law_found", "_law_full", "_law_pair", "_law_at"] "_law_sides" (defScope s_l_sides) f cdv A outer s H E).nox) (own := [("_law_pair", 5)]) (g := gName 5) (tt := tYes) rfl sc_l_sides.nd rfl rfl (sw_true rfl rfl rfl (by decide +kernel)) (pi_seq (X := (cxOf CX0 P w K mg base ["_law_mem", "_law_bounds_here", "_law_mine", "_law_found", "_law_full", "_law_pair", "_law_at"] "_law_sides" (defScope s_l_sides) f cdv A outer s H E).nox) (pe_callG (X := (cxOf CX0 P w K mg base ["_law_mem", "_law_bounds_here", "_law_mine", "_law_found", "_law_full", "_law_pair", "_law_at"] "_law_sides" (defScope s_l_sides) f cdv A outer s H E).nox) g_l_met hr (by rfl) (pa_cons (pv 0) (pa_cons (pe_ix ix_seq (pv 1) (pe_int) (fun _ _ => rfl)) (pa_cons (pv 2) pa_nil))))) (blkOk_by (own := [("_law_pair", 5)]) (by kernel_rfl)) (fun _ _ _ _ _ => pg_name (i := 5) sc_l_sides.nd rfl (Or.inl rfl)) (fun _ _ _ _ _ => pts_nil) (fun _ _ _ _ _ => (pe_ix ix_seq (pv 5) (pe_int) (fun _ _ => rfl)))) (pss_then (ps_setLc (i := 4) (X := (cxOf CX0 P w K mg base ["_law_mem", "_law_bounds_here", "_law_mine", "_law_found", "_law_full", "_law_pair", "_law_at"] "_law_sides" (defScope s_l_sides) f cdv A outer s H E).nox) (own := [("_law_at", 6)]) (g := gName 6) (tt := (tTest (tOp rGe (tOp (rIx K) (tOp (rIx K) (tVar 0) (tC (.int 10))) (tVar 6)) (tC (.int 64))))) rfl sc_l_sides.nd rfl rfl (sw_true rfl rfl rfl (by decide +kernel)) (pi_seq (pv 3)) (blkOk_by (own := [("_law_at", 6)]) (by kernel_rfl)) (fun _ _ _ _ _ => pg_name (i := 6) sc_l_sides.nd rfl (Or.inl rfl)) (fun _ _ _ _ _ => (pts_one (pt_cmpR op_ge (pe_ix ix_seq (pe_ix ix_seq (pv 0) (pe_int) (fun _ _ => rfl)) (pv 6) (fun _ _ => rfl)) (pe_int) (nomark _)))) (fun _ _ _ _ _ => (pv 6))) (pss_one (ps_ret (pe_lst (pa_cons (pv 4) (pa_cons (pv 3) (pa_cons (pe_lc (X := (cxOf CX0 P w K mg base ["_law_mem", "_law_bounds_here", "_law_mine", "_law_found", "_law_full", "_law_pair", "_law_at"] "_law_sides" (defScope s_l_sides) f cdv A outer s H E).nox) (own := [("_law_at", 6)]) (g := gName 6) (tt := (tTest (tOp rGt (tVar 6) (tOp (rIx K) (tVar 1) (tC (.int 1)))))) rfl sc_l_sides.nd (pi_seq (pv 4)) (blkOk_by (own := [("_law_at", 6)]) (by kernel_rfl)) (fun _ _ _ _ _ => pg_name (i := 6) sc_l_sides.nd rfl (Or.inl rfl)) (fun _ _ _ _ _ => (pts_one (pt_cmpR op_gt (pv 6) (pe_ix ix_seq (pv 1) (pe_int) (fun _ _ => rfl)) (nomark _)))) (fun _ _ _ _ _ => (pv 6))) (pa_cons (pe_lc (X := (cxOf CX0 P w K mg base ["_law_mem", "_law_bounds_here", "_law_mine", "_law_found", "_law_full", "_law_pair", "_law_at"] "_law_sides" (defScope s_l_sides) f cdv A outer s H E).nox) (own := [("_law_at", 6)]) (g := gName 6) (tt := (tTest (tOp rLe (tVar 6) (tOp (rIx K) (tVar 1) (tC (.int 1)))))) rfl sc_l_sides.nd (pi_seq (pv 3)) (blkOk_by (own := [("_law_at", 6)]) (by kernel_rfl)) (fun _ _ _ _ _ => pg_name (i := 6) sc_l_sides.nd rfl (Or.inl rfl)) (fun _ _ _ _ _ => (pts_one (pt_cmpR op_le (pv 6) (pe_ix ix_seq (pv 1) (pe_int) (fun _ _ => rfl)) (nomark _)))) (fun _ _ _ _ _ => (pv 6))) pa_nil)))))))))) (pure_l_sides T.hc)
abbrev s_l_placed : Stmt := topS 68
theorem sc_l_placed : FnScope ["_law_heap", "_law_mem", "_law_bounds_here", "_law_rows", "_law_mine", "_law_row", "_law_many", "_law_payload_here", "_law_at", "_law_due", "_law_sides_here", "_law_held"] ["_law_heap", "_law_mem", "_law_bounds_here", "_law_rows", "_law_mine", "_law_row"] (defScope s_l_placed) := ⟨rfl, rfl, rfl, by decide +kernel, rfl, by decide +kernel, by decide +kernel⟩
theorem ok_l_placed {L : Nat} (T : Txt K mg C) (g_l_length : GF P w K mg base L "_law_length" ["_law_first", "_law_second"] (phi_l_length K C)) (g_l_used : GF P w K mg base L "_law_used" ["_law_mem"] (phi_l_used K C)) (g_l_emptying : GF P w K mg base L "_law_emptying" ["_law_heap", "_law_mem", "_law_bounds_here", "_law_rows", "_law_mine", "_law_digit"] (phi_l_emptying K C)) (g_l_payload : GF P w K mg base L "_law_payload" ["_law_length_here", "_law_mix", "_law_number"] (phi_l_payload K C)) (g_place_block : GF P w K mg base L "place_block" ["heap", "rows", "shape_number", "payload"] (phi_place_block K C)) (g_l_passed : GF P w K mg base L "_law_passed" ["_law_rows", "_law_digit"] (phi_l_passed K C)) (g_l_laid : GF P w K mg base L "_law_laid" ["_law_mem", "_law_cap", "_law_nur", "_law_rows", "_law_shape", "_law_payload_here"] (phi_l_laid K C)) (g_l_whole : GF P w K mg base L "_law_whole" ["_law_value"] (phi_l_whole K C)) (g_l_sides : GF P w K mg base L "_law_sides" ["_law_mem", "_law_bounds_here", "_law_mine"] (phi_l_sides K C)) (g_l_written : GF P w K mg base L "_law_written" ["_law_heap", "_law_mem", "_law_bounds_here", "_law_at", "_law_place", "_law_word"] (phi_l_written K C)) (g_l_put : GF P w K mg base L "_law_put" ["_law_rows", "_law_spot_here", "_law_word"] (phi_l_put K C)) (g_l_places : GF P w K mg base L "_law_places" ["_law_rows"] (phi_l_places K C)) {f : Addr} {fd : FuncData} (F : FnP K "_law_placed" s_l_placed f fd) (hm : mg "_law_placed" = some (.ref f)) : GF P w K mg base (L + 1) "_law_placed" ["_law_heap", "_law_mem", "_law_bounds_here", "_law_rows", "_law_mine", "_law_row"] (phi_l_placed K C) :=
  GF.mk F hm sc_l_placed (F.bindsN (fun _ _ _ _ _ _ us hl => match us, hl with | [_, _, _, _, _, _], _ => rfl)) (fun cdv A outer s H E hr => (pss_then (ps_set (i := 6) sc_l_placed.nd rfl (by first | exact Or.inl rfl | exact Or.inr rfl) (pe_callG g_l_length hr (by rfl) (pa_cons (pe_ix ix_seq (pv 5) (pe_int) (fun _ _ => rfl)) (pa_cons (pe_ix ix_seq (pv 5) (pe_int) (fun _ _ => rfl)) pa_nil)))) (pss_then (ps_if (pt_cmpR op_gt (pe_op op_plus (pe_op op_plus (pe_callG g_l_used hr (by rfl) (pa_cons (pv 1) pa_nil)) (pe_int)) (pv 6)) (pe_ix ix_seq (pv 2) (pe_int) (fun _ _ => rfl)) (nomark _)) (pss_one (ps_ret (pe_callG g_l_emptying hr (by rfl) (pa_cons (pv 0) (pa_cons (pv 1) (pa_cons (pv 2) (pa_cons (pv 3) (pa_cons (pv 4) (pa_cons (pe_ix ix_seq (pv 5) (pe_int) (fun _ _ => rfl)) pa_nil))))))))) pss_nil) (pss_then (ps_set (i := 7) sc_l_placed.nd rfl (by first | exact Or.inl rfl | exact Or.inr rfl) (pe_callG g_l_payload hr (by rfl) (pa_cons (pv 6) (pa_cons (pe_ix ix_seq (pv 5) (pe_int) (fun _ _ => rfl)) (pa_cons (pe_ix ix_seq (pv 5) (pe_int) (fun _ _ => rfl)) pa_nil))))) (pss_then (ps_set (i := 8) sc_l_placed.nd rfl (by first | exact Or.inl rfl | exact Or.inr rfl) (pe_callG g_place_block hr (by rfl) (pa_cons (pv 0) (pa_cons (pe_callG g_l_passed hr (by rfl) (pa_cons (pv 3) (pa_cons (pe_ix ix_seq (pv 5) (pe_int) (fun _ _ => rfl)) pa_nil))) (pa_cons (pe_ix ix_seq (pv 5) (pe_int) (fun _ _ => rfl)) (pa_cons (pe_callTy cb_list rfl T.b_list (by decide +kernel) (pa_cons (pv 7) pa_nil)) pa_nil)))))) (pss_then (ps_set (i := 9) sc_l_placed.nd rfl (by first | exact Or.inl rfl | exact Or.inr rfl) (pe_callG g_l_laid hr (by rfl) (pa_cons (pv 1) (pa_cons (pe_ix ix_seq (pv 2) (pe_int) (fun _ _ => rfl)) (pa_cons (pe_ix ix_seq (pv 2) (pe_int) (fun _ _ => rfl)) (pa_cons (pv 4) (pa_cons (pe_ix ix_seq (pv 5) (pe_int) (fun _ _ => rfl)) (pa_cons (pv 7) pa_nil)))))))) (pss_then (ps_if (PW.pt (pw_or (pt_not (pt_val (pe_callG g_l_whole hr (by rfl) (pa_cons (pv 8) pa_nil)))) (pw_or1 (pt_cmpR (op_neU hr.units) (pv 8) (pv 9) (nomark _))))) (pss_one (ps_ret (pe_bl))) pss_nil) (pss_then (ps_set (i := 10) sc_l_placed.nd rfl (by first | exact Or.inl rfl | exact Or.inr rfl) (pe_callG g_l_sides hr (by rfl) (pa_cons (pv 1) (pa_cons (pv 2) (pa_cons (pv 4) pa_nil))))) (pss_then (ps_if (PW.pt (pw_and (pt_cmpR op_gt (pe_callB cb_len rfl T.b_len (by decide +kernel) (pa_cons (pe_ix ix_seq (pv 10) (pe_int) (fun _ _ => rfl)) pa_nil)) (pe_int) (nomark _)) (pw_and1 (pt_cmpR op_lt (pe_ix ix_seq (pv 5) (pe_int) (fun _ _ => rfl)) (pe_int) (nomark _))))) (pss_then (ps_set (i := 11) sc_l_placed.nd rfl (by first | exact Or.inl rfl | exact Or.inr rfl) (pe_ix ix_seq (pe_ix ix_seq (pv 10) (pe_int) (fun _ _ => rfl)) (pe_op op_rest (pe_callTy cb_int rfl T.b_int (by decide +kernel) (pa_cons (pe_ix ix_seq (pv 5) (pe_int) (fun _ _ => rfl)) pa_nil)) (pe_callB cb_len rfl T.b_len (by decide +kernel) (pa_cons (pe_ix ix_seq (pv 10) (pe_int) (fun _ _ => rfl)) pa_nil))) (fun _ _ => rfl))) (pss_then (ps_if (pt_cmpR op_gt (pe_callB cb_len rfl T.b_len (by decide +kernel) (pa_cons (pe_ix ix_seq (pv 10) (pe_int) (fun _ _ => rfl)) pa_nil)) (pe_int) (nomark _)) (pss_one (ps_set (i := 11) sc_l_placed.nd rfl (by first | exact Or.inl rfl | exact Or.inr rfl) (pe_ix ix_seq (pe_ix ix_seq (pv 10) (pe_int) (fun _ _ => rfl)) (pe_op op_rest (pe_callTy cb_int rfl T.b_int (by decide +kernel) (pa_cons (pe_ix ix_seq (pv 5) (pe_int) (fun _ _ => rfl)) pa_nil)) (pe_callB cb_len rfl T.b_len (by decide +kernel) (pa_cons (pe_ix ix_seq (pv 10) (pe_int) (fun _ _ => rfl)) pa_nil))) (fun _ _ => rfl)))) pss_nil) (pss_then (ps_expr (pe_callG g_l_written hr (by rfl) (pa_cons (pv 0) (pa_cons (pv 1) (pa_cons (pv 2) (pa_cons (pv 11) (pa_cons (pe_op op_rest (pe_callTy cb_int rfl T.b_int (by decide +kernel) (pa_cons (pe_ix ix_seq (pv 5) (pe_int) (fun _ _ => rfl)) pa_nil)) (pe_op op_floor (pe_ix ix_seq (pe_ix ix_seq (pv 1) (pe_int) (fun _ _ => rfl)) (pv 11) (fun _ _ => rfl)) (pe_int))) (pa_cons (pe_op op_times (pe_int) (pv 9)) pa_nil)))))))) (pss_one (ps_ret (pe_bl)))))) pss_nil) (pss_then (ps_if (PW.pt (pw_and (pt_cmpR op_gt (pv 6) (pe_int) (nomark _)) (pw_and1 (pt_cmpR op_gt (pe_callB cb_len rfl T.b_len (by decide +kernel) (pa_cons (pe_ix ix_seq (pv 10) (pe_int) (fun _ _ => rfl)) pa_nil)) (pe_int) (nomark _))))) (pss_one (ps_expr (pe_callG g_l_written hr (by rfl) (pa_cons (pv 0) (pa_cons (pv 1) (pa_cons (pv 2) (pa_cons (pv 9) (pa_cons (pe_op op_rest (pe_callTy cb_int rfl T.b_int (by decide +kernel) (pa_cons (pe_ix ix_seq (pv 5) (pe_int) (fun _ _ => rfl)) pa_nil)) (pv 6)) (pa_cons (pe_op op_times (pe_int) (pe_ix ix_seq (pe_ix ix_seq (pv 10) (pe_int) (fun _ _ => rfl)) (pe_op op_rest (pe_callTy cb_int rfl T.b_int (by decide +kernel) (pa_cons (pe_ix ix_seq (pv 5) (pe_int) (fun _ _ => rfl)) pa_nil)) (pe_callB cb_len rfl T.b_len (by decide +kernel) (pa_cons (pe_ix ix_seq (pv 10) (pe_int) (fun _ _ => rfl)) pa_nil))) (fun _ _ => rfl))) pa_nil))))))))) pss_nil) (pss_then (ps_expr (pe_callG g_l_put hr (by rfl) (pa_cons (pv 3) (pa_cons (pe_op op_rest (pe_callTy cb_int rfl T.b_int (by decide +kernel) (pa_cons (pe_ix ix_seq (pv 5) (pe_int) (fun _ _ => rfl)) pa_nil)) (pe_callG g_l_places hr (by rfl) (pa_cons (pv 4) pa_nil))) (pa_cons (pe_op op_times (pe_int) (pv 9)) pa_nil))))) (pss_then (ps_expr (pe_callG g_l_put hr (by rfl) (pa_cons (pv 4) (pa_cons (pe_op op_rest (pe_callTy cb_int rfl T.b_int (by decide +kernel) (pa_cons (pe_ix ix_seq (pv 5) (pe_int) (fun _ _ => rfl)) pa_nil)) (pe_callG g_l_places hr (by rfl) (pa_cons (pv 4) pa_nil))) (pa_cons (pe_op op_times (pe_int) (pv 9)) pa_nil))))) (pss_one (ps_ret (pe_bl))))))))))))))) (pure_l_placed T.hc)
abbrev s_l_linked : Stmt := topS 69
theorem sc_l_linked : FnScope ["_law_heap", "_law_mem", "_law_bounds_here", "_law_mine", "_law_row", "_law_sides_here", "_law_side", "_law_at", "_law_word"] ["_law_heap", "_law_mem", "_law_bounds_here", "_law_mine", "_law_row"] (defScope s_l_linked) := ⟨rfl, rfl, rfl, by decide +kernel, rfl, by decide +kernel, by decide +kernel⟩
theorem ok_l_linked {L : Nat} (T : Txt K mg C) (g_l_sides : GF P w K mg base L "_law_sides" ["_law_mem", "_law_bounds_here", "_law_mine"] (phi_l_sides K C)) (g_l_odd : GF P w K mg base L "_law_odd" ["_law_number"] (phi_l_odd K C)) (g_l_written : GF P w K mg base L "_law_written" ["_law_heap", "_law_mem", "_law_bounds_here", "_law_at", "_law_place", "_law_word"] (phi_l_written K C)) {f : Addr} {fd : FuncData} (F : FnP K "_law_linked" s_l_linked f fd) (hm : mg "_law_linked" = some (.ref f)) : GF P w K mg base (L + 1) "_law_linked" ["_law_heap", "_law_mem", "_law_bounds_here", "_law_mine", "_law_row"] (phi_l_linked K C) :=
  GF.mk F hm sc_l_linked (F.bindsN (fun _ _ _ _ _ _ us hl => match us, hl with | [_, _, _, _, _], _ => rfl)) (fun cdv A outer s H E hr => (pss_then (ps_set (i := 5) sc_l_linked.nd rfl (by first | exact Or.inl rfl | exact Or.inr rfl) (pe_callG g_l_sides hr (by rfl) (pa_cons (pv 1) (pa_cons (pv 2) (pa_cons (pv 3) pa_nil))))) (pss_then (ps_if (pt_cmpR (op_eqU hr.units) (pe_callB cb_len rfl T.b_len (by decide +kernel) (pa_cons (pe_ix ix_seq (pv 5) (pe_int) (fun _ _ => rfl)) pa_nil)) (pe_int) (nomark _)) (pss_one (ps_ret (pe_bl))) pss_nil) (pss_then (ps_set (i := 6) sc_l_linked.nd rfl (by first | exact Or.inl rfl | exact Or.inr rfl) (pe_op op_times (pe_int) (pe_callTy cb_int rfl T.b_int (by decide +kernel) (pa_cons (pe_and (pe_cmpR op_lt (pe_ix ix_seq (pv 4) (pe_int) (fun _ _ => rfl)) (pe_int) (nomark _)) (pe_and (pe_cmpR op_gt (pe_callB cb_len rfl T.b_len (by decide +kernel) (pa_cons (pe_ix ix_seq (pv 5) (pe_int) (fun _ _ => rfl)) pa_nil)) (pe_int) (nomark _)) (pe_one (pe_cmpR op_gt (pe_callB cb_len rfl T.b_len (by decide +kernel) (pa_cons (pe_ix ix_seq (pv 5) (pe_int) (fun _ _ => rfl)) pa_nil)) (pe_int) (nomark _))))) pa_nil)))) (pss_then (ps_set (i := 7) sc_l_linked.nd rfl (by first | exact Or.inl rfl | exact Or.inr rfl) (pe_ix ix_seq (pe_ix ix_seq (pv 5) (pv 6) (fun _ _ => rfl)) (pe_op op_rest (pe_callTy cb_int rfl T.b_int (by decide +kernel) (pa_cons (pe_ix ix_seq (pv 4) (pe_int) (fun _ _ => rfl)) pa_nil)) (pe_callB cb_len rfl T.b_len (by decide +kernel) (pa_cons (pe_ix ix_seq (pv 5) (pv 6) (fun _ _ => rfl)) pa_nil))) (fun _ _ => rfl))) (pss_then (ps_set (i := 8) sc_l_linked.nd rfl (by first | exact Or.inl rfl | exact Or.inr rfl) (pe_op op_times (pe_int) (pe_ix ix_seq (pe_ix ix_seq (pv 5) (pe_op op_plus (pv 6) (pe_int)) (fun _ _ => rfl)) (pe_op op_rest (pe_callTy cb_int rfl T.b_int (by decide +kernel) (pa_cons (pe_ix ix_seq (pv 4) (pe_int) (fun _ _ => rfl)) pa_nil)) (pe_callB cb_len rfl T.b_len (by decide +kernel) (pa_cons (pe_ix ix_seq (pv 5) (pe_op op_plus (pv 6) (pe_int)) (fun _ _ => rfl)) pa_nil))) (fun _ _ => rfl)))) (pss_then (ps_if (pt_cmpR (op_eqU hr.units) (pe_ix ix_seq (pv 4) (pe_int) (fun _ _ => rfl)) (pe_int) (nomark _)) (pss_one (ps_set (i := 8) sc_l_linked.nd rfl (by first | exact Or.inl rfl | exact Or.inr rfl) (pe_ix ix_seq (pe_lst (pa_cons (pe_int) (pa_cons (pe_callG g_l_odd hr (by rfl) (pa_cons (pe_ix ix_seq (pv 4) (pe_int) (fun _ _ => rfl)) pa_nil)) pa_nil))) (pe_op op_rest (pe_callTy cb_int rfl T.b_int (by decide +kernel) (pa_cons (pe_ix ix_seq (pv 4) (pe_int) (fun _ _ => rfl)) pa_nil)) (pe_int)) (fun _ _ => rfl)))) pss_nil) (pss_then (ps_expr (pe_callG g_l_written hr (by rfl) (pa_cons (pv 0) (pa_cons (pv 1) (pa_cons (pv 2) (pa_cons (pv 7) (pa_cons (pe_op op_rest (pe_callTy cb_int rfl T.b_int (by decide +kernel) (pa_cons (pe_ix ix_seq (pv 4) (pe_int) (fun _ _ => rfl)) pa_nil)) (pe_op op_floor (pe_ix ix_seq (pe_ix ix_seq (pv 1) (pe_int) (fun _ _ => rfl)) (pv 7) (fun _ _ => rfl)) (pe_int))) (pa_cons (pv 8) pa_nil)))))))) (pss_one (ps_ret (pe_bl))))))))))) (pure_l_linked T.hc)
abbrev s_l_emptying : Stmt := topS 70
theorem sc_l_emptying : FnScope ["_law_heap", "_law_mem", "_law_bounds_here", "_law_rows", "_law_mine", "_law_digit"] ["_law_heap", "_law_mem", "_law_bounds_here", "_law_rows", "_law_mine", "_law_digit"] (defScope s_l_emptying) := ⟨rfl, rfl, rfl, by decide +kernel, rfl, by decide +kernel, by decide +kernel⟩
theorem ok_l_emptying {L : Nat} (T : Txt K mg C) (g_l_emptied : GF P w K mg base L "_law_emptied" ["_law_mem", "_law_cap", "_law_nur", "_law_rows"] (phi_l_emptied K C)) (g_collect_young : GF P w K mg base L "collect_young" ["heap", "rows"] (phi_collect_young K C)) (g_l_passed : GF P w K mg base L "_law_passed" ["_law_rows", "_law_digit"] (phi_l_passed K C)) {f : Addr} {fd : FuncData} (F : FnP K "_law_emptying" s_l_emptying f fd) (hm : mg "_law_emptying" = some (.ref f)) : GF P w K mg base (L + 1) "_law_emptying" ["_law_heap", "_law_mem", "_law_bounds_here", "_law_rows", "_law_mine", "_law_digit"] (phi_l_emptying K C) :=
  GF.mk F hm sc_l_emptying (F.bindsN (fun _ _ _ _ _ _ us hl => match us, hl with | [_, _, _, _, _, _], _ => rfl)) (fun cdv A outer s H E hr => (pss_then (ps_expr (pe_callG g_l_emptied hr (by rfl) (pa_cons (pv 1) (pa_cons (pe_ix ix_seq (pv 2) (pe_int) (fun _ _ => rfl)) (pa_cons (pe_ix ix_seq (pv 2) (pe_int) (fun _ _ => rfl)) (pa_cons (pv 4) pa_nil)))))) (pss_one (ps_ret (pe_cmpR op_isN (pe_callG g_collect_young hr (by rfl) (pa_cons (pv 0) (pa_cons (pe_callG g_l_passed hr (by rfl) (pa_cons (pv 3) (pa_cons (pv 5) pa_nil))) pa_nil))) (pe_non) (nomark _)))))) (pure_l_emptying T.hc)
abbrev s_l_rootless : Stmt := topS 71
theorem sc_l_rootless : FnScope ["_law_heap", "_law_mem", "_law_bounds_here", "_law_row", "_law_none", "_law_many", "_law_k", "_law_payload_here", "_law_at", "_law_due"] ["_law_heap", "_law_mem", "_law_bounds_here", "_law_row"] (defScope s_l_rootless) := ⟨rfl, rfl, rfl, by decide +kernel, rfl, by decide +kernel, by decide +kernel⟩
theorem ok_l_rootless {L : Nat} (T : Txt K mg C) (g_l_passed : GF P w K mg base L "_law_passed" ["_law_rows", "_law_digit"] (phi_l_passed K C)) (g_l_emptied : GF P w K mg base L "_law_emptied" ["_law_mem", "_law_cap", "_law_nur", "_law_rows"] (phi_l_emptied K C)) (g_collect_young : GF P w K mg base L "collect_young" ["heap", "rows"] (phi_collect_young K C)) (g_snapshot : GF P w K mg base L "snapshot" ["heap"] (phi_snapshot K C)) (g_l_shot : GF P w K mg base L "_law_shot" ["_law_mem"] (phi_l_shot K C)) (g_l_length : GF P w K mg base L "_law_length" ["_law_first", "_law_second"] (phi_l_length K C)) (g_l_used : GF P w K mg base L "_law_used" ["_law_mem"] (phi_l_used K C)) (g_l_payload : GF P w K mg base L "_law_payload" ["_law_length_here", "_law_mix", "_law_number"] (phi_l_payload K C)) (g_place_block : GF P w K mg base L "place_block" ["heap", "rows", "shape_number", "payload"] (phi_place_block K C)) (g_l_laid : GF P w K mg base L "_law_laid" ["_law_mem", "_law_cap", "_law_nur", "_law_rows", "_law_shape", "_law_payload_here"] (phi_l_laid K C)) (g_l_whole : GF P w K mg base L "_law_whole" ["_law_value"] (phi_l_whole K C)) {f : Addr} {fd : FuncData} (F : FnP K "_law_rootless" s_l_rootless f fd) (hm : mg "_law_rootless" = some (.ref f)) : GF P w K mg base (L + 1) "_law_rootless" ["_law_heap", "_law_mem", "_law_bounds_here", "_law_row"] (phi_l_rootless K C) :=
  GF.mk F hm sc_l_rootless (F.bindsN (fun _ _ _ _ _ _ us hl => match us, hl with | [_, _, _, _], _ => rfl)) (fun cdv A outer s H E hr => (pss_then (ps_set (i := 4) sc_l_rootless.nd rfl (by first | exact Or.inl rfl | exact Or.inr rfl) (pe_callG g_l_passed hr (by rfl) (pa_cons (pe_lst pa_nil) (pa_cons (pe_ix ix_seq (pv 3) (pe_int) (fun _ _ => rfl)) pa_nil)))) (pss_then (ps_expr (pe_callG g_l_emptied hr (by rfl) (pa_cons (pv 1) (pa_cons (pe_ix ix_seq (pv 2) (pe_int) (fun _ _ => rfl)) (pa_cons (pe_ix ix_seq (pv 2) (pe_int) (fun _ _ => rfl)) (pa_cons (pe_lst pa_nil) pa_nil)))))) (pss_then (ps_if (PW.pt (pw_or (pt_cmpR op_notN (pe_callG g_collect_young hr (by rfl) (pa_cons (pv 0) (pa_cons (pv 4) pa_nil))) (pe_non) (nomark _)) (pw_or1 (pt_cmpR (op_neU hr.units) (pe_callG g_snapshot hr (by rfl) (pa_cons (pv 0) pa_nil)) (pe_callG g_l_shot hr (by rfl) (pa_cons (pv 1) pa_nil)) (nomark _))))) (pss_one (ps_ret (pe_bl))) pss_nil) (pss_then (ps_set (i := 5) sc_l_rootless.nd rfl (by first | exact Or.inl rfl | exact Or.inr rfl) (pe_callG g_l_length hr (by rfl) (pa_cons (pe_ix ix_seq (pv 3) (pe_int) (fun _ _ => rfl)) (pa_cons (pe_ix ix_seq (pv 3) (pe_int) (fun _ _ => rfl)) pa_nil)))) (pss_then (ps_for PassesOwn.never rfl (pi_range1 rfl T.b_range (pa_cons (pe_int) pa_nil)) (pg_name (i := 6) sc_l_rootless.nd rfl (by first | exact Or.inl rfl | exact Or.inr rfl)) (pss_then (ps_if (pt_cmpR op_gt (pe_op op_plus (pe_op op_plus (pe_callG g_l_used hr (by rfl) (pa_cons (pv 1) pa_nil)) (pe_int)) (pv 5)) (pe_ix ix_seq (pv 2) (pe_int) (fun _ _ => rfl)) (nomark _)) (pss_one (ps_ret (pe_bl))) pss_nil) (pss_then (ps_set (i := 7) sc_l_rootless.nd rfl (by first | exact Or.inl rfl | exact Or.inr rfl) (pe_callG g_l_payload hr (by rfl) (pa_cons (pv 5) (pa_cons (pe_ix ix_seq (pv 3) (pe_int) (fun _ _ => rfl)) (pa_cons (pe_ix ix_seq (pv 3) (pe_int) (fun _ _ => rfl)) pa_nil))))) (pss_then (ps_set (i := 8) sc_l_rootless.nd rfl (by first | exact Or.inl rfl | exact Or.inr rfl) (pe_callG g_place_block hr (by rfl) (pa_cons (pv 0) (pa_cons (pv 4) (pa_cons (pe_ix ix_seq (pv 3) (pe_int) (fun _ _ => rfl)) (pa_cons (pe_callTy cb_list rfl T.b_list (by decide +kernel) (pa_cons (pv 7) pa_nil)) pa_nil)))))) (pss_then (ps_set (i := 9) sc_l_rootless.nd rfl (by first | exact Or.inl rfl | exact Or.inr rfl) (pe_callG g_l_laid hr (by rfl) (pa_cons (pv 1) (pa_cons (pe_ix ix_seq (pv 2) (pe_int) (fun _ _ => rfl)) (pa_cons (pe_ix ix_seq (pv 2) (pe_int) (fun _ _ => rfl)) (pa_cons (pe_lst pa_nil) (pa_cons (pe_ix ix_seq (pv 3) (pe_int) (fun _ _ => rfl)) (pa_cons (pv 7) pa_nil)))))))) (pss_one (ps_if (PW.pt (pw_or (pt_not (pt_val (pe_callG g_l_whole hr (by rfl) (pa_cons (pv 8) pa_nil)))) (pw_or (pt_cmpR (op_neU hr.units) (pv 8) (pv 9) (nomark _)) (pw_or (pt_cmpR (op_neU hr.units) (pe_callG g_snapshot hr (by rfl) (pa_cons (pv 0) pa_nil)) (pe_callG g_l_shot hr (by rfl) (pa_cons (pv 1) pa_nil)) (nomark _)) (pw_or1 (pt_cmpR op_gt (pe_callB cb_len rfl T.b_len (by decide +kernel) (pa_cons (pv 4) pa_nil)) (pe_int) (nomark _))))))) (pss_one (ps_ret (pe_bl))) pss_nil))))))) (pss_one (ps_ret (pe_bl))))))))) (pure_l_rootless T.hc)
abbrev s_l_done : Stmt := topS 72
theorem sc_l_done : FnScope ["_law_heap", "_law_mem", "_law_bounds_here", "_law_rows", "_law_mine", "_law_row", "_law_well", "_law_words", "_law_at"] ["_law_heap", "_law_mem", "_law_bounds_here", "_law_rows", "_law_mine", "_law_row"] (defScope s_l_done) := ⟨rfl, rfl, rfl, by decide +kernel, rfl, by decide +kernel, by decide +kernel⟩
theorem ok_l_done {L : Nat} (T : Txt K mg C) (g_l_placed : GF P w K mg base L "_law_placed" ["_law_heap", "_law_mem", "_law_bounds_here", "_law_rows", "_law_mine", "_law_row"] (phi_l_placed K C)) (g_l_linked : GF P w K mg base L "_law_linked" ["_law_heap", "_law_mem", "_law_bounds_here", "_law_mine", "_law_row"] (phi_l_linked K C)) (g_l_odd : GF P w K mg base L "_law_odd" ["_law_number"] (phi_l_odd K C)) (g_l_sides : GF P w K mg base L "_law_sides" ["_law_mem", "_law_bounds_here", "_law_mine"] (phi_l_sides K C)) (g_l_put : GF P w K mg base L "_law_put" ["_law_rows", "_law_spot_here", "_law_word"] (phi_l_put K C)) (g_l_places : GF P w K mg base L "_law_places" ["_law_rows"] (phi_l_places K C)) (g_l_emptying : GF P w K mg base L "_law_emptying" ["_law_heap", "_law_mem", "_law_bounds_here", "_law_rows", "_law_mine", "_law_digit"] (phi_l_emptying K C)) (g_snapshot : GF P w K mg base L "snapshot" ["heap"] (phi_snapshot K C)) (g_l_shot : GF P w K mg base L "_law_shot" ["_law_mem"] (phi_l_shot K C)) {f : Addr} {fd : FuncData} (F : FnP K "_law_done" s_l_done f fd) (hm : mg "_law_done" = some (.ref f)) : GF P w K mg base (L + 1) "_law_done" ["_law_heap", "_law_mem", "_law_bounds_here", "_law_rows", "_law_mine", "_law_row"] (phi_l_done K C) :=
  GF.mk F hm sc_l_done (F.bindsN (fun _ _ _ _ _ _ us hl => match us, hl with | [_, _, _, _, _, _], _ => rfl)) (fun cdv A outer s H E hr => (pss_then (ps_if (pt_cmpR op_le (pe_ix ix_seq (pv 5) (pe_int) (fun _ _ => rfl)) (pe_int) (nomark _)) (pss_one (ps_set (i := 6) sc_l_done.nd rfl (by first | exact Or.inl rfl | exact Or.inr rfl) (pe_callG g_l_placed hr (by rfl) (pa_cons (pv 0) (pa_cons (pv 1) (pa_cons (pv 2) (pa_cons (pv 3) (pa_cons (pv 4) (pa_cons (pv 5) pa_nil))))))))) (pss_one (ps_if (pt_cmpR op_le (pe_ix ix_seq (pv 5) (pe_int) (fun _ _ => rfl)) (pe_int) (nomark _)) (pss_one (ps_set (i := 6) sc_l_done.nd rfl (by first | exact Or.inl rfl | exact Or.inr rfl) (pe_callG g_l_linked hr (by rfl) (pa_cons (pv 0) (pa_cons (pv 1) (pa_cons (pv 2) (pa_cons (pv 4) (pa_cons (pv 5) pa_nil)))))))) (pss_one (ps_if (pt_cmpR op_le (pe_ix ix_seq (pv 5) (pe_int) (fun _ _ => rfl)) (pe_int) (nomark _)) (pss_then (ps_set (i := 7) sc_l_done.nd rfl (by first | exact Or.inl rfl | exact Or.inr rfl) (pe_op op_plus (pe_lst (pa_cons (pe_int) (pa_cons (pe_callG g_l_odd hr (by rfl) (pa_cons (pe_ix ix_seq (pv 5) (pe_int) (fun _ _ => rfl)) pa_nil)) (pa_cons (pe_int) pa_nil)))) (pe_lc (X := (cxOf CX0 P w K mg base ["_law_heap", "_law_mem", "_law_bounds_here", "_law_rows", "_law_mine", "_law_row", "_law_well", "_law_words", "_law_at"] "_law_done" (defScope s_l_done) f cdv A outer s H E).nox) (own := [("_law_at", 8)]) (g := gName 8) (tt := tYes) rfl sc_l_done.nd (pi_seq (X := (cxOf CX0 P w K mg base ["_law_heap", "_law_mem", "_law_bounds_here", "_law_rows", "_law_mine", "_law_row", "_law_well", "_law_words", "_law_at"] "_law_done" (defScope s_l_done) f cdv A outer s H E).nox) (pe_ix ix_seq (pe_callG (X := (cxOf CX0 P w K mg base ["_law_heap", "_law_mem", "_law_bounds_here", "_law_rows", "_law_mine", "_law_row", "_law_well", "_law_words", "_law_at"] "_law_done" (defScope s_l_done) f cdv A outer s H E).nox) g_l_sides hr (by rfl) (pa_cons (pv 1) (pa_cons (pv 2) (pa_cons (pv 4) pa_nil)))) (pe_int) (fun _ _ => rfl))) (blkOk_by (own := [("_law_at", 8)]) (by kernel_rfl)) (fun _ _ _ _ _ => pg_name (i := 8) sc_l_done.nd rfl (Or.inl rfl)) (fun _ _ _ _ _ => pts_nil) (fun _ _ _ _ _ => (pe_op op_times (pe_int) (pv 8)))))) (pss_then (ps_set (i := 6) sc_l_done.nd rfl (by first | exact Or.inl rfl | exact Or.inr rfl) (pe_bl)) (pss_then (ps_expr (pe_callG g_l_put hr (by rfl) (pa_cons (pv 3) (pa_cons (pe_op op_rest (pe_callTy cb_int rfl T.b_int (by decide +kernel) (pa_cons (pe_ix ix_seq (pv 5) (pe_int) (fun _ _ => rfl)) pa_nil)) (pe_callG g_l_places hr (by rfl) (pa_cons (pv 4) pa_nil))) (pa_cons (pe_ix ix_seq (pv 7) (pe_op op_rest (pe_callTy cb_int rfl T.b_int (by decide +kernel) (pa_cons (pe_ix ix_seq (pv 5) (pe_int) (fun _ _ => rfl)) pa_nil)) (pe_callB (cb_min rfl) rfl T.b_min (by decide +kernel) (pa_cons (pe_callB cb_len rfl T.b_len (by decide +kernel) (pa_cons (pv 7) pa_nil)) (pa_cons (pe_int) pa_nil)))) (fun _ _ => rfl)) pa_nil))))) (pss_one (ps_expr (pe_callG g_l_put hr (by rfl) (pa_cons (pv 4) (pa_cons (pe_op op_rest (pe_callTy cb_int rfl T.b_int (by decide +kernel) (pa_cons (pe_ix ix_seq (pv 5) (pe_int) (fun _ _ => rfl)) pa_nil)) (pe_callG g_l_places hr (by rfl) (pa_cons (pv 4) pa_nil))) (pa_cons (pe_ix ix_seq (pv 7) (pe_op op_rest (pe_callTy cb_int rfl T.b_int (by decide +kernel) (pa_cons (pe_ix ix_seq (pv 5) (pe_int) (fun _ _ => rfl)) pa_nil)) (pe_callB (cb_min rfl) rfl T.b_min (by decide +kernel) (pa_cons (pe_callB cb_len rfl T.b_len (by decide +kernel) (pa_cons (pv 7) pa_nil)) (pa_cons (pe_int) pa_nil)))) (fun _ _ => rfl)) pa_nil))))))))) (pss_one (ps_set (i := 6) sc_l_done.nd rfl (by first | exact Or.inl rfl | exact Or.inr rfl) (pe_callG g_l_emptying hr (by rfl) (pa_cons (pv 0) (pa_cons (pv 1) (pa_cons (pv 2) (pa_cons (pv 3) (pa_cons (pv 4) (pa_cons (pe_ix ix_seq (pv 5) (pe_int) (fun _ _ => rfl)) pa_nil)))))))))))))) (pss_one (ps_ret (pe_and (pv 6) (pe_and (pe_cmpR (op_eqU hr.units) (pv 3) (pv 4) (nomark _)) (pe_one (pe_cmpR (op_eqU hr.units) (pe_callG g_snapshot hr (by rfl) (pa_cons (pv 0) pa_nil)) (pe_callG g_l_shot hr (by rfl) (pa_cons (pv 1) pa_nil)) (nomark _))))))))) (pure_l_done T.hc)
abbrev s_law : Stmt := topS 73
theorem sc_law : FnScope ["_law_script", "_law_head", "_law_bounds_here", "_law_heap", "_law_other", "_law_mem", "_law_sizes", "_law_rows", "_law_mine", "_law_digits_here", "_law_k", "_law_row", "_law_number", "_law_many"] ["_law_script"] (defScope s_law) := ⟨rfl, rfl, rfl, by decide +kernel, rfl, by decide +kernel, by decide +kernel⟩
theorem ok_law {L : Nat} (T : Txt K mg C) (g_l_digits : GF P w K mg base (L + 1) "_law_digits" ["_law_cell_here", "_law_sizes"] (phi_l_digits K C)) (g_l_cell : GF P w K mg base (L + 1) "_law_cell" ["_law_script", "_law_k"] (phi_l_cell K C)) (g_l_bounds : GF P w K mg base (L + 1) "_law_bounds" ["_law_row"] (phi_l_bounds K C)) (g_Heap_init : GM P w K mg base L C "__init__" ["self", "capacity", "nursery"] (phi_Heap_init K C)) (g_l_memory : GF P w K mg base (L + 1) "_law_memory" ["_law_cap", "_law_nur"] (phi_l_memory K C)) (g_l_done : GF P w K mg base (L + 1) "_law_done" ["_law_heap", "_law_mem", "_law_bounds_here", "_law_rows", "_law_mine", "_law_row"] (phi_l_done K C)) (g_snapshot : GF P w K mg base (L + 1) "snapshot" ["heap"] (phi_snapshot K C)) (g_l_shot : GF P w K mg base (L + 1) "_law_shot" ["_law_mem"] (phi_l_shot K C)) (g_l_rootless : GF P w K mg base (L + 1) "_law_rootless" ["_law_heap", "_law_mem", "_law_bounds_here", "_law_row"] (phi_l_rootless K C)) (g_l_kinds : GF P w K mg base (L + 1) "_law_kinds" ["_law_shot_here"] (phi_l_kinds K C)) {f : Addr} {fd : FuncData} (F : FnP K "law" s_law f fd) : FnOk P w K mg base CX0 ((L + 1) + 1) f fd ["_law_script"] (Spn 1 (phi_law K C)) :=
  GF.mkL F sc_law (fun cdv A outer s H E hr => (pss_then (ps_set (i := 1) sc_law.nd rfl (by first | exact Or.inl rfl | exact Or.inr rfl) (pe_callG g_l_digits hr (by rfl) (pa_cons (pe_callG g_l_cell hr (by rfl) (pa_cons (pv 0) (pa_cons (pe_int) pa_nil))) (pa_cons (pe_lst (pa_cons (pe_int) (pa_cons (pe_int) (pa_cons (pe_int) (pa_cons (pe_int) (pa_cons (pe_int) (pa_cons (pe_int) pa_nil))))))) pa_nil)))) (pss_then (ps_setLc (i := 2) (X := (cxOf CX0 P w K mg base ["_law_script", "_law_head", "_law_bounds_here", "_law_heap", "_law_other", "_law_mem", "_law_sizes", "_law_rows", "_law_mine", "_law_digits_here", "_law_k", "_law_row", "_law_number", "_law_many"] "law" (defScope s_law) f cdv A outer s H E).nox) (own := [("_law_number", 12)]) (g := gName 12) (tt := tYes) rfl sc_law.nd rfl rfl (sw_true rfl rfl rfl (by decide +kernel)) (pi_seq (X := (cxOf CX0 P w K mg base ["_law_script", "_law_head", "_law_bounds_here", "_law_heap", "_law_other", "_law_mem", "_law_sizes", "_law_rows", "_law_mine", "_law_digits_here", "_law_k", "_law_row", "_law_number", "_law_many"] "law" (defScope s_law) f cdv A outer s H E).nox) (pe_callG (X := (cxOf CX0 P w K mg base ["_law_script", "_law_head", "_law_bounds_here", "_law_heap", "_law_other", "_law_mem", "_law_sizes", "_law_rows", "_law_mine", "_law_digits_here", "_law_k", "_law_row", "_law_number", "_law_many"] "law" (defScope s_law) f cdv A outer s H E).nox) g_l_bounds hr (by rfl) (pa_cons (pv 1) pa_nil))) (blkOk_by (own := [("_law_number", 12)]) (by kernel_rfl)) (fun _ _ _ _ _ => pg_name (i := 12) sc_law.nd rfl (Or.inl rfl)) (fun _ _ _ _ _ => pts_nil) (fun _ _ _ _ _ => (pe_op op_times (pv 12) (pe_ix ix_seq (pe_lst (pa_cons (pe_int) (pa_cons (pe_int) pa_nil))) (pe_ix ix_seq (pv 1) (pe_int) (fun _ _ => rfl)) (fun _ _ => rfl))))) (pss_then (ps_set (i := 3) sc_law.nd rfl (by first | exact Or.inl rfl | exact Or.inr rfl) (pe_makeG T.mkp g_Heap_init hr rfl T.mgC (pa_cons (pe_ix ix_seq (pv 2) (pe_int) (fun _ _ => rfl)) (pa_cons (pe_ix ix_seq (pv 2) (pe_int) (fun _ _ => rfl)) pa_nil)))) (pss_then (ps_set (i := 4) sc_law.nd rfl (by first | exact Or.inl rfl | exact Or.inr rfl) (pe_makeG T.mkp g_Heap_init hr rfl T.mgC (pa_cons (pe_int) (pa_cons (pe_int) pa_nil)))) (pss_then (ps_set (i := 5) sc_law.nd rfl (by first | exact Or.inl rfl | exact Or.inr rfl) (pe_callG g_l_memory hr (by rfl) (pa_cons (pe_ix ix_seq (pv 2) (pe_int) (fun _ _ => rfl)) (pa_cons (pe_ix ix_seq (pv 2) (pe_int) (fun _ _ => rfl)) pa_nil)))) (pss_then (ps_set (i := 6) sc_law.nd rfl (by first | exact Or.inl rfl | exact Or.inr rfl) (pe_ix ix_seq (pe_lst (pa_cons (pe_lst (pa_cons (pe_int) (pa_cons (pe_int) (pa_cons (pe_int) pa_nil)))) (pa_cons (pe_lst (pa_cons (pe_int) (pa_cons (pe_int) (pa_cons (pe_int) (pa_cons (pe_int) pa_nil))))) (pa_cons (pe_lst (pa_cons (pe_int) (pa_cons (pe_int) (pa_cons (pe_int) pa_nil)))) (pa_cons (pe_lst (pa_cons (pe_int) (pa_cons (pe_int) (pa_cons (pe_int) pa_nil)))) (pa_cons (pe_lst (pa_cons (pe_int) (pa_cons (pe_int) (pa_cons (pe_int) (pa_cons (pe_int) pa_nil))))) (pa_cons (pe_lst (pa_cons (pe_int) pa_nil)) pa_nil))))))) (pe_ix ix_seq (pv 1) (pe_int) (fun _ _ => rfl)) (fun _ _ => rfl))) (pss_then (ps_setLc (i := 7) (X := (cxOf CX0 P w K mg base ["_law_script", "_law_head", "_law_bounds_here", "_law_heap", "_law_other", "_law_mem", "_law_sizes", "_law_rows", "_law_mine", "_law_digits_here", "_law_k", "_law_row", "_law_number", "_law_many"] "law" (defScope s_law) f cdv A outer s H E).nox) (own := [("_law_many", 13)]) (g := gName 13) (tt := tYes) rfl sc_law.nd rfl rfl (sw_true rfl rfl rfl (by decide +kernel)) (pi_seq (pv 6)) (blkOk_by (own := [("_law_many", 13)]) (by kernel_rfl)) (fun _ _ _ _ _ => pg_name (i := 13) sc_law.nd rfl (Or.inl rfl)) (fun _ _ _ _ _ => pts_nil) (fun _ _ _ _ _ => (pe_op op_times (pe_lst (pa_cons (pe_int) pa_nil)) (pv 13)))) (pss_then (ps_setLc (i := 8) (X := (cxOf CX0 P w K mg base ["_law_script", "_law_head", "_law_bounds_here", "_law_heap", "_law_other", "_law_mem", "_law_sizes", "_law_rows", "_law_mine", "_law_digits_here", "_law_k", "_law_row", "_law_number", "_law_many"] "law" (defScope s_law) f cdv A outer s H E).nox) (own := [("_law_many", 13)]) (g := gName 13) (tt := tYes) rfl sc_law.nd rfl rfl (sw_true rfl rfl rfl (by decide +kernel)) (pi_seq (pv 6)) (blkOk_by (own := [("_law_many", 13)]) (by kernel_rfl)) (fun _ _ _ _ _ => pg_name (i := 13) sc_law.nd rfl (Or.inl rfl)) (fun _ _ _ _ _ => pts_nil) (fun _ _ _ _ _ => (pe_op op_times (pe_lst (pa_cons (pe_int) pa_nil)) (pv 13)))) (pss_then (ps_set (i := 9) sc_law.nd rfl (by first | exact Or.inl rfl | exact Or.inr rfl) (pe_lst (pa_cons (pe_int) (pa_cons (pe_int) (pa_cons (pe_int) (pa_cons (pe_int) (pa_cons (pe_int) (pa_cons (pe_int) (pa_cons (pe_int) (pa_cons (pe_int) (pa_cons (pe_int) (pa_cons (pe_int) pa_nil)))))))))))) (pss_then (ps_for PassesOwn.never rfl (pi_range1 rfl T.b_range (pa_cons (pe_op op_plus (pe_int) (pe_ix ix_seq (pv 1) (pe_int) (fun _ _ => rfl))) pa_nil)) (pg_name (i := 10) sc_law.nd rfl (by first | exact Or.inl rfl | exact Or.inr rfl)) (pss_then (ps_set (i := 11) sc_law.nd rfl (by first | exact Or.inl rfl | exact Or.inr rfl) (pe_callG g_l_digits hr (by rfl) (pa_cons (pe_callG g_l_cell hr (by rfl) (pa_cons (pv 0) (pa_cons (pe_op op_plus (pe_int) (pv 10)) pa_nil))) (pa_cons (pv 9) pa_nil)))) (pss_one (ps_if (PW.pt (pw_or (pt_not (pt_val (pe_callG g_l_done hr (by rfl) (pa_cons (pv 3) (pa_cons (pv 5) (pa_cons (pv 2) (pa_cons (pv 7) (pa_cons (pv 8) (pa_cons (pv 11) pa_nil))))))))) (pw_or1 (pt_cmpR (op_neU hr.units) (pe_callG g_snapshot hr (by rfl) (pa_cons (pv 4) pa_nil)) (pe_callG g_l_shot hr (by rfl) (pa_cons (pe_callG g_l_memory hr (by rfl) (pa_cons (pe_int) (pa_cons (pe_int) pa_nil))) pa_nil)) (nomark _))))) (pss_one (ps_ret (pe_bl))) pss_nil)))) (pss_then (ps_set (i := 11) sc_law.nd rfl (by first | exact Or.inl rfl | exact Or.inr rfl) (pe_callG g_l_digits hr (by rfl) (pa_cons (pe_callG g_l_cell hr (by rfl) (pa_cons (pv 0) (pa_cons (pe_int) pa_nil))) (pa_cons (pv 9) pa_nil)))) (pss_then (ps_if (PW.pt (pw_and (pt_cmpR op_lt (pe_ix ix_seq (pv 11) (pe_int) (fun _ _ => rfl)) (pe_int) (nomark _)) (pw_and1 (pt_not (pt_val (pe_callG g_l_done hr (by rfl) (pa_cons (pv 3) (pa_cons (pv 5) (pa_cons (pv 2) (pa_cons (pv 7) (pa_cons (pv 8) (pa_cons (pe_op op_plus (pe_lst (pa_cons (pe_int) pa_nil)) (pe_slice sl_any (pv 11) (po_some (pe_int)) po_none)) pa_nil)))))))))))) (pss_one (ps_ret (pe_bl))) pss_nil) (pss_one (ps_ret (pe_and (pe_callG g_l_rootless hr (by rfl) (pa_cons (pv 3) (pa_cons (pv 5) (pa_cons (pv 2) (pa_cons (pv 11) pa_nil))))) (pe_one (pe_callG g_l_kinds hr (by rfl) (pa_cons (pe_callG g_snapshot hr (by rfl) (pa_cons (pv 3) pa_nil)) pa_nil))))))))))))))))))) (pure_law T.hc)
end
end Qb

set_option Elab.async false
set_option linter.all false
set_option maxRecDepth 100000
set_option maxHeartbeats 0
namespace Qb
open PySem PySem.Spec PyProof.Rows L2
/-! the head -/
def d_l_digits : He.DefD := ⟨("_law_digits", none), "_law_digits", "_law_digits", defArgs s_l_digits, defBody s_l_digits, defScope s_l_digits, [], []⟩
def d_l_cell : He.DefD := ⟨("_law_cell", none), "_law_cell", "_law_cell", defArgs s_l_cell, defBody s_l_cell, defScope s_l_cell, [], []⟩
def d_l_bounds : He.DefD := ⟨("_law_bounds", none), "_law_bounds", "_law_bounds", defArgs s_l_bounds, defBody s_l_bounds, defScope s_l_bounds, [], []⟩
def d_Heap_init : He.DefD := ⟨("Heap", some "__init__"), "__init__", "Heap.__init__", defArgs s_Heap_init, defBody s_Heap_init, defScope s_Heap_init, [], []⟩
def d_l_memory : He.DefD := ⟨("_law_memory", none), "_law_memory", "_law_memory", defArgs s_l_memory, defBody s_l_memory, defScope s_l_memory, [], []⟩
def d_l_length : He.DefD := ⟨("_law_length", none), "_law_length", "_law_length", defArgs s_l_length, defBody s_l_length, defScope s_l_length, [], []⟩
def d_l_used : He.DefD := ⟨("_law_used", none), "_law_used", "_law_used", defArgs s_l_used, defBody s_l_used, defScope s_l_used, [], []⟩
def d_l_lifted : He.DefD := ⟨("_law_lifted", none), "_law_lifted", "_law_lifted", defArgs s_l_lifted, defBody s_l_lifted, defScope s_l_lifted, [], []⟩
def d_l_spot : He.DefD := ⟨("_law_spot", none), "_law_spot", "_law_spot", defArgs s_l_spot, defBody s_l_spot, defScope s_l_spot, [], []⟩
def d_l_lifted_block : He.DefD := ⟨("_law_lifted_block", none), "_law_lifted_block", "_law_lifted_block", defArgs s_l_lifted_block, defBody s_l_lifted_block, defScope s_l_lifted_block, [], []⟩
def d_l_emptied : He.DefD := ⟨("_law_emptied", none), "_law_emptied", "_law_emptied", defArgs s_l_emptied, defBody s_l_emptied, defScope s_l_emptied, [], []⟩
def d_is_reference : He.DefD := ⟨("is_reference", none), "is_reference", "is_reference", defArgs s_is_reference, defBody s_is_reference, defScope s_is_reference, [], []⟩
def d_is_young : He.DefD := ⟨("is_young", none), "is_young", "is_young", defArgs s_is_young, defBody s_is_young, defScope s_is_young, [], []⟩
def d_address_of : He.DefD := ⟨("address_of", none), "address_of", "address_of", defArgs s_address_of, defBody s_address_of, defScope s_address_of, [], []⟩
def d_reference_word : He.DefD := ⟨("reference_word", none), "reference_word", "reference_word", defArgs s_reference_word, defBody s_reference_word, defScope s_reference_word, [], []⟩
def d_forward_of : He.DefD := ⟨("forward_of", none), "forward_of", "forward_of", defArgs s_forward_of, defBody s_forward_of, defScope s_forward_of, [], []⟩
def d_size_of : He.DefD := ⟨("size_of", none), "size_of", "size_of", defArgs s_size_of, defBody s_size_of, defScope s_size_of, [], []⟩
def d_length_of : He.DefD := ⟨("length_of", none), "length_of", "length_of", defArgs s_length_of, defBody s_length_of, defScope s_length_of, [], []⟩
def d_block_size : He.DefD := ⟨("block_size", none), "block_size", "block_size", defArgs s_block_size, defBody s_block_size, defScope s_block_size, [], []⟩
def d_claim_old : He.DefD := ⟨("claim_old", none), "claim_old", "claim_old", defArgs s_claim_old, defBody s_claim_old, defScope s_claim_old, [], []⟩
def d_state_word : He.DefD := ⟨("state_word", none), "state_word", "state_word", defArgs s_state_word, defBody s_state_word, defScope s_state_word, [], []⟩
def d_copy_old : He.DefD := ⟨("copy_old", none), "copy_old", "copy_old", defArgs s_copy_old, defBody s_copy_old, defScope s_copy_old, [], []⟩
def d_colour_of : He.DefD := ⟨("colour_of", none), "colour_of", "colour_of", defArgs s_colour_of, defBody s_colour_of, defScope s_colour_of, [], []⟩
def d_promote : He.DefD := ⟨("promote", none), "promote", "promote", defArgs s_promote, defBody s_promote, defScope s_promote, [], []⟩
def d_old_word : He.DefD := ⟨("old_word", none), "old_word", "old_word", defArgs s_old_word, defBody s_old_word, defScope s_old_word, [], []⟩
def d_lift_row : He.DefD := ⟨("lift_row", none), "lift_row", "lift_row", defArgs s_lift_row, defBody s_lift_row, defScope s_lift_row, [], []⟩
def d_resolve : He.DefD := ⟨("resolve", none), "resolve", "resolve", defArgs s_resolve, defBody s_resolve, defScope s_resolve, [], []⟩
def d_payload_places : He.DefD := ⟨("payload_places", none), "payload_places", "payload_places", defArgs s_payload_places, defBody s_payload_places, defScope s_payload_places, [], []⟩
def d_lift_payload : He.DefD := ⟨("lift_payload", none), "lift_payload", "lift_payload", defArgs s_lift_payload, defBody s_lift_payload, defScope s_lift_payload, [], []⟩
def d_lift_remembered : He.DefD := ⟨("lift_remembered", none), "lift_remembered", "lift_remembered", defArgs s_lift_remembered, defBody s_lift_remembered, defScope s_lift_remembered, [], []⟩
def d_collect_young : He.DefD := ⟨("collect_young", none), "collect_young", "collect_young", defArgs s_collect_young, defBody s_collect_young, defScope s_collect_young, [], []⟩
def d_l_passed : He.DefD := ⟨("_law_passed", none), "_law_passed", "_law_passed", defArgs s_l_passed, defBody s_l_passed, defScope s_l_passed, [], []⟩
def d_l_emptying : He.DefD := ⟨("_law_emptying", none), "_law_emptying", "_law_emptying", defArgs s_l_emptying, defBody s_l_emptying, defScope s_l_emptying, [], []⟩
def d_l_odd : He.DefD := ⟨("_law_odd", none), "_law_odd", "_law_odd", defArgs s_l_odd, defBody s_l_odd, defScope s_l_odd, [], []⟩
def d_l_payload : He.DefD := ⟨("_law_payload", none), "_law_payload", "_law_payload", defArgs s_l_payload, defBody s_l_payload, defScope s_l_payload, [], []⟩
def d_young_address : He.DefD := ⟨("young_address", none), "young_address", "young_address", defArgs s_young_address, defBody s_young_address, defScope s_young_address, [], []⟩
def d_form_word : He.DefD := ⟨("form_word", none), "form_word", "form_word", defArgs s_form_word, defBody s_form_word, defScope s_form_word, [], []⟩
def d_place_block : He.DefD := ⟨("place_block", none), "place_block", "place_block", defArgs s_place_block, defBody s_place_block, defScope s_place_block, [], []⟩
def d_l_laid : He.DefD := ⟨("_law_laid", none), "_law_laid", "_law_laid", defArgs s_l_laid, defBody s_l_laid, defScope s_l_laid, [], []⟩
def d_l_whole : He.DefD := ⟨("_law_whole", none), "_law_whole", "_law_whole", defArgs s_l_whole, defBody s_l_whole, defScope s_l_whole, [], []⟩
def d_l_met : He.DefD := ⟨("_law_met", none), "_law_met", "_law_met", defArgs s_l_met, defBody s_l_met, defScope s_l_met, [], []⟩
def d_l_sides : He.DefD := ⟨("_law_sides", none), "_law_sides", "_law_sides", defArgs s_l_sides, defBody s_l_sides, defScope s_l_sides, [], []⟩
def d_resolve_word : He.DefD := ⟨("resolve_word", none), "resolve_word", "resolve_word", defArgs s_resolve_word, defBody s_resolve_word, defScope s_resolve_word, [], []⟩
def d_remembered_of : He.DefD := ⟨("remembered_of", none), "remembered_of", "remembered_of", defArgs s_remembered_of, defBody s_remembered_of, defScope s_remembered_of, [], []⟩
def d_remember : He.DefD := ⟨("remember", none), "remember", "remember", defArgs s_remember, defBody s_remember, defScope s_remember, [], []⟩
def d_shade : He.DefD := ⟨("shade", none), "shade", "shade", defArgs s_shade, defBody s_shade, defScope s_shade, [], []⟩
def d_note_reference : He.DefD := ⟨("note_reference", none), "note_reference", "note_reference", defArgs s_note_reference, defBody s_note_reference, defScope s_note_reference, [], []⟩
def d_write_word : He.DefD := ⟨("write_word", none), "write_word", "write_word", defArgs s_write_word, defBody s_write_word, defScope s_write_word, [], []⟩
def d_l_led : He.DefD := ⟨("_law_led", none), "_law_led", "_law_led", defArgs s_l_led, defBody s_l_led, defScope s_l_led, [], []⟩
def d_l_shaded : He.DefD := ⟨("_law_shaded", none), "_law_shaded", "_law_shaded", defArgs s_l_shaded, defBody s_l_shaded, defScope s_l_shaded, [], []⟩
def d_l_wrote : He.DefD := ⟨("_law_wrote", none), "_law_wrote", "_law_wrote", defArgs s_l_wrote, defBody s_l_wrote, defScope s_l_wrote, [], []⟩
def d_l_written : He.DefD := ⟨("_law_written", none), "_law_written", "_law_written", defArgs s_l_written, defBody s_l_written, defScope s_l_written, [], []⟩
def d_l_put : He.DefD := ⟨("_law_put", none), "_law_put", "_law_put", defArgs s_l_put, defBody s_l_put, defScope s_l_put, [], []⟩
def d_l_places : He.DefD := ⟨("_law_places", none), "_law_places", "_law_places", defArgs s_l_places, defBody s_l_places, defScope s_l_places, [], []⟩
def d_l_placed : He.DefD := ⟨("_law_placed", none), "_law_placed", "_law_placed", defArgs s_l_placed, defBody s_l_placed, defScope s_l_placed, [], []⟩
def d_l_linked : He.DefD := ⟨("_law_linked", none), "_law_linked", "_law_linked", defArgs s_l_linked, defBody s_l_linked, defScope s_l_linked, [], []⟩
def d_snapshot : He.DefD := ⟨("snapshot", none), "snapshot", "snapshot", defArgs s_snapshot, defBody s_snapshot, defScope s_snapshot, [], []⟩
def d_l_shot : He.DefD := ⟨("_law_shot", none), "_law_shot", "_law_shot", defArgs s_l_shot, defBody s_l_shot, defScope s_l_shot, [], []⟩
def d_l_done : He.DefD := ⟨("_law_done", none), "_law_done", "_law_done", defArgs s_l_done, defBody s_l_done, defScope s_l_done, [], []⟩
def d_l_rootless : He.DefD := ⟨("_law_rootless", none), "_law_rootless", "_law_rootless", defArgs s_l_rootless, defBody s_l_rootless, defScope s_l_rootless, [], []⟩
def d_l_kinds : He.DefD := ⟨("_law_kinds", none), "_law_kinds", "_law_kinds", defArgs s_l_kinds, defBody s_l_kinds, defScope s_l_kinds, [], []⟩
def d_law : He.DefD := ⟨("law", none), "law", "law", defArgs s_law, defBody s_law, defScope s_law, [], []⟩
def fn0 : List He.DefD := [d_l_digits, d_l_cell, d_l_bounds, d_Heap_init, d_l_memory, d_l_length, d_l_used, d_l_lifted, d_l_spot, d_l_lifted_block, d_l_emptied, d_is_reference, d_is_young, d_address_of, d_reference_word, d_forward_of, d_size_of, d_length_of, d_block_size, d_claim_old, d_state_word, d_copy_old, d_colour_of, d_promote, d_old_word, d_lift_row, d_resolve, d_payload_places, d_lift_payload, d_lift_remembered]
def fn1 : List He.DefD := [d_collect_young, d_l_passed, d_l_emptying, d_l_odd, d_l_payload, d_young_address, d_form_word, d_place_block, d_l_laid, d_l_whole, d_l_met, d_l_sides, d_resolve_word, d_remembered_of, d_remember, d_shade, d_note_reference, d_write_word, d_l_led, d_l_shaded, d_l_wrote, d_l_written, d_l_put, d_l_places, d_l_placed, d_l_linked, d_snapshot, d_l_shot, d_l_done, d_l_rootless]
def fn2 : List He.DefD := [d_l_kinds, d_law]
def fn : List He.DefD := fn0 ++ fn1 ++ fn2
def fa0 : List He.Fa := [.glo "_law_digits", .glo "_law_cell", .glo "_law_bounds", .glo "_law_memory", .glo "_law_length", .glo "_law_used", .glo "_law_lifted", .glo "_law_spot", .glo "_law_lifted_block", .glo "_law_emptied", .glo "is_reference", .glo "is_young", .glo "address_of", .glo "reference_word", .glo "forward_of", .glo "size_of", .glo "length_of", .glo "block_size", .glo "claim_old", .glo "state_word", .glo "copy_old", .glo "colour_of", .glo "promote", .glo "old_word", .glo "lift_row", .glo "resolve", .glo "payload_places", .glo "lift_payload", .glo "lift_remembered", .glo "collect_young"]
def fa1 : List He.Fa := [.glo "_law_passed", .glo "_law_emptying", .glo "_law_odd", .glo "_law_payload", .glo "young_address", .glo "form_word", .glo "place_block", .glo "_law_laid", .glo "_law_whole", .glo "_law_met", .glo "_law_sides", .glo "resolve_word", .glo "remembered_of", .glo "remember", .glo "shade", .glo "note_reference", .glo "write_word", .glo "_law_led", .glo "_law_shaded", .glo "_law_wrote", .glo "_law_written", .glo "_law_put", .glo "_law_places", .glo "_law_placed", .glo "_law_linked", .glo "snapshot", .glo "_law_shot", .glo "_law_done", .glo "_law_rootless", .glo "_law_kinds"]
def fa2 : List He.Fa := [.glo "law", .free "len", .free "int", .free "range", .free "list", .free "tuple", .free "min", .free "max", .free "sum", .free "isinstance", .free "bool", .free "str", .int "WHITE" 0, .int "GRAY" 1, .int "BLACK" 2, .int "NIL" 0, .glo "Heap", .cls "Heap", .noat "Heap" "capacity", .noat "Heap" "nursery", .noat "Heap" "words", .noat "Heap" "young_top", .noat "Heap" "base", .noat "Heap" "top", .noat "Heap" "other_base", .noat "Heap" "other_top", .noat "Heap" "phase", .noat "Heap" "cursor", .noat "Heap" "grays", .noat "Heap" "remembered"]
def fa3 : List He.Fa := [.noat "Heap" "pending", .meth "Heap" "__init__", .mkr "Heap"]
def fa : List He.Fa := fa0 ++ fa1 ++ fa2 ++ fa3
abbrev RR : PySem.W.OpenRow := PySem.W.OpenLaw.row PySem.Challenge.rw_quietbroom_k54_young_remembered
abbrev hk : PySem.W.Hook := He.hookD 5 fa fn
def ob (s : PySem.W.SharedT) : He.AlD := He.obsDG 5 fa fn (HandSHeadRun.getT s)
theorem ob_eq (s : PySem.W.SharedT) : ob s = hk.obs s.abs := He.obsDG_eq (HandSHeadRun.getT_eq s)
def loose0 : List Str := ["WHITE", "GRAY", "BLACK", "form_word", "state_word", "length_of", "colour_of", "remembered_of", "forward_of", "NIL", "reference_word", "is_reference", "address_of", "size_of", "Heap", "is_young", "block_size", "payload_places", "snapshot", "resolve", "resolve_word", "shade", "remember", "write_word", "note_reference", "claim_old", "copy_old", "promote", "old_word", "lift_row"]
def loose1 : List Str := ["lift_payload", "lift_remembered", "collect_young", "young_address", "place_block", "_law_whole", "_law_cell", "_law_digits", "_law_bounds", "_law_put", "_law_length", "_law_odd", "_law_payload", "_law_kinds", "_law_memory", "_law_shot", "_law_used", "_law_spot", "_law_led", "_law_met", "_law_shaded", "_law_wrote", "_law_lifted", "_law_lifted_block", "_law_emptied", "_law_laid", "_law_passed", "_law_places", "_law_written", "_law_sides"]
def loose2 : List Str := ["_law_placed", "_law_linked", "_law_emptying", "_law_rootless", "_law_done"]
def loose : List Str := loose0 ++ loose1 ++ loose2
theorem run (w : World) : HandSHeadRun.RunEq RR (PySem.W.view RR.prog [73]) hk ob 4000 loose w := by
  intro os
  kernel_rfl
abbrev CC (K : PySem.W.Frag) : Addr := He.ga K "Heap"
theorem txt {K : PySem.W.Frag} {h : Heap} {mg : Str → Option Value} (X : K.In h) (G : h.Ns mainGlobals mg) (c : He.SaysD fa fn K) : Txt K mg (CC K) where
  hc := ⟨He.cls_ok (c.fact 77 (f := .cls "Heap") rfl), He.noat_ok (c.fact 78 (f := .noat "Heap" "capacity") rfl), He.noat_ok (c.fact 79 (f := .noat "Heap" "nursery") rfl), He.noat_ok (c.fact 80 (f := .noat "Heap" "words") rfl), He.noat_ok (c.fact 81 (f := .noat "Heap" "young_top") rfl), He.noat_ok (c.fact 82 (f := .noat "Heap" "base") rfl), He.noat_ok (c.fact 83 (f := .noat "Heap" "top") rfl), He.noat_ok (c.fact 84 (f := .noat "Heap" "other_base") rfl), He.noat_ok (c.fact 85 (f := .noat "Heap" "other_top") rfl), He.noat_ok (c.fact 86 (f := .noat "Heap" "phase") rfl), He.noat_ok (c.fact 87 (f := .noat "Heap" "cursor") rfl), He.noat_ok (c.fact 88 (f := .noat "Heap" "grays") rfl), He.noat_ok (c.fact 89 (f := .noat "Heap" "remembered") rfl), He.noat_ok (c.fact 90 (f := .noat "Heap" "pending") rfl)⟩
  mgC := He.glo_ok X G (c.fact 76 (f := .glo "Heap") rfl)
  mkp := fun f m => by
    have k := He.mkr_ok (c.fact 92 (f := .mkr "Heap") rfl)
    have e := m.at_.symm.trans k.init
    injection e with e
    injection e with e
    injection e with e
    rw [e]
    exact k
  b_len := He.free_ok X G (c.fact 61 (f := .free "len") rfl)
  b_int := He.free_ok X G (c.fact 62 (f := .free "int") rfl)
  b_range := He.free_ok X G (c.fact 63 (f := .free "range") rfl)
  b_list := He.free_ok X G (c.fact 64 (f := .free "list") rfl)
  b_tuple := He.free_ok X G (c.fact 65 (f := .free "tuple") rfl)
  b_min := He.free_ok X G (c.fact 66 (f := .free "min") rfl)
  b_max := He.free_ok X G (c.fact 67 (f := .free "max") rfl)
  b_sum := He.free_ok X G (c.fact 68 (f := .free "sum") rfl)
  b_isinstance := He.free_ok X G (c.fact 69 (f := .free "isinstance") rfl)
  b_bool := He.free_ok X G (c.fact 70 (f := .free "bool") rfl)
  b_str := He.free_ok X G (c.fact 71 (f := .free "str") rfl)
  c_WHITE := He.int_ok X G (c.fact 72 (f := .int "WHITE" 0) rfl)
  c_GRAY := He.int_ok X G (c.fact 73 (f := .int "GRAY" 1) rfl)
  c_BLACK := He.int_ok X G (c.fact 74 (f := .int "BLACK" 2) rfl)
  c_NIL := He.int_ok X G (c.fact 75 (f := .int "NIL" 0) rfl)
theorem facts {P : Program} {w : World} {K : PySem.W.Frag} {h : Heap} {mg : Str → Option Value} {f : Addr} (X : K.In h) (G : h.Ns mainGlobals mg) (hfa : mg ("law" : Str) = some (.ref f)) (c : He.SaysD fa fn K) :
    ∃ fd : FuncData, (∀ (s : Shared) (v : Value), BindsTo s fd ⟨[v], []⟩ [("_law_script", v)]) ∧ ∀ base : Heap, K.In base → base.Ns mainGlobals mg → FnOk P w K mg base CX0 13 f fd ["_law_script"] (Spn 1 (phi_law K (CC K))) := by
  have T := txt X G c
  obtain ⟨fd_l_digits, F_l_digits⟩ := c.def_ 0 (d := d_l_digits) rfl
  obtain ⟨fd_l_cell, F_l_cell⟩ := c.def_ 1 (d := d_l_cell) rfl
  obtain ⟨fd_l_bounds, F_l_bounds⟩ := c.def_ 2 (d := d_l_bounds) rfl
  obtain ⟨fd_Heap_init, F_Heap_init⟩ := c.def_ 3 (d := d_Heap_init) rfl
  obtain ⟨fd_l_memory, F_l_memory⟩ := c.def_ 4 (d := d_l_memory) rfl
  obtain ⟨fd_l_length, F_l_length⟩ := c.def_ 5 (d := d_l_length) rfl
  obtain ⟨fd_l_used, F_l_used⟩ := c.def_ 6 (d := d_l_used) rfl
  obtain ⟨fd_l_lifted, F_l_lifted⟩ := c.def_ 7 (d := d_l_lifted) rfl
  obtain ⟨fd_l_spot, F_l_spot⟩ := c.def_ 8 (d := d_l_spot) rfl
  obtain ⟨fd_l_lifted_block, F_l_lifted_block⟩ := c.def_ 9 (d := d_l_lifted_block) rfl
  obtain ⟨fd_l_emptied, F_l_emptied⟩ := c.def_ 10 (d := d_l_emptied) rfl
  obtain ⟨fd_is_reference, F_is_reference⟩ := c.def_ 11 (d := d_is_reference) rfl
  obtain ⟨fd_is_young, F_is_young⟩ := c.def_ 12 (d := d_is_young) rfl
  obtain ⟨fd_address_of, F_address_of⟩ := c.def_ 13 (d := d_address_of) rfl
  obtain ⟨fd_reference_word, F_reference_word⟩ := c.def_ 14 (d := d_reference_word) rfl
  obtain ⟨fd_forward_of, F_forward_of⟩ := c.def_ 15 (d := d_forward_of) rfl
  obtain ⟨fd_size_of, F_size_of⟩ := c.def_ 16 (d := d_size_of) rfl
  obtain ⟨fd_length_of, F_length_of⟩ := c.def_ 17 (d := d_length_of) rfl
  obtain ⟨fd_block_size, F_block_size⟩ := c.def_ 18 (d := d_block_size) rfl
  obtain ⟨fd_claim_old, F_claim_old⟩ := c.def_ 19 (d := d_claim_old) rfl
  obtain ⟨fd_state_word, F_state_word⟩ := c.def_ 20 (d := d_state_word) rfl
  obtain ⟨fd_copy_old, F_copy_old⟩ := c.def_ 21 (d := d_copy_old) rfl
  obtain ⟨fd_colour_of, F_colour_of⟩ := c.def_ 22 (d := d_colour_of) rfl
  obtain ⟨fd_promote, F_promote⟩ := c.def_ 23 (d := d_promote) rfl
  obtain ⟨fd_old_word, F_old_word⟩ := c.def_ 24 (d := d_old_word) rfl
  obtain ⟨fd_lift_row, F_lift_row⟩ := c.def_ 25 (d := d_lift_row) rfl
  obtain ⟨fd_resolve, F_resolve⟩ := c.def_ 26 (d := d_resolve) rfl
  obtain ⟨fd_payload_places, F_payload_places⟩ := c.def_ 27 (d := d_payload_places) rfl
  obtain ⟨fd_lift_payload, F_lift_payload⟩ := c.def_ 28 (d := d_lift_payload) rfl
  obtain ⟨fd_lift_remembered, F_lift_remembered⟩ := c.def_ 29 (d := d_lift_remembered) rfl
  obtain ⟨fd_collect_young, F_collect_young⟩ := c.def_ 30 (d := d_collect_young) rfl
  obtain ⟨fd_l_passed, F_l_passed⟩ := c.def_ 31 (d := d_l_passed) rfl
  obtain ⟨fd_l_emptying, F_l_emptying⟩ := c.def_ 32 (d := d_l_emptying) rfl
  obtain ⟨fd_l_odd, F_l_odd⟩ := c.def_ 33 (d := d_l_odd) rfl
  obtain ⟨fd_l_payload, F_l_payload⟩ := c.def_ 34 (d := d_l_payload) rfl
  obtain ⟨fd_young_address, F_young_address⟩ := c.def_ 35 (d := d_young_address) rfl
  obtain ⟨fd_form_word, F_form_word⟩ := c.def_ 36 (d := d_form_word) rfl
  obtain ⟨fd_place_block, F_place_block⟩ := c.def_ 37 (d := d_place_block) rfl
  obtain ⟨fd_l_laid, F_l_laid⟩ := c.def_ 38 (d := d_l_laid) rfl
  obtain ⟨fd_l_whole, F_l_whole⟩ := c.def_ 39 (d := d_l_whole) rfl
  obtain ⟨fd_l_met, F_l_met⟩ := c.def_ 40 (d := d_l_met) rfl
  obtain ⟨fd_l_sides, F_l_sides⟩ := c.def_ 41 (d := d_l_sides) rfl
  obtain ⟨fd_resolve_word, F_resolve_word⟩ := c.def_ 42 (d := d_resolve_word) rfl
  obtain ⟨fd_remembered_of, F_remembered_of⟩ := c.def_ 43 (d := d_remembered_of) rfl
  obtain ⟨fd_remember, F_remember⟩ := c.def_ 44 (d := d_remember) rfl
  obtain ⟨fd_shade, F_shade⟩ := c.def_ 45 (d := d_shade) rfl
  obtain ⟨fd_note_reference, F_note_reference⟩ := c.def_ 46 (d := d_note_reference) rfl
  obtain ⟨fd_write_word, F_write_word⟩ := c.def_ 47 (d := d_write_word) rfl
  obtain ⟨fd_l_led, F_l_led⟩ := c.def_ 48 (d := d_l_led) rfl
  obtain ⟨fd_l_shaded, F_l_shaded⟩ := c.def_ 49 (d := d_l_shaded) rfl
  obtain ⟨fd_l_wrote, F_l_wrote⟩ := c.def_ 50 (d := d_l_wrote) rfl
  obtain ⟨fd_l_written, F_l_written⟩ := c.def_ 51 (d := d_l_written) rfl
  obtain ⟨fd_l_put, F_l_put⟩ := c.def_ 52 (d := d_l_put) rfl
  obtain ⟨fd_l_places, F_l_places⟩ := c.def_ 53 (d := d_l_places) rfl
  obtain ⟨fd_l_placed, F_l_placed⟩ := c.def_ 54 (d := d_l_placed) rfl
  obtain ⟨fd_l_linked, F_l_linked⟩ := c.def_ 55 (d := d_l_linked) rfl
  obtain ⟨fd_snapshot, F_snapshot⟩ := c.def_ 56 (d := d_snapshot) rfl
  obtain ⟨fd_l_shot, F_l_shot⟩ := c.def_ 57 (d := d_l_shot) rfl
  obtain ⟨fd_l_done, F_l_done⟩ := c.def_ 58 (d := d_l_done) rfl
  obtain ⟨fd_l_rootless, F_l_rootless⟩ := c.def_ 59 (d := d_l_rootless) rfl
  obtain ⟨fd_l_kinds, F_l_kinds⟩ := c.def_ 60 (d := d_l_kinds) rfl
  obtain ⟨fd_law, F_law⟩ := c.def_ 61 (d := d_law) rfl
  have e := hfa.symm.trans (He.glo_ok X G (c.fact 60 (f := .glo "law") rfl))
  cases e
  have b := FunD.bindsA (ps := ["_law_script"]) F_law fun _ _ _ _ _ _ us hl => match us, hl with | [_], _ => rfl
  refine ⟨fd_law, fun s v => b s [v] rfl, fun base _ _ => ?_⟩
  have g_l_digits : GF P w K mg base 1 "_law_digits" ["_law_cell_here", "_law_sizes"] (phi_l_digits K (CC K)) := ok_l_digits (L := 0) T  F_l_digits (He.glo_ok X G (c.fact 0 (f := .glo "_law_digits") rfl))
  have g_l_cell : GF P w K mg base 1 "_law_cell" ["_law_script", "_law_k"] (phi_l_cell K (CC K)) := ok_l_cell (L := 0) T  F_l_cell (He.glo_ok X G (c.fact 1 (f := .glo "_law_cell") rfl))
  have g_l_bounds : GF P w K mg base 1 "_law_bounds" ["_law_row"] (phi_l_bounds K (CC K)) := ok_l_bounds (L := 0) T  F_l_bounds (He.glo_ok X G (c.fact 2 (f := .glo "_law_bounds") rfl))
  have g_Heap_init : GM P w K mg base 1 (CC K) "__init__" ["self", "capacity", "nursery"] (phi_Heap_init K (CC K)) := ok_Heap_init (L := 0) T  F_Heap_init (He.meth_ok (c.fact 91 (f := .meth "Heap" "__init__") rfl))
  have g_l_memory : GF P w K mg base 1 "_law_memory" ["_law_cap", "_law_nur"] (phi_l_memory K (CC K)) := ok_l_memory (L := 0) T  F_l_memory (He.glo_ok X G (c.fact 3 (f := .glo "_law_memory") rfl))
  have g_l_length : GF P w K mg base 1 "_law_length" ["_law_first", "_law_second"] (phi_l_length K (CC K)) := ok_l_length (L := 0) T  F_l_length (He.glo_ok X G (c.fact 4 (f := .glo "_law_length") rfl))
  have g_l_used : GF P w K mg base 1 "_law_used" ["_law_mem"] (phi_l_used K (CC K)) := ok_l_used (L := 0) T  F_l_used (He.glo_ok X G (c.fact 5 (f := .glo "_law_used") rfl))
  have g_l_lifted : GF P w K mg base 1 "_law_lifted" ["_law_mem", "_law_nur", "_law_word", "_law_moved"] (phi_l_lifted K (CC K)) := ok_l_lifted (L := 0) T  F_l_lifted (He.glo_ok X G (c.fact 6 (f := .glo "_law_lifted") rfl))
  have g_l_spot : GF P w K mg base 1 "_law_spot" ["_law_mem", "_law_cap", "_law_address"] (phi_l_spot K (CC K)) := ok_l_spot (L := 0) T  F_l_spot (He.glo_ok X G (c.fact 7 (f := .glo "_law_spot") rfl))
  have g_l_lifted_block : GF P w K mg base 2 "_law_lifted_block" ["_law_mem", "_law_nur", "_law_at", "_law_moved"] (phi_l_lifted_block K (CC K)) := ok_l_lifted_block (L := 1) T (g_l_lifted.mono (by decide)) F_l_lifted_block (He.glo_ok X G (c.fact 8 (f := .glo "_law_lifted_block") rfl))
  have g_l_emptied : GF P w K mg base 3 "_law_emptied" ["_law_mem", "_law_cap", "_law_nur", "_law_rows"] (phi_l_emptied K (CC K)) := ok_l_emptied (L := 2) T (g_l_lifted.mono (by decide)) (g_l_spot.mono (by decide)) (g_l_lifted_block.mono (by decide)) F_l_emptied (He.glo_ok X G (c.fact 9 (f := .glo "_law_emptied") rfl))
  have g_is_reference : GF P w K mg base 1 "is_reference" ["word"] (phi_is_reference K (CC K)) := ok_is_reference (L := 0) T  F_is_reference (He.glo_ok X G (c.fact 10 (f := .glo "is_reference") rfl))
  have g_is_young : GF P w K mg base 1 "is_young" ["heap", "address"] (phi_is_young K (CC K)) := ok_is_young (L := 0) T  F_is_young (He.glo_ok X G (c.fact 11 (f := .glo "is_young") rfl))
  have g_address_of : GF P w K mg base 1 "address_of" ["word"] (phi_address_of K (CC K)) := ok_address_of (L := 0) T  F_address_of (He.glo_ok X G (c.fact 12 (f := .glo "address_of") rfl))
  have g_reference_word : GF P w K mg base 1 "reference_word" ["address"] (phi_reference_word K (CC K)) := ok_reference_word (L := 0) T  F_reference_word (He.glo_ok X G (c.fact 13 (f := .glo "reference_word") rfl))
  have g_forward_of : GF P w K mg base 1 "forward_of" ["word"] (phi_forward_of K (CC K)) := ok_forward_of (L := 0) T  F_forward_of (He.glo_ok X G (c.fact 14 (f := .glo "forward_of") rfl))
  have g_size_of : GF P w K mg base 1 "size_of" ["length"] (phi_size_of K (CC K)) := ok_size_of (L := 0) T  F_size_of (He.glo_ok X G (c.fact 15 (f := .glo "size_of") rfl))
  have g_length_of : GF P w K mg base 1 "length_of" ["word"] (phi_length_of K (CC K)) := ok_length_of (L := 0) T  F_length_of (He.glo_ok X G (c.fact 16 (f := .glo "length_of") rfl))
  have g_block_size : GF P w K mg base 2 "block_size" ["heap", "address"] (phi_block_size K (CC K)) := ok_block_size (L := 1) T (g_size_of.mono (by decide)) (g_length_of.mono (by decide)) F_block_size (He.glo_ok X G (c.fact 17 (f := .glo "block_size") rfl))
  have g_claim_old : GF P w K mg base 1 "claim_old" ["heap", "size"] (phi_claim_old K (CC K)) := ok_claim_old (L := 0) T  F_claim_old (He.glo_ok X G (c.fact 18 (f := .glo "claim_old") rfl))
  have g_state_word : GF P w K mg base 1 "state_word" ["colour", "remembered", "forward"] (phi_state_word K (CC K)) := ok_state_word (L := 0) T  F_state_word (He.glo_ok X G (c.fact 19 (f := .glo "state_word") rfl))
  have g_copy_old : GF P w K mg base 3 "copy_old" ["heap", "address"] (phi_copy_old K (CC K)) := ok_copy_old (L := 2) T (g_block_size.mono (by decide)) (g_claim_old.mono (by decide)) (g_state_word.mono (by decide)) F_copy_old (He.glo_ok X G (c.fact 20 (f := .glo "copy_old") rfl))
  have g_colour_of : GF P w K mg base 1 "colour_of" ["word"] (phi_colour_of K (CC K)) := ok_colour_of (L := 0) T  F_colour_of (He.glo_ok X G (c.fact 21 (f := .glo "colour_of") rfl))
  have g_promote : GF P w K mg base 4 "promote" ["heap", "address", "promoted"] (phi_promote K (CC K)) := ok_promote (L := 3) T (g_forward_of.mono (by decide)) (g_copy_old.mono (by decide)) (g_state_word.mono (by decide)) (g_colour_of.mono (by decide)) F_promote (He.glo_ok X G (c.fact 22 (f := .glo "promote") rfl))
  have g_old_word : GF P w K mg base 5 "old_word" ["heap", "word", "promoted"] (phi_old_word K (CC K)) := ok_old_word (L := 4) T (g_is_reference.mono (by decide)) (g_is_young.mono (by decide)) (g_address_of.mono (by decide)) (g_reference_word.mono (by decide)) (g_promote.mono (by decide)) F_old_word (He.glo_ok X G (c.fact 23 (f := .glo "old_word") rfl))
  have g_lift_row : GF P w K mg base 6 "lift_row" ["heap", "row", "promoted"] (phi_lift_row K (CC K)) := ok_lift_row (L := 5) T (g_old_word.mono (by decide)) F_lift_row (He.glo_ok X G (c.fact 24 (f := .glo "lift_row") rfl))
  have g_resolve : GF P w K mg base 2 "resolve" ["heap", "address"] (phi_resolve K (CC K)) := ok_resolve (L := 1) T (g_forward_of.mono (by decide)) F_resolve (He.glo_ok X G (c.fact 25 (f := .glo "resolve") rfl))
  have g_payload_places : GF P w K mg base 3 "payload_places" ["heap", "address"] (phi_payload_places K (CC K)) := ok_payload_places (L := 2) T (g_block_size.mono (by decide)) F_payload_places (He.glo_ok X G (c.fact 26 (f := .glo "payload_places") rfl))
  have g_lift_payload : GF P w K mg base 6 "lift_payload" ["heap", "address", "promoted"] (phi_lift_payload K (CC K)) := ok_lift_payload (L := 5) T (g_payload_places.mono (by decide)) (g_old_word.mono (by decide)) F_lift_payload (He.glo_ok X G (c.fact 27 (f := .glo "lift_payload") rfl))
  have g_lift_remembered : GF P w K mg base 7 "lift_remembered" ["heap", "promoted"] (phi_lift_remembered K (CC K)) := ok_lift_remembered (L := 6) T (g_resolve.mono (by decide)) (g_lift_payload.mono (by decide)) (g_state_word.mono (by decide)) (g_forward_of.mono (by decide)) (g_colour_of.mono (by decide)) F_lift_remembered (He.glo_ok X G (c.fact 28 (f := .glo "lift_remembered") rfl))
  have g_collect_young : GF P w K mg base 8 "collect_young" ["heap", "rows"] (phi_collect_young K (CC K)) := ok_collect_young (L := 7) T (g_lift_row.mono (by decide)) (g_lift_remembered.mono (by decide)) (g_lift_payload.mono (by decide)) F_collect_young (He.glo_ok X G (c.fact 29 (f := .glo "collect_young") rfl))
  have g_l_passed : GF P w K mg base 1 "_law_passed" ["_law_rows", "_law_digit"] (phi_l_passed K (CC K)) := ok_l_passed (L := 0) T  F_l_passed (He.glo_ok X G (c.fact 30 (f := .glo "_law_passed") rfl))
  have g_l_emptying : GF P w K mg base 9 "_law_emptying" ["_law_heap", "_law_mem", "_law_bounds_here", "_law_rows", "_law_mine", "_law_digit"] (phi_l_emptying K (CC K)) := ok_l_emptying (L := 8) T (g_l_emptied.mono (by decide)) (g_collect_young.mono (by decide)) (g_l_passed.mono (by decide)) F_l_emptying (He.glo_ok X G (c.fact 31 (f := .glo "_law_emptying") rfl))
  have g_l_odd : GF P w K mg base 1 "_law_odd" ["_law_number"] (phi_l_odd K (CC K)) := ok_l_odd (L := 0) T  F_l_odd (He.glo_ok X G (c.fact 32 (f := .glo "_law_odd") rfl))
  have g_l_payload : GF P w K mg base 2 "_law_payload" ["_law_length_here", "_law_mix", "_law_number"] (phi_l_payload K (CC K)) := ok_l_payload (L := 1) T (g_l_odd.mono (by decide)) F_l_payload (He.glo_ok X G (c.fact 33 (f := .glo "_law_payload") rfl))
  have g_young_address : GF P w K mg base 9 "young_address" ["heap", "rows", "size"] (phi_young_address K (CC K)) := ok_young_address (L := 8) T (g_collect_young.mono (by decide)) F_young_address (He.glo_ok X G (c.fact 34 (f := .glo "young_address") rfl))
  have g_form_word : GF P w K mg base 1 "form_word" ["shape_number", "length"] (phi_form_word K (CC K)) := ok_form_word (L := 0) T  F_form_word (He.glo_ok X G (c.fact 35 (f := .glo "form_word") rfl))
  have g_place_block : GF P w K mg base 10 "place_block" ["heap", "rows", "shape_number", "payload"] (phi_place_block K (CC K)) := ok_place_block (L := 9) T (g_size_of.mono (by decide)) (g_young_address.mono (by decide)) (g_claim_old.mono (by decide)) (g_state_word.mono (by decide)) (g_form_word.mono (by decide)) F_place_block (He.glo_ok X G (c.fact 36 (f := .glo "place_block") rfl))
  have g_l_laid : GF P w K mg base 4 "_law_laid" ["_law_mem", "_law_cap", "_law_nur", "_law_rows", "_law_shape", "_law_payload_here"] (phi_l_laid K (CC K)) := ok_l_laid (L := 3) T (g_l_emptied.mono (by decide)) F_l_laid (He.glo_ok X G (c.fact 37 (f := .glo "_law_laid") rfl))
  have g_l_whole : GF P w K mg base 1 "_law_whole" ["_law_value"] (phi_l_whole K (CC K)) := ok_l_whole (L := 0) T  F_l_whole (He.glo_ok X G (c.fact 38 (f := .glo "_law_whole") rfl))
  have g_l_met : GF P w K mg base 2 "_law_met" ["_law_mem", "_law_cap", "_law_rows"] (phi_l_met K (CC K)) := ok_l_met (L := 1) T (g_l_spot.mono (by decide)) F_l_met (He.glo_ok X G (c.fact 39 (f := .glo "_law_met") rfl))
  have g_l_sides : GF P w K mg base 3 "_law_sides" ["_law_mem", "_law_bounds_here", "_law_mine"] (phi_l_sides K (CC K)) := ok_l_sides (L := 2) T (g_l_met.mono (by decide)) F_l_sides (He.glo_ok X G (c.fact 40 (f := .glo "_law_sides") rfl))
  have g_resolve_word : GF P w K mg base 3 "resolve_word" ["heap", "word"] (phi_resolve_word K (CC K)) := ok_resolve_word (L := 2) T (g_is_reference.mono (by decide)) (g_reference_word.mono (by decide)) (g_resolve.mono (by decide)) (g_address_of.mono (by decide)) F_resolve_word (He.glo_ok X G (c.fact 41 (f := .glo "resolve_word") rfl))
  have g_remembered_of : GF P w K mg base 1 "remembered_of" ["word"] (phi_remembered_of K (CC K)) := ok_remembered_of (L := 0) T  F_remembered_of (He.glo_ok X G (c.fact 42 (f := .glo "remembered_of") rfl))
  have g_remember : GF P w K mg base 2 "remember" ["heap", "address"] (phi_remember K (CC K)) := ok_remember (L := 1) T (g_remembered_of.mono (by decide)) (g_state_word.mono (by decide)) (g_forward_of.mono (by decide)) (g_colour_of.mono (by decide)) F_remember (He.glo_ok X G (c.fact 43 (f := .glo "remember") rfl))
  have g_shade : GF P w K mg base 2 "shade" ["heap", "address"] (phi_shade K (CC K)) := ok_shade (L := 1) T (g_state_word.mono (by decide)) (g_forward_of.mono (by decide)) (g_remembered_of.mono (by decide)) F_shade (He.glo_ok X G (c.fact 44 (f := .glo "shade") rfl))
  have g_note_reference : GF P w K mg base 3 "note_reference" ["heap", "block", "target"] (phi_note_reference K (CC K)) := ok_note_reference (L := 2) T (g_is_young.mono (by decide)) (g_remember.mono (by decide)) (g_colour_of.mono (by decide)) (g_shade.mono (by decide)) F_note_reference (He.glo_ok X G (c.fact 45 (f := .glo "note_reference") rfl))
  have g_write_word : GF P w K mg base 4 "write_word" ["heap", "address", "place", "word"] (phi_write_word K (CC K)) := ok_write_word (L := 3) T (g_resolve.mono (by decide)) (g_resolve_word.mono (by decide)) (g_payload_places.mono (by decide)) (g_is_reference.mono (by decide)) (g_is_young.mono (by decide)) (g_note_reference.mono (by decide)) (g_address_of.mono (by decide)) F_write_word (He.glo_ok X G (c.fact 46 (f := .glo "write_word") rfl))
  have g_l_led : GF P w K mg base 2 "_law_led" ["_law_mem", "_law_cap", "_law_word"] (phi_l_led K (CC K)) := ok_l_led (L := 1) T (g_l_spot.mono (by decide)) F_l_led (He.glo_ok X G (c.fact 47 (f := .glo "_law_led") rfl))
  have g_l_shaded : GF P w K mg base 1 "_law_shaded" ["_law_mem", "_law_nur", "_law_word"] (phi_l_shaded K (CC K)) := ok_l_shaded (L := 0) T  F_l_shaded (He.glo_ok X G (c.fact 48 (f := .glo "_law_shaded") rfl))
  have g_l_wrote : GF P w K mg base 3 "_law_wrote" ["_law_mem", "_law_cap", "_law_nur", "_law_address", "_law_place", "_law_word"] (phi_l_wrote K (CC K)) := ok_l_wrote (L := 2) T (g_l_spot.mono (by decide)) (g_l_led.mono (by decide)) (g_l_shaded.mono (by decide)) F_l_wrote (He.glo_ok X G (c.fact 49 (f := .glo "_law_wrote") rfl))
  have g_l_written : GF P w K mg base 5 "_law_written" ["_law_heap", "_law_mem", "_law_bounds_here", "_law_at", "_law_place", "_law_word"] (phi_l_written K (CC K)) := ok_l_written (L := 4) T (g_write_word.mono (by decide)) (g_l_wrote.mono (by decide)) F_l_written (He.glo_ok X G (c.fact 50 (f := .glo "_law_written") rfl))
  have g_l_put : GF P w K mg base 1 "_law_put" ["_law_rows", "_law_spot_here", "_law_word"] (phi_l_put K (CC K)) := ok_l_put (L := 0) T  F_l_put (He.glo_ok X G (c.fact 51 (f := .glo "_law_put") rfl))
  have g_l_places : GF P w K mg base 1 "_law_places" ["_law_rows"] (phi_l_places K (CC K)) := ok_l_places (L := 0) T  F_l_places (He.glo_ok X G (c.fact 52 (f := .glo "_law_places") rfl))
  have g_l_placed : GF P w K mg base 11 "_law_placed" ["_law_heap", "_law_mem", "_law_bounds_here", "_law_rows", "_law_mine", "_law_row"] (phi_l_placed K (CC K)) := ok_l_placed (L := 10) T (g_l_length.mono (by decide)) (g_l_used.mono (by decide)) (g_l_emptying.mono (by decide)) (g_l_payload.mono (by decide)) (g_place_block.mono (by decide)) (g_l_passed.mono (by decide)) (g_l_laid.mono (by decide)) (g_l_whole.mono (by decide)) (g_l_sides.mono (by decide)) (g_l_written.mono (by decide)) (g_l_put.mono (by decide)) (g_l_places.mono (by decide)) F_l_placed (He.glo_ok X G (c.fact 53 (f := .glo "_law_placed") rfl))
  have g_l_linked : GF P w K mg base 6 "_law_linked" ["_law_heap", "_law_mem", "_law_bounds_here", "_law_mine", "_law_row"] (phi_l_linked K (CC K)) := ok_l_linked (L := 5) T (g_l_sides.mono (by decide)) (g_l_odd.mono (by decide)) (g_l_written.mono (by decide)) F_l_linked (He.glo_ok X G (c.fact 54 (f := .glo "_law_linked") rfl))
  have g_snapshot : GF P w K mg base 1 "snapshot" ["heap"] (phi_snapshot K (CC K)) := ok_snapshot (L := 0) T  F_snapshot (He.glo_ok X G (c.fact 55 (f := .glo "snapshot") rfl))
  have g_l_shot : GF P w K mg base 1 "_law_shot" ["_law_mem"] (phi_l_shot K (CC K)) := ok_l_shot (L := 0) T  F_l_shot (He.glo_ok X G (c.fact 56 (f := .glo "_law_shot") rfl))
  have g_l_done : GF P w K mg base 12 "_law_done" ["_law_heap", "_law_mem", "_law_bounds_here", "_law_rows", "_law_mine", "_law_row"] (phi_l_done K (CC K)) := ok_l_done (L := 11) T (g_l_placed.mono (by decide)) (g_l_linked.mono (by decide)) (g_l_odd.mono (by decide)) (g_l_sides.mono (by decide)) (g_l_put.mono (by decide)) (g_l_places.mono (by decide)) (g_l_emptying.mono (by decide)) (g_snapshot.mono (by decide)) (g_l_shot.mono (by decide)) F_l_done (He.glo_ok X G (c.fact 57 (f := .glo "_law_done") rfl))
  have g_l_rootless : GF P w K mg base 11 "_law_rootless" ["_law_heap", "_law_mem", "_law_bounds_here", "_law_row"] (phi_l_rootless K (CC K)) := ok_l_rootless (L := 10) T (g_l_passed.mono (by decide)) (g_l_emptied.mono (by decide)) (g_collect_young.mono (by decide)) (g_snapshot.mono (by decide)) (g_l_shot.mono (by decide)) (g_l_length.mono (by decide)) (g_l_used.mono (by decide)) (g_l_payload.mono (by decide)) (g_place_block.mono (by decide)) (g_l_laid.mono (by decide)) (g_l_whole.mono (by decide)) F_l_rootless (He.glo_ok X G (c.fact 58 (f := .glo "_law_rootless") rfl))
  have g_l_kinds : GF P w K mg base 2 "_law_kinds" ["_law_shot_here"] (phi_l_kinds K (CC K)) := ok_l_kinds (L := 1) T (g_l_whole.mono (by decide)) F_l_kinds (He.glo_ok X G (c.fact 59 (f := .glo "_law_kinds") rfl))
  exact ok_law (L := 11) T (g_l_digits.mono (by decide)) (g_l_cell.mono (by decide)) (g_l_bounds.mono (by decide)) (g_Heap_init.mono (by decide)) (g_l_memory.mono (by decide)) (g_l_done.mono (by decide)) (g_snapshot.mono (by decide)) (g_l_shot.mono (by decide)) (g_l_rootless.mono (by decide)) (g_l_kinds.mono (by decide)) F_law
end Qb
open PySem PySem.W PySem.Calls PyProof.Rows
theorem PySem.Challenge.cw_quietbroom_k54_young_remembered_holds : PySem.Challenge.rw_quietbroom_k54_young_remembered.Holds := by
  w_on; o_law
  refine HandSHeadRun.head_any (r := OpenLaw.row PySem.Challenge.rw_quietbroom_k54_young_remembered) (q := view (OpenLaw.row PySem.Challenge.rw_quietbroom_k54_young_remembered).prog [73]) (H := Qb.hk) (ob := Qb.ob) (M := 4000) (loose := Qb.loose) (d := HandSHeadRun.topDef (OpenLaw.row PySem.Challenge.rw_quietbroom_k54_young_remembered).prog 73) (kwd := []) Qb.ob_eq
    (by kernel_rfl) (fun s => by kernel_rfl) Qb.run (by kernel_rfl) (by kernel_rfl) (by kernel_rfl) (by rfl) (by first | assumption | decide +kernel) (by decide +kernel) ⟨rfl, rfl, rfl, rfl, rfl, by decide +kernel⟩ ?hw ?hc
  case hw => w_witness2
  case hc =>
    refine L2.walk_ofE (l := PySem.Challenge.rw_quietbroom_k54_young_remembered) (n := 63) (k := 13) (x := "_law_script") (CX := L2.CX0) rfl (by decide) (by kernel_rfl) ⟨rfl, by decide, by decide⟩ ?F (fun _ _ _ _ z => z)
    intro w mg fa h Y G hmg0
    obtain ⟨K, KX, c⟩ := Y
    have hmg : mg ("law" : PySem.Str) = some (.ref fa) := by
      have e : (HandSHeadRun.topDef (OpenLaw.row PySem.Challenge.rw_quietbroom_k54_young_remembered).prog 73).name = ("law" : PySem.Str) := by kernel_rfl
      rw [← e]
      exact hmg0
    obtain ⟨fd, hb, hF⟩ := Qb.facts (P := (PySem.Challenge.rw_quietbroom_k54_young_remembered).prog) (w := w) KX G hmg c
    exact ⟨K, fd, Qb.Spn 1 (Qb.phi_law K (Qb.CC K)), KX, hb, fun H a ns hl _ hS => ⟨rfl, a, ns, rfl, hS, hl, fun _ => rfl⟩, hF⟩

