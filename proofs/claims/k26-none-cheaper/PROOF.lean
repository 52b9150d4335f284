import PyProof.Rows.All
import Wide.All
import OpenK.AllK
import Wide.FinOn
import HandS.ForMost
import HandS.Flow
import HandS.Style
import HandS.IsInst
import HandS.Conv
import HandS.ListItems
import HandS.Defaults
import HandS.Sort
import HandS.Zip
import KE.KSortTupG
import KE.KSortTupUse
import PySem.Challenge.RW_noteworth_k26_whole_none_cheaper
set_option Elab.async false
set_option linter.all false
set_option maxRecDepth 100000
/-! Noteworth: the plain mathematics (no Python). Signs, states, steps. -/
namespace Nw
inductive Kd where
  | G | D | R | s | d | r | dot | m3 | m2
  deriving DecidableEq, Repr
namespace Kd
def great : Kd → Bool | G | D | R => true | _ => false
def small : Kd → Bool | s | d | r => true | _ => false
def parting : Kd → Bool | dot | m3 | m2 => true | _ => false
def sounds : Kd → Bool | G | D | s | d => true | _ => false
def measuring : Kd → Bool | m3 | m2 => true | _ => false
end Kd
abbrev Sg := Kd × Int
inductive Lf where | n | w | h | t
  deriving DecidableEq, Repr
inductive Ct where | c0 | c1 | c2
  deriving DecidableEq, Repr
inductive La where | dash | s | S | o
  deriving DecidableEq, Repr
inductive St where
  | two | twog | twoG
  | three (l : Lf) (c : Ct) (a : La)
  deriving DecidableEq, Repr
inductive Way where | go | ahead
  deriving DecidableEq, Repr
def Ct.next : Ct → Ct | c0 => c1 | c1 => c2 | c2 => c0
def beginState (b : Int) : St := if b = 2 then .two else .three .n .c0 .dash
def closedBy (l : Lf) (c : Ct) (a : La) (k : Kd) (w : Int) : Option Way :=
  match c with
  | .c0 => if l = .h ∨ (l = .t ∧ k.great = true) then none else some .go
  | .c1 => if l = .h then some .go else if l = .n ∧ (k = .G ∧ w = 2) then some .ahead else none
  | .c2 => if k.great = false then none else if a = .S ∧ l ≠ .h then some .go
      else if a = .o ∧ l = .h ∧ (k = .G ∧ w = 2) then some .ahead else none
def greatStep (l : Lf) (c : Ct) (a : La) (k : Kd) (w : Int) : Option St :=
  if k = .G ∧ w ≠ 2 ∧ w ≠ 3 then none
  else if (k = .D ∧ w ≠ 2) ∨ (k = .R ∧ w ≠ 3) then none
  else match closedBy l c a k w with
    | none => none
    | some .ahead => some (.three .t .c0 .dash)
    | some .go => if k ≠ .G then some (.three .n .c0 .dash) else if w = 3 then some (.three .w .c0 .dash) else some (.three .h .c0 .dash)
def smallStep (l : Lf) (c : Ct) (a : La) (k : Kd) (w : Int) : Option St :=
  if a = .S then none
  else
    let l' := if l = .t then .n else l
    let c' := c.next
    if w = 2 ∧ k = .s ∧ c' = .c2 then some (.three l' .c2 .S)
    else if w ≠ 1 then none
    else if k = .s then some (.three l' c' .s)
    else some (.three l' c' .o)
def parted (k : Kd) : St := if k = .m2 then .two else .three .n .c0 .dash
def twoStep (q : St) (k : Kd) (w : Int) : Option St :=
  if q = .twoG ∨ (q = .twog ∧ k = .dot) then
    if q = .twoG ∧ k = .dot ∧ w = 0 then some .two else none
  else if k.parting = true then
    if w ≠ 0 then none else if k = .dot then some .two else some (parted k)
  else if k.small = true then
    if w = 1 then some .two else none
  else if k = .G ∧ w = 3 then some .twoG
  else if w ≠ 2 then none
  else if k = .G then some .twog
  else some .two
def step (q : St) (k : Kd) (w : Int) : Option St :=
  match q with
  | .three l c a =>
    if k.great = true then greatStep l c a k w
    else if k.small = true then smallStep l c a k w
    else if w ≠ 0 then none
    else match closedBy l c a k w with
      | none => none
      | some _ => some (parted k)
  | q => twoStep q k w
def ends : St → Bool
  | .three l c a => (closedBy l c a .dot 0).isSome
  | .twoG => false
  | _ => true
/-! ### the reader, as a recursion over what is left of the line -/
/-- the worths of the signs in the order of the line; sh: the left note is shortened from behind; ok: no run is loose -/
structure Rd where
  sh : Bool
  ws : List Int
  ok : Bool
  deriving Repr, DecidableEq
inductive Cf where
  | two
  | three (l : Bool) (c : Ct) (a : La)
  deriving DecidableEq, Repr
def headGreat : List Sg → Bool
  | [] => false
  | g :: _ => g.1.great
def headDot : List Sg → Bool
  | [] => false
  | g :: _ => decide (g.1 = .dot)
/-- the run's end where no great sign stands behind it: (is the left note shortened, is it no loose run) -/
def shut (l : Bool) (c : Ct) : Bool × Bool :=
  match c with
  | .c0 => (false, true)
  | .c1 => (l, l)
  | .c2 => (false, false)
/-- the run's end at a great sign: (is the left note shortened, is that great note shortened, is it no loose run); right: it is a right note -/
def shutG (l : Bool) (c : Ct) (a : La) (right : Bool) : Bool × Bool × Bool :=
  match c with
  | .c0 => (false, false, true)
  | .c1 => if l then (true, false, true) else if right then (false, true, true) else (false, false, false)
  | .c2 => if a = .s then (false, false, true) else if l && right then (true, true, true) else (false, false, false)
def rd : Cf → List Sg → Rd
  | .two, [] => ⟨false, [], true⟩
  | .two, g :: L =>
    let r := rd (if g.1 = .m3 then .three false .c0 .dash else .two) L
    ⟨false, (if g.1.parting then 0 else if g.1.small then 1 else if g.1 = .G ∧ headDot L = true then 3 else 2) :: r.ws, r.ok⟩
  | .three l c _, [] => ⟨(shut l c).1, [], (shut l c).2⟩
  | .three l c a, g :: L =>
    if g.1.small then
      let r := rd (.three l c.next (if g.1 = .s then .s else .o)) L
      ⟨r.sh, (if g.1 = .s ∧ c.next = .c2 ∧ headGreat L = true then 2 else 1) :: r.ws, r.ok⟩
    else if g.1.parting then
      let r := rd (if g.1 = .m2 then .two else .three false .c0 .dash) L
      ⟨(shut l c).1, 0 :: r.ws, (shut l c).2 && r.ok⟩
    else
      let z := shutG l c a (decide (g.1 = .G) && !headGreat L)
      if g.1 = .G then
        if z.2.1 then
          let r := rd (.three false .c0 .dash) L
          ⟨z.1, 2 :: r.ws, z.2.2 && r.ok⟩
        else
          let r := rd (.three true .c0 .dash) L
          ⟨z.1, (if r.sh then 2 else 3) :: r.ws, z.2.2 && r.ok⟩
      else
        let r := rd (.three false .c0 .dash) L
        ⟨z.1, (if g.1 = .D then 2 else 3) :: r.ws, z.2.2 && r.ok⟩
def cfOf (b : Int) : Cf := if b = 2 then .two else .three false .c0 .dash
/-- the steps along a line with told worths -/
def runW : St → List Sg → List Int → Option St
  | q, [], [] => some q
  | q, g :: L, w :: ws => match step q g.1 w with
    | none => none
    | some q' => runW q' L ws
  | _, _, _ => none
def accepts (q : St) (L : List Sg) (ws : List Int) : Bool := match runW q L ws with
  | none => false
  | some q' => ends q'
end Nw
namespace Nw
def isWH : Lf → Bool | .w | .h => true | _ => false
def toS : La → La | .S => .s | a => a
def cfq : St → Cf
  | .three l c a => .three (isWH l) c (toS a)
  | _ => .two
def valid : St → Bool
  | .three l c a => (l != .t || (c == .c0 && a == .dash)) && (a != .S || c == .c2) && (a != .dash || c == .c0)
  | _ => true
def fits (q : St) (L : List Sg) : Bool :=
  match q with
  | .two => true
  | .twog => !headDot L
  | .twoG => headDot L
  | .three l c a =>
    (l != .w || !(rd (cfq (.three l c a)) L).sh) && (l != .h || (rd (cfq (.three l c a)) L).sh) && (l != .t || !headGreat L)
    && (a != .S || headGreat L) && (!(c == .c2 && a == .s) || !headGreat L)
theorem rd_sh_false : ∀ (L : List Sg) (c : Ct) (a : La), (rd (.three false c a) L).sh = false := by
  intro L
  induction L with
  | nil => intro c a; cases c <;> rfl
  | cons g L ih =>
    intro c a
    rcases g with ⟨k, t⟩
    cases k <;> cases c <;> simp [rd, Kd.small, Kd.parting, shut, shutG, ih] <;> (repeat' split) <;> simp_all
theorem acc_nil (q : St) (hq : valid q = true) (ws : List Int) : accepts q [] ws = true ↔ fits q [] = true ∧ ws = (rd (cfq q) []).ws ∧ (rd (cfq q) []).ok = true := by
  cases ws with
  | nil =>
    cases q with
    | three l c a => revert hq; cases l <;> cases c <;> cases a <;> decide
    | _ => decide
  | cons w ws =>
    cases q with
    | three l c a => simp [accepts, runW, rd, cfq]
    | _ => simp [accepts, runW, rd, cfq]
theorem acc_cons (q : St) (g : Sg) (L : List Sg) (w : Int) (ws : List Int) : accepts q (g :: L) (w :: ws) = match step q g.1 w with | none => false | some q' => accepts q' L ws := by
  unfold accepts
  rw [runW]
  cases step q g.1 w <;> rfl
def nexts (q : St) (k : Kd) : List (Int × St) := [0, 1, 2, 3].filterMap fun w => (step q k w).map fun q' => (w, q')
theorem step_far {q : St} {k : Kd} {w : Int} (h0 : w ≠ 0) (h1 : w ≠ 1) (h2 : w ≠ 2) (h3 : w ≠ 3) : step q k w = none := by
  cases q with
  | three l c a =>
    cases k <;> simp [step, greatStep, smallStep, Kd.great, Kd.small, h0, h1, h2, h3]
  | _ => cases k <;> simp [step, twoStep, Kd.parting, Kd.small, h0, h1, h2, h3]
theorem step_next {q q' : St} {k : Kd} {w : Int} : step q k w = some q' ↔ (w, q') ∈ nexts q k := by
  unfold nexts
  rw [List.mem_filterMap]
  constructor
  · intro h
    refine ⟨w, ?_, by rw [h]; rfl⟩
    by_cases h0 : w = 0
    · simp [h0]
    by_cases h1 : w = 1
    · simp [h1]
    by_cases h2 : w = 2
    · simp [h2]
    by_cases h3 : w = 3
    · simp [h3]
    rw [step_far h0 h1 h2 h3] at h
    cases h
  · rintro ⟨v, _, h⟩
    cases e : step q k v with
    | none => rw [e] at h; cases h
    | some x =>
      rw [e] at h
      have h' : (v, x) = (w, q') := Option.some.inj h
      cases h'
      exact e
theorem acc_next (q : St) (g : Sg) (L : List Sg) (w : Int) (ws : List Int) : accepts q (g :: L) (w :: ws) = true ↔ ∃ p ∈ nexts q g.1, w = p.1 ∧ accepts p.2 L ws = true := by
  rw [acc_cons]
  constructor
  · intro h
    cases e : step q g.1 w with
    | none => rw [e] at h; cases h
    | some q' =>
      rw [e] at h
      exact ⟨(w, q'), step_next.mp e, rfl, h⟩
  · rintro ⟨⟨v, q'⟩, hp, e, h⟩
    have e' : w = v := e
    subst e'
    rw [step_next.mpr hp]
    exact h
theorem hg_nil : headGreat [] = false := rfl
theorem hg_cons (g : Sg) (L : List Sg) : headGreat (g :: L) = g.1.great := rfl
theorem hd_nil : headDot [] = false := rfl
theorem hd_cons (g : Sg) (L : List Sg) : headDot (g :: L) = decide (g.1 = .dot) := rfl
theorem v2 : valid .two = true := rfl
theorem v2g : valid .twog = true := rfl
theorem v2G : valid .twoG = true := rfl
theorem f2 (L : List Sg) : fits .two L = true := rfl
theorem f2g (L : List Sg) : fits .twog L = !headDot L := rfl
theorem f2G (L : List Sg) : fits .twoG L = headDot L := rfl
theorem acc_iff : ∀ (L : List Sg) (q : St) (ws : List Int), valid q = true → (accepts q L ws = true ↔ fits q L = true ∧ ws = (rd (cfq q) L).ws ∧ (rd (cfq q) L).ok = true) := by
  intro L
  induction L with
  | nil => intro q ws hq; exact acc_nil q hq ws
  | cons g L ih =>
    intro q ws hq
    cases ws with
    | nil =>
      have e1 : accepts q (g :: L) [] = false := by cases q <;> rfl
      have e2 : ∀ cf, (rd cf (g :: L)).ws ≠ [] := fun cf => by
        cases cf with
        | two => simp [rd]
        | three l c a =>
          simp only [rd]
          repeat' split
          all_goals simp
      rw [e1]
      constructor
      · intro h; cases h
      · rintro ⟨_, h, _⟩
        exact absurd h.symm (e2 _)
    | cons w ws =>
      rw [acc_next]
      rcases g with ⟨k, t⟩
      cases q with
      | three l c a =>
        cases l <;> cases c <;> cases a <;> simp [valid] at hq <;> clear hq <;>
          cases k <;> simp (disch := decide) [nexts, step, greatStep, smallStep, closedBy, Ct.next, Kd.great, Kd.small, Kd.parting, ih, v2, v2g, v2G, cfq, f2, f2g, f2G, fits, rd, parted, isWH, toS, hd_cons, hg_cons, shut, shutG, rd_sh_false, -Bool.not_eq_true] <;>
          cases headGreat L <;> simp [and_assoc] <;> grind
      | two => cases k <;> simp (disch := decide) [nexts, step, twoStep, Kd.small, Kd.parting, ih, v2, v2g, v2G, cfq, f2, f2g, f2G, fits, rd, parted, isWH, toS, hd_cons, rd_sh_false] <;> cases headDot L <;> simp [and_assoc] <;> grind
      | twog => cases k <;> simp (disch := decide) [nexts, step, twoStep, Kd.small, Kd.parting, ih, v2, v2g, v2G, cfq, f2, f2g, f2G, fits, rd, parted, isWH, toS, hd_cons, rd_sh_false] <;> cases headDot L <;> simp [and_assoc] <;> grind
      | twoG => cases k <;> simp (disch := decide) [nexts, step, twoStep, Kd.small, Kd.parting, ih, v2, v2g, v2G, cfq, f2, f2g, f2G, fits, rd, parted, isWH, toS, hd_cons, rd_sh_false] <;> cases headDot L <;> simp [and_assoc] <;> grind
end Nw
namespace Nw
/-! ### prices, moves, paths -/
structure Pr where
  dot : Option Int
  dk : Option Int
  ms : Option Int
def Pr.ok (p : Pr) : Prop := (∀ c, p.dot = some c → 1 ≤ c ∧ c ≤ 9) ∧ (∀ c, p.dk = some c → 1 ≤ c ∧ c ≤ 9) ∧ ∀ c, p.ms = some c → 1 ≤ c ∧ c ≤ 9
def signPrice (k : Kd) (p : Pr) : Option Int :=
  if k = .dot then p.dot else if k = .D ∨ k = .d then p.dk else if k.measuring = true then p.ms else some 0
def moveOf (q : St) (w : Int) (p : Pr) (g : Sg) : Option (St × Sg × Int) :=
  match signPrice g.1 p, step q g.1 w with
  | some c, some q' => some (q', g, c)
  | _, _ => none
def moves (q : St) (signs : List Sg) (w : Int) (p : Pr) : List (St × Sg × Int) := signs.filterMap (moveOf q w p)
def partSigns : List Sg := [(.dot, 0), (.m3, 0), (.m2, 0)]
def wishSigns (tone : Int) : List Sg := if tone < 0 then [(.R, 0), (.r, 0)] else [(.G, tone), (.s, tone), (.D, tone), (.d, tone)]
def partMoves (q : St) (p : Pr) := moves q partSigns 0 p
def wishMoves (q : St) (wi : Int × Int) (p : Pr) := moves q (wishSigns wi.1) wi.2 p
theorem mem_moves {q q' : St} {signs : List Sg} {w c : Int} {p : Pr} {g : Sg} : (q', g, c) ∈ moves q signs w p ↔ g ∈ signs ∧ signPrice g.1 p = some c ∧ step q g.1 w = some q' := by
  unfold moves
  rw [List.mem_filterMap]
  constructor
  · rintro ⟨g', hg, h⟩
    unfold moveOf at h
    split at h
    · rename_i c1 q1 h1 h2
      simp only [Option.some.injEq, Prod.mk.injEq] at h
      obtain ⟨rfl, rfl, rfl⟩ := h
      exact ⟨hg, h1, h2⟩
    · cases h
  · rintro ⟨hg, h1, h2⟩
    refine ⟨g, hg, ?_⟩
    unfold moveOf
    rw [h1, h2]
theorem price_bound {k : Kd} {p : Pr} {c : Int} (hp : p.ok) (h : signPrice k p = some c) : 0 ≤ c ∧ c ≤ 9 := by
  obtain ⟨h1, h2, h3⟩ := hp
  unfold signPrice at h
  split at h
  · have := h1 c h; omega
  · split at h
    · have := h2 c h; omega
    · split at h
      · have := h3 c h; omega
      · cases h; omega
theorem part_price {g : Sg} {p : Pr} {c : Int} (hp : p.ok) (hg : g ∈ partSigns) (h : signPrice g.1 p = some c) : 1 ≤ c ∧ c ≤ 9 := by
  obtain ⟨h1, h2, h3⟩ := hp
  simp only [partSigns, List.mem_cons, List.not_mem_nil, or_false] at hg
  rcases hg with rfl | rfl | rfl
  · exact h1 c (by simpa [signPrice] using h)
  · exact h3 c (by simpa [signPrice, Kd.measuring] using h)
  · exact h3 c (by simpa [signPrice, Kd.measuring] using h)
/-- a line's price -/
def price : List Sg → Pr → Option Int
  | [], _ => some 0
  | g :: L, p => match signPrice g.1 p, price L p with
    | some c, some t => some (c + t)
    | _, _ => none
theorem price_snoc {p : Pr} {g : Sg} {c : Int} (hc : signPrice g.1 p = some c) : ∀ {L : List Sg} {t : Int}, price L p = some t → price (L ++ [g]) p = some (t + c)
  | [], t, h => by
    have e : (0 : Int) = t := Option.some.inj h
    subst e
    show (match signPrice g.1 p, (some 0 : Option Int) with | some c, some t => some (c + t) | _, _ => none) = _
    rw [hc]
    show some (c + 0) = some (0 + c)
    congr 1; omega
  | x :: L, t, h => by
    rw [price] at h
    split at h
    · rename_i c1 t1 h1 h2
      cases h
      rw [List.cons_append, price, h1, price_snoc hc h2]
      show some (c1 + (t1 + c)) = some (c1 + t1 + c)
      congr 1; omega
    · cases h
/-- the wishes of a line with its worths -/
def wishesOf : List Sg → List Int → List (Int × Int)
  | g :: L, w :: ws => if g.1.parting = true then wishesOf L ws else (if g.1.sounds = true then g.2 else -1, w) :: wishesOf L ws
  | _, _ => []
/-- a sign of good form -/
def goodSg (g : Sg) : Prop := if g.1.sounds = true then 0 ≤ g.2 else g.2 = 0
section
variable (W : List (Int × Int)) (p : Pr) (b : Int)
inductive Reach : Nat → St → List Sg → Int → Prop
  | nil : Reach 0 (beginState b) [] 0
  | part {k : Nat} {q q' : St} {L : List Sg} {c c' : Int} {g : Sg} : Reach k q L c → (q', g, c') ∈ partMoves q p → Reach k q' (L ++ [g]) (c + c')
  | wish {k : Nat} {q q' : St} {L : List Sg} {c c' : Int} {g : Sg} {wi : Int × Int} : Reach k q L c → W[k]? = some wi → (q', g, c') ∈ wishMoves q wi p → Reach (k + 1) q' (L ++ [g]) (c + c')
def Acc (L : List Sg) (c : Int) : Prop := ∃ q, Reach W p b W.length q L c ∧ ends q = true
end
theorem runW_snoc {g : Sg} {w : Int} {q2 q3 : St} (hs : step q2 g.1 w = some q3) : ∀ {L : List Sg} {ws : List Int} {q : St}, runW q L ws = some q2 → runW q (L ++ [g]) (ws ++ [w]) = some q3
  | [], [], q, h => by
    have e : q = q2 := Option.some.inj h
    subst e
    show (match step q g.1 w with | none => none | some q' => runW q' [] []) = _
    rw [hs]
    rfl
  | [], _ :: _, q, h => by cases h
  | _ :: _, [], q, h => by cases h
  | x :: L, v :: ws, q, h => by
    rw [List.cons_append, List.cons_append, runW]
    rw [runW] at h
    split at h
    · cases h
    · exact runW_snoc hs h
theorem wishesOf_snoc_part {g : Sg} {w : Int} (hg : g.1.parting = true) : ∀ {L : List Sg} {ws : List Int}, L.length = ws.length → wishesOf (L ++ [g]) (ws ++ [w]) = wishesOf L ws
  | [], [], _ => by simp [wishesOf, hg]
  | [], _ :: _, h => by cases h
  | _ :: _, [], h => by cases h
  | x :: L, v :: ws, h => by
    have ih := wishesOf_snoc_part (w := w) hg (L := L) (ws := ws) (by simpa using h)
    rw [List.cons_append, List.cons_append, wishesOf, wishesOf, ih]
theorem wishesOf_snoc {g : Sg} {w : Int} (hg : g.1.parting = false) : ∀ {L : List Sg} {ws : List Int}, L.length = ws.length → wishesOf (L ++ [g]) (ws ++ [w]) = wishesOf L ws ++ [(if g.1.sounds = true then g.2 else -1, w)]
  | [], [], _ => by simp [wishesOf, hg]
  | [], _ :: _, h => by cases h
  | _ :: _, [], h => by cases h
  | x :: L, v :: ws, h => by
    have ih := wishesOf_snoc (w := w) hg (L := L) (ws := ws) (by simpa using h)
    rw [List.cons_append, List.cons_append, wishesOf, wishesOf, ih]
    split <;> rfl
theorem part_parting {g : Sg} (h : g ∈ partSigns) : g.1.parting = true := by
  simp only [partSigns, List.mem_cons, List.not_mem_nil, or_false] at h
  rcases h with rfl | rfl | rfl <;> rfl
theorem part_good {g : Sg} (h : g ∈ partSigns) : goodSg g := by
  simp only [partSigns, List.mem_cons, List.not_mem_nil, or_false] at h
  rcases h with rfl | rfl | rfl <;> rfl
theorem wish_sign {g : Sg} {tone : Int} (h : g ∈ wishSigns tone) (ht : -1 ≤ tone) : g.1.parting = false ∧ (if g.1.sounds = true then g.2 else -1) = tone ∧ goodSg g := by
  unfold wishSigns at h
  split at h
  · have e : tone = -1 := by omega
    subst e
    simp only [List.mem_cons, List.not_mem_nil, or_false] at h
    rcases h with rfl | rfl <;> exact ⟨rfl, rfl, rfl⟩
  · have h0 : 0 ≤ tone := by omega
    simp only [List.mem_cons, List.not_mem_nil, or_false] at h
    rcases h with rfl | rfl | rfl | rfl <;> exact ⟨rfl, rfl, h0⟩
/-- what a path says of its line -/
theorem Reach.sound {W : List (Int × Int)} {p : Pr} {b : Int} (hW : ∀ wi ∈ W, -1 ≤ wi.1) {k : Nat} {q : St} {L : List Sg} {c : Int} (h : Reach W p b k q L c) :
    k ≤ W.length ∧ (∀ g ∈ L, goodSg g) ∧ price L p = some c ∧ ∃ ws, L.length = ws.length ∧ runW (beginState b) L ws = some q ∧ wishesOf L ws = W.take k := by
  induction h with
  | nil => exact ⟨Nat.zero_le _, fun g hg => absurd hg (by simp), rfl, [], rfl, rfl, rfl⟩
  | part r hm ih =>
    obtain ⟨hk, hgood, hp, ws, hl, hr, hw⟩ := ih
    obtain ⟨hg, h1, h2⟩ := mem_moves.mp hm
    refine ⟨hk, fun x hx => ?_, price_snoc h1 hp, ws ++ [0], by simp [hl], runW_snoc h2 hr, by rw [wishesOf_snoc_part (part_parting hg) hl]; exact hw⟩
    rcases List.mem_append.mp hx with hx | hx
    · exact hgood x hx
    · rw [List.mem_singleton.mp hx]; exact part_good hg
  | wish r hwi hm ih =>
    rename_i k q q' L c c' g wi
    obtain ⟨hk, hgood, hp, ws, hl, hr, hw⟩ := ih
    obtain ⟨hg, h1, h2⟩ := mem_moves.mp hm
    obtain ⟨hlt, hget⟩ := List.getElem?_eq_some_iff.mp hwi
    have ht : -1 ≤ wi.1 := hW wi (by rw [← hget]; exact List.getElem_mem hlt)
    obtain ⟨g1, g2, g3⟩ := wish_sign hg ht
    refine ⟨hlt, fun x hx => ?_, price_snoc h1 hp, ws ++ [wi.2], by simp [hl], runW_snoc h2 hr, ?_⟩
    · rcases List.mem_append.mp hx with hx | hx
      · exact hgood x hx
      · rw [List.mem_singleton.mp hx]; exact g3
    · rw [wishesOf_snoc g1 hl, hw, g2, List.take_add_one, hwi]
      rfl
theorem step_part {q q' : St} {k : Kd} {w : Int} (hk : k.parting = true) (h : step q k w = some q') : w = 0 := by
  by_cases h0 : w = 0
  · exact h0
  · exfalso
    revert h
    cases q with
    | three l c a => cases k <;> simp [Kd.parting] at hk <;> simp [step, Kd.great, Kd.small, h0]
    | _ => cases k <;> simp [Kd.parting] at hk <;> simp [step, twoStep, Kd.parting, h0]
theorem mem_wishSigns {g : Sg} (hg : goodSg g) (hp : g.1.parting = false) : g ∈ wishSigns (if g.1.sounds = true then g.2 else -1) := by
  obtain ⟨k, t⟩ := g
  unfold goodSg at hg
  cases k <;> simp_all [Kd.sounds, Kd.parting, wishSigns] <;> (rw [if_neg (by omega)]; simp)
theorem part_mem {g : Sg} (hg : goodSg g) (hp : g.1.parting = true) : g ∈ partSigns := by
  obtain ⟨k, t⟩ := g
  unfold goodSg at hg
  cases k <;> simp_all [Kd.sounds, Kd.parting, partSigns]
/-- a line that is walked is a path -/
theorem reach_of {W : List (Int × Int)} {p : Pr} {b : Int} : ∀ {L2 : List Sg} {ws2 : List Int} {k : Nat} {q q' : St} {L : List Sg} {c t : Int}, Reach W p b k q L c → (∀ g ∈ L2, goodSg g) → L2.length = ws2.length →
    runW q L2 ws2 = some q' → W.drop k = wishesOf L2 ws2 → price L2 p = some t → Reach W p b W.length q' (L ++ L2) (c + t)
  | [], [], k, q, q', L, c, t, r, _, _, h, hW, hp => by
    have e : q = q' := Option.some.inj h
    have e2 : (0 : Int) = t := Option.some.inj hp
    subst e e2
    have hk : W.length ≤ k := List.drop_eq_nil_iff.mp hW
    have hk2 : k ≤ W.length := by
      clear h hW hp
      induction r with
      | nil => exact Nat.zero_le _
      | part _ _ ih => exact ih (by omega)
      | wish r hwi _ _ => exact (List.getElem?_eq_some_iff.mp hwi).1
    have e3 : k = W.length := by omega
    subst e3
    rw [List.append_nil, Int.add_zero]
    exact r
  | [], _ :: _, _, _, _, _, _, _, _, _, hl, _, _, _ => by cases hl
  | _ :: _, [], _, _, _, _, _, _, _, _, hl, _, _, _ => by cases hl
  | g :: L2, w :: ws2, k, q, q', L, c, t, r, hgood, hl, h, hW, hp => by
    rw [runW] at h
    split at h
    · cases h
    · rename_i q1 hs
      rw [price] at hp
      split at hp
      · rename_i c1 t1 hc ht
        cases hp
        have hg := hgood g List.mem_cons_self
        have hgr : ∀ x ∈ L2, goodSg x := fun x hx => hgood x (List.mem_cons_of_mem _ hx)
        have hl2 : L2.length = ws2.length := by simpa using hl
        have e : L ++ g :: L2 = (L ++ [g]) ++ L2 := by simp
        rw [e, show c + (c1 + t1) = (c + c1) + t1 by omega]
        by_cases hpt : g.1.parting = true
        · rw [wishesOf, if_pos hpt] at hW
          have e0 := step_part hpt hs
          subst e0
          exact reach_of (r.part (mem_moves.mpr ⟨part_mem hg hpt, hc, hs⟩)) hgr hl2 h hW ht
        · rw [wishesOf, if_neg hpt] at hW
          have hpf : g.1.parting = false := by simpa using hpt
          have hk : W[k]? = some (if g.1.sounds = true then g.2 else -1, w) := by
            have := congrArg (fun l => l[0]?) hW
            simpa [List.getElem?_drop] using this
          have hW' : W.drop (k + 1) = wishesOf L2 ws2 := by
            have := congrArg (List.drop 1) hW
            simpa [List.drop_drop] using this
          exact reach_of (r.wish hk (mem_moves.mpr ⟨mem_wishSigns hg hpf, hc, hs⟩)) hgr hl2 h hW' ht
      · cases hp
/-! ### lines and their readings -/
theorem valid_begin (b : Int) : valid (beginState b) = true := by
  unfold beginState; split <;> rfl
theorem fits_begin (b : Int) (L : List Sg) : fits (beginState b) L = true := by
  unfold beginState; split
  · rfl
  · simp [fits]
theorem cfq_begin (b : Int) : cfq (beginState b) = cfOf b := by
  unfold beginState cfOf; split <;> rfl
theorem rd_length : ∀ (L : List Sg) (cf : Cf), (rd cf L).ws.length = L.length := by
  intro L
  induction L with
  | nil => intro cf; cases cf <;> rfl
  | cons g L ih =>
    intro cf
    cases cf with
    | two => simp [rd, ih]
    | three l c a =>
      simp only [rd]
      repeat' split
      all_goals simp [ih]
/-- a firm line stands for a path with its wishes -/
theorem acc_of_firm {b : Int} {p : Pr} {L : List Sg} {c : Int} (hgood : ∀ g ∈ L, goodSg g) (hok : (rd (cfOf b) L).ok = true) (hp : price L p = some c) : Acc (wishesOf L (rd (cfOf b) L).ws) p b L c := by
  have h := (acc_iff L (beginState b) (rd (cfOf b) L).ws (valid_begin b)).mpr ⟨fits_begin b L, by rw [cfq_begin], by rw [cfq_begin]; exact hok⟩
  unfold accepts at h
  split at h
  · cases h
  · rename_i q' hr
    have r := reach_of (W := wishesOf L (rd (cfOf b) L).ws) (p := p) (b := b) .nil hgood (rd_length L _).symm hr rfl hp
    rw [List.nil_append, Int.zero_add] at r
    exact ⟨q', r, h⟩
/-- a path is a firm line with its wishes -/
theorem firm_of_acc {W : List (Int × Int)} {b : Int} {p : Pr} {L : List Sg} {c : Int} (hW : ∀ wi ∈ W, -1 ≤ wi.1) (h : Acc W p b L c) :
    (∀ g ∈ L, goodSg g) ∧ price L p = some c ∧ wishesOf L (rd (cfOf b) L).ws = W := by
  obtain ⟨q, r, he⟩ := h
  obtain ⟨_, hgood, hp, ws, hl, hr, hw⟩ := r.sound hW
  have ha : accepts (beginState b) L ws = true := by
    unfold accepts
    rw [hr]
    exact he
  obtain ⟨_, e, _⟩ := (acc_iff L (beginState b) ws (valid_begin b)).mp ha
  rw [cfq_begin] at e
  refine ⟨hgood, hp, ?_⟩
  rw [← e, hw, List.take_length]
end Nw
namespace Nw
/-! ### the tables: what the writer's tables and back pointers say -/
abbrev Dm := Nat → St → Option Int
abbrev Bk := Nat → St → Option (Nat × St × Sg)
def Dm.put (D : Dm) (k : Nat) (q : St) (v : Int) : Dm := fun k' q' => if k' = k ∧ q' = q then some v else D k' q'
def Bk.put (B : Bk) (k : Nat) (q : St) (v : Nat × St × Sg) : Bk := fun k' q' => if k' = k ∧ q' = q then some v else B k' q'
theorem Dm.put_same {D : Dm} {k : Nat} {q : St} {v : Int} : D.put k q v k q = some v := by
  unfold Dm.put; rw [if_pos ⟨rfl, rfl⟩]
theorem Dm.put_ne {D : Dm} {k k' : Nat} {q q' : St} {v : Int} (h : ¬ (k' = k ∧ q' = q)) : D.put k q v k' q' = D k' q' := by
  unfold Dm.put; rw [if_neg h]
theorem Bk.put_same {B : Bk} {k : Nat} {q : St} {v : Nat × St × Sg} : B.put k q v k q = some v := by
  unfold Bk.put; rw [if_pos ⟨rfl, rfl⟩]
theorem Bk.put_ne {B : Bk} {k k' : Nat} {q q' : St} {v : Nat × St × Sg} (h : ¬ (k' = k ∧ q' = q)) : B.put k q v k' q' = B k' q' := by
  unfold Bk.put; rw [if_neg h]
section
variable (W : List (Int × Int)) (p : Pr) (b : Int)
/-- a move from (k1, q1) to (k2, q2) -/
def Edge (k1 : Nat) (q1 : St) (g : Sg) (c : Int) (k2 : Nat) (q2 : St) : Prop :=
  (k1 = k2 ∧ (q2, g, c) ∈ partMoves q1 p) ∨ (k2 = k1 + 1 ∧ ∃ wi, W[k1]? = some wi ∧ (q2, g, c) ∈ wishMoves q1 wi p)
structure Good (D : Dm) (B : Bk) : Prop where
  bg : D 0 (beginState b) = some 0
  nn : ∀ k q v, D k q = some v → 0 ≤ v
  bp : ∀ k q v, D k q = some v → (k = 0 ∧ q = beginState b) ∨ ∃ k1 q1 g c v1, B k q = some (k1, q1, g) ∧ Edge W p k1 q1 g c k q ∧ D k1 q1 = some v1 ∧ v1 + c ≤ v
  nb : B 0 (beginState b) = none
  bd : ∀ k q t, B k q = some t → ∃ v, D k q = some v
/-- every parting move within stage k is carried -/
def ClosedP (D : Dm) (k : Nat) : Prop := ∀ q v q' g c, D k q = some v → (q', g, c) ∈ partMoves q p → ∃ v', D k q' = some v' ∧ v' ≤ v + c
def ClosedW (D : Dm) (k : Nat) : Prop := ∀ q v q' g c wi, D k q = some v → W[k]? = some wi → (q', g, c) ∈ wishMoves q wi p → ∃ v', D (k + 1) q' = some v' ∧ v' ≤ v + c
end
variable {W : List (Int × Int)} {p : Pr} {b : Int} {D : Dm} {B : Bk}
theorem Edge.cost (hp : p.ok) {k1 k2 : Nat} {q1 q2 : St} {g : Sg} {c : Int} (e : Edge W p k1 q1 g c k2 q2) : 0 ≤ c ∧ c ≤ 9 ∧ (k1 = k2 → 1 ≤ c) := by
  rcases e with ⟨e, h⟩ | ⟨e, wi, _, h⟩
  · obtain ⟨hg, h1, _⟩ := mem_moves.mp h
    have := part_price hp hg h1
    exact ⟨by omega, by omega, fun _ => by omega⟩
  · obtain ⟨_, h1, _⟩ := mem_moves.mp h
    have := price_bound hp h1
    exact ⟨by omega, by omega, fun z => by omega⟩
theorem Good.put (hp : p.ok) (G : Good W p b D B) {k1 k2 : Nat} {q1 q2 : St} {g : Sg} {c v1 : Int} (e : Edge W p k1 q1 g c k2 q2) (h1 : D k1 q1 = some v1) (hb : ∀ old, D k2 q2 = some old → v1 + c < old) :
    Good W p b (D.put k2 q2 (v1 + c)) (B.put k2 q2 (k1, q1, g)) := by
  have hc := e.cost hp
  have n1 := G.nn _ _ _ h1
  have hne : ¬ (0 = k2 ∧ beginState b = q2) := fun ⟨e1, e2⟩ => by
    have := hb 0 (by rw [← e1, ← e2]; exact G.bg)
    omega
  have hn1 : ¬ (k1 = k2 ∧ q1 = q2) := fun ⟨e1, e2⟩ => by
    have := hb v1 (by rw [← e1, ← e2]; exact h1)
    omega
  refine ⟨?_, fun k q v h => ?_, fun k q v h => ?_, ?_, fun k q t h => ?_⟩
  · rw [Dm.put_ne hne]; exact G.bg
  · by_cases hk : k = k2 ∧ q = q2
    · obtain ⟨rfl, rfl⟩ := hk
      rw [Dm.put_same] at h
      cases h; omega
    · rw [Dm.put_ne hk] at h
      exact G.nn _ _ _ h
  · by_cases hk : k = k2 ∧ q = q2
    · obtain ⟨rfl, rfl⟩ := hk
      rw [Dm.put_same] at h
      cases h
      exact .inr ⟨k1, q1, g, c, v1, Bk.put_same, e, by rw [Dm.put_ne hn1]; exact h1, Int.le_refl _⟩
    · rw [Dm.put_ne hk] at h
      rcases G.bp _ _ _ h with z | ⟨k3, q3, g3, c3, v3, b1, b2, b3, b4⟩
      · exact .inl z
      · refine .inr ?_
        by_cases hk3 : k3 = k2 ∧ q3 = q2
        · obtain ⟨rfl, rfl⟩ := hk3
          have := hb _ b3
          exact ⟨k3, q3, g3, c3, v1 + c, by rw [Bk.put_ne hk]; exact b1, b2, Dm.put_same, by omega⟩
        · exact ⟨k3, q3, g3, c3, v3, by rw [Bk.put_ne hk]; exact b1, b2, by rw [Dm.put_ne hk3]; exact b3, b4⟩
  · rw [Bk.put_ne hne]; exact G.nb
  · by_cases hk : k = k2 ∧ q = q2
    · obtain ⟨rfl, rfl⟩ := hk
      exact ⟨_, Dm.put_same⟩
    · rw [Bk.put_ne hk] at h
      rw [Dm.put_ne hk]
      exact G.bd _ _ _ h
/-- no path is cheaper than the tables say -/
theorem reach_low (hbg : D 0 (beginState b) = some 0) {n : Nat} (hP : ∀ k, k ≤ n → ClosedP p D k) (hW : ∀ k, k < n → ClosedW W p D k) {k : Nat} {q : St} {L : List Sg} {c : Int} (r : Reach W p b k q L c) (hk : k ≤ n) : ∃ v, D k q = some v ∧ v ≤ c := by
  induction r with
  | nil => exact ⟨0, hbg, Int.le_refl _⟩
  | part r hm ih =>
    obtain ⟨v, h1, h2⟩ := ih hk
    obtain ⟨v', h3, h4⟩ := hP _ hk _ _ _ _ _ h1 hm
    exact ⟨v', h3, by omega⟩
  | wish r hwi hm ih =>
    obtain ⟨v, h1, h2⟩ := ih (by omega)
    obtain ⟨v', h3, h4⟩ := hW _ (by omega) _ _ _ _ _ _ h1 hwi hm
    exact ⟨v', h3, by omega⟩
/-- what is left of the line behind (k, q): S leads from there to (n, qe) at the cost c -/
def Suf (W : List (Int × Int)) (p : Pr) (b : Int) (n : Nat) (qe : St) (k : Nat) (q : St) (S : List Sg) (c : Int) : Prop := ∀ L cp, Reach W p b k q L cp → Reach W p b n qe (L ++ S) (cp + c)
theorem Suf.refl (n : Nat) (qe : St) : Suf W p b n qe n qe [] 0 := fun L cp r => by
  rw [List.append_nil, Int.add_zero]; exact r
theorem Suf.back {n k1 k2 : Nat} {qe q1 q2 : St} {g : Sg} {S : List Sg} {c cs : Int} (s : Suf W p b n qe k2 q2 S cs) (e : Edge W p k1 q1 g c k2 q2) : Suf W p b n qe k1 q1 (g :: S) (c + cs) := fun L cp r => by
  have r2 : Reach W p b k2 q2 (L ++ [g]) (cp + c) := by
    rcases e with ⟨rfl, h⟩ | ⟨rfl, wi, h, h'⟩
    · exact r.part h
    · exact r.wish h h'
  have := s _ _ r2
  rw [show L ++ g :: S = (L ++ [g]) ++ S by simp, show cp + (c + cs) = (cp + c) + cs by omega]
  exact this
/-- one step along the back pointers -/
theorem Good.step (hp : p.ok) (G : Good W p b D B) {k : Nat} {q : St} {v : Int} (h : D k q = some v) :
    (B k q = none ∧ k = 0 ∧ q = beginState b ∧ v = 0) ∨ ∃ k1 q1 g c v1, B k q = some (k1, q1, g) ∧ Edge W p k1 q1 g c k q ∧ D k1 q1 = some v1 ∧ v1 + c ≤ v ∧ k1 + v1.toNat < k + v.toNat ∧ k1 ≤ k := by
  rcases G.bp _ _ _ h with ⟨rfl, rfl⟩ | ⟨k1, q1, g, c, v1, b1, b2, b3, b4⟩
  · have e := h.symm.trans G.bg
    cases e
    exact .inl ⟨G.nb, rfl, rfl, rfl⟩
  · have n1 := G.nn _ _ _ b3
    have hc := b2.cost hp
    refine .inr ⟨k1, q1, g, c, v1, b1, b2, b3, b4, ?_, ?_⟩
    · rcases b2 with ⟨e, _⟩ | ⟨e, _⟩
      · have := hc.2.2 e
        omega
      · omega
    · rcases b2 with ⟨e, _⟩ | ⟨e, _⟩ <;> omega
/-! ### the states, all of them -/
def allSt : List St := [.two, .twog, .twoG] ++ ([Lf.n, .w, .h, .t].flatMap fun l => [Ct.c0, .c1, .c2].flatMap fun c => [La.dash, .s, .S, .o].map fun a => St.three l c a)
theorem mem_allSt (q : St) : q ∈ allSt := by
  cases q with
  | three l c a => cases l <;> cases c <;> cases a <;> decide
  | _ => decide
theorem nodup_allSt : allSt.Nodup := by decide
theorem length_allSt : allSt.length = 51 := by decide
theorem nodup_le {α : Type} [DecidableEq α] : ∀ {l m : List α}, l.Nodup → (∀ x ∈ l, x ∈ m) → l.length ≤ m.length
  | [], _, _, _ => Nat.zero_le _
  | x :: l, m, hn, hs => by
    have hx := hs x List.mem_cons_self
    have hn' := List.nodup_cons.mp hn
    have ih := nodup_le (m := m.erase x) hn'.2 fun y hy => (List.mem_erase_of_ne (fun e => hn'.1 (by rw [← e]; exact hy))).mpr (hs y (List.mem_cons_of_mem _ hy))
    rw [List.length_erase_of_mem hx] at ih
    have := List.length_pos_of_mem hx
    rw [List.length_cons]
    omega
theorem states_le {l : List St} (h : l.Nodup) : l.length ≤ 51 := by
  rw [← length_allSt]
  exact nodup_le h fun x _ => mem_allSt x
/-! ### the measure of a table -/
theorem sum_le_of {α : Type} {g g' : α → Nat} : ∀ {l : List α}, (∀ x ∈ l, g' x ≤ g x) → (l.map g').sum ≤ (l.map g).sum
  | [], _ => Nat.le_refl _
  | x :: l, h => by
    have h1 := h x List.mem_cons_self
    have ih := sum_le_of (l := l) fun y hy => h y (List.mem_cons_of_mem _ hy)
    simp only [List.map_cons, List.sum_cons]
    omega
theorem sum_lt_of {α : Type} {g g' : α → Nat} : ∀ {l : List α} {z : α}, (∀ x ∈ l, g' x ≤ g x) → z ∈ l → g' z < g z → (l.map g').sum < (l.map g).sum
  | [], z, _, hz, _ => absurd hz (by simp)
  | x :: l, z, h, hz, hlt => by
    have h1 := h x List.mem_cons_self
    have h2 : ∀ y ∈ l, g' y ≤ g y := fun y hy => h y (List.mem_cons_of_mem _ hy)
    have h3 := sum_le_of h2
    simp only [List.map_cons, List.sum_cons]
    rcases List.mem_cons.mp hz with rfl | hz
    · omega
    · have := sum_lt_of h2 hz hlt
      omega
def wt (B1 : Nat) (o : Option Int) : Nat := match o with | some v => v.toNat | none => B1
def mu (B1 : Nat) (f : St → Option Int) : Nat := (allSt.map fun q => wt B1 (f q)).sum
/-- a put at (k, q) makes stage k's measure smaller -/
theorem mu_put {B1 : Nat} {D : Dm} {k : Nat} {q : St} {v : Int} (hb : ∀ old, D k q = some old → v < old) (hv : 0 ≤ v) (hn : v.toNat < B1) : mu B1 (D.put k q v k) < mu B1 (D k) := by
  have hlt : wt B1 (D.put k q v k q) < wt B1 (D k q) := by
    rw [Dm.put_same]
    cases e : D k q with
    | none => exact hn
    | some old =>
      have := hb old e
      show v.toNat < old.toNat
      omega
  refine sum_lt_of (fun x _ => ?_) (mem_allSt q) hlt
  by_cases e : x = q
  · subst e
    exact Nat.le_of_lt hlt
  · rw [Dm.put_ne (fun z => e z.2)]
    exact Nat.le_refl _
theorem Dm.put_low {D : Dm} {k : Nat} {q : St} {v : Int} (hb : ∀ old, D k q = some old → v < old) {k' : Nat} {q' : St} {x : Int} (h : D k' q' = some x) : ∃ x', D.put k q v k' q' = some x' ∧ x' ≤ x := by
  by_cases e : k' = k ∧ q' = q
  · obtain ⟨rfl, rfl⟩ := e
    exact ⟨v, Dm.put_same, Int.le_of_lt (hb x h)⟩
  · exact ⟨x, by rw [Dm.put_ne e]; exact h, Int.le_refl _⟩
end Nw
namespace Nw
/-! ### the law's own reader, as it stands (by places), and that it is the recursion rd -/
def nowOf (now : Int) (k : Kd) : Int := if k = .m3 then 3 else if k = .m2 then 2 else now
def baseW (now : Int) : List Sg → List Int
  | [] => []
  | g :: L => (if g.1.parting then 0 else if g.1.small then 1 else if g.1 = .D then 2
      else if nowOf now g.1 = 2 ∧ g.1 = .G ∧ headDot L = true then 3 else nowOf now g.1) :: baseW (nowOf now g.1) L
def threeW (now : Int) : List Sg → List Bool
  | [] => []
  | g :: L => decide (nowOf now g.1 = 3) :: threeW (nowOf now g.1) L
def kindAt (line : List Sg) (i : Nat) : Kd := match line[i]? with | some g => g.1 | none => .dot
def runLeft (line : List Sg) (told : List Int) (lo : Nat) : Bool := decide (0 < lo) && (decide (kindAt line (lo - 1) = .G) && decide (told[lo - 1]? = some 3))
def runRight (line : List Sg) (hi : Nat) : Bool := decide (kindAt line hi = .G) && !(kindAt line (hi + 1)).great
def runM (line : List Sg) (told : List Int) (lo hi : Nat) : List Int × Bool :=
  let rest := (hi - lo) % 3
  let left := runLeft line told lo
  let right := runRight line hi
  if rest = 2 ∧ (kindAt line hi).great = true ∧ kindAt line (hi - 1) = .s then (told.set (hi - 1) 2, true)
  else
    let t1 := if (rest = 1 ∧ left = true) ∨ (rest = 2 ∧ left = true ∧ right = true) then told.set (lo - 1) 2 else told
    let t2 := if (rest = 1 ∧ right = true ∧ left = false) ∨ (rest = 2 ∧ left = true ∧ right = true) then t1.set hi 2 else t1
    (t2, decide (rest = 0) || (decide (rest = 1) && (left || right)) || (decide (rest = 2) && left && right))
def hiM (line : List Sg) (th : List Bool) (hi : Nat) : Nat :=
  if _h : hi < line.length then if (kindAt line hi).small = true ∧ th[hi]? = some true then hiM line th (hi + 1) else hi else hi
termination_by line.length - hi
theorem hiM_ge (line : List Sg) (th : List Bool) (hi : Nat) : hi ≤ hiM line th hi := by
  unfold hiM
  split
  · split
    · exact Nat.le_trans (Nat.le_succ hi) (hiM_ge line th (hi + 1))
    · exact Nat.le_refl _
  · exact Nat.le_refl _
termination_by line.length - hi
theorem hiM_le (line : List Sg) (th : List Bool) (hi : Nat) (h : hi ≤ line.length) : hiM line th hi ≤ line.length := by
  unfold hiM
  split
  · split
    · exact hiM_le line th (hi + 1) (by omega)
    · exact h
  · exact h
termination_by line.length - hi
def readM (line : List Sg) (th : List Bool) (lo : Nat) (told : List Int) (left : List (Nat × Nat)) : List Int × List (Nat × Nat) :=
  if _h : lo < line.length then
    let hi := hiM line th lo
    if lo < hi then
      let r := runM line told lo hi
      readM line th (max hi (lo + 1)) r.1 (if r.2 = true then left else left ++ [(lo, hi)])
    else readM line th (max hi (lo + 1)) told left
  else (told, left)
termination_by line.length - lo
decreasing_by all_goals omega
def lawRead (line : List Sg) (b : Int) : List Int × List (Nat × Nat) := readM line (threeW b line) 0 (baseW b line) []
/-! ### lists -/
theorem kindAt_app_right (P L : List Sg) (i : Nat) : kindAt (P ++ L) (P.length + i) = kindAt L i := by
  unfold kindAt
  rw [List.getElem?_append_right (by omega), Nat.add_sub_cancel_left]
theorem kindAt_app_left {P L : List Sg} {i : Nat} (h : i < P.length) : kindAt (P ++ L) i = kindAt P i := by
  unfold kindAt
  rw [List.getElem?_append_left h]
theorem baseW_length : ∀ (L : List Sg) (now : Int), (baseW now L).length = L.length
  | [], _ => rfl
  | g :: L, now => by rw [baseW, List.length_cons, List.length_cons, baseW_length L]
theorem threeW_length : ∀ (L : List Sg) (now : Int), (threeW now L).length = L.length
  | [], _ => rfl
  | g :: L, now => by rw [threeW, List.length_cons, List.length_cons, threeW_length L]
def headSmall : List Sg → Bool
  | [] => false
  | g :: _ => g.1.small
theorem nowOf_small {now : Int} {k : Kd} (h : k.small = true) : nowOf now k = now := by cases k <;> first | rfl | cases h
theorem nowOf_great {now : Int} {k : Kd} (h : k.great = true) : nowOf now k = now := by cases k <;> first | rfl | cases h
theorem baseW_run : ∀ (R L : List Sg) (now : Int), (∀ g ∈ R, g.1.small = true) → baseW now (R ++ L) = List.replicate R.length 1 ++ baseW now L
  | [], L, now, _ => rfl
  | g :: R, L, now, h => by
    have hg := h g List.mem_cons_self
    have hp : g.1.parting = false := by revert hg; cases g.1 <;> decide
    rw [List.cons_append, baseW, nowOf_small hg, baseW_run R L now fun x hx => h x (List.mem_cons_of_mem _ hx), hp, hg]
    rfl
theorem threeW_run : ∀ (R L : List Sg), (∀ g ∈ R, g.1.small = true) → threeW 3 (R ++ L) = List.replicate R.length true ++ threeW 3 L
  | [], L, _ => rfl
  | g :: R, L, h => by
    have hg := h g List.mem_cons_self
    rw [List.cons_append, threeW, nowOf_small hg, threeW_run R L fun x hx => h x (List.mem_cons_of_mem _ hx)]
    rfl
theorem hiM_run : ∀ (R L P : List Sg) (thP : List Bool), (∀ g ∈ R, g.1.small = true) → headSmall L = false → thP.length = P.length → hiM (P ++ (R ++ L)) (thP ++ threeW 3 (R ++ L)) P.length = P.length + R.length
  | [], L, P, thP, _, hL, hP => by
    unfold hiM
    split
    · rename_i hlt
      split
      · rename_i hs
        have e : kindAt (P ++ ([] ++ L)) P.length = kindAt L 0 := kindAt_app_right P L 0
        rw [e] at hs
        cases L with
        | nil => exact absurd hs.1 (by decide)
        | cons g L =>
          have h1 : g.1.small = true := hs.1
          have h2 : g.1.small = false := hL
          rw [h1] at h2
          cases h2
      · rfl
    · rfl
  | g :: R, L, P, thP, h, hL, hP => by
    have hg := h g List.mem_cons_self
    have ih := hiM_run R L (P ++ [g]) (thP ++ [true]) (fun x hx => h x (List.mem_cons_of_mem _ hx)) hL (by simp [hP])
    unfold hiM
    have e1 : kindAt (P ++ (g :: R ++ L)) P.length = g.1 := kindAt_app_right P (g :: R ++ L) 0
    have e2 : (thP ++ threeW 3 (g :: R ++ L))[P.length]? = some true := by
      rw [List.getElem?_append_right (by omega), hP, Nat.sub_self]
      show some (decide (nowOf 3 g.1 = 3)) = some true
      rw [nowOf_small hg]
      rfl
    rw [dif_pos (by simp), e1, e2, if_pos ⟨hg, rfl⟩]
    have e3 : P ++ (g :: R ++ L) = (P ++ [g]) ++ (R ++ L) := by simp
    have e4 : thP ++ threeW 3 (g :: R ++ L) = (thP ++ [true]) ++ threeW 3 (R ++ L) := by
      rw [List.cons_append, threeW, nowOf_small hg]
      simp
    rw [e3, e4, show P.length + 1 = (P ++ [g]).length by simp, ih]
    simp
    omega
theorem hiM_none {P L : List Sg} {thP : List Bool} {now : Int} {g : Sg} (hP : thP.length = P.length) (h : g.1.small = false ∨ now ≠ 3) : hiM (P ++ g :: L) (thP ++ threeW now (g :: L)) P.length = P.length := by
  unfold hiM
  split
  · split
    · rename_i hs
      have e1 : kindAt (P ++ g :: L) P.length = g.1 := kindAt_app_right P (g :: L) 0
      have e2 : (thP ++ threeW now (g :: L))[P.length]? = some (decide (nowOf now g.1 = 3)) := by
        rw [List.getElem?_append_right (by omega), hP, Nat.sub_self]
        rfl
      rw [e1, e2] at hs
      obtain ⟨h1, h2⟩ := hs
      rw [nowOf_small h1] at h2
      have h3 : now = 3 := by simpa using h2
      rcases h with h | h
      · rw [h1] at h; cases h
      · exact absurd h3 h
    · rfl
  · rfl
/-! ### a run in rd -/
def addC : Ct → Nat → Ct
  | c, 0 => c
  | c, n + 1 => addC c.next n
theorem addC_mod : ∀ (n : Nat), addC .c0 n = if n % 3 = 0 then .c0 else if n % 3 = 1 then .c1 else .c2
  | 0 => rfl
  | 1 => rfl
  | 2 => rfl
  | n + 3 => by
    show addC .c0 n = _
    rw [addC_mod n, Nat.add_mod_right]
def lastA : List Sg → La
  | [] => .dash
  | [g] => if g.1 = .s then .s else .o
  | _ :: g :: R => lastA (g :: R)
def onesD (R L : List Sg) (c : Ct) : List Int := List.replicate (R.length - 1) 1 ++ [if lastA R = .s ∧ addC c R.length = .c2 ∧ headGreat L = true then 2 else 1]
theorem rd_run : ∀ (R L : List Sg) (l : Bool) (c : Ct) (a : La), R ≠ [] → (∀ g ∈ R, g.1.small = true) →
    rd (.three l c a) (R ++ L) = ⟨(rd (.three l (addC c R.length) (lastA R)) L).sh, onesD R L c ++ (rd (.three l (addC c R.length) (lastA R)) L).ws, (rd (.three l (addC c R.length) (lastA R)) L).ok⟩
  | [], _, _, _, _, h, _ => absurd rfl h
  | [g], L, l, c, a, _, h => by
    have hg := h g List.mem_cons_self
    rw [List.cons_append, List.nil_append, rd, if_pos hg]
    simp only [onesD, lastA, List.length_cons, List.length_nil, addC]
    by_cases e : g.1 = .s
    · simp [e]
    · simp [e]
  | g :: g2 :: R, L, l, c, a, _, h => by
    have hg := h g List.mem_cons_self
    have hr : ∀ x ∈ g2 :: R, x.1.small = true := fun x hx => h x (List.mem_cons_of_mem _ hx)
    have hg2 := hr g2 List.mem_cons_self
    have ih := rd_run (g2 :: R) L l c.next (if g.1 = .s then .s else .o) (by simp) hr
    have hh : headGreat (g2 :: R ++ L) = false := by
      show g2.1.great = false
      revert hg2; cases g2.1 <;> decide
    rw [List.cons_append, rd, if_pos hg, ih]
    simp only [hh, Bool.false_eq_true, and_false, if_false]
    congr 1
theorem rd_G (l : Bool) (c : Ct) (a : La) (t : Int) (L : List Sg) : rd (.three l c a) ((.G, t) :: L) =
    if (shutG l c a (!headGreat L)).2.1 = true then ⟨(shutG l c a (!headGreat L)).1, 2 :: (rd (.three false .c0 .dash) L).ws, (shutG l c a (!headGreat L)).2.2 && (rd (.three false .c0 .dash) L).ok⟩
    else ⟨(shutG l c a (!headGreat L)).1, (if (rd (.three true .c0 .dash) L).sh = true then 2 else 3) :: (rd (.three true .c0 .dash) L).ws, (shutG l c a (!headGreat L)).2.2 && (rd (.three true .c0 .dash) L).ok⟩ := by
  rw [rd]; rfl
def closeZ (l : Bool) (c : Ct) (a : La) (L : List Sg) : Bool × Bool × Bool :=
  if headGreat L = true then shutG l c a (decide (kindAt L 0 = .G) && !headGreat L.tail) else ((shut l c).1, false, (shut l c).2)
theorem rd_close {l : Bool} {c : Ct} {a : La} {L : List Sg} (h : headSmall L = false) :
    ((closeZ l c a L).2.1 = false ∧ rd (.three l c a) L = ⟨(closeZ l c a L).1, (rd (.three false .c0 .dash) L).ws, (closeZ l c a L).2.2 && (rd (.three false .c0 .dash) L).ok⟩) ∨
    ∃ t L3, L = (.G, t) :: L3 ∧ (closeZ l c a L).2.1 = true ∧ rd (.three l c a) L = ⟨(closeZ l c a L).1, 2 :: (rd (.three false .c0 .dash) L3).ws, (closeZ l c a L).2.2 && (rd (.three false .c0 .dash) L3).ok⟩ := by
  cases L with
  | nil => left; simp [closeZ, headGreat, rd, shut]
  | cons g L =>
    rcases g with ⟨k, t⟩
    have hk : k.small = false := h
    by_cases hp : k.parting = true
    · left
      have hg : k.great = false := by revert hp; cases k <;> decide
      simp [closeZ, headGreat, hg, rd, hk, hp, shut]
    · have hp' : k.parting = false := by simpa using hp
      have hg : k.great = true := by revert hk hp'; cases k <;> decide
      have e0 : kindAt ((k, t) :: L) 0 = k := rfl
      have eZ : closeZ l c a ((k, t) :: L) = shutG l c a (decide (k = .G) && !headGreat L) := by
        simp [closeZ, headGreat, hg, e0]
      rw [eZ]
      by_cases hG : k = .G
      · subst hG
        have e1 : (decide (Kd.G = Kd.G) && !headGreat L) = !headGreat L := by simp
        rw [e1, rd_G, rd_G]
        generalize shutG l c a (!headGreat L) = z
        rcases z with ⟨z1, z2, z3⟩
        cases z2 with
        | true => right; exact ⟨t, L, rfl, rfl, rfl⟩
        | false => left; exact ⟨rfl, by simp [shutG]⟩
      · left
        have hz : (shutG l c a (decide (k = .G) && !headGreat L)).2.1 = false := by
          simp only [hG, decide_false, Bool.false_and]
          cases c <;> simp [shutG] <;> (repeat' split) <;> rfl
        refine ⟨hz, ?_⟩
        rw [rd]
        simp only [hk, hp', Bool.false_eq_true, if_false, hG]
        simp [rd, hk, hp', hG, shutG]
end Nw
namespace Nw
def setLast (b : Bool) (T : List Int) : List Int := if b = true then T.set (T.length - 1) 2 else T
theorem kind0_great (L : List Sg) : (kindAt L 0).great = headGreat L := by cases L <;> rfl
theorem kind1_great (L : List Sg) : (kindAt L 1).great = headGreat L.tail := by
  cases L with
  | nil => rfl
  | cons g L => cases L <;> rfl
theorem lastA_s : ∀ (R : List Sg), R ≠ [] → (lastA R = .s ↔ kindAt R (R.length - 1) = .s)
  | [], h => absurd rfl h
  | [g], _ => by
    show (if g.1 = .s then La.s else La.o) = .s ↔ g.1 = .s
    by_cases e : g.1 = .s
    · simp [e]
    · simp [e]
  | g :: g2 :: R, _ => by
    have ih := lastA_s (g2 :: R) (by simp)
    rw [lastA, ih]
    have e : (g :: g2 :: R).length - 1 = (g2 :: R).length - 1 + 1 := by simp
    rw [e]
    rfl
theorem rep_set : ∀ (n : Nat), 0 < n → (List.replicate n (1 : Int)).set (n - 1) 2 = List.replicate (n - 1) 1 ++ [2]
  | 0, h => absurd h (by omega)
  | 1, _ => rfl
  | n + 2, _ => by
    have ih := rep_set (n + 1) (by omega)
    show 1 :: (List.replicate (n + 1) (1 : Int)).set n 2 = _
    rw [Nat.add_sub_cancel] at ih
    rw [ih]
    rfl
theorem rep_snoc : ∀ (n : Nat), 0 < n → List.replicate n (1 : Int) = List.replicate (n - 1) 1 ++ [1]
  | 0, h => absurd h (by omega)
  | n + 1, _ => by
    rw [List.replicate_succ']
    rfl
theorem runM_eq {P R L : List Sg} {T : List Int} {l : Bool} (hR : ∀ g ∈ R, g.1.small = true) (hne : R ≠ []) (hT : T.length = P.length)
    (hl : l = (decide (0 < P.length) && (decide (kindAt P (P.length - 1) = .G) && decide (T[P.length - 1]? = some 3)))) :
    runM (P ++ (R ++ L)) (T ++ (List.replicate R.length 1 ++ baseW 3 L)) P.length (P.length + R.length) =
      (setLast (closeZ l (addC .c0 R.length) (lastA R) L).1 T ++ (onesD R L .c0 ++ (if (closeZ l (addC .c0 R.length) (lastA R) L).2.1 = true then 2 :: (baseW 3 L).tail else baseW 3 L)), (closeZ l (addC .c0 R.length) (lastA R) L).2.2) := by
  have hpos : 0 < R.length := List.length_pos_iff.mpr hne
  have eA : P ++ (R ++ L) = (P ++ R) ++ L := by simp
  have eH : kindAt (P ++ (R ++ L)) (P.length + R.length) = kindAt L 0 := by
    rw [eA, show P.length + R.length = (P ++ R).length + 0 by simp]; exact kindAt_app_right _ _ _
  have eH1 : kindAt (P ++ (R ++ L)) (P.length + R.length + 1) = kindAt L 1 := by
    rw [eA, show P.length + R.length + 1 = (P ++ R).length + 1 by simp]; exact kindAt_app_right _ _ _
  have eB : kindAt (P ++ (R ++ L)) (P.length + R.length - 1) = kindAt R (R.length - 1) := by
    rw [show P.length + R.length - 1 = P.length + (R.length - 1) by omega, kindAt_app_right, kindAt_app_left (by omega)]
  have eR : runRight (P ++ (R ++ L)) (P.length + R.length) = (decide (kindAt L 0 = .G) && !headGreat L.tail) := by
    unfold runRight; rw [eH, eH1, kind1_great]
  have eL : runLeft (P ++ (R ++ L)) (T ++ (List.replicate R.length 1 ++ baseW 3 L)) P.length = l := by
    rw [hl]; unfold runLeft
    by_cases h0 : 0 < P.length
    · rw [kindAt_app_left (by omega), List.getElem?_append_left (by omega)]
    · simp [h0]
  have eN : (P.length + R.length - P.length) % 3 = R.length % 3 := by rw [Nat.add_sub_cancel_left]
  have s1 : (T ++ (List.replicate R.length 1 ++ baseW 3 L)).set (P.length + R.length - 1) 2 = T ++ ((List.replicate (R.length - 1) 1 ++ [2]) ++ baseW 3 L) := by
    rw [List.set_append_right _ _ (by omega), hT, show P.length + R.length - 1 - P.length = R.length - 1 by omega, List.set_append_left _ _ (by simp; omega), rep_set _ hpos]
  have s2 : l = true → (T ++ (List.replicate R.length 1 ++ baseW 3 L)).set (P.length - 1) 2 = T.set (T.length - 1) 2 ++ (List.replicate R.length 1 ++ baseW 3 L) := fun e => by
    have h0 : 0 < P.length := by
      rw [e] at hl
      by_cases h0 : 0 < P.length
      · exact h0
      · simp [h0] at hl
    rw [List.set_append_left _ _ (by omega), hT]
  have s3 : ∀ T' : List Int, T'.length = P.length → headGreat L = true → (T' ++ (List.replicate R.length 1 ++ baseW 3 L)).set (P.length + R.length) 2 = T' ++ (List.replicate R.length 1 ++ 2 :: (baseW 3 L).tail) := fun T' hT' hg => by
    rw [List.set_append_right _ _ (by omega), hT', show P.length + R.length - P.length = R.length by omega, List.set_append_right _ _ (by simp), List.length_replicate, Nat.sub_self]
    cases L with
    | nil => cases hg
    | cons g L => rfl
  have o1 : (if lastA R = .s ∧ addC .c0 R.length = .c2 ∧ headGreat L = true then (2 : Int) else 1) = 1 → List.replicate R.length (1 : Int) = onesD R L .c0 := fun e => by
    unfold onesD; rw [e]; exact rep_snoc _ hpos
  unfold runM
  simp only [eN, eL, eR, eH, eB]
  rw [addC_mod] at o1 ⊢
  have hls := lastA_s R hne
  have hg := kind0_great L
  have hgG : kindAt L 0 = .G → headGreat L = true := fun e => by rw [← hg, e]; rfl
  have h3 : R.length % 3 = 0 ∨ R.length % 3 = 1 ∨ R.length % 3 = 2 := by omega
  unfold onesD at o1 ⊢
  rw [addC_mod]
  unfold closeZ
  cases hhg : headGreat L with
  | false =>
    have hnG : ¬ kindAt L 0 = .G := fun e => by rw [hgG e] at hhg; cases hhg
    rcases h3 with h | h | h
    · simp [h, hg, hhg, hnG, shut, setLast, rep_snoc _ hpos]
    · cases l with
      | false => simp [h, hg, hhg, hnG, shut, setLast, rep_snoc _ hpos]
      | true =>
        simp only [h, hg, hhg, hnG, shut, setLast]
        simp [s2, ← rep_snoc _ hpos]
    · simp [h, hg, hhg, hnG, shut, setLast, rep_snoc _ hpos]
  | true =>
    rcases h3 with h | h | h
    · simp [h, hg, hhg, shutG, setLast, rep_snoc _ hpos]
    · cases l with
      | true =>
        simp only [h, hg, hhg, shutG, setLast]
        simp [s2, ← rep_snoc _ hpos]
      | false =>
        cases hr : (decide (kindAt L 0 = .G) && !headGreat L.tail) with
        | true =>
          simp only [h, hg, hhg, shutG, setLast, hr]
          simp [s3 T hT hhg, ← rep_snoc _ hpos]
        | false =>
          simp only [h, hg, hhg, shutG, setLast, hr]
          simp [← rep_snoc _ hpos]
    · by_cases hs : kindAt R (R.length - 1) = .s
      · have hs' := hls.mpr hs
        simp [h, hg, hhg, shutG, setLast, hs, hs', s1]
      · have hs' : ¬ lastA R = .s := fun e => hs (hls.mp e)
        cases hr : (decide (kindAt L 0 = .G) && !headGreat L.tail) with
        | true =>
          cases l with
          | true =>
            simp only [h, hg, hhg, shutG, setLast, hr, hs, hs']
            simp [s2, s3 (T.set (T.length - 1) 2) (by simpa using hT) hhg, ← rep_snoc _ hpos]
          | false =>
            simp only [h, hg, hhg, shutG, setLast, hr, hs, hs']
            simp [← rep_snoc _ hpos]
        | false =>
          simp only [h, hg, hhg, shutG, setLast, hr, hs, hs']
          simp [← rep_snoc _ hpos]
end Nw
namespace Nw
theorem closeZ_ok {l : Bool} {a : La} {L : List Sg} {n : Nat} (h : (closeZ l (addC .c0 n) a L).2.2 = false) : n % 3 ≠ 0 := fun e => by
  rw [addC_mod, if_pos e] at h
  unfold closeZ at h
  split at h <;> simp [shutG, shut] at h
def lOf (P : List Sg) (T : List Int) : Bool := decide (0 < P.length) && (decide (kindAt P (P.length - 1) = .G) && decide (T[P.length - 1]? = some 3))
theorem lOf_snoc {P : List Sg} {T : List Int} {g : Sg} {w : Int} (hT : T.length = P.length) : lOf (P ++ [g]) (T ++ [w]) = (decide (g.1 = .G) && decide (w = 3)) := by
  unfold lOf
  have e1 : kindAt (P ++ [g]) ((P ++ [g]).length - 1) = g.1 := by
    rw [List.length_append, List.length_singleton, Nat.add_sub_cancel]
    exact kindAt_app_right P [g] 0
  have e2 : (T ++ [w])[(P ++ [g]).length - 1]? = some w := by
    rw [List.length_append, List.length_singleton, Nat.add_sub_cancel, ← hT]
    simp
  rw [e1, e2]
  simp
theorem kindAt_last_run {P R : List Sg} (hne : R ≠ []) (hR : ∀ g ∈ R, g.1.small = true) : ¬ kindAt (P ++ R) ((P ++ R).length - 1) = .G := fun e => by
  have hpos : 0 < R.length := List.length_pos_iff.mpr hne
  rw [List.length_append, show P.length + R.length - 1 = P.length + (R.length - 1) by omega, kindAt_app_right] at e
  unfold kindAt at e
  rw [List.getElem?_eq_getElem (by omega)] at e
  have h := hR _ (List.getElem_mem (show R.length - 1 < R.length by omega))
  have e' : R[R.length - 1].1 = .G := e
  rw [e'] at h
  cases h
theorem setLast_length (b : Bool) (T : List Int) : (setLast b T).length = T.length := by
  unfold setLast; split
  · rw [List.length_set]
  · rfl
theorem setLast_false (T : List Int) : setLast false T = T := rfl
theorem setLast_snoc (b : Bool) (T : List Int) (w : Int) : setLast b (T ++ [w]) = T ++ [if b = true then 2 else w] := by
  unfold setLast
  cases b <;> simp
theorem onesD_length {R L : List Sg} {c : Ct} (h : R ≠ []) : (onesD R L c).length = R.length := by
  have := List.length_pos_iff.mpr h
  unfold onesD; simp; omega
theorem rd_two_sh (L : List Sg) : (rd .two L).sh = false := by cases L <;> rfl
def cfNow (now : Int) (l : Bool) : Cf := if now = 2 then .two else .three l .c0 .dash
def Reads (line : List Sg) (out : List Int × List (Nat × Nat)) (told : List Int) (left : List (Nat × Nat)) (ok : Bool) : Prop :=
  ∃ ls, out = (told, left ++ ls) ∧ (ls = [] ↔ ok = true) ∧ ∀ x ∈ ls, x.1 < x.2 ∧ x.2 ≤ line.length ∧ (x.2 - x.1) % 3 ≠ 0
theorem readM_eq : ∀ (n : Nat) (L P : List Sg) (T : List Int) (thP : List Bool) (now : Int) (l : Bool) (left : List (Nat × Nat)), L.length ≤ n → T.length = P.length → thP.length = P.length → (now = 2 ∨ now = 3) →
    (now = 3 → l = lOf P T) →
    Reads (P ++ L) (readM (P ++ L) (thP ++ threeW now L) P.length (T ++ baseW now L) left) (setLast (rd (cfNow now l) L).sh T ++ (rd (cfNow now l) L).ws) left (rd (cfNow now l) L).ok := by
  intro n
  induction n with
  | zero =>
    intro L P T thP now l left hn hT hth hnow hl
    have e : L = [] := List.length_eq_zero_iff.mp (by omega)
    subst e
    unfold readM
    rw [dif_neg (by simp)]
    refine ⟨[], ?_, ?_, fun x hx => absurd hx (by simp)⟩
    · rcases hnow with rfl | rfl <;> simp [cfNow, rd, baseW, shut, setLast]
    · rcases hnow with rfl | rfl <;> simp [cfNow, rd, shut]
  | succ n ih =>
    intro L P T thP now l left hn hT hth hnow hl
    cases L with
    | nil =>
      unfold readM
      rw [dif_neg (by simp)]
      refine ⟨[], ?_, ?_, fun x hx => absurd hx (by simp)⟩
      · rcases hnow with rfl | rfl <;> simp [cfNow, rd, baseW, shut, setLast]
      · rcases hnow with rfl | rfl <;> simp [cfNow, rd, shut]
    | cons g L =>
      -- one sign that is in no run, told as w0
      have one : ∀ (g : Sg) (L P : List Sg) (T : List Int) (thP : List Bool) (now : Int) (left : List (Nat × Nat)) (w0 : Int), L.length ≤ n → T.length = P.length → thP.length = P.length → (now = 2 ∨ now = 3) → (g.1.small = false ∨ now ≠ 3) →
          Reads (P ++ g :: L) (readM (P ++ g :: L) (thP ++ threeW now (g :: L)) P.length (T ++ w0 :: baseW (nowOf now g.1) L) left)
            (T ++ (if (rd (cfNow (nowOf now g.1) (decide (g.1 = .G) && decide (w0 = 3))) L).sh = true then 2 else w0) :: (rd (cfNow (nowOf now g.1) (decide (g.1 = .G) && decide (w0 = 3))) L).ws) left (rd (cfNow (nowOf now g.1) (decide (g.1 = .G) && decide (w0 = 3))) L).ok := by
        intro g L P T thP now left w0 hn hT hth hnow hs
        have hnow' : nowOf now g.1 = 2 ∨ nowOf now g.1 = 3 := by
          unfold nowOf; split
          · exact .inr rfl
          · split
            · exact .inl rfl
            · exact hnow
        have h := ih L (P ++ [g]) (T ++ [w0]) (thP ++ [decide (nowOf now g.1 = 3)]) (nowOf now g.1) (decide (g.1 = .G) && decide (w0 = 3)) left hn (by simp [hT]) (by simp [hth]) hnow' (fun _ => (lOf_snoc hT).symm)
        unfold readM
        rw [dif_pos (by simp), hiM_none hth hs, if_neg (by omega), show max P.length (P.length + 1) = (P ++ [g]).length by simp]
        rw [setLast_snoc] at h
        have e1 : P ++ g :: L = (P ++ [g]) ++ L := by simp
        have e2 : thP ++ threeW now (g :: L) = (thP ++ [decide (nowOf now g.1 = 3)]) ++ threeW (nowOf now g.1) L := by simp [threeW]
        have e3 : T ++ w0 :: baseW (nowOf now g.1) L = (T ++ [w0]) ++ baseW (nowOf now g.1) L := by simp
        rw [e1, e2, e3]
        simpa using h
      by_cases hs : g.1.small = false ∨ now ≠ 3
      · -- no run begins here
        have h := one g L P T thP now left (if g.1.parting then 0 else if g.1.small then 1 else if g.1 = .D then 2 else if nowOf now g.1 = 2 ∧ g.1 = .G ∧ headDot L = true then 3 else nowOf now g.1) (by simpa using hn) hT hth hnow hs
        rw [baseW]
        rcases g with ⟨k, t⟩
        rcases hnow with rfl | rfl
        · cases k <;> simp [nowOf, cfNow, Kd.small, Kd.parting, rd, rd_two_sh, rd_sh_false, setLast] at h ⊢ <;> exact h
        · have hs' : k.small = false := by
            rcases hs with h | h
            · exact h
            · exact absurd rfl h
          cases k <;> simp [Kd.small] at hs' <;> simp [nowOf, cfNow, Kd.small, Kd.parting, rd, rd_two_sh, rd_sh_false, setLast, shut, shutG] at h ⊢ <;> exact h
      · -- a run
        have hg : g.1.small = true := by
          cases e : g.1.small with
          | true => rfl
          | false => exact absurd (.inl e) hs
        have h3 : now = 3 := by
          by_cases e : now = 3
          · exact e
          · exact absurd (.inr e) hs
        subst h3
        have hl := hl rfl
        obtain ⟨R, L2, eRL, hR, hne, hL2⟩ : ∃ R L2, g :: L = R ++ L2 ∧ (∀ x ∈ R, x.1.small = true) ∧ R ≠ [] ∧ headSmall L2 = false := by
          refine ⟨(g :: L).takeWhile (·.1.small), (g :: L).dropWhile (·.1.small), (List.takeWhile_append_dropWhile).symm, fun x hx => ?_, by simp [hg], ?_⟩
          · have := List.all_takeWhile (l := g :: L) (p := (·.1.small))
            exact List.all_eq_true.mp this x hx
          · cases e : (g :: L).dropWhile (·.1.small) with
            | nil => rfl
            | cons y r =>
              have := List.head?_dropWhile_not (·.1.small) (g :: L)
              rw [e] at this
              simpa [headSmall] using this
        have hpos : 0 < R.length := List.length_pos_iff.mpr hne
        have hlen : R.length + L2.length ≤ n + 1 := by
          have := congrArg List.length eRL
          simp at this hn
          omega
        rw [eRL]
        have eC : cfNow 3 l = .three l .c0 .dash := rfl
        rw [eC, rd_run R L2 l .c0 .dash hne hR]
        unfold readM
        rw [dif_pos (by simp; omega), hiM_run R L2 P thP hR hL2 hth, if_pos (by omega), baseW_run R L2 3 hR, runM_eq hR hne hT hl, show max (P.length + R.length) (P.length + 1) = (P ++ R).length by simp; omega]
        simp only
        have hn2 : L2.length ≤ n := by omega
        have eT : (setLast (closeZ l (addC .c0 R.length) (lastA R) L2).1 T ++ onesD R L2 .c0).length = (P ++ R).length := by
          simp [setLast_length, hT, onesD_length hne]
        have eth : (thP ++ List.replicate R.length true).length = (P ++ R).length := by simp [hth]
        have e1 : P ++ (R ++ L2) = (P ++ R) ++ L2 := by simp
        have e2 : thP ++ threeW 3 (R ++ L2) = (thP ++ List.replicate R.length true) ++ threeW 3 L2 := by rw [threeW_run R L2 hR]; simp
        -- the run's own loose pair
        have wrap : ∀ (told : List Int) (tl : List Int) (ok2 ok : Bool), ok = ((closeZ l (addC .c0 R.length) (lastA R) L2).2.2 && ok2) →
            (∀ left', Reads ((P ++ R) ++ L2) (readM ((P ++ R) ++ L2) ((thP ++ List.replicate R.length true) ++ threeW 3 L2) (P ++ R).length told left') tl left' ok2) →
            Reads ((P ++ R) ++ L2) (readM ((P ++ R) ++ L2) ((thP ++ List.replicate R.length true) ++ threeW 3 L2) (P ++ R).length told (if (closeZ l (addC .c0 R.length) (lastA R) L2).2.2 = true then left else left ++ [(P.length, P.length + R.length)])) tl left ok := by
          intro told tl ok2 ok hok h
          cases hz : (closeZ l (addC .c0 R.length) (lastA R) L2).2.2 with
          | true =>
            rw [hz, Bool.true_and] at hok
            rw [if_pos rfl, hok]
            exact h left
          | false =>
            rw [hz, Bool.false_and] at hok
            rw [if_neg (by decide), hok]
            obtain ⟨ls, h1, h2, h3⟩ := h (left ++ [(P.length, P.length + R.length)])
            refine ⟨(P.length, P.length + R.length) :: ls, by rw [h1]; simp, by simp, fun x hx => ?_⟩
            rcases List.mem_cons.mp hx with rfl | hx
            · refine ⟨by show P.length < P.length + R.length; omega, by simp, ?_⟩
              show (P.length + R.length - P.length) % 3 ≠ 0
              rw [Nat.add_sub_cancel_left]
              exact closeZ_ok hz
            · exact h3 x hx
        rw [e1, e2]
        rcases rd_close (l := l) (c := addC .c0 R.length) (a := lastA R) hL2 with ⟨hz, hrd⟩ | ⟨t, L3, rfl, hz, hrd⟩
        · rw [hrd, hz, if_neg (by decide)]
          refine wrap _ _ (rd (.three false .c0 .dash) L2).ok _ rfl fun left' => ?_
          have hlo : false = lOf (P ++ R) (setLast (closeZ l (addC .c0 R.length) (lastA R) L2).1 T ++ onesD R L2 .c0) := by
            unfold lOf
            rw [decide_eq_false (kindAt_last_run hne hR)]
            simp
          have h := ih L2 (P ++ R) (setLast (closeZ l (addC .c0 R.length) (lastA R) L2).1 T ++ onesD R L2 .c0) (thP ++ List.replicate R.length true) 3 false left' hn2 eT eth (.inr rfl) (fun _ => hlo)
          have eC2 : cfNow 3 false = .three false .c0 .dash := rfl
          rw [eC2, rd_sh_false, setLast_false] at h
          simpa using h
        · rw [hrd, hz, if_pos rfl]
          refine wrap _ _ (rd (.three false .c0 .dash) L3).ok _ rfl fun left' => ?_
          have h := one (.G, t) L3 (P ++ R) (setLast (closeZ l (addC .c0 R.length) (lastA R) ((.G, t) :: L3)).1 T ++ onesD R ((.G, t) :: L3) .c0) (thP ++ List.replicate R.length true) 3 left' 2 (by simp at hn2; omega) eT eth (.inr rfl) (.inl rfl)
          simp [nowOf, cfNow, rd_sh_false] at h
          simpa [baseW, nowOf] using h
theorem lawRead_eq {b : Int} (hb : b = 2 ∨ b = 3) (L : List Sg) : (lawRead L b).1 = (rd (cfOf b) L).ws ∧ ((lawRead L b).2 = [] ↔ (rd (cfOf b) L).ok = true) ∧ ∀ x ∈ (lawRead L b).2, x.1 < x.2 ∧ x.2 ≤ L.length ∧ (x.2 - x.1) % 3 ≠ 0 := by
  obtain ⟨ls, h1, h2, h3⟩ := readM_eq L.length L [] [] [] b false [] (Nat.le_refl _) rfl rfl hb (fun _ => rfl)
  have e : lawRead L b = (setLast (rd (cfNow b false) L).sh [] ++ (rd (cfNow b false) L).ws, [] ++ ls) := h1
  have e2 : cfNow b false = cfOf b := by unfold cfNow cfOf; rfl
  have e3 : setLast (rd (cfNow b false) L).sh [] = [] := by unfold setLast; split <;> rfl
  rw [e3, e2, List.nil_append, List.nil_append] at e
  rw [e2] at h2
  rw [e]
  exact ⟨rfl, h2, h3⟩
end Nw
namespace Nw
def cutRun (line : List Sg) (lo hi : Nat) : List Sg := line.take (hi - (hi - lo) % 3) ++ line.drop hi
def firmM (b : Int) : Nat → List Sg → List Sg
  | 0, line => line
  | n + 1, line => match (lawRead line b).2 with
    | [] => line
    | (lo, hi) :: _ => firmM b n (cutRun line lo hi)
def firmed (line : List Sg) (b : Int) : List Sg := firmM b (line.length + 1) line
theorem cutRun_length {line : List Sg} {lo hi : Nat} (h1 : lo < hi) (h2 : hi ≤ line.length) (h3 : (hi - lo) % 3 ≠ 0) : (cutRun line lo hi).length < line.length := by
  unfold cutRun
  rw [List.length_append, List.length_take, List.length_drop]
  have : (hi - lo) % 3 ≤ hi - lo := Nat.mod_le _ _
  omega
theorem cutRun_mem {line : List Sg} {lo hi : Nat} {g : Sg} (h : g ∈ cutRun line lo hi) : g ∈ line := by
  unfold cutRun at h
  rcases List.mem_append.mp h with h | h
  · exact List.mem_of_mem_take h
  · exact List.mem_of_mem_drop h
theorem firmM_spec {b : Int} (hb : b = 2 ∨ b = 3) : ∀ (n : Nat) (line : List Sg), line.length < n → (rd (cfOf b) (firmM b n line)).ok = true ∧ (firmM b n line).length ≤ line.length ∧ ∀ g ∈ firmM b n line, g ∈ line
  | 0, _, h => absurd h (by omega)
  | n + 1, line, h => by
    obtain ⟨_, h2, h3⟩ := lawRead_eq hb line
    rw [firmM]
    cases e : (lawRead line b).2 with
    | nil => exact ⟨h2.mp e, Nat.le_refl _, fun g hg => hg⟩
    | cons x r =>
      rcases x with ⟨lo, hi⟩
      obtain ⟨a1, a2, a3⟩ := h3 (lo, hi) (by rw [e]; exact List.mem_cons_self)
      have hlt : (cutRun line lo hi).length < line.length := cutRun_length a1 a2 a3
      obtain ⟨b1, b2, b3⟩ := firmM_spec hb n (cutRun line lo hi) (by omega)
      exact ⟨b1, by show (firmM b n (cutRun line lo hi)).length ≤ _; omega, fun g hg => cutRun_mem (b3 g hg)⟩
theorem firmed_spec {b : Int} (hb : b = 2 ∨ b = 3) (line : List Sg) : (rd (cfOf b) (firmed line b)).ok = true ∧ (firmed line b).length ≤ line.length ∧ ∀ g ∈ firmed line b, g ∈ line := firmM_spec hb _ _ (Nat.lt_succ_self _)
/-- prices without None -/
theorem price_some {p : Pr} (h1 : p.dot ≠ none) (h2 : p.dk ≠ none) (h3 : p.ms ≠ none) : ∀ L : List Sg, ∃ c, price L p = some c
  | [] => ⟨0, rfl⟩
  | g :: L => by
    obtain ⟨t, ht⟩ := price_some h1 h2 h3 L
    have : ∃ c, signPrice g.1 p = some c := by
      unfold signPrice
      obtain ⟨x, hx⟩ := Option.ne_none_iff_exists'.mp h1
      obtain ⟨y, hy⟩ := Option.ne_none_iff_exists'.mp h2
      obtain ⟨z, hz⟩ := Option.ne_none_iff_exists'.mp h3
      rw [hx, hy, hz]
      repeat' split
      all_goals exact ⟨_, rfl⟩
    obtain ⟨c, hc⟩ := this
    exact ⟨c + t, by rw [price, hc, ht]⟩
theorem price_le {p : Pr} (hp : p.ok) : ∀ {L : List Sg} {c : Int}, price L p = some c → 0 ≤ c ∧ c ≤ 9 * L.length
  | [], c, h => by cases h; exact ⟨Int.le_refl _, Int.le_refl _⟩
  | g :: L, c, h => by
    rw [price] at h
    split at h
    · rename_i c1 t1 h1 h2
      cases h
      have a := price_bound hp h1
      have b := price_le hp h2
      rw [List.length_cons]
      push_cast
      omega
    · cases h
theorem wishesOf_tone : ∀ {L : List Sg} {ws : List Int}, (∀ g ∈ L, goodSg g) → ∀ wi ∈ wishesOf L ws, -1 ≤ wi.1
  | [], ws, _, wi, h => by cases ws <;> cases h
  | _ :: _, [], _, wi, h => by cases h
  | g :: L, w :: ws, hg, wi, h => by
    have hr : ∀ x ∈ L, goodSg x := fun x hx => hg x (List.mem_cons_of_mem _ hx)
    rw [wishesOf] at h
    split at h
    · exact wishesOf_tone hr wi h
    · rcases List.mem_cons.mp h with rfl | h
      · show -1 ≤ (if g.1.sounds = true then g.2 else -1)
        split
        · rename_i hs
          have := hg g List.mem_cons_self
          unfold goodSg at this
          rw [if_pos hs] at this
          omega
        · omega
      · exact wishesOf_tone hr wi h
theorem wishesOf_length : ∀ {L : List Sg} {ws : List Int}, (wishesOf L ws).length ≤ L.length
  | [], ws => by cases ws <;> exact Nat.zero_le _
  | _ :: _, [] => Nat.zero_le _
  | g :: L, w :: ws => by
    have := wishesOf_length (L := L) (ws := ws)
    rw [wishesOf]
    split
    · rw [List.length_cons]; omega
    · rw [List.length_cons, List.length_cons]; omega
end Nw
namespace Nw
theorem Reach.len {W : List (Int × Int)} {p : Pr} {b : Int} (hp : p.ok) {k : Nat} {q : St} {L : List Sg} {c : Int} (h : Reach W p b k q L c) : (L.length : Int) ≤ k + c ∧ 0 ≤ c := by
  induction h with
  | nil => exact ⟨by simp, Int.le_refl _⟩
  | part r hm ih =>
    obtain ⟨hg, h1, _⟩ := mem_moves.mp hm
    have := part_price hp hg h1
    rw [List.length_append, List.length_singleton]
    omega
  | wish r hwi hm ih =>
    obtain ⟨_, h1, _⟩ := mem_moves.mp hm
    have := price_bound hp h1
    rw [List.length_append, List.length_singleton]
    omega
theorem Acc.len {W : List (Int × Int)} {p : Pr} {b : Int} (hp : p.ok) {L : List Sg} {c : Int} (h : Acc W p b L c) : (L.length : Int) ≤ W.length + c ∧ 0 ≤ c := by
  obtain ⟨q, r, _⟩ := h
  exact r.len hp
/-- a path is a path by other prices too -/
theorem Acc.swap {W : List (Int × Int)} {b : Int} {p p' : Pr} {L : List Sg} {c c' : Int} (hW : ∀ wi ∈ W, -1 ≤ wi.1) (h : Acc W p b L c) (hp : price L p' = some c') : Acc W p' b L c' := by
  obtain ⟨hgood, _, hw⟩ := firm_of_acc hW h
  have hok : (rd (cfOf b) L).ok = true := by
    obtain ⟨q, r, he⟩ := h
    obtain ⟨_, _, _, ws, hl, hr, _⟩ := r.sound hW
    have ha : accepts (beginState b) L ws = true := by
      unfold accepts
      rw [hr]
      exact he
    obtain ⟨_, _, h3⟩ := (acc_iff L (beginState b) ws (valid_begin b)).mp ha
    rw [cfq_begin] at h3
    exact h3
  have := acc_of_firm (p := p') hgood hok hp
  rw [hw] at this
  exact this
/-- prices by «or» -/
def orPr (p : Pr) (x y z : Int) : Pr := ⟨some (p.dot.getD x), some (p.dk.getD y), some (p.ms.getD z)⟩
theorem orPr_ok {p : Pr} (hp : p.ok) {x y z : Int} (hx : 1 ≤ x ∧ x ≤ 9) (hy : 1 ≤ y ∧ y ≤ 9) (hz : 1 ≤ z ∧ z ≤ 9) : (orPr p x y z).ok := by
  obtain ⟨h1, h2, h3⟩ := hp
  refine ⟨fun c h => ?_, fun c h => ?_, fun c h => ?_⟩
  · cases h; cases e : p.dot with
    | none => exact hx
    | some v => exact h1 v e
  · cases h; cases e : p.dk with
    | none => exact hy
    | some v => exact h2 v e
  · cases h; cases e : p.ms with
    | none => exact hz
    | some v => exact h3 v e
theorem orPr_price (p : Pr) (x y z : Int) (L : List Sg) : ∃ c, price L (orPr p x y z) = some c := price_some (by simp [orPr]) (by simp [orPr]) (by simp [orPr]) L
end Nw
/-! sorted(l), l a list of pairs (text, int): some arrangement of them, over the library's sorted of mixed tuples -/
namespace L2
open PySem PySem.Spec PyProof.Rows
/-- a pair's shape: a text ahead, a number behind -/
def shSI : Nat → Bool := fun i => i == 0
/-- what the sort wants of one pair -/
def PairSI (h : Heap) (u : Value) : Prop := ∃ f, PyProof.Rows.TupOf h shSI u f ∧ ∃ l, PyProof.Rows.G.tupKeyC h shSI u = some l
theorem pairSI_of {h : Heap} {t : Addr} {ob : Obj} {x : Str} {y : Int} {k1 k2 : Tok} {n : Nat} (h1 : h.get? t = some ob) (h2 : ob.cls = .type "tuple") (h3 : ob.data = .seq #[.str x k1, .int y k2] n) : PairSI h (.ref t) := by
  refine ⟨.str x k1, ⟨t, ob, _, n, rfl, h1, h2, h3, rfl, (fun z => by cases z), (fun _ => ⟨x, k1, rfl⟩)⟩, [Sum.inr x.cps.toList, Sum.inl y], ?_⟩
  exact PyProof.Rows.G.tupKeyC_of h1 h2 h3 rfl
theorem tupsSI : ∀ {h : Heap} {its : List Value}, (∀ u ∈ its, PairSI h u) → ∃ fs, PyProof.Rows.TupsOf h shSI its fs
  | _, [], _ => ⟨[], .nil⟩
  | _, u :: its, hp => by
    obtain ⟨f, hf, _⟩ := hp u (by simp)
    obtain ⟨fs, hfs⟩ := tupsSI (its := its) fun v hv => hp v (by simp [hv])
    exact ⟨f :: fs, .cons hf hfs⟩
section
variable {X : Cx}
def rSortedSI (K : PySem.W.Frag) : List V → Hp → VK → Prop := fun args H Q => ∃ lst xs, args = [V.ref lst] ∧ SqL K H lst xs ∧ (∀ x ∈ xs, ∃ t i j, x = V.ref t ∧ H t = some (.tup [.str i, .int j])) ∧
  ∀ ys new, ys.Perm xs → H new = none → Q (.ref new) (upd H new (.lst ys))
theorem cr_sortedSI : CallR X (.builtin "sorted") (rSortedSI X.K) := by
  rintro pins st σ H args vals Q I rel ⟨lst, xs, rfl, hxs, hpairs, goal⟩
  obtain ⟨w0, rfl, rw0⟩ := vals1 rel
  have ew : w0 = Value.ref lst := rw0
  subst ew
  obtain ⟨its, rv, isl, len⟩ := I.list hxs
  have refs := refs_back rv fun x m => (hpairs x m).elim fun t ⟨_, _, e, _⟩ => ⟨t, e⟩
  have len' : its.length ≤ sizeLine := rv.length ▸ len
  have each : ∀ u ∈ its, PairSI st.heap u := by
    intro u hu
    obtain ⟨b, hb⟩ := refs.2 u hu
    subst hb
    obtain ⟨t, i, j, e, ht⟩ := hpairs (.ref b) (by rw [refs.1]; exact List.mem_map.mpr ⟨.ref b, hu, rfl⟩)
    have et : b = t := V.ref.inj e
    subst et
    obtain ⟨_, two, r2, ob, g1, g2, n, g3⟩ := I.hok _ _ ht
    obtain ⟨a1, a2, rfl, ⟨k1, e1⟩, ⟨k2, e2⟩⟩ := vals2 r2
    subst e1 e2
    exact pairSI_of g1 g2 g3
  obtain ⟨fs, hfs⟩ := tupsSI each
  refine PyProof.Rows.G.sorted_tups isl.isList hfs (fun u hu => (each u hu).elim fun _ z => z.2) len' fun st' perm _ _ => ?_
  have perm' := Srt.out_perm perm
  generalize (arrOf st').map (·.2) = arr at perm' ⊢
  obtain ⟨n, stands⟩ := sortedAll_at st.heap its arr
  have stands' : (sortedAll st.heap its arr).get? (st.heap.objs.size + 1) = some (seqObj "list" arr.toList.toArray n) := by rw [Array.toArray_toList]; exact stands
  have old : ∀ b o, st.heap.get? b = some o → (sortedAll st.heap its arr).get? b = some o := fun b o e => sortedAll_old e
  have back := vals_back (us := arr.toList) fun u hu => refs.2 u (perm'.mem_iff.mp hu)
  have size : (arr.toList.map backV).length ≤ sizeLine := by rw [List.length_map, perm'.length_eq]; exact len'
  have permV : (arr.toList.map backV).Perm xs := by rw [refs.1]; exact perm'.map backV
  exact ⟨.ref (st.heap.objs.size + 1), upd H (st.heap.objs.size + 1) (.lst (arr.toList.map backV)), I.laid (t' := st.toks) old (Nat.le_succ _) ⟨size, _, n, back, stands'⟩, rfl, goal _ _ permV (I.hok.fresh (Nat.le_succ _))⟩
end
end L2
/-! The text by places, and how the data stand in the heap. -/
namespace Nt
open PySem PySem.Spec PyProof.Rows L2
def topS (i : Nat) : Stmt := PySem.Challenge.pw_noteworth_k26_whole_none_cheaper.main.body.getD i (.Pass ⟨0, 0, 0, 0⟩)
abbrev s_within : Stmt := topS 4
theorem sc_within : FnScope ["kind", "letters", "letter"] ["kind", "letters"] (defScope s_within) := ⟨rfl, rfl, rfl, by decide +kernel, rfl, by decide +kernel, by decide +kernel⟩
abbrev s_great : Stmt := topS 5
theorem sc_great : FnScope ["sign"] ["sign"] (defScope s_great) := ⟨rfl, rfl, rfl, by decide +kernel, rfl, by decide +kernel, by decide +kernel⟩
abbrev s_small : Stmt := topS 6
theorem sc_small : FnScope ["sign"] ["sign"] (defScope s_small) := ⟨rfl, rfl, rfl, by decide +kernel, rfl, by decide +kernel, by decide +kernel⟩
abbrev s_parting : Stmt := topS 7
theorem sc_parting : FnScope ["sign"] ["sign"] (defScope s_parting) := ⟨rfl, rfl, rfl, by decide +kernel, rfl, by decide +kernel, by decide +kernel⟩
abbrev s_measuring : Stmt := topS 8
theorem sc_measuring : FnScope ["sign"] ["sign"] (defScope s_measuring) := ⟨rfl, rfl, rfl, by decide +kernel, rfl, by decide +kernel, by decide +kernel⟩
abbrev s_sign_price : Stmt := topS 10
theorem sc_sign_price : FnScope ["sign", "prices"] ["sign", "prices"] (defScope s_sign_price) := ⟨rfl, rfl, rfl, by decide +kernel, rfl, by decide +kernel, by decide +kernel⟩
abbrev s_begin_state : Stmt := topS 12
theorem sc_begin_state : FnScope ["begin"] ["begin"] (defScope s_begin_state) := ⟨rfl, rfl, rfl, by decide +kernel, rfl, by decide +kernel, by decide +kernel⟩
abbrev s_closed_by : Stmt := topS 13
theorem sc_closed_by : FnScope ["state", "sign", "worth", "left", "short"] ["state", "sign", "worth"] (defScope s_closed_by) := ⟨rfl, rfl, rfl, by decide +kernel, rfl, by decide +kernel, by decide +kernel⟩
abbrev s_great_step : Stmt := topS 14
theorem sc_great_step : FnScope ["state", "sign", "worth", "way"] ["state", "sign", "worth"] (defScope s_great_step) := ⟨rfl, rfl, rfl, by decide +kernel, rfl, by decide +kernel, by decide +kernel⟩
abbrev s_small_step : Stmt := topS 15
theorem sc_small_step : FnScope ["state", "sign", "worth", "left", "count"] ["state", "sign", "worth"] (defScope s_small_step) := ⟨rfl, rfl, rfl, by decide +kernel, rfl, by decide +kernel, by decide +kernel⟩
abbrev s_parted : Stmt := topS 16
theorem sc_parted : FnScope ["sign"] ["sign"] (defScope s_parted) := ⟨rfl, rfl, rfl, by decide +kernel, rfl, by decide +kernel, by decide +kernel⟩
abbrev s_two_step : Stmt := topS 17
theorem sc_two_step : FnScope ["state", "sign", "worth", "dot"] ["state", "sign", "worth"] (defScope s_two_step) := ⟨rfl, rfl, rfl, by decide +kernel, rfl, by decide +kernel, by decide +kernel⟩
abbrev s_step : Stmt := topS 18
theorem sc_step : FnScope ["state", "sign", "worth"] ["state", "sign", "worth"] (defScope s_step) := ⟨rfl, rfl, rfl, by decide +kernel, rfl, by decide +kernel, by decide +kernel⟩
abbrev s_ends : Stmt := topS 19
theorem sc_ends : FnScope ["state"] ["state"] (defScope s_ends) := ⟨rfl, rfl, rfl, by decide +kernel, rfl, by decide +kernel, by decide +kernel⟩
abbrev s_moves_by : Stmt := topS 21
theorem sc_moves_by : FnScope ["state", "signs", "worth", "prices", "told", "sign", "cost", "onto"] ["state", "signs", "worth", "prices"] (defScope s_moves_by) := ⟨rfl, rfl, rfl, by decide +kernel, rfl, by decide +kernel, by decide +kernel⟩
abbrev s_part_moves : Stmt := topS 22
theorem sc_part_moves : FnScope ["state", "prices"] ["state", "prices"] (defScope s_part_moves) := ⟨rfl, rfl, rfl, by decide +kernel, rfl, by decide +kernel, by decide +kernel⟩
abbrev s_wish_moves : Stmt := topS 23
theorem sc_wish_moves : FnScope ["state", "wish", "prices", "tone"] ["state", "wish", "prices"] (defScope s_wish_moves) := ⟨rfl, rfl, rfl, by decide +kernel, rfl, by decide +kernel, by decide +kernel⟩
abbrev s_better : Stmt := topS 25
theorem sc_better : FnScope ["table", "onto", "cost"] ["table", "onto", "cost"] (defScope s_better) := ⟨rfl, rfl, rfl, by decide +kernel, rfl, by decide +kernel, by decide +kernel⟩
abbrev s_spread : Stmt := topS 26
theorem sc_spread : FnScope ["table", "back", "at", "prices", "going", "state", "onto", "sign", "cost"] ["table", "back", "at", "prices"] (defScope s_spread) := ⟨rfl, rfl, rfl, by decide +kernel, rfl, by decide +kernel, by decide +kernel⟩
abbrev s_onward : Stmt := topS 27
theorem sc_onward : FnScope ["table", "back", "at", "wish", "prices", "told", "state", "onto", "sign", "cost"] ["table", "back", "at", "wish", "prices"] (defScope s_onward) := ⟨rfl, rfl, rfl, by decide +kernel, rfl, by decide +kernel, by decide +kernel⟩
abbrev s_cheapest_end : Stmt := topS 28
theorem sc_cheapest_end : FnScope ["table", "told", "state"] ["table"] (defScope s_cheapest_end) := ⟨rfl, rfl, rfl, by decide +kernel, rfl, by decide +kernel, by decide +kernel⟩
abbrev s_line_back : Stmt := topS 29
theorem sc_line_back : FnScope ["back", "at", "state", "line", "sign"] ["back", "at", "state"] (defScope s_line_back) := ⟨rfl, rfl, rfl, by decide +kernel, rfl, by decide +kernel, by decide +kernel⟩
abbrev s_written : Stmt := topS 30
theorem sc_written : FnScope ["wishes", "prices", "begin", "table", "back", "paper", "at", "wish", "state"] ["wishes", "prices", "begin"] (defScope s_written) := ⟨rfl, rfl, rfl, by decide +kernel, rfl, by decide +kernel, by decide +kernel⟩
abbrev s_l_cell_at : Stmt := topS 32
theorem sc_l_cell_at : FnScope ["_law_script", "_law_k"] ["_law_script", "_law_k"] (defScope s_l_cell_at) := ⟨rfl, rfl, rfl, by decide +kernel, rfl, by decide +kernel, by decide +kernel⟩
abbrev s_l_mixed : Stmt := topS 33
theorem sc_l_mixed : FnScope ["_law_seed", "_law_k", "_law_one", "_law_two"] ["_law_seed", "_law_k"] (defScope s_l_mixed) := ⟨rfl, rfl, rfl, by decide +kernel, rfl, by decide +kernel, by decide +kernel⟩
abbrev s_l_numbers : Stmt := topS 34
theorem sc_l_numbers : FnScope ["_law_script", "_law_at", "_law_many", "_law_seed", "_law_left", "_law_row", "_law_k"] ["_law_script", "_law_at", "_law_many"] (defScope s_l_numbers) := ⟨rfl, rfl, rfl, by decide +kernel, rfl, by decide +kernel, by decide +kernel⟩
abbrev s_l_sign_by : Stmt := topS 35
theorem sc_l_sign_by : FnScope ["_law_number", "_law_kind"] ["_law_number"] (defScope s_l_sign_by) := ⟨rfl, rfl, rfl, by decide +kernel, rfl, by decide +kernel, by decide +kernel⟩
abbrev s_l_line : Stmt := topS 36
theorem sc_l_line : FnScope ["_law_script", "_law_at", "_law_many", "_law_number"] ["_law_script", "_law_at", "_law_many"] (defScope s_l_line) := ⟨rfl, rfl, rfl, by decide +kernel, rfl, by decide +kernel, by decide +kernel⟩
abbrev s_l_begin : Stmt := topS 37
theorem sc_l_begin : FnScope ["_law_cell"] ["_law_cell"] (defScope s_l_begin) := ⟨rfl, rfl, rfl, by decide +kernel, rfl, by decide +kernel, by decide +kernel⟩
abbrev s_l_base : Stmt := topS 38
theorem sc_l_base : FnScope ["_law_line_here", "_law_begin_here", "_law_told", "_law_now", "_law_at", "_law_kind"] ["_law_line_here", "_law_begin_here"] (defScope s_l_base) := ⟨rfl, rfl, rfl, by decide +kernel, rfl, by decide +kernel, by decide +kernel⟩
abbrev s_l_three : Stmt := topS 39
theorem sc_l_three : FnScope ["_law_line_here", "_law_begin_here", "_law_told", "_law_now", "_law_sign"] ["_law_line_here", "_law_begin_here"] (defScope s_l_three) := ⟨rfl, rfl, rfl, by decide +kernel, rfl, by decide +kernel, by decide +kernel⟩
abbrev s_l_run : Stmt := topS 40
theorem sc_l_run : FnScope ["_law_line_here", "_law_told", "_law_low", "_law_high", "_law_rest", "_law_behind", "_law_after", "_law_left", "_law_right"] ["_law_line_here", "_law_told", "_law_low", "_law_high"] (defScope s_l_run) := ⟨rfl, rfl, rfl, by decide +kernel, rfl, by decide +kernel, by decide +kernel⟩
abbrev s_l_read : Stmt := topS 41
theorem sc_l_read : FnScope ["_law_line_here", "_law_begin_here", "_law_told", "_law_three_here", "_law_left", "_law_low", "_law_high"] ["_law_line_here", "_law_begin_here"] (defScope s_l_read) := ⟨rfl, rfl, rfl, by decide +kernel, rfl, by decide +kernel, by decide +kernel⟩
abbrev s_l_firmed : Stmt := topS 42
theorem sc_l_firmed : FnScope ["_law_line_here", "_law_begin_here", "_law_k", "_law_found", "_law_low", "_law_high"] ["_law_line_here", "_law_begin_here"] (defScope s_l_firmed) := ⟨rfl, rfl, rfl, by decide +kernel, rfl, by decide +kernel, by decide +kernel⟩
abbrev s_l_wishes : Stmt := topS 43
theorem sc_l_wishes : FnScope ["_law_line_here", "_law_begin_here", "_law_told", "_law_sign", "_law_worth"] ["_law_line_here", "_law_begin_here"] (defScope s_l_wishes) := ⟨rfl, rfl, rfl, by decide +kernel, rfl, by decide +kernel, by decide +kernel⟩
abbrev s_l_prices : Stmt := topS 44
theorem sc_l_prices : FnScope ["_law_cell", "_law_told", "_law_k"] ["_law_cell"] (defScope s_l_prices) := ⟨rfl, rfl, rfl, by decide +kernel, rfl, by decide +kernel, by decide +kernel⟩
abbrev s_l_price : Stmt := topS 45
theorem sc_l_price : FnScope ["_law_line_here", "_law_prices_here", "_law_total", "_law_sign", "_law_cost"] ["_law_line_here", "_law_prices_here"] (defScope s_l_price) := ⟨rfl, rfl, rfl, by decide +kernel, rfl, by decide +kernel, by decide +kernel⟩
abbrev s_l_whole : Stmt := topS 46
theorem sc_l_whole : FnScope ["_law_found"] ["_law_found"] (defScope s_l_whole) := ⟨rfl, rfl, rfl, by decide +kernel, rfl, by decide +kernel, by decide +kernel⟩
abbrev s_law : Stmt := topS 47
theorem sc_law : FnScope ["_law_script", "_law_begin_here", "_law_costs", "_law_size", "_law_line_here", "_law_due", "_law_wishes_here", "_law_found", "_law_more", "_law_second", "_law_again"] ["_law_script"] (defScope s_law) := ⟨rfl, rfl, rfl, by decide +kernel, rfl, by decide +kernel, by decide +kernel⟩
/-! ### kinds and states as texts -/
def cpK : Nw.Kd → Nat
  | .G => 71 | .D => 68 | .R => 82 | .s => 115 | .d => 100 | .r => 114 | .dot => 46 | .m3 => 51 | .m2 => 50
def kT (k : Nw.Kd) : Str := ⟨#[cpK k]⟩
def cpL : Nw.Lf → Nat
  | .n => 110 | .w => 119 | .h => 104 | .t => 116
def cpC : Nw.Ct → Nat
  | .c0 => 48 | .c1 => 49 | .c2 => 50
def cpA : Nw.La → Nat
  | .dash => 45 | .s => 115 | .S => 83 | .o => 111
def qT : Nw.St → Str
  | .two => ⟨#[50, 45]⟩
  | .twog => ⟨#[50, 103]⟩
  | .twoG => ⟨#[50, 71]⟩
  | .three l c a => ⟨#[51, cpL l, cpC c, cpA a]⟩
theorem qT_inj {q q' : Nw.St} (h : qT q = qT q') : q = q' := by
  cases q with
  | three l c a =>
    cases q' with
    | three l' c' a' =>
      have e : #[51, cpL l, cpC c, cpA a] = #[51, cpL l', cpC c', cpA a'] := congrArg Str.cps h
      simp at e
      obtain ⟨e1, e2, e3⟩ := e
      have h1 : l = l' := by revert e1; cases l <;> cases l' <;> decide
      have h2 : c = c' := by revert e2; cases c <;> cases c' <;> decide
      have h3 : a = a' := by revert e3; cases a <;> cases a' <;> decide
      rw [h1, h2, h3]
    | _ => exact absurd (congrArg (fun s => s.cps.size) h) (by simp [qT])
  | _ =>
    cases q' with
    | three l' c' a' => exact absurd (congrArg (fun s => s.cps.size) h) (by simp [qT])
    | _ => first | rfl | exact absurd h (by decide)
/-! ### lists of things in the heap, item by item -/
/-- the tuples stay -/
def Tp (H H' : Hp) : Prop := ∀ b xs, H b = some (.tup xs) → H' b = some (.tup xs)
theorem Tp.refl (H : Hp) : Tp H H := fun _ _ h => h
theorem Tp.trans {H H1 H2 : Hp} (a : Tp H H1) (b : Tp H1 H2) : Tp H H2 := fun c o h => b c o (a c o h)
theorem Tp.of {H H' : Hp} (h : Same H H') : Tp H H' := fun b xs e => h b _ e
theorem Tp.upd {H : Hp} {a : Addr} {u o : HO} (h : H a = some u) (hu : ∀ xs, u ≠ .tup xs) : Tp H (L2.upd H a o) := fun b xs e => by
  rw [upd_ne (ne_of e h (fun z => hu xs z.symm))]; exact e
theorem same_upd {H : Hp} {p : Addr} {o : HO} (h : H p = none) : Same H (upd H p o) := fun b x e => by
  rw [upd_ne (ne_of_none e h)]; exact e
/-- all that stood stands, but what stands at a (one of as) -/
def But (as : List Addr) (H H' : Hp) : Prop := ∀ b o, b ∉ as → H b = some o → H' b = some o
theorem But.refl (as : List Addr) (H : Hp) : But as H H := fun _ _ _ h => h
theorem But.trans {as : List Addr} {H H1 H2 : Hp} (a : But as H H1) (b : But as H1 H2) : But as H H2 := fun c o n h => b c o n (a c o n h)
theorem But.of {as : List Addr} {H H' : Hp} (h : Same H H') : But as H H' := fun b o _ e => h b o e
theorem But.upd {as : List Addr} {H : Hp} {a : Addr} {o : HO} (h : a ∈ as) : But as H (L2.upd H a o) := fun b x n e => by
  rw [upd_ne (fun z => n (by rw [z]; exact h))]; exact e
theorem But.new {as : List Addr} {H : Hp} {a : Addr} {o : HO} (h : H a = none) : But as H (L2.upd H a o) := .of (same_upd h)
def All2 {α : Type} (R : V → α → Prop) (vs : List V) (L : List α) : Prop := vs.length = L.length ∧ ∀ (i : Nat) (v : V) (g : α), vs[i]? = some v → L[i]? = some g → R v g
namespace All2
variable {α : Type} {R R' : V → α → Prop} {vs us : List V} {L M : List α}
theorem nil : All2 R [] ([] : List α) := ⟨rfl, fun i v g h => by simp at h⟩
theorem mono (h : All2 R vs L) (f : ∀ v g, R v g → R' v g) : All2 R' vs L := ⟨h.1, fun i v g a b => f v g (h.2 i v g a b)⟩
theorem get (h : All2 R vs L) {i : Nat} {g : α} (e : L[i]? = some g) : ∃ v, vs[i]? = some v ∧ R v g := by
  have hl := (List.getElem?_eq_some_iff.mp e).1
  have e2 : vs[i]? = some (vs[i]'(by rw [h.1]; exact hl)) := List.getElem?_eq_getElem _
  exact ⟨_, e2, h.2 i _ g e2 e⟩
theorem get' (h : All2 R vs L) {i : Nat} {v : V} (e : vs[i]? = some v) : ∃ g, L[i]? = some g ∧ R v g := by
  have hl := (List.getElem?_eq_some_iff.mp e).1
  have e2 : L[i]? = some (L[i]'(by rw [← h.1]; exact hl)) := List.getElem?_eq_getElem _
  exact ⟨_, e2, h.2 i v _ e e2⟩
theorem snoc (h : All2 R vs L) {v : V} {g : α} (r : R v g) : All2 R (vs ++ [v]) (L ++ [g]) := by
  refine ⟨by simp [h.1], fun i v' g' a b => ?_⟩
  by_cases hi : i < vs.length
  · rw [List.getElem?_append_left hi] at a
    rw [List.getElem?_append_left (by rw [← h.1]; exact hi)] at b
    exact h.2 i v' g' a b
  · have hi2 : i = vs.length := by
      have := (List.getElem?_eq_some_iff.mp a).1
      simp at this; omega
    subst hi2
    rw [List.getElem?_append_right (Nat.le_refl _), Nat.sub_self] at a
    rw [h.1, List.getElem?_append_right (Nat.le_refl _), Nat.sub_self] at b
    cases a; cases b
    exact r
theorem take (h : All2 R vs L) (n : Nat) : All2 R (vs.take n) (L.take n) := by
  refine ⟨by simp [h.1], fun i v g a b => ?_⟩
  rw [List.getElem?_take] at a b
  by_cases hi : i < n
  · rw [if_pos hi] at a b
    exact h.2 i v g a b
  · rw [if_neg hi] at a; cases a
theorem drop (h : All2 R vs L) (n : Nat) : All2 R (vs.drop n) (L.drop n) := by
  refine ⟨by simp [h.1], fun i v g a b => ?_⟩
  rw [List.getElem?_drop] at a b
  exact h.2 _ v g a b
theorem app (h : All2 R vs L) (h' : All2 R us M) : All2 R (vs ++ us) (L ++ M) := by
  refine ⟨by simp [h.1, h'.1], fun i v g a b => ?_⟩
  by_cases hi : i < vs.length
  · rw [List.getElem?_append_left hi] at a
    rw [List.getElem?_append_left (by rw [← h.1]; exact hi)] at b
    exact h.2 i v g a b
  · rw [List.getElem?_append_right (by omega)] at a
    rw [List.getElem?_append_right (by rw [← h.1]; omega), ← h.1] at b
    exact h'.2 _ v g a b
theorem cons {v : V} {g : α} (r : R v g) (h : All2 R vs L) : All2 R (v :: vs) (g :: L) := by
  refine ⟨by simp [h.1], fun i v' g' a b => ?_⟩
  cases i with
  | zero => cases a; cases b; exact r
  | succ i => exact h.2 i v' g' a b
theorem reverse (h : All2 R vs L) : All2 R vs.reverse L.reverse := by
  refine ⟨by simp [h.1], fun i v g a b => ?_⟩
  have hi : i < vs.length := by
    have := (List.getElem?_eq_some_iff.mp a).1
    simpa using this
  rw [List.getElem?_reverse hi] at a
  rw [List.getElem?_reverse (by rw [← h.1]; exact hi), ← h.1] at b
  exact h.2 _ v g a b
end All2
/-! ### signs, lines, wishes, prices, moves -/
def isSg (H : Hp) (v : V) (g : Nw.Sg) : Prop := ∃ t, v = .ref t ∧ H t = some (.tup [.str (kT g.1), .int g.2])
theorem isSg.mono {H H' : Hp} (h : Tp H H') {v : V} {g : Nw.Sg} (r : isSg H v g) : isSg H' v g := by
  obtain ⟨t, e, ht⟩ := r; exact ⟨t, e, h _ _ ht⟩
def Line (H : Hp) (a : Addr) (L : List Nw.Sg) : Prop := ∃ vs, H a = some (.lst vs) ∧ All2 (isSg H) vs L
theorem Line.same {H H' : Hp} (h : Same H H') {a : Addr} {L : List Nw.Sg} (r : Line H a L) : Line H' a L := by
  obtain ⟨vs, e, ht⟩ := r; exact ⟨vs, h _ _ e, ht.mono fun v g => isSg.mono (.of h)⟩
theorem Line.keep {H H' : Hp} (h : Tp H H') {a : Addr} {L : List Nw.Sg} (ha : ∀ o, H a = some o → H' a = some o) (r : Line H a L) : Line H' a L := by
  obtain ⟨vs, e, ht⟩ := r; exact ⟨vs, ha _ e, ht.mono fun v g => isSg.mono h⟩
def isWi (H : Hp) (v : V) (g : Int × Int) : Prop := ∃ t, v = .ref t ∧ H t = some (.tup [.int g.1, .int g.2])
theorem isWi.mono {H H' : Hp} (h : Tp H H') {v : V} {g : Int × Int} (r : isWi H v g) : isWi H' v g := by
  obtain ⟨t, e, ht⟩ := r; exact ⟨t, e, h _ _ ht⟩
def Wishes (H : Hp) (a : Addr) (L : List (Int × Int)) : Prop := ∃ vs, H a = some (.lst vs) ∧ All2 (isWi H) vs L
theorem Wishes.same {H H' : Hp} (h : Same H H') {a : Addr} {L : List (Int × Int)} (r : Wishes H a L) : Wishes H' a L := by
  obtain ⟨vs, e, ht⟩ := r; exact ⟨vs, h _ _ e, ht.mono fun v g => isWi.mono (.of h)⟩
def oV : Option Int → V
  | none => .non
  | some i => .int i
def isPr (H : Hp) (v : V) (p : Nw.Pr) : Prop := ∃ t, v = .ref t ∧ H t = some (.tup [oV p.dot, oV p.dk, oV p.ms])
theorem isPr.mono {H H' : Hp} (h : Tp H H') {v : V} {g : Nw.Pr} (r : isPr H v g) : isPr H' v g := by
  obtain ⟨t, e, ht⟩ := r; exact ⟨t, e, h _ _ ht⟩
def oQ : Option Nw.St → V
  | none => .non
  | some q => .str (qT q)
def isMv (H : Hp) (v : V) (m : Nw.St × Nw.Sg × Int) : Prop := ∃ t sv, v = .ref t ∧ H t = some (.tup [.str (qT m.1), sv, .int m.2.2]) ∧ isSg H sv m.2.1
theorem isMv.mono {H H' : Hp} (h : Tp H H') {v : V} {m : Nw.St × Nw.Sg × Int} (r : isMv H v m) : isMv H' v m := by
  obtain ⟨t, sv, e, ht, hs⟩ := r; exact ⟨t, sv, e, h _ _ ht, hs.mono h⟩
/-! ### a def as callers use it -/
structure DefAt (K : PySem.W.Frag) (mg : Str → Option Value) (x : Str) (f : Addr) (fd : FuncData) (ps : List Str) : Prop where
  g : mg x = some (.ref f)
  kp : PySem.W.keepIn K (.ref f) = true
  b : Binds K fd ps []
theorem size_small {n : Nat} (h : n ≤ 1000000) : n < sizeLine := Nat.lt_of_le_of_lt h (by decide)
theorem size_le {n : Nat} (h : n ≤ 1000000) : n ≤ sizeLine := Nat.le_of_lt (size_small h)
theorem seqT {K : PySem.W.Frag} {H : Hp} {a : Addr} {xs : List V} (h : H a = some (.tup xs)) : SqT K H a xs := .inl (.inl h)
theorem seqL {K : PySem.W.Frag} {H : Hp} {a : Addr} {xs : List V} (h : H a = some (.lst xs)) : SqL K H a xs := .inl (.inl h)
end Nt
namespace Nt
open PySem PySem.Spec PyProof.Rows L2
section
variable {P : Program} {w : World} {K : PySem.W.Frag} {mg : Str → Option Value} {base : Heap}
/-! ### signs -/
def sp_within : Sp := fun vs H Q _ => ∃ x z : Str, vs = [.str x, .str z] ∧ Q (.bl (z.cps.toList.any fun c => decide (V.str x = V.str ⟨#[c]⟩))) H
theorem ok_within {f : Addr} {fd : FuncData} (F : Fun K "within" "within" s_within f fd) : FnOk P w K mg base CX0 1 f fd ["kind", "letters"] sp_within := by
  refine F.ok sc_within (fun vs H Q E h => ?_) (fun cdv A outer s H vs Q E hr h => ?_)
  · obtain ⟨x, z, rfl, _⟩ := h
    rfl
  · obtain ⟨x, z, rfl, q⟩ := h
    refine ⟨_, (pss_cons (ps_for PassesOwn.never rfl (pi_str (pv 1)) (pg_name (i := 2) sc_within.nd rfl (.inl rfl))
        (pss_one (ps_if (pt_cmpR op_eq (pv 0) (pv 2) (nomark _))
          (pss_one (ps_ret pe_bl))
          pss_nil)))
      (pss_one (ps_ret pe_bl))), ?_⟩
    refine ⟨.str z, rfl, z, rfl, fun i m σ H' => ∃ y, σ = [some (.str x), some (.str z), y] ∧ H' = H ∧ m = z.cps.size - i ∧ i ≤ z.cps.size ∧ ∀ j c, j < i → z.cps[j]? = some c → decide (V.str x = V.str ⟨#[c]⟩) = false, ⟨_, none, rfl, rfl, rfl, Nat.zero_le _, fun j c hj => absurd hj (by omega)⟩, ?_⟩
    rintro i m σ H' ⟨y, rfl, rfl, rfl, hi, hn⟩
    by_cases hlt : i < z.cps.size
    · refine .inr ⟨hlt, fun σ' H2 => ∃ y, σ' = [some (.str x), some (.str z), y] ∧ H2 = H' ∧ ∀ j c, j < i + 1 → z.cps[j]? = some c → decide (V.str x = V.str ⟨#[c]⟩) = false, fun σ' H2 hN => ?_, fun v H2 hy => ?_⟩
      · obtain ⟨y, rfl, rfl, hn'⟩ := hN
        exact ⟨z.cps.size - (i + 1), by omega, y, rfl, rfl, rfl, hlt, hn'⟩
      · obtain ⟨rfl, c, hc, rfl⟩ := hy
        refine ⟨.str x, rfl, .str ⟨#[c]⟩, rfl, rfl, _, rfl, ite2 (fun e => ?_) (fun e => ?_)⟩
        · have e2 : (z.cps.toList.any fun c => decide (V.str x = V.str ⟨#[c]⟩)) = true := List.any_eq_true.mpr ⟨c, Array.mem_toList_iff.mpr (Array.mem_of_getElem? hc), e⟩
          rw [e2] at q
          exact q
        · refine ⟨_, rfl, rfl, fun j c' hj hc' => ?_⟩
          rcases Nat.lt_succ_iff_lt_or_eq.mp hj with h | h
          · exact hn j c' h hc'
          · subst h
            rw [hc] at hc'
            cases hc'
            simpa using e
    · refine .inl ⟨by show z.cps.size ≤ i; omega, ?_⟩
      have e2 : (z.cps.toList.any fun c => decide (V.str x = V.str ⟨#[c]⟩)) = false := by
        rw [List.any_eq_false]
        intro c hc
        obtain ⟨j, hj, e⟩ := List.getElem_of_mem hc
        have hj' : j < z.cps.size := by simpa using hj
        have := hn j c (by omega) (by rw [Array.getElem?_eq_getElem hj']; congr 1)
        rw [this]; decide
      rw [e2] at q
      exact q
def sp_kd (p : Nw.Kd → Bool) (K : PySem.W.Frag) : Sp := fun vs H Q _ => ∃ (a : Addr) (k : Nw.Kd) (t : V), vs = [.ref a] ∧ SqT K H a [.str (kT k), t] ∧ Q (.bl (p k)) H
theorem any_great (k : Nw.Kd) : ((("GDR" : Str)).cps.toList.any fun c => decide (V.str (kT k) = V.str ⟨#[c]⟩)) = k.great := by cases k <;> decide +kernel
theorem any_small (k : Nw.Kd) : ((("sdr" : Str)).cps.toList.any fun c => decide (V.str (kT k) = V.str ⟨#[c]⟩)) = k.small := by cases k <;> decide +kernel
theorem any_parting (k : Nw.Kd) : (((".32" : Str)).cps.toList.any fun c => decide (V.str (kT k) = V.str ⟨#[c]⟩)) = k.parting := by cases k <;> decide +kernel
theorem ok_great {f fW : Addr} {fd fdW : FuncData} {tk : Tok} (F : Fun K "great" "great" s_great f fd) (D_within : DefAt K mg "within" fW fdW ["kind", "letters"]) (G_within : FnOk P w K mg base CX0 1 fW fdW ["kind", "letters"] sp_within) (g_GREAT : mg "GREAT" = some (.str "GDR" tk)) : FnOk P w K mg base CX0 2 f fd ["sign"] (sp_kd Nw.Kd.great K) := by
  refine F.ok sc_great (fun vs H Q E h => ?_) (fun cdv A outer s H vs Q E hr h => ?_)
  · obtain ⟨a, k, t, rfl, _⟩ := h
    rfl
  · obtain ⟨a, k, t, rfl, hS, q⟩ := h
    refine ⟨_, (pss_one (ps_ret (pe_call G_within (hr.mono (by decide)) (by rfl) D_within.g D_within.kp D_within.b .nil pass0 (pa_cons (pe_ix ix_tup (pv 0) pe_int (fun _ _ => rfl)) (pa_cons (pe_glob (v := .str "GDR") rfl g_GREAT ⟨_, rfl⟩) pa_nil))))), ?_⟩
    refine ⟨.ref a, rfl, a, _, 0, _, rfl, rfl, hS, atI_nat (j := 0) rfl, _, _, rfl, ?_⟩
    rw [any_great]
    exact q
theorem ok_small {f fW : Addr} {fd fdW : FuncData} {tk : Tok} (F : Fun K "small" "small" s_small f fd) (D_within : DefAt K mg "within" fW fdW ["kind", "letters"]) (G_within : FnOk P w K mg base CX0 1 fW fdW ["kind", "letters"] sp_within) (g_SMALL : mg "SMALL" = some (.str "sdr" tk)) : FnOk P w K mg base CX0 2 f fd ["sign"] (sp_kd Nw.Kd.small K) := by
  refine F.ok sc_small (fun vs H Q E h => ?_) (fun cdv A outer s H vs Q E hr h => ?_)
  · obtain ⟨a, k, t, rfl, _⟩ := h
    rfl
  · obtain ⟨a, k, t, rfl, hS, q⟩ := h
    refine ⟨_, (pss_one (ps_ret (pe_call G_within (hr.mono (by decide)) (by rfl) D_within.g D_within.kp D_within.b .nil pass0 (pa_cons (pe_ix ix_tup (pv 0) pe_int (fun _ _ => rfl)) (pa_cons (pe_glob (v := .str "sdr") rfl g_SMALL ⟨_, rfl⟩) pa_nil))))), ?_⟩
    refine ⟨.ref a, rfl, a, _, 0, _, rfl, rfl, hS, atI_nat (j := 0) rfl, _, _, rfl, ?_⟩
    rw [any_small]
    exact q
theorem ok_parting {f fW : Addr} {fd fdW : FuncData} {tk : Tok} (F : Fun K "parting" "parting" s_parting f fd) (D_within : DefAt K mg "within" fW fdW ["kind", "letters"]) (G_within : FnOk P w K mg base CX0 1 fW fdW ["kind", "letters"] sp_within) (g_PARTING : mg "PARTING" = some (.str ".32" tk)) : FnOk P w K mg base CX0 2 f fd ["sign"] (sp_kd Nw.Kd.parting K) := by
  refine F.ok sc_parting (fun vs H Q E h => ?_) (fun cdv A outer s H vs Q E hr h => ?_)
  · obtain ⟨a, k, t, rfl, _⟩ := h
    rfl
  · obtain ⟨a, k, t, rfl, hS, q⟩ := h
    refine ⟨_, (pss_one (ps_ret (pe_call G_within (hr.mono (by decide)) (by rfl) D_within.g D_within.kp D_within.b .nil pass0 (pa_cons (pe_ix ix_tup (pv 0) pe_int (fun _ _ => rfl)) (pa_cons (pe_glob (v := .str ".32") rfl g_PARTING ⟨_, rfl⟩) pa_nil))))), ?_⟩
    refine ⟨.ref a, rfl, a, _, 0, _, rfl, rfl, hS, atI_nat (j := 0) rfl, _, _, rfl, ?_⟩
    rw [any_parting]
    exact q
/-! ### kinds compared with letters -/
theorem eq_G (k : Nw.Kd) : decide (V.str (kT k) = V.str "G") = decide (k = .G) := by cases k <;> decide +kernel
theorem eq_D (k : Nw.Kd) : decide (V.str (kT k) = V.str "D") = decide (k = .D) := by cases k <;> decide +kernel
theorem eq_R (k : Nw.Kd) : decide (V.str (kT k) = V.str "R") = decide (k = .R) := by cases k <;> decide +kernel
theorem eq_s (k : Nw.Kd) : decide (V.str (kT k) = V.str "s") = decide (k = .s) := by cases k <;> decide +kernel
theorem eq_d (k : Nw.Kd) : decide (V.str (kT k) = V.str "d") = decide (k = .d) := by cases k <;> decide +kernel
theorem eq_dot (k : Nw.Kd) : decide (V.str (kT k) = V.str ".") = decide (k = .dot) := by cases k <;> decide +kernel
theorem eq_m3 (k : Nw.Kd) : decide (V.str (kT k) = V.str "3") = decide (k = .m3) := by cases k <;> decide +kernel
theorem eq_m2 (k : Nw.Kd) : decide (V.str (kT k) = V.str "2") = decide (k = .m2) := by cases k <;> decide +kernel
theorem ok_measuring {f : Addr} {fd : FuncData} (F : Fun K "measuring" "measuring" s_measuring f fd) : FnOk P w K mg base CX0 1 f fd ["sign"] (sp_kd Nw.Kd.measuring K) := by
  refine F.ok sc_measuring (fun vs H Q E h => ?_) (fun cdv A outer s H vs Q E hr h => ?_)
  · obtain ⟨a, k, t, rfl, _⟩ := h
    rfl
  · obtain ⟨a, k, t, rfl, hS, q⟩ := h
    refine ⟨_, (pss_one (ps_ret (pe_or (pe_cmpR op_eq (pe_ix ix_tup (pv 0) pe_int (fun _ _ => rfl)) pe_str (nomark _)) (pe_one (pe_cmpR op_eq (pe_ix ix_tup (pv 0) pe_int (fun _ _ => rfl)) pe_str (nomark _)))))), ?_⟩
    refine ⟨.ref a, rfl, a, _, 0, _, rfl, rfl, hS, atI_nat (j := 0) rfl, rfl, _, rfl, ite2 (fun e => ?_) (fun e => ?_)⟩
    · rw [eq_m3] at e
      have := of_decide_eq_true e
      subst this
      exact q
    · refine ⟨.ref a, rfl, a, _, 0, _, rfl, rfl, hS, atI_nat (j := 0) rfl, rfl, ?_⟩
      rw [eq_m3] at e
      rw [eq_m2]
      have h3 : ¬ k = .m3 := by simpa using e
      have e2 : decide (k = .m2) = k.measuring := by revert h3; cases k <;> decide
      rw [e2]
      exact q
end
end Nt
namespace Nt
open PySem PySem.Spec PyProof.Rows L2
section
variable {P : Program} {w : World} {K : PySem.W.Frag} {mg : Str → Option Value} {base : Heap}
def sp_sign_price (K : PySem.W.Frag) : Sp := fun vs H Q _ => ∃ (a b : Addr) (k : Nw.Kd) (t : V) (p : Nw.Pr), vs = [.ref a, .ref b] ∧ SqT K H a [.str (kT k), t] ∧ SqT K H b [oV p.dot, oV p.dk, oV p.ms] ∧ Q (oV (Nw.signPrice k p)) H
theorem ok_sign_price {f fM : Addr} {fd fdM : FuncData} (F : Fun K "sign_price" "sign_price" s_sign_price f fd) (D_measuring : DefAt K mg "measuring" fM fdM ["sign"]) (G_measuring : FnOk P w K mg base CX0 1 fM fdM ["sign"] (sp_kd Nw.Kd.measuring K)) : FnOk P w K mg base CX0 2 f fd ["sign", "prices"] (sp_sign_price K) := by
  refine F.ok sc_sign_price (fun vs H Q E h => ?_) (fun cdv A outer s H vs Q E hr h => ?_)
  · obtain ⟨a, b, k, t, p, rfl, _⟩ := h
    rfl
  · obtain ⟨a, b, k, t, p, rfl, hS, hP, q⟩ := h
    refine ⟨_, (pss_cons (ps_if (pt_cmpR op_eq (pe_ix ix_tup (pv 0) pe_int (fun _ _ => rfl)) pe_str (nomark _))
        (pss_one (ps_ret (pe_ix ix_tup (pv 1) pe_int (fun _ _ => rfl))))
        pss_nil)
      (pss_cons (ps_if (PW.pt (pw_or (pt_cmpR op_eq (pe_ix ix_tup (pv 0) pe_int (fun _ _ => rfl)) pe_str (nomark _)) (pw_or1 (pt_cmpR op_eq (pe_ix ix_tup (pv 0) pe_int (fun _ _ => rfl)) pe_str (nomark _)))))
        (pss_one (ps_ret (pe_ix ix_tup (pv 1) pe_int (fun _ _ => rfl))))
        pss_nil)
      (pss_cons (ps_if (pt_val (pe_call G_measuring (hr.mono (by decide)) (by rfl) D_measuring.g D_measuring.kp D_measuring.b .nil pass0 (pa_cons (pv 0) pa_nil)))
        (pss_one (ps_ret (pe_ix ix_tup (pv 1) pe_int (fun _ _ => rfl))))
        pss_nil)
      (pss_one (ps_ret pe_int))))), ?_⟩
    refine ⟨.ref a, rfl, a, _, 0, _, rfl, rfl, hS, atI_nat (j := 0) rfl, rfl, _, rfl, ite2 (fun e => ?_) (fun e => ?_)⟩
    · rw [eq_dot] at e
      have := of_decide_eq_true e
      subst this
      exact ⟨.ref b, rfl, b, _, 0, _, rfl, rfl, hP, atI_nat (j := 0) rfl, q⟩
    · rw [eq_dot] at e
      have n1 : ¬ k = .dot := by simpa using e
      refine ⟨.ref a, rfl, a, _, 0, _, rfl, rfl, hS, atI_nat (j := 0) rfl, rfl, _, rfl, ite2 (fun e => ?_) (fun e => ?_)⟩
      · rw [eq_D] at e
        have := of_decide_eq_true e
        subst this
        exact iteT ⟨.ref b, rfl, b, _, 1, _, rfl, rfl, hP, atI_nat (j := 1) rfl, q⟩
      · rw [eq_D] at e
        have n2 : ¬ k = .D := by simpa using e
        refine ⟨.ref a, rfl, a, _, 0, _, rfl, rfl, hS, atI_nat (j := 0) rfl, rfl, _, rfl, ite2 (fun e => ?_) (fun e => ?_)⟩
        · rw [eq_d] at e
          have := of_decide_eq_true e
          subst this
          exact ⟨.ref b, rfl, b, _, 1, _, rfl, rfl, hP, atI_nat (j := 1) rfl, q⟩
        · rw [eq_d] at e
          have n3 : ¬ k = .d := by simpa using e
          refine ⟨.ref a, rfl, a, k, t, rfl, hS, _, rfl, ite2 (fun e => ?_) (fun e => ?_)⟩
          · refine ⟨.ref b, rfl, b, _, 2, _, rfl, rfl, hP, atI_nat (j := 2) rfl, ?_⟩
            rw [show Nw.signPrice k p = p.ms by simp [Nw.signPrice, n1, n2, n3, e]] at q
            exact q
          · rw [show Nw.signPrice k p = some 0 by simp [Nw.signPrice, n1, n2, n3, e]] at q
            exact q
def sp_begin_state : Sp := fun vs H Q _ => ∃ b : Int, vs = [.int b] ∧ Q (.str (qT (Nw.beginState b))) H
theorem ok_begin_state {f : Addr} {fd : FuncData} (F : FunD K "begin_state" "begin_state" (defArgs s_begin_state) (defBody s_begin_state) (defScope s_begin_state) [.int 3] [] f fd) : FnOk P w K mg base CX0 1 f fd ["begin"] sp_begin_state := by
  refine F.ok sc_begin_state (fun vs H Q E h => ?_) (fun cdv A outer s H vs Q E hr h => ?_)
  · obtain ⟨b, rfl, _⟩ := h
    rfl
  · obtain ⟨b, rfl, q⟩ := h
    refine ⟨_, PSs.nox (pss_cons (ps_if (pt_cmpR op_eq (pv 0) pe_int (nomark _))
        (pss_one (ps_ret pe_str))
        pss_nil)
      (pss_one (ps_ret pe_str))), ?_⟩
    refine ⟨.int b, rfl, rfl, _, rfl, ite2 (fun e => ?_) (fun e => ?_)⟩
    · have : b = 2 := by simpa using e
      subst this
      have e2 : qT (Nw.beginState 2) = "2-" := by decide +kernel
      rw [e2] at q
      exact q
    · have : ¬ b = 2 := by simpa using e
      have e2 : qT (Nw.beginState b) = "3n0-" := by
        unfold Nw.beginState
        rw [if_neg this]
        decide +kernel
      rw [e2] at q
      exact q
def oW : Option Nw.Way → V
  | none => .non
  | some .go => .str "go"
  | some .ahead => .str "ahead"
theorem eqL_h (l : Nw.Lf) : decide (V.str ⟨#[cpL l]⟩ = V.str "h") = decide (l = .h) := by cases l <;> decide +kernel
theorem eqL_t (l : Nw.Lf) : decide (V.str ⟨#[cpL l]⟩ = V.str "t") = decide (l = .t) := by cases l <;> decide +kernel
theorem eqL_n (l : Nw.Lf) : decide (V.str ⟨#[cpL l]⟩ = V.str "n") = decide (l = .n) := by cases l <;> decide +kernel
theorem eqC_0 (c : Nw.Ct) : decide (V.str ⟨#[cpC c]⟩ = V.str "0") = decide (c = .c0) := by cases c <;> decide +kernel
theorem eqC_1 (c : Nw.Ct) : decide (V.str ⟨#[cpC c]⟩ = V.str "1") = decide (c = .c1) := by cases c <;> decide +kernel
theorem eqA_S (a : Nw.La) : decide (V.str ⟨#[cpA a]⟩ = V.str "S") = decide (a = .S) := by cases a <;> decide +kernel
theorem eqA_o (a : Nw.La) : decide (V.str ⟨#[cpA a]⟩ = V.str "o") = decide (a = .o) := by cases a <;> decide +kernel
theorem dec_eq_int (i j : Int) : decide (V.int i = V.int j) = decide (i = j) := by
  by_cases h : i = j
  · subst h; simp
  · rw [decide_eq_false h, decide_eq_false (fun z => h (V.int.inj z))]
theorem len4 {l : Nw.Lf} {c : Nw.Ct} {a : Nw.La} : (qT (.three l c a)).length ≤ sizeLine := by
  show 4 ≤ sizeLine
  decide
def sp_closed_by (K : PySem.W.Frag) : Sp := fun vs H Q _ => ∃ (b : Addr) (l : Nw.Lf) (c : Nw.Ct) (a : Nw.La) (k : Nw.Kd) (t : V) (u : Int), vs = [.str (qT (.three l c a)), .ref b, .int u] ∧ SqT K H b [.str (kT k), t] ∧ Q (oW (Nw.closedBy l c a k u)) H
theorem ok_closed_by {f fG : Addr} {fd fdG : FuncData} (F : Fun K "closed_by" "closed_by" s_closed_by f fd) (D_great : DefAt K mg "great" fG fdG ["sign"]) (G_great : FnOk P w K mg base CX0 2 fG fdG ["sign"] (sp_kd Nw.Kd.great K)) : FnOk P w K mg base CX0 3 f fd ["state", "sign", "worth"] (sp_closed_by K) := by
  refine F.ok sc_closed_by (fun vs H Q E h => ?_) (fun cdv A outer s H vs Q E hr h => ?_)
  · obtain ⟨b, l, c, a, k, t, u, rfl, _⟩ := h
    rfl
  · obtain ⟨b, l, c, a, k, t, u, rfl, hS, q⟩ := h
    have goGo : Nw.closedBy l c a k u = some .go → Q (.str "go") H := fun e => by rw [e] at q; exact q
    have goAhead : Nw.closedBy l c a k u = some .ahead → Q (.str "ahead") H := fun e => by rw [e] at q; exact q
    have goNone : Nw.closedBy l c a k u = none → Q .non H := fun e => by rw [e] at q; exact q
    refine ⟨_, (pss_cons (ps_set (i := 3) sc_closed_by.nd rfl (.inl rfl) (pe_ix ix_str (pv 0) pe_int (fun _ _ => rfl)))
      (pss_cons (ps_set (i := 4) sc_closed_by.nd rfl (.inl rfl) (pe_and (pe_cmpR op_eq (pe_ix ix_tup (pv 1) pe_int (fun _ _ => rfl)) pe_str (nomark _)) (pe_one (pe_cmpR op_eq (pv 2) pe_int (nomark _)))))
      (pss_cons (ps_if (pt_cmpR op_eq (pe_ix ix_str (pv 0) pe_int (fun _ _ => rfl)) pe_str (nomark _))
        (pss_cons (ps_if (PW.pt (pw_or (pt_cmpR op_eq (pv 3) pe_str (nomark _)) (pw_or1 (PW.pt (pw_and (pt_cmpR op_eq (pv 3) pe_str (nomark _)) (pw_and1 (pt_val (pe_call G_great (hr.mono (by decide)) (by rfl) D_great.g D_great.kp D_great.b .nil pass0 (pa_cons (pv 1) pa_nil)))))))))
          (pss_one (ps_ret pe_non))
          pss_nil)
        (pss_one (ps_ret pe_str)))
        pss_nil)
      (pss_cons (ps_if (pt_cmpR op_eq (pe_ix ix_str (pv 0) pe_int (fun _ _ => rfl)) pe_str (nomark _))
        (pss_cons (ps_if (pt_cmpR op_eq (pv 3) pe_str (nomark _))
          (pss_one (ps_ret pe_str))
          pss_nil)
        (pss_cons (ps_if (PW.pt (pw_and (pt_cmpR op_eq (pv 3) pe_str (nomark _)) (pw_and1 (pt_val (pv 4)))))
          (pss_one (ps_ret pe_str))
          pss_nil)
        (pss_one (ps_ret pe_non))))
        pss_nil)
      (pss_cons (ps_if (pt_not (pt_val (pe_call G_great (hr.mono (by decide)) (by rfl) D_great.g D_great.kp D_great.b .nil pass0 (pa_cons (pv 1) pa_nil))))
        (pss_one (ps_ret pe_non))
        pss_nil)
      (pss_cons (ps_if (PW.pt (pw_and (pt_cmpR op_eq (pe_ix ix_str (pv 0) pe_int (fun _ _ => rfl)) pe_str (nomark _)) (pw_and1 (pt_cmpR op_ne (pv 3) pe_str (nomark _)))))
        (pss_one (ps_ret pe_str))
        pss_nil)
      (pss_cons (ps_if (PW.pt (pw_and (pt_cmpR op_eq (pe_ix ix_str (pv 0) pe_int (fun _ _ => rfl)) pe_str (nomark _)) (pw_and (pt_cmpR op_eq (pv 3) pe_str (nomark _)) (pw_and1 (pt_val (pv 4))))))
        (pss_one (ps_ret pe_str))
        pss_nil)
      (pss_one (ps_ret pe_non))))))))), ?_⟩
    refine ⟨_, rfl, _, _, _, rfl, rfl, len4, atI_nat (j := 1) rfl, ?_⟩
    refine ⟨_, rfl, _, _, _, _, rfl, rfl, hS, atI_nat (j := 0) rfl, rfl, _, rfl, ite2 (fun e1 => ?_) (fun e1 => ?_)⟩
    · refine ⟨_, rfl, rfl, ?_⟩
      refine ⟨_, rfl, _, _, _, rfl, rfl, len4, atI_nat (j := 2) rfl, rfl, _, rfl, ite2 (fun e2 => ?_) (fun e2 => ?_)⟩
      · refine ⟨_, rfl, rfl, _, rfl, ite2 (fun e3 => ?_) (fun e3 => ?_)⟩
        · refine iteT ?_
          exact goNone (by (simp only [eq_G, eq_D, eq_R, eq_s, eq_d, eq_dot, eq_m3, eq_m2, eqL_h, eqL_t, eqL_n, eqC_0, eqC_1, eqA_S, eqA_o, dec_eq_int, decide_eq_true_eq, Bool.not_eq_true', decide_eq_false_iff_not, Bool.false_eq_true, not_false_eq_true] at e1 e2 e3) <;> (cases c <;> grind [Nw.closedBy, Nw.Kd.great]))
        · refine ⟨_, rfl, rfl, _, rfl, ite2 (fun e4 => ?_) (fun e4 => ?_)⟩
          · refine ⟨_, rfl, b, k, t, rfl, hS, _, rfl, ite2 (fun e5 => ?_) (fun e5 => ?_)⟩
            · exact goNone (by (simp only [eq_G, eq_D, eq_R, eq_s, eq_d, eq_dot, eq_m3, eq_m2, eqL_h, eqL_t, eqL_n, eqC_0, eqC_1, eqA_S, eqA_o, dec_eq_int, decide_eq_true_eq, Bool.not_eq_true', decide_eq_false_iff_not, Bool.false_eq_true, not_false_eq_true] at e1 e2 e3 e4 e5) <;> (cases c <;> grind [Nw.closedBy, Nw.Kd.great]))
            · exact goGo (by (simp only [eq_G, eq_D, eq_R, eq_s, eq_d, eq_dot, eq_m3, eq_m2, eqL_h, eqL_t, eqL_n, eqC_0, eqC_1, eqA_S, eqA_o, dec_eq_int, decide_eq_true_eq, Bool.not_eq_true', decide_eq_false_iff_not, Bool.false_eq_true, not_false_eq_true] at e1 e2 e3 e4 e5) <;> (cases c <;> grind [Nw.closedBy, Nw.Kd.great]))
          · refine iteF ?_
            exact goGo (by (simp only [eq_G, eq_D, eq_R, eq_s, eq_d, eq_dot, eq_m3, eq_m2, eqL_h, eqL_t, eqL_n, eqC_0, eqC_1, eqA_S, eqA_o, dec_eq_int, decide_eq_true_eq, Bool.not_eq_true', decide_eq_false_iff_not, Bool.false_eq_true, not_false_eq_true] at e1 e2 e3 e4) <;> (cases c <;> grind [Nw.closedBy, Nw.Kd.great]))
      · refine ⟨_, rfl, _, _, _, rfl, rfl, len4, atI_nat (j := 2) rfl, rfl, _, rfl, ite2 (fun e6 => ?_) (fun e6 => ?_)⟩
        · refine ⟨_, rfl, rfl, _, rfl, ite2 (fun e7 => ?_) (fun e7 => ?_)⟩
          · exact goGo (by (simp only [eq_G, eq_D, eq_R, eq_s, eq_d, eq_dot, eq_m3, eq_m2, eqL_h, eqL_t, eqL_n, eqC_0, eqC_1, eqA_S, eqA_o, dec_eq_int, decide_eq_true_eq, Bool.not_eq_true', decide_eq_false_iff_not, Bool.false_eq_true, not_false_eq_true] at e1 e2 e6 e7) <;> (cases c <;> grind [Nw.closedBy, Nw.Kd.great]))
          · refine ⟨_, rfl, rfl, _, rfl, ite2 (fun e8 => ?_) (fun e8 => ?_)⟩
            · refine ⟨_, rfl, _, rfl, ite2 (fun e9 => ?_) (fun e9 => ?_)⟩
              · exact goAhead (by (simp only [eq_G, eq_D, eq_R, eq_s, eq_d, eq_dot, eq_m3, eq_m2, eqL_h, eqL_t, eqL_n, eqC_0, eqC_1, eqA_S, eqA_o, dec_eq_int, decide_eq_true_eq, Bool.not_eq_true', decide_eq_false_iff_not, Bool.false_eq_true, not_false_eq_true] at e1 e2 e6 e7 e8 e9) <;> (cases c <;> grind [Nw.closedBy, Nw.Kd.great]))
              · exact goNone (by (simp only [eq_G, eq_D, eq_R, eq_s, eq_d, eq_dot, eq_m3, eq_m2, eqL_h, eqL_t, eqL_n, eqC_0, eqC_1, eqA_S, eqA_o, dec_eq_int, decide_eq_true_eq, Bool.not_eq_true', decide_eq_false_iff_not, Bool.false_eq_true, not_false_eq_true] at e1 e2 e6 e7 e8 e9) <;> (cases c <;> grind [Nw.closedBy, Nw.Kd.great]))
            · refine iteF ?_
              exact goNone (by (simp only [eq_G, eq_D, eq_R, eq_s, eq_d, eq_dot, eq_m3, eq_m2, eqL_h, eqL_t, eqL_n, eqC_0, eqC_1, eqA_S, eqA_o, dec_eq_int, decide_eq_true_eq, Bool.not_eq_true', decide_eq_false_iff_not, Bool.false_eq_true, not_false_eq_true] at e1 e2 e6 e7 e8) <;> (cases c <;> grind [Nw.closedBy, Nw.Kd.great]))
        · refine ⟨_, rfl, b, k, t, rfl, hS, _, rfl, ite2 (fun e10 => ?_) (fun e10 => ?_)⟩
          · exact goNone (by (simp only [eq_G, eq_D, eq_R, eq_s, eq_d, eq_dot, eq_m3, eq_m2, eqL_h, eqL_t, eqL_n, eqC_0, eqC_1, eqA_S, eqA_o, dec_eq_int, decide_eq_true_eq, Bool.not_eq_true', decide_eq_false_iff_not, Bool.false_eq_true, not_false_eq_true] at e1 e2 e6 e10) <;> (cases c <;> grind [Nw.closedBy, Nw.Kd.great]))
          · refine ⟨_, rfl, _, _, _, rfl, rfl, len4, atI_nat (j := 3) rfl, rfl, _, rfl, ite2 (fun e11 => ?_) (fun e11 => ?_)⟩
            · refine ⟨_, rfl, rfl, _, rfl, ite2 (fun e12 => ?_) (fun e12 => ?_)⟩
              · exact goGo (by (simp only [eq_G, eq_D, eq_R, eq_s, eq_d, eq_dot, eq_m3, eq_m2, eqL_h, eqL_t, eqL_n, eqC_0, eqC_1, eqA_S, eqA_o, dec_eq_int, decide_eq_true_eq, Bool.not_eq_true', decide_eq_false_iff_not, Bool.false_eq_true, not_false_eq_true] at e1 e2 e6 e10 e11 e12) <;> (cases c <;> grind [Nw.closedBy, Nw.Kd.great]))
              · refine ⟨_, rfl, _, _, _, rfl, rfl, len4, atI_nat (j := 3) rfl, rfl, _, rfl, ite2 (fun e13 => ?_) (fun e13 => ?_)⟩
                · refine ⟨_, rfl, rfl, _, rfl, ite2 (fun e14 => ?_) (fun e14 => ?_)⟩
                  · refine ⟨_, rfl, _, rfl, ite2 (fun e15 => ?_) (fun e15 => ?_)⟩
                    · exact goAhead (by (simp only [eq_G, eq_D, eq_R, eq_s, eq_d, eq_dot, eq_m3, eq_m2, eqL_h, eqL_t, eqL_n, eqC_0, eqC_1, eqA_S, eqA_o, dec_eq_int, decide_eq_true_eq, Bool.not_eq_true', decide_eq_false_iff_not, Bool.false_eq_true, not_false_eq_true] at e1 e2 e6 e10 e11 e12 e13 e14 e15) <;> (cases c <;> grind [Nw.closedBy, Nw.Kd.great]))
                    · exact goNone (by (simp only [eq_G, eq_D, eq_R, eq_s, eq_d, eq_dot, eq_m3, eq_m2, eqL_h, eqL_t, eqL_n, eqC_0, eqC_1, eqA_S, eqA_o, dec_eq_int, decide_eq_true_eq, Bool.not_eq_true', decide_eq_false_iff_not, Bool.false_eq_true, not_false_eq_true] at e1 e2 e6 e10 e11 e12 e13 e14 e15) <;> (cases c <;> grind [Nw.closedBy, Nw.Kd.great]))
                  · refine iteF ?_
                    exact goNone (by (simp only [eq_G, eq_D, eq_R, eq_s, eq_d, eq_dot, eq_m3, eq_m2, eqL_h, eqL_t, eqL_n, eqC_0, eqC_1, eqA_S, eqA_o, dec_eq_int, decide_eq_true_eq, Bool.not_eq_true', decide_eq_false_iff_not, Bool.false_eq_true, not_false_eq_true] at e1 e2 e6 e10 e11 e12 e13 e14) <;> (cases c <;> grind [Nw.closedBy, Nw.Kd.great]))
                · refine iteF ?_
                  exact goNone (by (simp only [eq_G, eq_D, eq_R, eq_s, eq_d, eq_dot, eq_m3, eq_m2, eqL_h, eqL_t, eqL_n, eqC_0, eqC_1, eqA_S, eqA_o, dec_eq_int, decide_eq_true_eq, Bool.not_eq_true', decide_eq_false_iff_not, Bool.false_eq_true, not_false_eq_true] at e1 e2 e6 e10 e11 e12 e13) <;> (cases c <;> grind [Nw.closedBy, Nw.Kd.great]))
            · refine iteF ?_
              refine ⟨_, rfl, _, _, _, rfl, rfl, len4, atI_nat (j := 3) rfl, rfl, _, rfl, ite2 (fun e16 => ?_) (fun e16 => ?_)⟩
              · refine ⟨_, rfl, rfl, _, rfl, ite2 (fun e17 => ?_) (fun e17 => ?_)⟩
                · refine ⟨_, rfl, _, rfl, ite2 (fun e18 => ?_) (fun e18 => ?_)⟩
                  · exact goAhead (by (simp only [eq_G, eq_D, eq_R, eq_s, eq_d, eq_dot, eq_m3, eq_m2, eqL_h, eqL_t, eqL_n, eqC_0, eqC_1, eqA_S, eqA_o, dec_eq_int, decide_eq_true_eq, Bool.not_eq_true', decide_eq_false_iff_not, Bool.false_eq_true, not_false_eq_true] at e1 e2 e6 e10 e11 e16 e17 e18) <;> (cases c <;> grind [Nw.closedBy, Nw.Kd.great]))
                  · exact goNone (by (simp only [eq_G, eq_D, eq_R, eq_s, eq_d, eq_dot, eq_m3, eq_m2, eqL_h, eqL_t, eqL_n, eqC_0, eqC_1, eqA_S, eqA_o, dec_eq_int, decide_eq_true_eq, Bool.not_eq_true', decide_eq_false_iff_not, Bool.false_eq_true, not_false_eq_true] at e1 e2 e6 e10 e11 e16 e17 e18) <;> (cases c <;> grind [Nw.closedBy, Nw.Kd.great]))
                · refine iteF ?_
                  exact goNone (by (simp only [eq_G, eq_D, eq_R, eq_s, eq_d, eq_dot, eq_m3, eq_m2, eqL_h, eqL_t, eqL_n, eqC_0, eqC_1, eqA_S, eqA_o, dec_eq_int, decide_eq_true_eq, Bool.not_eq_true', decide_eq_false_iff_not, Bool.false_eq_true, not_false_eq_true] at e1 e2 e6 e10 e11 e16 e17) <;> (cases c <;> grind [Nw.closedBy, Nw.Kd.great]))
              · refine iteF ?_
                exact goNone (by (simp only [eq_G, eq_D, eq_R, eq_s, eq_d, eq_dot, eq_m3, eq_m2, eqL_h, eqL_t, eqL_n, eqC_0, eqC_1, eqA_S, eqA_o, dec_eq_int, decide_eq_true_eq, Bool.not_eq_true', decide_eq_false_iff_not, Bool.false_eq_true, not_false_eq_true] at e1 e2 e6 e10 e11 e16) <;> (cases c <;> grind [Nw.closedBy, Nw.Kd.great]))
    · refine ⟨_, rfl, _, _, _, rfl, rfl, len4, atI_nat (j := 2) rfl, rfl, _, rfl, ite2 (fun e19 => ?_) (fun e19 => ?_)⟩
      · refine ⟨_, rfl, rfl, _, rfl, ite2 (fun e20 => ?_) (fun e20 => ?_)⟩
        · refine iteT ?_
          exact goNone (by (simp only [eq_G, eq_D, eq_R, eq_s, eq_d, eq_dot, eq_m3, eq_m2, eqL_h, eqL_t, eqL_n, eqC_0, eqC_1, eqA_S, eqA_o, dec_eq_int, decide_eq_true_eq, Bool.not_eq_true', decide_eq_false_iff_not, Bool.false_eq_true, not_false_eq_true] at e1 e19 e20) <;> (cases c <;> grind [Nw.closedBy, Nw.Kd.great]))
        · refine ⟨_, rfl, rfl, _, rfl, ite2 (fun e21 => ?_) (fun e21 => ?_)⟩
          · refine ⟨_, rfl, b, k, t, rfl, hS, _, rfl, ite2 (fun e22 => ?_) (fun e22 => ?_)⟩
            · exact goNone (by (simp only [eq_G, eq_D, eq_R, eq_s, eq_d, eq_dot, eq_m3, eq_m2, eqL_h, eqL_t, eqL_n, eqC_0, eqC_1, eqA_S, eqA_o, dec_eq_int, decide_eq_true_eq, Bool.not_eq_true', decide_eq_false_iff_not, Bool.false_eq_true, not_false_eq_true] at e1 e19 e20 e21 e22) <;> (cases c <;> grind [Nw.closedBy, Nw.Kd.great]))
            · exact goGo (by (simp only [eq_G, eq_D, eq_R, eq_s, eq_d, eq_dot, eq_m3, eq_m2, eqL_h, eqL_t, eqL_n, eqC_0, eqC_1, eqA_S, eqA_o, dec_eq_int, decide_eq_true_eq, Bool.not_eq_true', decide_eq_false_iff_not, Bool.false_eq_true, not_false_eq_true] at e1 e19 e20 e21 e22) <;> (cases c <;> grind [Nw.closedBy, Nw.Kd.great]))
          · refine iteF ?_
            exact goGo (by (simp only [eq_G, eq_D, eq_R, eq_s, eq_d, eq_dot, eq_m3, eq_m2, eqL_h, eqL_t, eqL_n, eqC_0, eqC_1, eqA_S, eqA_o, dec_eq_int, decide_eq_true_eq, Bool.not_eq_true', decide_eq_false_iff_not, Bool.false_eq_true, not_false_eq_true] at e1 e19 e20 e21) <;> (cases c <;> grind [Nw.closedBy, Nw.Kd.great]))
      · refine ⟨_, rfl, _, _, _, rfl, rfl, len4, atI_nat (j := 2) rfl, rfl, _, rfl, ite2 (fun e23 => ?_) (fun e23 => ?_)⟩
        · refine ⟨_, rfl, rfl, _, rfl, ite2 (fun e24 => ?_) (fun e24 => ?_)⟩
          · exact goGo (by (simp only [eq_G, eq_D, eq_R, eq_s, eq_d, eq_dot, eq_m3, eq_m2, eqL_h, eqL_t, eqL_n, eqC_0, eqC_1, eqA_S, eqA_o, dec_eq_int, decide_eq_true_eq, Bool.not_eq_true', decide_eq_false_iff_not, Bool.false_eq_true, not_false_eq_true] at e1 e19 e23 e24) <;> (cases c <;> grind [Nw.closedBy, Nw.Kd.great]))
          · refine ⟨_, rfl, rfl, _, rfl, ite2 (fun e25 => ?_) (fun e25 => ?_)⟩
            · refine ⟨_, rfl, _, rfl, ite2 (fun e26 => ?_) (fun e26 => ?_)⟩
              · exact goAhead (by (simp only [eq_G, eq_D, eq_R, eq_s, eq_d, eq_dot, eq_m3, eq_m2, eqL_h, eqL_t, eqL_n, eqC_0, eqC_1, eqA_S, eqA_o, dec_eq_int, decide_eq_true_eq, Bool.not_eq_true', decide_eq_false_iff_not, Bool.false_eq_true, not_false_eq_true] at e1 e19 e23 e24 e25 e26) <;> (cases c <;> grind [Nw.closedBy, Nw.Kd.great]))
              · exact goNone (by (simp only [eq_G, eq_D, eq_R, eq_s, eq_d, eq_dot, eq_m3, eq_m2, eqL_h, eqL_t, eqL_n, eqC_0, eqC_1, eqA_S, eqA_o, dec_eq_int, decide_eq_true_eq, Bool.not_eq_true', decide_eq_false_iff_not, Bool.false_eq_true, not_false_eq_true] at e1 e19 e23 e24 e25 e26) <;> (cases c <;> grind [Nw.closedBy, Nw.Kd.great]))
            · refine iteF ?_
              exact goNone (by (simp only [eq_G, eq_D, eq_R, eq_s, eq_d, eq_dot, eq_m3, eq_m2, eqL_h, eqL_t, eqL_n, eqC_0, eqC_1, eqA_S, eqA_o, dec_eq_int, decide_eq_true_eq, Bool.not_eq_true', decide_eq_false_iff_not, Bool.false_eq_true, not_false_eq_true] at e1 e19 e23 e24 e25) <;> (cases c <;> grind [Nw.closedBy, Nw.Kd.great]))
        · refine ⟨_, rfl, b, k, t, rfl, hS, _, rfl, ite2 (fun e27 => ?_) (fun e27 => ?_)⟩
          · exact goNone (by (simp only [eq_G, eq_D, eq_R, eq_s, eq_d, eq_dot, eq_m3, eq_m2, eqL_h, eqL_t, eqL_n, eqC_0, eqC_1, eqA_S, eqA_o, dec_eq_int, decide_eq_true_eq, Bool.not_eq_true', decide_eq_false_iff_not, Bool.false_eq_true, not_false_eq_true] at e1 e19 e23 e27) <;> (cases c <;> grind [Nw.closedBy, Nw.Kd.great]))
          · refine ⟨_, rfl, _, _, _, rfl, rfl, len4, atI_nat (j := 3) rfl, rfl, _, rfl, ite2 (fun e28 => ?_) (fun e28 => ?_)⟩
            · refine ⟨_, rfl, rfl, _, rfl, ite2 (fun e29 => ?_) (fun e29 => ?_)⟩
              · exact goGo (by (simp only [eq_G, eq_D, eq_R, eq_s, eq_d, eq_dot, eq_m3, eq_m2, eqL_h, eqL_t, eqL_n, eqC_0, eqC_1, eqA_S, eqA_o, dec_eq_int, decide_eq_true_eq, Bool.not_eq_true', decide_eq_false_iff_not, Bool.false_eq_true, not_false_eq_true] at e1 e19 e23 e27 e28 e29) <;> (cases c <;> grind [Nw.closedBy, Nw.Kd.great]))
              · refine ⟨_, rfl, _, _, _, rfl, rfl, len4, atI_nat (j := 3) rfl, rfl, _, rfl, ite2 (fun e30 => ?_) (fun e30 => ?_)⟩
                · refine ⟨_, rfl, rfl, _, rfl, ite2 (fun e31 => ?_) (fun e31 => ?_)⟩
                  · refine ⟨_, rfl, _, rfl, ite2 (fun e32 => ?_) (fun e32 => ?_)⟩
                    · exact goAhead (by (simp only [eq_G, eq_D, eq_R, eq_s, eq_d, eq_dot, eq_m3, eq_m2, eqL_h, eqL_t, eqL_n, eqC_0, eqC_1, eqA_S, eqA_o, dec_eq_int, decide_eq_true_eq, Bool.not_eq_true', decide_eq_false_iff_not, Bool.false_eq_true, not_false_eq_true] at e1 e19 e23 e27 e28 e29 e30 e31 e32) <;> (cases c <;> grind [Nw.closedBy, Nw.Kd.great]))
                    · exact goNone (by (simp only [eq_G, eq_D, eq_R, eq_s, eq_d, eq_dot, eq_m3, eq_m2, eqL_h, eqL_t, eqL_n, eqC_0, eqC_1, eqA_S, eqA_o, dec_eq_int, decide_eq_true_eq, Bool.not_eq_true', decide_eq_false_iff_not, Bool.false_eq_true, not_false_eq_true] at e1 e19 e23 e27 e28 e29 e30 e31 e32) <;> (cases c <;> grind [Nw.closedBy, Nw.Kd.great]))
                  · refine iteF ?_
                    exact goNone (by (simp only [eq_G, eq_D, eq_R, eq_s, eq_d, eq_dot, eq_m3, eq_m2, eqL_h, eqL_t, eqL_n, eqC_0, eqC_1, eqA_S, eqA_o, dec_eq_int, decide_eq_true_eq, Bool.not_eq_true', decide_eq_false_iff_not, Bool.false_eq_true, not_false_eq_true] at e1 e19 e23 e27 e28 e29 e30 e31) <;> (cases c <;> grind [Nw.closedBy, Nw.Kd.great]))
                · refine iteF ?_
                  exact goNone (by (simp only [eq_G, eq_D, eq_R, eq_s, eq_d, eq_dot, eq_m3, eq_m2, eqL_h, eqL_t, eqL_n, eqC_0, eqC_1, eqA_S, eqA_o, dec_eq_int, decide_eq_true_eq, Bool.not_eq_true', decide_eq_false_iff_not, Bool.false_eq_true, not_false_eq_true] at e1 e19 e23 e27 e28 e29 e30) <;> (cases c <;> grind [Nw.closedBy, Nw.Kd.great]))
            · refine iteF ?_
              refine ⟨_, rfl, _, _, _, rfl, rfl, len4, atI_nat (j := 3) rfl, rfl, _, rfl, ite2 (fun e33 => ?_) (fun e33 => ?_)⟩
              · refine ⟨_, rfl, rfl, _, rfl, ite2 (fun e34 => ?_) (fun e34 => ?_)⟩
                · refine ⟨_, rfl, _, rfl, ite2 (fun e35 => ?_) (fun e35 => ?_)⟩
                  · exact goAhead (by (simp only [eq_G, eq_D, eq_R, eq_s, eq_d, eq_dot, eq_m3, eq_m2, eqL_h, eqL_t, eqL_n, eqC_0, eqC_1, eqA_S, eqA_o, dec_eq_int, decide_eq_true_eq, Bool.not_eq_true', decide_eq_false_iff_not, Bool.false_eq_true, not_false_eq_true] at e1 e19 e23 e27 e28 e33 e34 e35) <;> (cases c <;> grind [Nw.closedBy, Nw.Kd.great]))
                  · exact goNone (by (simp only [eq_G, eq_D, eq_R, eq_s, eq_d, eq_dot, eq_m3, eq_m2, eqL_h, eqL_t, eqL_n, eqC_0, eqC_1, eqA_S, eqA_o, dec_eq_int, decide_eq_true_eq, Bool.not_eq_true', decide_eq_false_iff_not, Bool.false_eq_true, not_false_eq_true] at e1 e19 e23 e27 e28 e33 e34 e35) <;> (cases c <;> grind [Nw.closedBy, Nw.Kd.great]))
                · refine iteF ?_
                  exact goNone (by (simp only [eq_G, eq_D, eq_R, eq_s, eq_d, eq_dot, eq_m3, eq_m2, eqL_h, eqL_t, eqL_n, eqC_0, eqC_1, eqA_S, eqA_o, dec_eq_int, decide_eq_true_eq, Bool.not_eq_true', decide_eq_false_iff_not, Bool.false_eq_true, not_false_eq_true] at e1 e19 e23 e27 e28 e33 e34) <;> (cases c <;> grind [Nw.closedBy, Nw.Kd.great]))
              · refine iteF ?_
                exact goNone (by (simp only [eq_G, eq_D, eq_R, eq_s, eq_d, eq_dot, eq_m3, eq_m2, eqL_h, eqL_t, eqL_n, eqC_0, eqC_1, eqA_S, eqA_o, dec_eq_int, decide_eq_true_eq, Bool.not_eq_true', decide_eq_false_iff_not, Bool.false_eq_true, not_false_eq_true] at e1 e19 e23 e27 e28 e33) <;> (cases c <;> grind [Nw.closedBy, Nw.Kd.great]))
end
end Nt
namespace Nt
open PySem PySem.Spec PyProof.Rows L2
section
variable {P : Program} {w : World} {K : PySem.W.Frag} {mg : Str → Option Value} {base : Heap}
theorem eqW_none (z : Option Nw.Way) : decide (oW z = .non) = decide (z = none) := by rcases z with _ | _ | _ <;> decide +kernel
theorem eqW_ahead (z : Option Nw.Way) : decide (oW z = .str "ahead") = decide (z = some .ahead) := by rcases z with _ | _ | _ <;> decide +kernel
theorem scal_oW (z : Option Nw.Way) (x : Str) : scal (oW z) (.str x) = true := by rcases z with _ | _ | _ <;> rfl
theorem eq_qT (q q' : Nw.St) : decide (V.str (qT q) = V.str (qT q')) = decide (q = q') := by
  by_cases h : q = q'
  · subst h; simp
  · rw [decide_eq_false h, decide_eq_false (fun z => h (qT_inj (V.str.inj z)))]
theorem q_3t0_ : ("3t0-" : Str) = qT (.three .t .c0 .dash) := by decide +kernel
theorem q_3n0_ : ("3n0-" : Str) = qT (.three .n .c0 .dash) := by decide +kernel
theorem q_3w0_ : ("3w0-" : Str) = qT (.three .w .c0 .dash) := by decide +kernel
theorem q_3h0_ : ("3h0-" : Str) = qT (.three .h .c0 .dash) := by decide +kernel
theorem q_2_ : ("2-" : Str) = qT .two := by decide +kernel
theorem q_2g : ("2g" : Str) = qT .twog := by decide +kernel
theorem q_2G : ("2G" : Str) = qT .twoG := by decide +kernel
theorem eq_2G (q : Nw.St) : decide (V.str (qT q) = V.str "2G") = decide (q = .twoG) := by rw [q_2G, eq_qT]
theorem eq_2g (q : Nw.St) : decide (V.str (qT q) = V.str "2g") = decide (q = .twog) := by rw [q_2g, eq_qT]
def sp_great_step (K : PySem.W.Frag) : Sp := fun vs H Q _ => ∃ (b : Addr) (l : Nw.Lf) (c : Nw.Ct) (a : Nw.La) (k : Nw.Kd) (t : V) (u : Int), vs = [.str (qT (.three l c a)), .ref b, .int u] ∧ SqT K H b [.str (kT k), t] ∧ Q (oQ (Nw.greatStep l c a k u)) H
theorem ok_great_step {f fC : Addr} {fd fdC : FuncData} (F : Fun K "great_step" "great_step" s_great_step f fd) (D_closed_by : DefAt K mg "closed_by" fC fdC ["state", "sign", "worth"]) (G_closed_by : FnOk P w K mg base CX0 3 fC fdC ["state", "sign", "worth"] (sp_closed_by K)) : FnOk P w K mg base CX0 4 f fd ["state", "sign", "worth"] (sp_great_step K) := by
  refine F.ok sc_great_step (fun vs H Q E h => ?_) (fun cdv A outer s H vs Q E hr h => ?_)
  · obtain ⟨b, l, c, a, k, t, u, rfl, _⟩ := h
    rfl
  · obtain ⟨b, l, c, a, k, t, u, rfl, hS, q⟩ := h
    have go : ∀ z, Nw.greatStep l c a k u = z → Q (oQ z) H := fun z e => by rw [← e]; exact q
    have go' : ∀ {x : Str} {r : Nw.St}, x = qT r → Nw.greatStep l c a k u = some r → Q (.str x) H := fun e e2 => by rw [e]; exact go _ e2
    refine ⟨_, (pss_cons (ps_if (PW.pt (pw_and (pt_cmpR op_eq (pe_ix ix_tup (pv 1) pe_int (fun _ _ => rfl)) pe_str (nomark _)) (pw_and (pt_cmpR op_ne (pv 2) pe_int (nomark _)) (pw_and1 (pt_cmpR op_ne (pv 2) pe_int (nomark _))))))
        (pss_one (ps_ret pe_non))
        pss_nil)
      (pss_cons (ps_if (PW.pt (pw_or (PW.pt (pw_and (pt_cmpR op_eq (pe_ix ix_tup (pv 1) pe_int (fun _ _ => rfl)) pe_str (nomark _)) (pw_and1 (pt_cmpR op_ne (pv 2) pe_int (nomark _))))) (pw_or1 (PW.pt (pw_and (pt_cmpR op_eq (pe_ix ix_tup (pv 1) pe_int (fun _ _ => rfl)) pe_str (nomark _)) (pw_and1 (pt_cmpR op_ne (pv 2) pe_int (nomark _))))))))
        (pss_one (ps_ret pe_non))
        pss_nil)
      (pss_cons (ps_set (i := 3) sc_great_step.nd rfl (.inl rfl) (pe_call G_closed_by (hr.mono (by decide)) (by rfl) D_closed_by.g D_closed_by.kp D_closed_by.b .nil pass0 (pa_cons (pv 0) (pa_cons (pv 1) (pa_cons (pv 2) pa_nil)))))
      (pss_cons (ps_if (pt_cmpR op_isN (pv 3) pe_non (nomark _))
        (pss_one (ps_ret pe_non))
        pss_nil)
      (pss_cons (ps_if (pt_cmpR op_eq (pv 3) pe_str (nomark _))
        (pss_one (ps_ret pe_str))
        pss_nil)
      (pss_cons (ps_if (pt_cmpR op_ne (pe_ix ix_tup (pv 1) pe_int (fun _ _ => rfl)) pe_str (nomark _))
        (pss_one (ps_ret pe_str))
        pss_nil)
      (pss_cons (ps_if (pt_cmpR op_eq (pv 2) pe_int (nomark _))
        (pss_one (ps_ret pe_str))
        pss_nil)
      (pss_one (ps_ret pe_str))))))))), ?_⟩
    refine ⟨_, rfl, _, _, _, _, rfl, rfl, hS, atI_nat (j := 0) rfl, rfl, _, rfl, ite2 (fun e1 => ?_) (fun e1 => ?_)⟩
    · refine ⟨_, rfl, rfl, _, rfl, ite2 (fun e2 => ?_) (fun e2 => ?_)⟩
      · refine ⟨_, rfl, rfl, _, rfl, ite2 (fun e3 => ?_) (fun e3 => ?_)⟩
        · exact go none (by (try simp only [eq_G, eq_D, eq_R, eq_s, eq_d, eq_dot, eq_m3, eq_m2, eqL_h, eqL_t, eqL_n, eqC_0, eqC_1, eqA_S, eqA_o, dec_eq_int, eqW_none, eqW_ahead, eq_2G, eq_2g, decide_eq_true_eq, Bool.not_eq_true', decide_eq_false_iff_not, Bool.false_eq_true, not_false_eq_true] at e1 e2 e3) <;> (grind [Nw.greatStep]))
        · refine ⟨_, rfl, _, _, _, _, rfl, rfl, hS, atI_nat (j := 0) rfl, rfl, _, rfl, ite2 (fun e4 => ?_) (fun e4 => ?_)⟩
          · refine ⟨_, rfl, rfl, _, rfl, ite2 (fun e5 => ?_) (fun e5 => ?_)⟩
            · refine iteT ?_
              exact go none (by (try simp only [eq_G, eq_D, eq_R, eq_s, eq_d, eq_dot, eq_m3, eq_m2, eqL_h, eqL_t, eqL_n, eqC_0, eqC_1, eqA_S, eqA_o, dec_eq_int, eqW_none, eqW_ahead, eq_2G, eq_2g, decide_eq_true_eq, Bool.not_eq_true', decide_eq_false_iff_not, Bool.false_eq_true, not_false_eq_true] at e1 e2 e3 e4 e5) <;> (grind [Nw.greatStep]))
            · refine ⟨_, rfl, _, _, _, _, rfl, rfl, hS, atI_nat (j := 0) rfl, rfl, _, rfl, ite2 (fun e6 => ?_) (fun e6 => ?_)⟩
              · refine ⟨_, rfl, rfl, _, rfl, ite2 (fun e7 => ?_) (fun e7 => ?_)⟩
                · exact go none (by (try simp only [eq_G, eq_D, eq_R, eq_s, eq_d, eq_dot, eq_m3, eq_m2, eqL_h, eqL_t, eqL_n, eqC_0, eqC_1, eqA_S, eqA_o, dec_eq_int, eqW_none, eqW_ahead, eq_2G, eq_2g, decide_eq_true_eq, Bool.not_eq_true', decide_eq_false_iff_not, Bool.false_eq_true, not_false_eq_true] at e1 e2 e3 e4 e5 e6 e7) <;> (grind [Nw.greatStep]))
                · refine ⟨_, rfl, _, rfl, _, rfl, b, l, c, a, k, t, u, rfl, hS, ?_⟩
                  refine ⟨_, rfl, rfl, _, rfl, ite2 (fun e8 => ?_) (fun e8 => ?_)⟩
                  · exact go none (by (try simp only [eq_G, eq_D, eq_R, eq_s, eq_d, eq_dot, eq_m3, eq_m2, eqL_h, eqL_t, eqL_n, eqC_0, eqC_1, eqA_S, eqA_o, dec_eq_int, eqW_none, eqW_ahead, eq_2G, eq_2g, decide_eq_true_eq, Bool.not_eq_true', decide_eq_false_iff_not, Bool.false_eq_true, not_false_eq_true] at e1 e2 e3 e4 e5 e6 e7 e8) <;> (grind [Nw.greatStep]))
                  · refine ⟨_, rfl, scal_oW _ _, _, rfl, ite2 (fun e9 => ?_) (fun e9 => ?_)⟩
                    · exact go' (r := (.three .t .c0 .dash)) q_3t0_ (by (try simp only [eq_G, eq_D, eq_R, eq_s, eq_d, eq_dot, eq_m3, eq_m2, eqL_h, eqL_t, eqL_n, eqC_0, eqC_1, eqA_S, eqA_o, dec_eq_int, eqW_none, eqW_ahead, eq_2G, eq_2g, decide_eq_true_eq, Bool.not_eq_true', decide_eq_false_iff_not, Bool.false_eq_true, not_false_eq_true] at e1 e2 e3 e4 e5 e6 e7 e8 e9) <;> (grind [Nw.greatStep]))
                    · refine ⟨_, rfl, _, _, _, _, rfl, rfl, hS, atI_nat (j := 0) rfl, rfl, _, rfl, ite2 (fun e10 => ?_) (fun e10 => ?_)⟩
                      · exact go' (r := (.three .n .c0 .dash)) q_3n0_ (by (try simp only [eq_G, eq_D, eq_R, eq_s, eq_d, eq_dot, eq_m3, eq_m2, eqL_h, eqL_t, eqL_n, eqC_0, eqC_1, eqA_S, eqA_o, dec_eq_int, eqW_none, eqW_ahead, eq_2G, eq_2g, decide_eq_true_eq, Bool.not_eq_true', decide_eq_false_iff_not, Bool.false_eq_true, not_false_eq_true] at e1 e2 e3 e4 e5 e6 e7 e8 e9 e10) <;> (grind [Nw.greatStep]))
                      · refine ⟨_, rfl, rfl, _, rfl, ite2 (fun e11 => ?_) (fun e11 => ?_)⟩
                        · exact go' (r := (.three .w .c0 .dash)) q_3w0_ (by (try simp only [eq_G, eq_D, eq_R, eq_s, eq_d, eq_dot, eq_m3, eq_m2, eqL_h, eqL_t, eqL_n, eqC_0, eqC_1, eqA_S, eqA_o, dec_eq_int, eqW_none, eqW_ahead, eq_2G, eq_2g, decide_eq_true_eq, Bool.not_eq_true', decide_eq_false_iff_not, Bool.false_eq_true, not_false_eq_true] at e1 e2 e3 e4 e5 e6 e7 e8 e9 e10 e11) <;> (grind [Nw.greatStep]))
                        · exact go' (r := (.three .h .c0 .dash)) q_3h0_ (by (try simp only [eq_G, eq_D, eq_R, eq_s, eq_d, eq_dot, eq_m3, eq_m2, eqL_h, eqL_t, eqL_n, eqC_0, eqC_1, eqA_S, eqA_o, dec_eq_int, eqW_none, eqW_ahead, eq_2G, eq_2g, decide_eq_true_eq, Bool.not_eq_true', decide_eq_false_iff_not, Bool.false_eq_true, not_false_eq_true] at e1 e2 e3 e4 e5 e6 e7 e8 e9 e10 e11) <;> (grind [Nw.greatStep]))
              · refine iteF ?_
                refine ⟨_, rfl, _, rfl, _, rfl, b, l, c, a, k, t, u, rfl, hS, ?_⟩
                refine ⟨_, rfl, rfl, _, rfl, ite2 (fun e12 => ?_) (fun e12 => ?_)⟩
                · exact go none (by (try simp only [eq_G, eq_D, eq_R, eq_s, eq_d, eq_dot, eq_m3, eq_m2, eqL_h, eqL_t, eqL_n, eqC_0, eqC_1, eqA_S, eqA_o, dec_eq_int, eqW_none, eqW_ahead, eq_2G, eq_2g, decide_eq_true_eq, Bool.not_eq_true', decide_eq_false_iff_not, Bool.false_eq_true, not_false_eq_true] at e1 e2 e3 e4 e5 e6 e12) <;> (grind [Nw.greatStep]))
                · refine ⟨_, rfl, scal_oW _ _, _, rfl, ite2 (fun e13 => ?_) (fun e13 => ?_)⟩
                  · exact go' (r := (.three .t .c0 .dash)) q_3t0_ (by (try simp only [eq_G, eq_D, eq_R, eq_s, eq_d, eq_dot, eq_m3, eq_m2, eqL_h, eqL_t, eqL_n, eqC_0, eqC_1, eqA_S, eqA_o, dec_eq_int, eqW_none, eqW_ahead, eq_2G, eq_2g, decide_eq_true_eq, Bool.not_eq_true', decide_eq_false_iff_not, Bool.false_eq_true, not_false_eq_true] at e1 e2 e3 e4 e5 e6 e12 e13) <;> (grind [Nw.greatStep]))
                  · refine ⟨_, rfl, _, _, _, _, rfl, rfl, hS, atI_nat (j := 0) rfl, rfl, _, rfl, ite2 (fun e14 => ?_) (fun e14 => ?_)⟩
                    · exact go' (r := (.three .n .c0 .dash)) q_3n0_ (by (try simp only [eq_G, eq_D, eq_R, eq_s, eq_d, eq_dot, eq_m3, eq_m2, eqL_h, eqL_t, eqL_n, eqC_0, eqC_1, eqA_S, eqA_o, dec_eq_int, eqW_none, eqW_ahead, eq_2G, eq_2g, decide_eq_true_eq, Bool.not_eq_true', decide_eq_false_iff_not, Bool.false_eq_true, not_false_eq_true] at e1 e2 e3 e4 e5 e6 e12 e13 e14) <;> (grind [Nw.greatStep]))
                    · refine ⟨_, rfl, rfl, _, rfl, ite2 (fun e15 => ?_) (fun e15 => ?_)⟩
                      · exact go' (r := (.three .w .c0 .dash)) q_3w0_ (by (try simp only [eq_G, eq_D, eq_R, eq_s, eq_d, eq_dot, eq_m3, eq_m2, eqL_h, eqL_t, eqL_n, eqC_0, eqC_1, eqA_S, eqA_o, dec_eq_int, eqW_none, eqW_ahead, eq_2G, eq_2g, decide_eq_true_eq, Bool.not_eq_true', decide_eq_false_iff_not, Bool.false_eq_true, not_false_eq_true] at e1 e2 e3 e4 e5 e6 e12 e13 e14 e15) <;> (grind [Nw.greatStep]))
                      · exact go' (r := (.three .h .c0 .dash)) q_3h0_ (by (try simp only [eq_G, eq_D, eq_R, eq_s, eq_d, eq_dot, eq_m3, eq_m2, eqL_h, eqL_t, eqL_n, eqC_0, eqC_1, eqA_S, eqA_o, dec_eq_int, eqW_none, eqW_ahead, eq_2G, eq_2g, decide_eq_true_eq, Bool.not_eq_true', decide_eq_false_iff_not, Bool.false_eq_true, not_false_eq_true] at e1 e2 e3 e4 e5 e6 e12 e13 e14 e15) <;> (grind [Nw.greatStep]))
          · refine iteF ?_
            refine ⟨_, rfl, _, _, _, _, rfl, rfl, hS, atI_nat (j := 0) rfl, rfl, _, rfl, ite2 (fun e16 => ?_) (fun e16 => ?_)⟩
            · refine ⟨_, rfl, rfl, _, rfl, ite2 (fun e17 => ?_) (fun e17 => ?_)⟩
              · exact go none (by (try simp only [eq_G, eq_D, eq_R, eq_s, eq_d, eq_dot, eq_m3, eq_m2, eqL_h, eqL_t, eqL_n, eqC_0, eqC_1, eqA_S, eqA_o, dec_eq_int, eqW_none, eqW_ahead, eq_2G, eq_2g, decide_eq_true_eq, Bool.not_eq_true', decide_eq_false_iff_not, Bool.false_eq_true, not_false_eq_true] at e1 e2 e3 e4 e16 e17) <;> (grind [Nw.greatStep]))
              · refine ⟨_, rfl, _, rfl, _, rfl, b, l, c, a, k, t, u, rfl, hS, ?_⟩
                refine ⟨_, rfl, rfl, _, rfl, ite2 (fun e18 => ?_) (fun e18 => ?_)⟩
                · exact go none (by (try simp only [eq_G, eq_D, eq_R, eq_s, eq_d, eq_dot, eq_m3, eq_m2, eqL_h, eqL_t, eqL_n, eqC_0, eqC_1, eqA_S, eqA_o, dec_eq_int, eqW_none, eqW_ahead, eq_2G, eq_2g, decide_eq_true_eq, Bool.not_eq_true', decide_eq_false_iff_not, Bool.false_eq_true, not_false_eq_true] at e1 e2 e3 e4 e16 e17 e18) <;> (grind [Nw.greatStep]))
                · refine ⟨_, rfl, scal_oW _ _, _, rfl, ite2 (fun e19 => ?_) (fun e19 => ?_)⟩
                  · exact go' (r := (.three .t .c0 .dash)) q_3t0_ (by (try simp only [eq_G, eq_D, eq_R, eq_s, eq_d, eq_dot, eq_m3, eq_m2, eqL_h, eqL_t, eqL_n, eqC_0, eqC_1, eqA_S, eqA_o, dec_eq_int, eqW_none, eqW_ahead, eq_2G, eq_2g, decide_eq_true_eq, Bool.not_eq_true', decide_eq_false_iff_not, Bool.false_eq_true, not_false_eq_true] at e1 e2 e3 e4 e16 e17 e18 e19) <;> (grind [Nw.greatStep]))
                  · refine ⟨_, rfl, _, _, _, _, rfl, rfl, hS, atI_nat (j := 0) rfl, rfl, _, rfl, ite2 (fun e20 => ?_) (fun e20 => ?_)⟩
                    · exact go' (r := (.three .n .c0 .dash)) q_3n0_ (by (try simp only [eq_G, eq_D, eq_R, eq_s, eq_d, eq_dot, eq_m3, eq_m2, eqL_h, eqL_t, eqL_n, eqC_0, eqC_1, eqA_S, eqA_o, dec_eq_int, eqW_none, eqW_ahead, eq_2G, eq_2g, decide_eq_true_eq, Bool.not_eq_true', decide_eq_false_iff_not, Bool.false_eq_true, not_false_eq_true] at e1 e2 e3 e4 e16 e17 e18 e19 e20) <;> (grind [Nw.greatStep]))
                    · refine ⟨_, rfl, rfl, _, rfl, ite2 (fun e21 => ?_) (fun e21 => ?_)⟩
                      · exact go' (r := (.three .w .c0 .dash)) q_3w0_ (by (try simp only [eq_G, eq_D, eq_R, eq_s, eq_d, eq_dot, eq_m3, eq_m2, eqL_h, eqL_t, eqL_n, eqC_0, eqC_1, eqA_S, eqA_o, dec_eq_int, eqW_none, eqW_ahead, eq_2G, eq_2g, decide_eq_true_eq, Bool.not_eq_true', decide_eq_false_iff_not, Bool.false_eq_true, not_false_eq_true] at e1 e2 e3 e4 e16 e17 e18 e19 e20 e21) <;> (grind [Nw.greatStep]))
                      · exact go' (r := (.three .h .c0 .dash)) q_3h0_ (by (try simp only [eq_G, eq_D, eq_R, eq_s, eq_d, eq_dot, eq_m3, eq_m2, eqL_h, eqL_t, eqL_n, eqC_0, eqC_1, eqA_S, eqA_o, dec_eq_int, eqW_none, eqW_ahead, eq_2G, eq_2g, decide_eq_true_eq, Bool.not_eq_true', decide_eq_false_iff_not, Bool.false_eq_true, not_false_eq_true] at e1 e2 e3 e4 e16 e17 e18 e19 e20 e21) <;> (grind [Nw.greatStep]))
            · refine iteF ?_
              refine ⟨_, rfl, _, rfl, _, rfl, b, l, c, a, k, t, u, rfl, hS, ?_⟩
              refine ⟨_, rfl, rfl, _, rfl, ite2 (fun e22 => ?_) (fun e22 => ?_)⟩
              · exact go none (by (try simp only [eq_G, eq_D, eq_R, eq_s, eq_d, eq_dot, eq_m3, eq_m2, eqL_h, eqL_t, eqL_n, eqC_0, eqC_1, eqA_S, eqA_o, dec_eq_int, eqW_none, eqW_ahead, eq_2G, eq_2g, decide_eq_true_eq, Bool.not_eq_true', decide_eq_false_iff_not, Bool.false_eq_true, not_false_eq_true] at e1 e2 e3 e4 e16 e22) <;> (grind [Nw.greatStep]))
              · refine ⟨_, rfl, scal_oW _ _, _, rfl, ite2 (fun e23 => ?_) (fun e23 => ?_)⟩
                · exact go' (r := (.three .t .c0 .dash)) q_3t0_ (by (try simp only [eq_G, eq_D, eq_R, eq_s, eq_d, eq_dot, eq_m3, eq_m2, eqL_h, eqL_t, eqL_n, eqC_0, eqC_1, eqA_S, eqA_o, dec_eq_int, eqW_none, eqW_ahead, eq_2G, eq_2g, decide_eq_true_eq, Bool.not_eq_true', decide_eq_false_iff_not, Bool.false_eq_true, not_false_eq_true] at e1 e2 e3 e4 e16 e22 e23) <;> (grind [Nw.greatStep]))
                · refine ⟨_, rfl, _, _, _, _, rfl, rfl, hS, atI_nat (j := 0) rfl, rfl, _, rfl, ite2 (fun e24 => ?_) (fun e24 => ?_)⟩
                  · exact go' (r := (.three .n .c0 .dash)) q_3n0_ (by (try simp only [eq_G, eq_D, eq_R, eq_s, eq_d, eq_dot, eq_m3, eq_m2, eqL_h, eqL_t, eqL_n, eqC_0, eqC_1, eqA_S, eqA_o, dec_eq_int, eqW_none, eqW_ahead, eq_2G, eq_2g, decide_eq_true_eq, Bool.not_eq_true', decide_eq_false_iff_not, Bool.false_eq_true, not_false_eq_true] at e1 e2 e3 e4 e16 e22 e23 e24) <;> (grind [Nw.greatStep]))
                  · refine ⟨_, rfl, rfl, _, rfl, ite2 (fun e25 => ?_) (fun e25 => ?_)⟩
                    · exact go' (r := (.three .w .c0 .dash)) q_3w0_ (by (try simp only [eq_G, eq_D, eq_R, eq_s, eq_d, eq_dot, eq_m3, eq_m2, eqL_h, eqL_t, eqL_n, eqC_0, eqC_1, eqA_S, eqA_o, dec_eq_int, eqW_none, eqW_ahead, eq_2G, eq_2g, decide_eq_true_eq, Bool.not_eq_true', decide_eq_false_iff_not, Bool.false_eq_true, not_false_eq_true] at e1 e2 e3 e4 e16 e22 e23 e24 e25) <;> (grind [Nw.greatStep]))
                    · exact go' (r := (.three .h .c0 .dash)) q_3h0_ (by (try simp only [eq_G, eq_D, eq_R, eq_s, eq_d, eq_dot, eq_m3, eq_m2, eqL_h, eqL_t, eqL_n, eqC_0, eqC_1, eqA_S, eqA_o, dec_eq_int, eqW_none, eqW_ahead, eq_2G, eq_2g, decide_eq_true_eq, Bool.not_eq_true', decide_eq_false_iff_not, Bool.false_eq_true, not_false_eq_true] at e1 e2 e3 e4 e16 e22 e23 e24 e25) <;> (grind [Nw.greatStep]))
      · refine iteF ?_
        refine ⟨_, rfl, _, _, _, _, rfl, rfl, hS, atI_nat (j := 0) rfl, rfl, _, rfl, ite2 (fun e26 => ?_) (fun e26 => ?_)⟩
        · refine ⟨_, rfl, rfl, _, rfl, ite2 (fun e27 => ?_) (fun e27 => ?_)⟩
          · refine iteT ?_
            exact go none (by (try simp only [eq_G, eq_D, eq_R, eq_s, eq_d, eq_dot, eq_m3, eq_m2, eqL_h, eqL_t, eqL_n, eqC_0, eqC_1, eqA_S, eqA_o, dec_eq_int, eqW_none, eqW_ahead, eq_2G, eq_2g, decide_eq_true_eq, Bool.not_eq_true', decide_eq_false_iff_not, Bool.false_eq_true, not_false_eq_true] at e1 e2 e26 e27) <;> (grind [Nw.greatStep]))
          · refine ⟨_, rfl, _, _, _, _, rfl, rfl, hS, atI_nat (j := 0) rfl, rfl, _, rfl, ite2 (fun e28 => ?_) (fun e28 => ?_)⟩
            · refine ⟨_, rfl, rfl, _, rfl, ite2 (fun e29 => ?_) (fun e29 => ?_)⟩
              · exact go none (by (try simp only [eq_G, eq_D, eq_R, eq_s, eq_d, eq_dot, eq_m3, eq_m2, eqL_h, eqL_t, eqL_n, eqC_0, eqC_1, eqA_S, eqA_o, dec_eq_int, eqW_none, eqW_ahead, eq_2G, eq_2g, decide_eq_true_eq, Bool.not_eq_true', decide_eq_false_iff_not, Bool.false_eq_true, not_false_eq_true] at e1 e2 e26 e27 e28 e29) <;> (grind [Nw.greatStep]))
              · refine ⟨_, rfl, _, rfl, _, rfl, b, l, c, a, k, t, u, rfl, hS, ?_⟩
                refine ⟨_, rfl, rfl, _, rfl, ite2 (fun e30 => ?_) (fun e30 => ?_)⟩
                · exact go none (by (try simp only [eq_G, eq_D, eq_R, eq_s, eq_d, eq_dot, eq_m3, eq_m2, eqL_h, eqL_t, eqL_n, eqC_0, eqC_1, eqA_S, eqA_o, dec_eq_int, eqW_none, eqW_ahead, eq_2G, eq_2g, decide_eq_true_eq, Bool.not_eq_true', decide_eq_false_iff_not, Bool.false_eq_true, not_false_eq_true] at e1 e2 e26 e27 e28 e29 e30) <;> (grind [Nw.greatStep]))
                · refine ⟨_, rfl, scal_oW _ _, _, rfl, ite2 (fun e31 => ?_) (fun e31 => ?_)⟩
                  · exact go' (r := (.three .t .c0 .dash)) q_3t0_ (by (try simp only [eq_G, eq_D, eq_R, eq_s, eq_d, eq_dot, eq_m3, eq_m2, eqL_h, eqL_t, eqL_n, eqC_0, eqC_1, eqA_S, eqA_o, dec_eq_int, eqW_none, eqW_ahead, eq_2G, eq_2g, decide_eq_true_eq, Bool.not_eq_true', decide_eq_false_iff_not, Bool.false_eq_true, not_false_eq_true] at e1 e2 e26 e27 e28 e29 e30 e31) <;> (grind [Nw.greatStep]))
                  · refine ⟨_, rfl, _, _, _, _, rfl, rfl, hS, atI_nat (j := 0) rfl, rfl, _, rfl, ite2 (fun e32 => ?_) (fun e32 => ?_)⟩
                    · exact go' (r := (.three .n .c0 .dash)) q_3n0_ (by (try simp only [eq_G, eq_D, eq_R, eq_s, eq_d, eq_dot, eq_m3, eq_m2, eqL_h, eqL_t, eqL_n, eqC_0, eqC_1, eqA_S, eqA_o, dec_eq_int, eqW_none, eqW_ahead, eq_2G, eq_2g, decide_eq_true_eq, Bool.not_eq_true', decide_eq_false_iff_not, Bool.false_eq_true, not_false_eq_true] at e1 e2 e26 e27 e28 e29 e30 e31 e32) <;> (grind [Nw.greatStep]))
                    · refine ⟨_, rfl, rfl, _, rfl, ite2 (fun e33 => ?_) (fun e33 => ?_)⟩
                      · exact go' (r := (.three .w .c0 .dash)) q_3w0_ (by (try simp only [eq_G, eq_D, eq_R, eq_s, eq_d, eq_dot, eq_m3, eq_m2, eqL_h, eqL_t, eqL_n, eqC_0, eqC_1, eqA_S, eqA_o, dec_eq_int, eqW_none, eqW_ahead, eq_2G, eq_2g, decide_eq_true_eq, Bool.not_eq_true', decide_eq_false_iff_not, Bool.false_eq_true, not_false_eq_true] at e1 e2 e26 e27 e28 e29 e30 e31 e32 e33) <;> (grind [Nw.greatStep]))
                      · exact go' (r := (.three .h .c0 .dash)) q_3h0_ (by (try simp only [eq_G, eq_D, eq_R, eq_s, eq_d, eq_dot, eq_m3, eq_m2, eqL_h, eqL_t, eqL_n, eqC_0, eqC_1, eqA_S, eqA_o, dec_eq_int, eqW_none, eqW_ahead, eq_2G, eq_2g, decide_eq_true_eq, Bool.not_eq_true', decide_eq_false_iff_not, Bool.false_eq_true, not_false_eq_true] at e1 e2 e26 e27 e28 e29 e30 e31 e32 e33) <;> (grind [Nw.greatStep]))
            · refine iteF ?_
              refine ⟨_, rfl, _, rfl, _, rfl, b, l, c, a, k, t, u, rfl, hS, ?_⟩
              refine ⟨_, rfl, rfl, _, rfl, ite2 (fun e34 => ?_) (fun e34 => ?_)⟩
              · exact go none (by (try simp only [eq_G, eq_D, eq_R, eq_s, eq_d, eq_dot, eq_m3, eq_m2, eqL_h, eqL_t, eqL_n, eqC_0, eqC_1, eqA_S, eqA_o, dec_eq_int, eqW_none, eqW_ahead, eq_2G, eq_2g, decide_eq_true_eq, Bool.not_eq_true', decide_eq_false_iff_not, Bool.false_eq_true, not_false_eq_true] at e1 e2 e26 e27 e28 e34) <;> (grind [Nw.greatStep]))
              · refine ⟨_, rfl, scal_oW _ _, _, rfl, ite2 (fun e35 => ?_) (fun e35 => ?_)⟩
                · exact go' (r := (.three .t .c0 .dash)) q_3t0_ (by (try simp only [eq_G, eq_D, eq_R, eq_s, eq_d, eq_dot, eq_m3, eq_m2, eqL_h, eqL_t, eqL_n, eqC_0, eqC_1, eqA_S, eqA_o, dec_eq_int, eqW_none, eqW_ahead, eq_2G, eq_2g, decide_eq_true_eq, Bool.not_eq_true', decide_eq_false_iff_not, Bool.false_eq_true, not_false_eq_true] at e1 e2 e26 e27 e28 e34 e35) <;> (grind [Nw.greatStep]))
                · refine ⟨_, rfl, _, _, _, _, rfl, rfl, hS, atI_nat (j := 0) rfl, rfl, _, rfl, ite2 (fun e36 => ?_) (fun e36 => ?_)⟩
                  · exact go' (r := (.three .n .c0 .dash)) q_3n0_ (by (try simp only [eq_G, eq_D, eq_R, eq_s, eq_d, eq_dot, eq_m3, eq_m2, eqL_h, eqL_t, eqL_n, eqC_0, eqC_1, eqA_S, eqA_o, dec_eq_int, eqW_none, eqW_ahead, eq_2G, eq_2g, decide_eq_true_eq, Bool.not_eq_true', decide_eq_false_iff_not, Bool.false_eq_true, not_false_eq_true] at e1 e2 e26 e27 e28 e34 e35 e36) <;> (grind [Nw.greatStep]))
                  · refine ⟨_, rfl, rfl, _, rfl, ite2 (fun e37 => ?_) (fun e37 => ?_)⟩
                    · exact go' (r := (.three .w .c0 .dash)) q_3w0_ (by (try simp only [eq_G, eq_D, eq_R, eq_s, eq_d, eq_dot, eq_m3, eq_m2, eqL_h, eqL_t, eqL_n, eqC_0, eqC_1, eqA_S, eqA_o, dec_eq_int, eqW_none, eqW_ahead, eq_2G, eq_2g, decide_eq_true_eq, Bool.not_eq_true', decide_eq_false_iff_not, Bool.false_eq_true, not_false_eq_true] at e1 e2 e26 e27 e28 e34 e35 e36 e37) <;> (grind [Nw.greatStep]))
                    · exact go' (r := (.three .h .c0 .dash)) q_3h0_ (by (try simp only [eq_G, eq_D, eq_R, eq_s, eq_d, eq_dot, eq_m3, eq_m2, eqL_h, eqL_t, eqL_n, eqC_0, eqC_1, eqA_S, eqA_o, dec_eq_int, eqW_none, eqW_ahead, eq_2G, eq_2g, decide_eq_true_eq, Bool.not_eq_true', decide_eq_false_iff_not, Bool.false_eq_true, not_false_eq_true] at e1 e2 e26 e27 e28 e34 e35 e36 e37) <;> (grind [Nw.greatStep]))
        · refine iteF ?_
          refine ⟨_, rfl, _, _, _, _, rfl, rfl, hS, atI_nat (j := 0) rfl, rfl, _, rfl, ite2 (fun e38 => ?_) (fun e38 => ?_)⟩
          · refine ⟨_, rfl, rfl, _, rfl, ite2 (fun e39 => ?_) (fun e39 => ?_)⟩
            · exact go none (by (try simp only [eq_G, eq_D, eq_R, eq_s, eq_d, eq_dot, eq_m3, eq_m2, eqL_h, eqL_t, eqL_n, eqC_0, eqC_1, eqA_S, eqA_o, dec_eq_int, eqW_none, eqW_ahead, eq_2G, eq_2g, decide_eq_true_eq, Bool.not_eq_true', decide_eq_false_iff_not, Bool.false_eq_true, not_false_eq_true] at e1 e2 e26 e38 e39) <;> (grind [Nw.greatStep]))
            · refine ⟨_, rfl, _, rfl, _, rfl, b, l, c, a, k, t, u, rfl, hS, ?_⟩
              refine ⟨_, rfl, rfl, _, rfl, ite2 (fun e40 => ?_) (fun e40 => ?_)⟩
              · exact go none (by (try simp only [eq_G, eq_D, eq_R, eq_s, eq_d, eq_dot, eq_m3, eq_m2, eqL_h, eqL_t, eqL_n, eqC_0, eqC_1, eqA_S, eqA_o, dec_eq_int, eqW_none, eqW_ahead, eq_2G, eq_2g, decide_eq_true_eq, Bool.not_eq_true', decide_eq_false_iff_not, Bool.false_eq_true, not_false_eq_true] at e1 e2 e26 e38 e39 e40) <;> (grind [Nw.greatStep]))
              · refine ⟨_, rfl, scal_oW _ _, _, rfl, ite2 (fun e41 => ?_) (fun e41 => ?_)⟩
                · exact go' (r := (.three .t .c0 .dash)) q_3t0_ (by (try simp only [eq_G, eq_D, eq_R, eq_s, eq_d, eq_dot, eq_m3, eq_m2, eqL_h, eqL_t, eqL_n, eqC_0, eqC_1, eqA_S, eqA_o, dec_eq_int, eqW_none, eqW_ahead, eq_2G, eq_2g, decide_eq_true_eq, Bool.not_eq_true', decide_eq_false_iff_not, Bool.false_eq_true, not_false_eq_true] at e1 e2 e26 e38 e39 e40 e41) <;> (grind [Nw.greatStep]))
                · refine ⟨_, rfl, _, _, _, _, rfl, rfl, hS, atI_nat (j := 0) rfl, rfl, _, rfl, ite2 (fun e42 => ?_) (fun e42 => ?_)⟩
                  · exact go' (r := (.three .n .c0 .dash)) q_3n0_ (by (try simp only [eq_G, eq_D, eq_R, eq_s, eq_d, eq_dot, eq_m3, eq_m2, eqL_h, eqL_t, eqL_n, eqC_0, eqC_1, eqA_S, eqA_o, dec_eq_int, eqW_none, eqW_ahead, eq_2G, eq_2g, decide_eq_true_eq, Bool.not_eq_true', decide_eq_false_iff_not, Bool.false_eq_true, not_false_eq_true] at e1 e2 e26 e38 e39 e40 e41 e42) <;> (grind [Nw.greatStep]))
                  · refine ⟨_, rfl, rfl, _, rfl, ite2 (fun e43 => ?_) (fun e43 => ?_)⟩
                    · exact go' (r := (.three .w .c0 .dash)) q_3w0_ (by (try simp only [eq_G, eq_D, eq_R, eq_s, eq_d, eq_dot, eq_m3, eq_m2, eqL_h, eqL_t, eqL_n, eqC_0, eqC_1, eqA_S, eqA_o, dec_eq_int, eqW_none, eqW_ahead, eq_2G, eq_2g, decide_eq_true_eq, Bool.not_eq_true', decide_eq_false_iff_not, Bool.false_eq_true, not_false_eq_true] at e1 e2 e26 e38 e39 e40 e41 e42 e43) <;> (grind [Nw.greatStep]))
                    · exact go' (r := (.three .h .c0 .dash)) q_3h0_ (by (try simp only [eq_G, eq_D, eq_R, eq_s, eq_d, eq_dot, eq_m3, eq_m2, eqL_h, eqL_t, eqL_n, eqC_0, eqC_1, eqA_S, eqA_o, dec_eq_int, eqW_none, eqW_ahead, eq_2G, eq_2g, decide_eq_true_eq, Bool.not_eq_true', decide_eq_false_iff_not, Bool.false_eq_true, not_false_eq_true] at e1 e2 e26 e38 e39 e40 e41 e42 e43) <;> (grind [Nw.greatStep]))
          · refine iteF ?_
            refine ⟨_, rfl, _, rfl, _, rfl, b, l, c, a, k, t, u, rfl, hS, ?_⟩
            refine ⟨_, rfl, rfl, _, rfl, ite2 (fun e44 => ?_) (fun e44 => ?_)⟩
            · exact go none (by (try simp only [eq_G, eq_D, eq_R, eq_s, eq_d, eq_dot, eq_m3, eq_m2, eqL_h, eqL_t, eqL_n, eqC_0, eqC_1, eqA_S, eqA_o, dec_eq_int, eqW_none, eqW_ahead, eq_2G, eq_2g, decide_eq_true_eq, Bool.not_eq_true', decide_eq_false_iff_not, Bool.false_eq_true, not_false_eq_true] at e1 e2 e26 e38 e44) <;> (grind [Nw.greatStep]))
            · refine ⟨_, rfl, scal_oW _ _, _, rfl, ite2 (fun e45 => ?_) (fun e45 => ?_)⟩
              · exact go' (r := (.three .t .c0 .dash)) q_3t0_ (by (try simp only [eq_G, eq_D, eq_R, eq_s, eq_d, eq_dot, eq_m3, eq_m2, eqL_h, eqL_t, eqL_n, eqC_0, eqC_1, eqA_S, eqA_o, dec_eq_int, eqW_none, eqW_ahead, eq_2G, eq_2g, decide_eq_true_eq, Bool.not_eq_true', decide_eq_false_iff_not, Bool.false_eq_true, not_false_eq_true] at e1 e2 e26 e38 e44 e45) <;> (grind [Nw.greatStep]))
              · refine ⟨_, rfl, _, _, _, _, rfl, rfl, hS, atI_nat (j := 0) rfl, rfl, _, rfl, ite2 (fun e46 => ?_) (fun e46 => ?_)⟩
                · exact go' (r := (.three .n .c0 .dash)) q_3n0_ (by (try simp only [eq_G, eq_D, eq_R, eq_s, eq_d, eq_dot, eq_m3, eq_m2, eqL_h, eqL_t, eqL_n, eqC_0, eqC_1, eqA_S, eqA_o, dec_eq_int, eqW_none, eqW_ahead, eq_2G, eq_2g, decide_eq_true_eq, Bool.not_eq_true', decide_eq_false_iff_not, Bool.false_eq_true, not_false_eq_true] at e1 e2 e26 e38 e44 e45 e46) <;> (grind [Nw.greatStep]))
                · refine ⟨_, rfl, rfl, _, rfl, ite2 (fun e47 => ?_) (fun e47 => ?_)⟩
                  · exact go' (r := (.three .w .c0 .dash)) q_3w0_ (by (try simp only [eq_G, eq_D, eq_R, eq_s, eq_d, eq_dot, eq_m3, eq_m2, eqL_h, eqL_t, eqL_n, eqC_0, eqC_1, eqA_S, eqA_o, dec_eq_int, eqW_none, eqW_ahead, eq_2G, eq_2g, decide_eq_true_eq, Bool.not_eq_true', decide_eq_false_iff_not, Bool.false_eq_true, not_false_eq_true] at e1 e2 e26 e38 e44 e45 e46 e47) <;> (grind [Nw.greatStep]))
                  · exact go' (r := (.three .h .c0 .dash)) q_3h0_ (by (try simp only [eq_G, eq_D, eq_R, eq_s, eq_d, eq_dot, eq_m3, eq_m2, eqL_h, eqL_t, eqL_n, eqC_0, eqC_1, eqA_S, eqA_o, dec_eq_int, eqW_none, eqW_ahead, eq_2G, eq_2g, decide_eq_true_eq, Bool.not_eq_true', decide_eq_false_iff_not, Bool.false_eq_true, not_false_eq_true] at e1 e2 e26 e38 e44 e45 e46 e47) <;> (grind [Nw.greatStep]))
    · refine iteF ?_
      refine ⟨_, rfl, _, _, _, _, rfl, rfl, hS, atI_nat (j := 0) rfl, rfl, _, rfl, ite2 (fun e48 => ?_) (fun e48 => ?_)⟩
      · refine ⟨_, rfl, rfl, _, rfl, ite2 (fun e49 => ?_) (fun e49 => ?_)⟩
        · refine iteT ?_
          exact go none (by (try simp only [eq_G, eq_D, eq_R, eq_s, eq_d, eq_dot, eq_m3, eq_m2, eqL_h, eqL_t, eqL_n, eqC_0, eqC_1, eqA_S, eqA_o, dec_eq_int, eqW_none, eqW_ahead, eq_2G, eq_2g, decide_eq_true_eq, Bool.not_eq_true', decide_eq_false_iff_not, Bool.false_eq_true, not_false_eq_true] at e1 e48 e49) <;> (grind [Nw.greatStep]))
        · refine ⟨_, rfl, _, _, _, _, rfl, rfl, hS, atI_nat (j := 0) rfl, rfl, _, rfl, ite2 (fun e50 => ?_) (fun e50 => ?_)⟩
          · refine ⟨_, rfl, rfl, _, rfl, ite2 (fun e51 => ?_) (fun e51 => ?_)⟩
            · exact go none (by (try simp only [eq_G, eq_D, eq_R, eq_s, eq_d, eq_dot, eq_m3, eq_m2, eqL_h, eqL_t, eqL_n, eqC_0, eqC_1, eqA_S, eqA_o, dec_eq_int, eqW_none, eqW_ahead, eq_2G, eq_2g, decide_eq_true_eq, Bool.not_eq_true', decide_eq_false_iff_not, Bool.false_eq_true, not_false_eq_true] at e1 e48 e49 e50 e51) <;> (grind [Nw.greatStep]))
            · refine ⟨_, rfl, _, rfl, _, rfl, b, l, c, a, k, t, u, rfl, hS, ?_⟩
              refine ⟨_, rfl, rfl, _, rfl, ite2 (fun e52 => ?_) (fun e52 => ?_)⟩
              · exact go none (by (try simp only [eq_G, eq_D, eq_R, eq_s, eq_d, eq_dot, eq_m3, eq_m2, eqL_h, eqL_t, eqL_n, eqC_0, eqC_1, eqA_S, eqA_o, dec_eq_int, eqW_none, eqW_ahead, eq_2G, eq_2g, decide_eq_true_eq, Bool.not_eq_true', decide_eq_false_iff_not, Bool.false_eq_true, not_false_eq_true] at e1 e48 e49 e50 e51 e52) <;> (grind [Nw.greatStep]))
              · refine ⟨_, rfl, scal_oW _ _, _, rfl, ite2 (fun e53 => ?_) (fun e53 => ?_)⟩
                · exact go' (r := (.three .t .c0 .dash)) q_3t0_ (by (try simp only [eq_G, eq_D, eq_R, eq_s, eq_d, eq_dot, eq_m3, eq_m2, eqL_h, eqL_t, eqL_n, eqC_0, eqC_1, eqA_S, eqA_o, dec_eq_int, eqW_none, eqW_ahead, eq_2G, eq_2g, decide_eq_true_eq, Bool.not_eq_true', decide_eq_false_iff_not, Bool.false_eq_true, not_false_eq_true] at e1 e48 e49 e50 e51 e52 e53) <;> (grind [Nw.greatStep]))
                · refine ⟨_, rfl, _, _, _, _, rfl, rfl, hS, atI_nat (j := 0) rfl, rfl, _, rfl, ite2 (fun e54 => ?_) (fun e54 => ?_)⟩
                  · exact go' (r := (.three .n .c0 .dash)) q_3n0_ (by (try simp only [eq_G, eq_D, eq_R, eq_s, eq_d, eq_dot, eq_m3, eq_m2, eqL_h, eqL_t, eqL_n, eqC_0, eqC_1, eqA_S, eqA_o, dec_eq_int, eqW_none, eqW_ahead, eq_2G, eq_2g, decide_eq_true_eq, Bool.not_eq_true', decide_eq_false_iff_not, Bool.false_eq_true, not_false_eq_true] at e1 e48 e49 e50 e51 e52 e53 e54) <;> (grind [Nw.greatStep]))
                  · refine ⟨_, rfl, rfl, _, rfl, ite2 (fun e55 => ?_) (fun e55 => ?_)⟩
                    · exact go' (r := (.three .w .c0 .dash)) q_3w0_ (by (try simp only [eq_G, eq_D, eq_R, eq_s, eq_d, eq_dot, eq_m3, eq_m2, eqL_h, eqL_t, eqL_n, eqC_0, eqC_1, eqA_S, eqA_o, dec_eq_int, eqW_none, eqW_ahead, eq_2G, eq_2g, decide_eq_true_eq, Bool.not_eq_true', decide_eq_false_iff_not, Bool.false_eq_true, not_false_eq_true] at e1 e48 e49 e50 e51 e52 e53 e54 e55) <;> (grind [Nw.greatStep]))
                    · exact go' (r := (.three .h .c0 .dash)) q_3h0_ (by (try simp only [eq_G, eq_D, eq_R, eq_s, eq_d, eq_dot, eq_m3, eq_m2, eqL_h, eqL_t, eqL_n, eqC_0, eqC_1, eqA_S, eqA_o, dec_eq_int, eqW_none, eqW_ahead, eq_2G, eq_2g, decide_eq_true_eq, Bool.not_eq_true', decide_eq_false_iff_not, Bool.false_eq_true, not_false_eq_true] at e1 e48 e49 e50 e51 e52 e53 e54 e55) <;> (grind [Nw.greatStep]))
          · refine iteF ?_
            refine ⟨_, rfl, _, rfl, _, rfl, b, l, c, a, k, t, u, rfl, hS, ?_⟩
            refine ⟨_, rfl, rfl, _, rfl, ite2 (fun e56 => ?_) (fun e56 => ?_)⟩
            · exact go none (by (try simp only [eq_G, eq_D, eq_R, eq_s, eq_d, eq_dot, eq_m3, eq_m2, eqL_h, eqL_t, eqL_n, eqC_0, eqC_1, eqA_S, eqA_o, dec_eq_int, eqW_none, eqW_ahead, eq_2G, eq_2g, decide_eq_true_eq, Bool.not_eq_true', decide_eq_false_iff_not, Bool.false_eq_true, not_false_eq_true] at e1 e48 e49 e50 e56) <;> (grind [Nw.greatStep]))
            · refine ⟨_, rfl, scal_oW _ _, _, rfl, ite2 (fun e57 => ?_) (fun e57 => ?_)⟩
              · exact go' (r := (.three .t .c0 .dash)) q_3t0_ (by (try simp only [eq_G, eq_D, eq_R, eq_s, eq_d, eq_dot, eq_m3, eq_m2, eqL_h, eqL_t, eqL_n, eqC_0, eqC_1, eqA_S, eqA_o, dec_eq_int, eqW_none, eqW_ahead, eq_2G, eq_2g, decide_eq_true_eq, Bool.not_eq_true', decide_eq_false_iff_not, Bool.false_eq_true, not_false_eq_true] at e1 e48 e49 e50 e56 e57) <;> (grind [Nw.greatStep]))
              · refine ⟨_, rfl, _, _, _, _, rfl, rfl, hS, atI_nat (j := 0) rfl, rfl, _, rfl, ite2 (fun e58 => ?_) (fun e58 => ?_)⟩
                · exact go' (r := (.three .n .c0 .dash)) q_3n0_ (by (try simp only [eq_G, eq_D, eq_R, eq_s, eq_d, eq_dot, eq_m3, eq_m2, eqL_h, eqL_t, eqL_n, eqC_0, eqC_1, eqA_S, eqA_o, dec_eq_int, eqW_none, eqW_ahead, eq_2G, eq_2g, decide_eq_true_eq, Bool.not_eq_true', decide_eq_false_iff_not, Bool.false_eq_true, not_false_eq_true] at e1 e48 e49 e50 e56 e57 e58) <;> (grind [Nw.greatStep]))
                · refine ⟨_, rfl, rfl, _, rfl, ite2 (fun e59 => ?_) (fun e59 => ?_)⟩
                  · exact go' (r := (.three .w .c0 .dash)) q_3w0_ (by (try simp only [eq_G, eq_D, eq_R, eq_s, eq_d, eq_dot, eq_m3, eq_m2, eqL_h, eqL_t, eqL_n, eqC_0, eqC_1, eqA_S, eqA_o, dec_eq_int, eqW_none, eqW_ahead, eq_2G, eq_2g, decide_eq_true_eq, Bool.not_eq_true', decide_eq_false_iff_not, Bool.false_eq_true, not_false_eq_true] at e1 e48 e49 e50 e56 e57 e58 e59) <;> (grind [Nw.greatStep]))
                  · exact go' (r := (.three .h .c0 .dash)) q_3h0_ (by (try simp only [eq_G, eq_D, eq_R, eq_s, eq_d, eq_dot, eq_m3, eq_m2, eqL_h, eqL_t, eqL_n, eqC_0, eqC_1, eqA_S, eqA_o, dec_eq_int, eqW_none, eqW_ahead, eq_2G, eq_2g, decide_eq_true_eq, Bool.not_eq_true', decide_eq_false_iff_not, Bool.false_eq_true, not_false_eq_true] at e1 e48 e49 e50 e56 e57 e58 e59) <;> (grind [Nw.greatStep]))
      · refine iteF ?_
        refine ⟨_, rfl, _, _, _, _, rfl, rfl, hS, atI_nat (j := 0) rfl, rfl, _, rfl, ite2 (fun e60 => ?_) (fun e60 => ?_)⟩
        · refine ⟨_, rfl, rfl, _, rfl, ite2 (fun e61 => ?_) (fun e61 => ?_)⟩
          · exact go none (by (try simp only [eq_G, eq_D, eq_R, eq_s, eq_d, eq_dot, eq_m3, eq_m2, eqL_h, eqL_t, eqL_n, eqC_0, eqC_1, eqA_S, eqA_o, dec_eq_int, eqW_none, eqW_ahead, eq_2G, eq_2g, decide_eq_true_eq, Bool.not_eq_true', decide_eq_false_iff_not, Bool.false_eq_true, not_false_eq_true] at e1 e48 e60 e61) <;> (grind [Nw.greatStep]))
          · refine ⟨_, rfl, _, rfl, _, rfl, b, l, c, a, k, t, u, rfl, hS, ?_⟩
            refine ⟨_, rfl, rfl, _, rfl, ite2 (fun e62 => ?_) (fun e62 => ?_)⟩
            · exact go none (by (try simp only [eq_G, eq_D, eq_R, eq_s, eq_d, eq_dot, eq_m3, eq_m2, eqL_h, eqL_t, eqL_n, eqC_0, eqC_1, eqA_S, eqA_o, dec_eq_int, eqW_none, eqW_ahead, eq_2G, eq_2g, decide_eq_true_eq, Bool.not_eq_true', decide_eq_false_iff_not, Bool.false_eq_true, not_false_eq_true] at e1 e48 e60 e61 e62) <;> (grind [Nw.greatStep]))
            · refine ⟨_, rfl, scal_oW _ _, _, rfl, ite2 (fun e63 => ?_) (fun e63 => ?_)⟩
              · exact go' (r := (.three .t .c0 .dash)) q_3t0_ (by (try simp only [eq_G, eq_D, eq_R, eq_s, eq_d, eq_dot, eq_m3, eq_m2, eqL_h, eqL_t, eqL_n, eqC_0, eqC_1, eqA_S, eqA_o, dec_eq_int, eqW_none, eqW_ahead, eq_2G, eq_2g, decide_eq_true_eq, Bool.not_eq_true', decide_eq_false_iff_not, Bool.false_eq_true, not_false_eq_true] at e1 e48 e60 e61 e62 e63) <;> (grind [Nw.greatStep]))
              · refine ⟨_, rfl, _, _, _, _, rfl, rfl, hS, atI_nat (j := 0) rfl, rfl, _, rfl, ite2 (fun e64 => ?_) (fun e64 => ?_)⟩
                · exact go' (r := (.three .n .c0 .dash)) q_3n0_ (by (try simp only [eq_G, eq_D, eq_R, eq_s, eq_d, eq_dot, eq_m3, eq_m2, eqL_h, eqL_t, eqL_n, eqC_0, eqC_1, eqA_S, eqA_o, dec_eq_int, eqW_none, eqW_ahead, eq_2G, eq_2g, decide_eq_true_eq, Bool.not_eq_true', decide_eq_false_iff_not, Bool.false_eq_true, not_false_eq_true] at e1 e48 e60 e61 e62 e63 e64) <;> (grind [Nw.greatStep]))
                · refine ⟨_, rfl, rfl, _, rfl, ite2 (fun e65 => ?_) (fun e65 => ?_)⟩
                  · exact go' (r := (.three .w .c0 .dash)) q_3w0_ (by (try simp only [eq_G, eq_D, eq_R, eq_s, eq_d, eq_dot, eq_m3, eq_m2, eqL_h, eqL_t, eqL_n, eqC_0, eqC_1, eqA_S, eqA_o, dec_eq_int, eqW_none, eqW_ahead, eq_2G, eq_2g, decide_eq_true_eq, Bool.not_eq_true', decide_eq_false_iff_not, Bool.false_eq_true, not_false_eq_true] at e1 e48 e60 e61 e62 e63 e64 e65) <;> (grind [Nw.greatStep]))
                  · exact go' (r := (.three .h .c0 .dash)) q_3h0_ (by (try simp only [eq_G, eq_D, eq_R, eq_s, eq_d, eq_dot, eq_m3, eq_m2, eqL_h, eqL_t, eqL_n, eqC_0, eqC_1, eqA_S, eqA_o, dec_eq_int, eqW_none, eqW_ahead, eq_2G, eq_2g, decide_eq_true_eq, Bool.not_eq_true', decide_eq_false_iff_not, Bool.false_eq_true, not_false_eq_true] at e1 e48 e60 e61 e62 e63 e64 e65) <;> (grind [Nw.greatStep]))
        · refine iteF ?_
          refine ⟨_, rfl, _, rfl, _, rfl, b, l, c, a, k, t, u, rfl, hS, ?_⟩
          refine ⟨_, rfl, rfl, _, rfl, ite2 (fun e66 => ?_) (fun e66 => ?_)⟩
          · exact go none (by (try simp only [eq_G, eq_D, eq_R, eq_s, eq_d, eq_dot, eq_m3, eq_m2, eqL_h, eqL_t, eqL_n, eqC_0, eqC_1, eqA_S, eqA_o, dec_eq_int, eqW_none, eqW_ahead, eq_2G, eq_2g, decide_eq_true_eq, Bool.not_eq_true', decide_eq_false_iff_not, Bool.false_eq_true, not_false_eq_true] at e1 e48 e60 e66) <;> (grind [Nw.greatStep]))
          · refine ⟨_, rfl, scal_oW _ _, _, rfl, ite2 (fun e67 => ?_) (fun e67 => ?_)⟩
            · exact go' (r := (.three .t .c0 .dash)) q_3t0_ (by (try simp only [eq_G, eq_D, eq_R, eq_s, eq_d, eq_dot, eq_m3, eq_m2, eqL_h, eqL_t, eqL_n, eqC_0, eqC_1, eqA_S, eqA_o, dec_eq_int, eqW_none, eqW_ahead, eq_2G, eq_2g, decide_eq_true_eq, Bool.not_eq_true', decide_eq_false_iff_not, Bool.false_eq_true, not_false_eq_true] at e1 e48 e60 e66 e67) <;> (grind [Nw.greatStep]))
            · refine ⟨_, rfl, _, _, _, _, rfl, rfl, hS, atI_nat (j := 0) rfl, rfl, _, rfl, ite2 (fun e68 => ?_) (fun e68 => ?_)⟩
              · exact go' (r := (.three .n .c0 .dash)) q_3n0_ (by (try simp only [eq_G, eq_D, eq_R, eq_s, eq_d, eq_dot, eq_m3, eq_m2, eqL_h, eqL_t, eqL_n, eqC_0, eqC_1, eqA_S, eqA_o, dec_eq_int, eqW_none, eqW_ahead, eq_2G, eq_2g, decide_eq_true_eq, Bool.not_eq_true', decide_eq_false_iff_not, Bool.false_eq_true, not_false_eq_true] at e1 e48 e60 e66 e67 e68) <;> (grind [Nw.greatStep]))
              · refine ⟨_, rfl, rfl, _, rfl, ite2 (fun e69 => ?_) (fun e69 => ?_)⟩
                · exact go' (r := (.three .w .c0 .dash)) q_3w0_ (by (try simp only [eq_G, eq_D, eq_R, eq_s, eq_d, eq_dot, eq_m3, eq_m2, eqL_h, eqL_t, eqL_n, eqC_0, eqC_1, eqA_S, eqA_o, dec_eq_int, eqW_none, eqW_ahead, eq_2G, eq_2g, decide_eq_true_eq, Bool.not_eq_true', decide_eq_false_iff_not, Bool.false_eq_true, not_false_eq_true] at e1 e48 e60 e66 e67 e68 e69) <;> (grind [Nw.greatStep]))
                · exact go' (r := (.three .h .c0 .dash)) q_3h0_ (by (try simp only [eq_G, eq_D, eq_R, eq_s, eq_d, eq_dot, eq_m3, eq_m2, eqL_h, eqL_t, eqL_n, eqC_0, eqC_1, eqA_S, eqA_o, dec_eq_int, eqW_none, eqW_ahead, eq_2G, eq_2g, decide_eq_true_eq, Bool.not_eq_true', decide_eq_false_iff_not, Bool.false_eq_true, not_false_eq_true] at e1 e48 e60 e66 e67 e68 e69) <;> (grind [Nw.greatStep]))
def cI : Nw.Ct → Int
  | .c0 => 0 | .c1 => 1 | .c2 => 2
theorem intC (c : Nw.Ct) : PySem.intText? ⟨#[cpC c]⟩ = some (cI c) := by cases c <;> decide +kernel
theorem logC (c : Nw.Ct) : ((cI c + 1) % 3).natAbs.log2 < 1920 := by cases c <;> decide
theorem nextI (c : Nw.Ct) : (cI c + 1) % 3 = 2 ↔ c.next = .c2 := by cases c <;> decide
theorem len_3 : ("3" : Str).length = 1 := by decide +kernel
theorem len_s : ("s" : Str).length = 1 := by decide +kernel
theorem len_o : ("o" : Str).length = 1 := by decide +kernel
theorem len_n : ("n" : Str).length = 1 := by decide +kernel
theorem len_2S : ("2S" : Str).length = 2 := by decide +kernel
theorem lenL (l : Nw.Lf) : (⟨#[cpL l]⟩ : Str).length = 1 := rfl
theorem lenD (c : Nw.Ct) : ((toString ((cI c + 1) % 3) : String) : Str).length = 1 := by cases c <;> decide +kernel
theorem tx_S (l : Nw.Lf) : (("3" : Str) ++ (⟨#[cpL l]⟩ : Str) ++ ("2S" : Str)) = qT (.three l .c2 .S) := by cases l <;> decide +kernel
theorem tx_Sn : (("3" : Str) ++ ("n" : Str) ++ ("2S" : Str)) = qT (.three .n .c2 .S) := by decide +kernel
theorem tx_s (l : Nw.Lf) (c : Nw.Ct) : (("3" : Str) ++ (⟨#[cpL l]⟩ : Str) ++ ((toString ((cI c + 1) % 3) : String) : Str) ++ ("s" : Str)) = qT (.three l c.next .s) := by cases l <;> cases c <;> decide +kernel
theorem tx_sn (c : Nw.Ct) : (("3" : Str) ++ ("n" : Str) ++ ((toString ((cI c + 1) % 3) : String) : Str) ++ ("s" : Str)) = qT (.three .n c.next .s) := by cases c <;> decide +kernel
theorem tx_o (l : Nw.Lf) (c : Nw.Ct) : (("3" : Str) ++ (⟨#[cpL l]⟩ : Str) ++ ((toString ((cI c + 1) % 3) : String) : Str) ++ ("o" : Str)) = qT (.three l c.next .o) := by cases l <;> cases c <;> decide +kernel
theorem tx_on (c : Nw.Ct) : (("3" : Str) ++ ("n" : Str) ++ ((toString ((cI c + 1) % 3) : String) : Str) ++ ("o" : Str)) = qT (.three .n c.next .o) := by cases c <;> decide +kernel
def sp_small_step (K : PySem.W.Frag) : Sp := fun vs H Q _ => ∃ (b : Addr) (l : Nw.Lf) (c : Nw.Ct) (a : Nw.La) (k : Nw.Kd) (t : V) (u : Int), vs = [.str (qT (.three l c a)), .ref b, .int u] ∧ SqT K H b [.str (kT k), t] ∧ Q (oQ (Nw.smallStep l c a k u)) H
theorem ok_small_step {f : Addr} {fd : FuncData} (F : Fun K "small_step" "small_step" s_small_step f fd) (z_int : mg "int" = none) (z_str : mg "str" = none) : FnOk P w K mg base CX0 1 f fd ["state", "sign", "worth"] (sp_small_step K) := by
  refine F.ok sc_small_step (fun vs H Q E h => ?_) (fun cdv A outer s H vs Q E hr h => ?_)
  · obtain ⟨b, l, c, a, k, t, u, rfl, _⟩ := h
    rfl
  · obtain ⟨b, l, c, a, k, t, u, rfl, hS, q⟩ := h
    have go : ∀ z, Nw.smallStep l c a k u = z → Q (oQ z) H := fun z e => by rw [← e]; exact q
    have go' : ∀ {x : Str} {r : Nw.St}, x = qT r → Nw.smallStep l c a k u = some r → Q (.str x) H := fun e e2 => by rw [e]; exact go _ e2
    refine ⟨_, (pss_cons (ps_set (i := 3) sc_small_step.nd rfl (.inl rfl) (pe_ix ix_str (pv 0) pe_int (fun _ _ => rfl)))
      (pss_cons (ps_if (pt_cmpR op_eq (pe_ix ix_str (pv 0) pe_int (fun _ _ => rfl)) pe_str (nomark _))
        (pss_one (ps_ret pe_non))
        pss_nil)
      (pss_cons (ps_if (pt_cmpR op_eq (pv 3) pe_str (nomark _))
        (pss_one (ps_set (i := 3) sc_small_step.nd rfl (.inl rfl) pe_str))
        pss_nil)
      (pss_cons (ps_set (i := 4) sc_small_step.nd rfl (.inl rfl) (pe_op op_mod (pe_op op_add (pe_callTy call_int_str (by rfl) z_int (by decide +kernel) (pa_cons (pe_ix ix_str (pv 0) pe_int (fun _ _ => rfl)) pa_nil)) pe_int) pe_int))
      (pss_cons (ps_if (PW.pt (pw_and (pt_cmpR op_eq (pv 2) pe_int (nomark _)) (pw_and (pt_cmpR op_eq (pe_ix ix_tup (pv 1) pe_int (fun _ _ => rfl)) pe_str (nomark _)) (pw_and1 (pt_cmpR op_eq (pv 4) pe_int (nomark _))))))
        (pss_one (ps_ret (pe_op op_add_str (pe_op op_add_str pe_str (pv 3)) pe_str)))
        pss_nil)
      (pss_cons (ps_if (pt_cmpR op_ne (pv 2) pe_int (nomark _))
        (pss_one (ps_ret pe_non))
        pss_nil)
      (pss_cons (ps_if (pt_cmpR op_eq (pe_ix ix_tup (pv 1) pe_int (fun _ _ => rfl)) pe_str (nomark _))
        (pss_one (ps_ret (pe_op op_add_str (pe_op op_add_str (pe_op op_add_str pe_str (pv 3)) (pe_callTy call_str_int (by rfl) z_str (by decide +kernel) (pa_cons (pv 4) pa_nil))) pe_str)))
        pss_nil)
      (pss_one (ps_ret (pe_op op_add_str (pe_op op_add_str (pe_op op_add_str pe_str (pv 3)) (pe_callTy call_str_int (by rfl) z_str (by decide +kernel) (pa_cons (pv 4) pa_nil))) pe_str)))))))))), ?_⟩
    refine ⟨_, rfl, _, _, _, rfl, rfl, len4, atI_nat (j := 1) rfl, ?_⟩
    refine ⟨_, rfl, _, _, _, rfl, rfl, len4, atI_nat (j := 3) rfl, rfl, _, rfl, ite2 (fun e1 => ?_) (fun e1 => ?_)⟩
    · exact go none (by (try simp only [eq_G, eq_D, eq_R, eq_s, eq_d, eq_dot, eq_m3, eq_m2, eqL_h, eqL_t, eqL_n, eqC_0, eqC_1, eqA_S, eqA_o, dec_eq_int, eqW_none, eqW_ahead, eq_2G, eq_2g, decide_eq_true_eq, Bool.not_eq_true', decide_eq_false_iff_not, Bool.false_eq_true, not_false_eq_true] at e1) <;> grind [Nw.smallStep, nextI])
    · refine ⟨_, rfl, rfl, _, rfl, ite2 (fun e2 => ?_) (fun e2 => ?_)⟩
      · refine ⟨_, rfl, _, _, _, rfl, rfl, len4, atI_nat (j := 2) rfl, _, _, rfl, intC c, (by show (1 : Nat) ≤ 640; decide), _, _, rfl, rfl, _, _, rfl, rfl, (by show (0 : Int) < 3; decide), ?_⟩
        refine ⟨_, rfl, rfl, _, rfl, ite2 (fun e3 => ?_) (fun e3 => ?_)⟩
        · refine ⟨_, rfl, _, _, _, _, rfl, rfl, hS, atI_nat (j := 0) rfl, rfl, _, rfl, ite2 (fun e4 => ?_) (fun e4 => ?_)⟩
          · refine ⟨_, rfl, rfl, _, rfl, ite2 (fun e5 => ?_) (fun e5 => ?_)⟩
            · refine ⟨_, rfl, _, _, rfl, rfl, (by simp only [PySem.Str.length_append, len_3, len_s, len_o, len_2S, len_n, lenL, lenD]; decide), _, _, rfl, rfl, (by simp only [PySem.Str.length_append, len_3, len_s, len_o, len_2S, len_n, lenL, lenD]; decide), ?_⟩
              exact go' (r := .three .n .c2 .S) (tx_Sn) (by (try simp only [eq_G, eq_D, eq_R, eq_s, eq_d, eq_dot, eq_m3, eq_m2, eqL_h, eqL_t, eqL_n, eqC_0, eqC_1, eqA_S, eqA_o, dec_eq_int, eqW_none, eqW_ahead, eq_2G, eq_2g, decide_eq_true_eq, Bool.not_eq_true', decide_eq_false_iff_not, Bool.false_eq_true, not_false_eq_true] at e1 e2 e3 e4 e5) <;> grind [Nw.smallStep, nextI])
            · refine ⟨_, rfl, rfl, _, rfl, ite2 (fun e6 => ?_) (fun e6 => ?_)⟩
              · exact go none (by (try simp only [eq_G, eq_D, eq_R, eq_s, eq_d, eq_dot, eq_m3, eq_m2, eqL_h, eqL_t, eqL_n, eqC_0, eqC_1, eqA_S, eqA_o, dec_eq_int, eqW_none, eqW_ahead, eq_2G, eq_2g, decide_eq_true_eq, Bool.not_eq_true', decide_eq_false_iff_not, Bool.false_eq_true, not_false_eq_true] at e1 e2 e3 e4 e5 e6) <;> grind [Nw.smallStep, nextI])
              · refine ⟨_, rfl, _, _, _, _, rfl, rfl, hS, atI_nat (j := 0) rfl, rfl, _, rfl, ite2 (fun e7 => ?_) (fun e7 => ?_)⟩
                · refine ⟨_, rfl, _, _, rfl, rfl, (by simp only [PySem.Str.length_append, len_3, len_s, len_o, len_2S, len_n, lenL, lenD]; decide), _, rfl, _, rfl, logC c, _, _, rfl, rfl, (by simp only [PySem.Str.length_append, len_3, len_s, len_o, len_2S, len_n, lenL, lenD]; decide), _, _, rfl, rfl, (by simp only [PySem.Str.length_append, len_3, len_s, len_o, len_2S, len_n, lenL, lenD]; decide), ?_⟩
                  exact go' (r := .three .n c.next .s) (tx_sn c) (by (try simp only [eq_G, eq_D, eq_R, eq_s, eq_d, eq_dot, eq_m3, eq_m2, eqL_h, eqL_t, eqL_n, eqC_0, eqC_1, eqA_S, eqA_o, dec_eq_int, eqW_none, eqW_ahead, eq_2G, eq_2g, decide_eq_true_eq, Bool.not_eq_true', decide_eq_false_iff_not, Bool.false_eq_true, not_false_eq_true] at e1 e2 e3 e4 e5 e6 e7) <;> grind [Nw.smallStep, nextI])
                · refine ⟨_, rfl, _, _, rfl, rfl, (by simp only [PySem.Str.length_append, len_3, len_s, len_o, len_2S, len_n, lenL, lenD]; decide), _, rfl, _, rfl, logC c, _, _, rfl, rfl, (by simp only [PySem.Str.length_append, len_3, len_s, len_o, len_2S, len_n, lenL, lenD]; decide), _, _, rfl, rfl, (by simp only [PySem.Str.length_append, len_3, len_s, len_o, len_2S, len_n, lenL, lenD]; decide), ?_⟩
                  exact go' (r := .three .n c.next .o) (tx_on c) (by (try simp only [eq_G, eq_D, eq_R, eq_s, eq_d, eq_dot, eq_m3, eq_m2, eqL_h, eqL_t, eqL_n, eqC_0, eqC_1, eqA_S, eqA_o, dec_eq_int, eqW_none, eqW_ahead, eq_2G, eq_2g, decide_eq_true_eq, Bool.not_eq_true', decide_eq_false_iff_not, Bool.false_eq_true, not_false_eq_true] at e1 e2 e3 e4 e5 e6 e7) <;> grind [Nw.smallStep, nextI])
          · refine iteF ?_
            refine ⟨_, rfl, rfl, _, rfl, ite2 (fun e8 => ?_) (fun e8 => ?_)⟩
            · exact go none (by (try simp only [eq_G, eq_D, eq_R, eq_s, eq_d, eq_dot, eq_m3, eq_m2, eqL_h, eqL_t, eqL_n, eqC_0, eqC_1, eqA_S, eqA_o, dec_eq_int, eqW_none, eqW_ahead, eq_2G, eq_2g, decide_eq_true_eq, Bool.not_eq_true', decide_eq_false_iff_not, Bool.false_eq_true, not_false_eq_true] at e1 e2 e3 e4 e8) <;> grind [Nw.smallStep, nextI])
            · refine ⟨_, rfl, _, _, _, _, rfl, rfl, hS, atI_nat (j := 0) rfl, rfl, _, rfl, ite2 (fun e9 => ?_) (fun e9 => ?_)⟩
              · refine ⟨_, rfl, _, _, rfl, rfl, (by simp only [PySem.Str.length_append, len_3, len_s, len_o, len_2S, len_n, lenL, lenD]; decide), _, rfl, _, rfl, logC c, _, _, rfl, rfl, (by simp only [PySem.Str.length_append, len_3, len_s, len_o, len_2S, len_n, lenL, lenD]; decide), _, _, rfl, rfl, (by simp only [PySem.Str.length_append, len_3, len_s, len_o, len_2S, len_n, lenL, lenD]; decide), ?_⟩
                exact go' (r := .three .n c.next .s) (tx_sn c) (by (try simp only [eq_G, eq_D, eq_R, eq_s, eq_d, eq_dot, eq_m3, eq_m2, eqL_h, eqL_t, eqL_n, eqC_0, eqC_1, eqA_S, eqA_o, dec_eq_int, eqW_none, eqW_ahead, eq_2G, eq_2g, decide_eq_true_eq, Bool.not_eq_true', decide_eq_false_iff_not, Bool.false_eq_true, not_false_eq_true] at e1 e2 e3 e4 e8 e9) <;> grind [Nw.smallStep, nextI])
              · refine ⟨_, rfl, _, _, rfl, rfl, (by simp only [PySem.Str.length_append, len_3, len_s, len_o, len_2S, len_n, lenL, lenD]; decide), _, rfl, _, rfl, logC c, _, _, rfl, rfl, (by simp only [PySem.Str.length_append, len_3, len_s, len_o, len_2S, len_n, lenL, lenD]; decide), _, _, rfl, rfl, (by simp only [PySem.Str.length_append, len_3, len_s, len_o, len_2S, len_n, lenL, lenD]; decide), ?_⟩
                exact go' (r := .three .n c.next .o) (tx_on c) (by (try simp only [eq_G, eq_D, eq_R, eq_s, eq_d, eq_dot, eq_m3, eq_m2, eqL_h, eqL_t, eqL_n, eqC_0, eqC_1, eqA_S, eqA_o, dec_eq_int, eqW_none, eqW_ahead, eq_2G, eq_2g, decide_eq_true_eq, Bool.not_eq_true', decide_eq_false_iff_not, Bool.false_eq_true, not_false_eq_true] at e1 e2 e3 e4 e8 e9) <;> grind [Nw.smallStep, nextI])
        · refine iteF ?_
          refine ⟨_, rfl, rfl, _, rfl, ite2 (fun e10 => ?_) (fun e10 => ?_)⟩
          · exact go none (by (try simp only [eq_G, eq_D, eq_R, eq_s, eq_d, eq_dot, eq_m3, eq_m2, eqL_h, eqL_t, eqL_n, eqC_0, eqC_1, eqA_S, eqA_o, dec_eq_int, eqW_none, eqW_ahead, eq_2G, eq_2g, decide_eq_true_eq, Bool.not_eq_true', decide_eq_false_iff_not, Bool.false_eq_true, not_false_eq_true] at e1 e2 e3 e10) <;> grind [Nw.smallStep, nextI])
          · refine ⟨_, rfl, _, _, _, _, rfl, rfl, hS, atI_nat (j := 0) rfl, rfl, _, rfl, ite2 (fun e11 => ?_) (fun e11 => ?_)⟩
            · refine ⟨_, rfl, _, _, rfl, rfl, (by simp only [PySem.Str.length_append, len_3, len_s, len_o, len_2S, len_n, lenL, lenD]; decide), _, rfl, _, rfl, logC c, _, _, rfl, rfl, (by simp only [PySem.Str.length_append, len_3, len_s, len_o, len_2S, len_n, lenL, lenD]; decide), _, _, rfl, rfl, (by simp only [PySem.Str.length_append, len_3, len_s, len_o, len_2S, len_n, lenL, lenD]; decide), ?_⟩
              exact go' (r := .three .n c.next .s) (tx_sn c) (by (try simp only [eq_G, eq_D, eq_R, eq_s, eq_d, eq_dot, eq_m3, eq_m2, eqL_h, eqL_t, eqL_n, eqC_0, eqC_1, eqA_S, eqA_o, dec_eq_int, eqW_none, eqW_ahead, eq_2G, eq_2g, decide_eq_true_eq, Bool.not_eq_true', decide_eq_false_iff_not, Bool.false_eq_true, not_false_eq_true] at e1 e2 e3 e10 e11) <;> grind [Nw.smallStep, nextI])
            · refine ⟨_, rfl, _, _, rfl, rfl, (by simp only [PySem.Str.length_append, len_3, len_s, len_o, len_2S, len_n, lenL, lenD]; decide), _, rfl, _, rfl, logC c, _, _, rfl, rfl, (by simp only [PySem.Str.length_append, len_3, len_s, len_o, len_2S, len_n, lenL, lenD]; decide), _, _, rfl, rfl, (by simp only [PySem.Str.length_append, len_3, len_s, len_o, len_2S, len_n, lenL, lenD]; decide), ?_⟩
              exact go' (r := .three .n c.next .o) (tx_on c) (by (try simp only [eq_G, eq_D, eq_R, eq_s, eq_d, eq_dot, eq_m3, eq_m2, eqL_h, eqL_t, eqL_n, eqC_0, eqC_1, eqA_S, eqA_o, dec_eq_int, eqW_none, eqW_ahead, eq_2G, eq_2g, decide_eq_true_eq, Bool.not_eq_true', decide_eq_false_iff_not, Bool.false_eq_true, not_false_eq_true] at e1 e2 e3 e10 e11) <;> grind [Nw.smallStep, nextI])
      · refine ⟨_, rfl, _, _, _, rfl, rfl, len4, atI_nat (j := 2) rfl, _, _, rfl, intC c, (by show (1 : Nat) ≤ 640; decide), _, _, rfl, rfl, _, _, rfl, rfl, (by show (0 : Int) < 3; decide), ?_⟩
        refine ⟨_, rfl, rfl, _, rfl, ite2 (fun e12 => ?_) (fun e12 => ?_)⟩
        · refine ⟨_, rfl, _, _, _, _, rfl, rfl, hS, atI_nat (j := 0) rfl, rfl, _, rfl, ite2 (fun e13 => ?_) (fun e13 => ?_)⟩
          · refine ⟨_, rfl, rfl, _, rfl, ite2 (fun e14 => ?_) (fun e14 => ?_)⟩
            · refine ⟨_, rfl, _, _, rfl, rfl, (by simp only [PySem.Str.length_append, len_3, len_s, len_o, len_2S, len_n, lenL, lenD]; decide), _, _, rfl, rfl, (by simp only [PySem.Str.length_append, len_3, len_s, len_o, len_2S, len_n, lenL, lenD]; decide), ?_⟩
              exact go' (r := .three l .c2 .S) (tx_S l) (by (try simp only [eq_G, eq_D, eq_R, eq_s, eq_d, eq_dot, eq_m3, eq_m2, eqL_h, eqL_t, eqL_n, eqC_0, eqC_1, eqA_S, eqA_o, dec_eq_int, eqW_none, eqW_ahead, eq_2G, eq_2g, decide_eq_true_eq, Bool.not_eq_true', decide_eq_false_iff_not, Bool.false_eq_true, not_false_eq_true] at e1 e2 e12 e13 e14) <;> grind [Nw.smallStep, nextI])
            · refine ⟨_, rfl, rfl, _, rfl, ite2 (fun e15 => ?_) (fun e15 => ?_)⟩
              · exact go none (by (try simp only [eq_G, eq_D, eq_R, eq_s, eq_d, eq_dot, eq_m3, eq_m2, eqL_h, eqL_t, eqL_n, eqC_0, eqC_1, eqA_S, eqA_o, dec_eq_int, eqW_none, eqW_ahead, eq_2G, eq_2g, decide_eq_true_eq, Bool.not_eq_true', decide_eq_false_iff_not, Bool.false_eq_true, not_false_eq_true] at e1 e2 e12 e13 e14 e15) <;> grind [Nw.smallStep, nextI])
              · refine ⟨_, rfl, _, _, _, _, rfl, rfl, hS, atI_nat (j := 0) rfl, rfl, _, rfl, ite2 (fun e16 => ?_) (fun e16 => ?_)⟩
                · refine ⟨_, rfl, _, _, rfl, rfl, (by simp only [PySem.Str.length_append, len_3, len_s, len_o, len_2S, len_n, lenL, lenD]; decide), _, rfl, _, rfl, logC c, _, _, rfl, rfl, (by simp only [PySem.Str.length_append, len_3, len_s, len_o, len_2S, len_n, lenL, lenD]; decide), _, _, rfl, rfl, (by simp only [PySem.Str.length_append, len_3, len_s, len_o, len_2S, len_n, lenL, lenD]; decide), ?_⟩
                  exact go' (r := .three l c.next .s) (tx_s l c) (by (try simp only [eq_G, eq_D, eq_R, eq_s, eq_d, eq_dot, eq_m3, eq_m2, eqL_h, eqL_t, eqL_n, eqC_0, eqC_1, eqA_S, eqA_o, dec_eq_int, eqW_none, eqW_ahead, eq_2G, eq_2g, decide_eq_true_eq, Bool.not_eq_true', decide_eq_false_iff_not, Bool.false_eq_true, not_false_eq_true] at e1 e2 e12 e13 e14 e15 e16) <;> grind [Nw.smallStep, nextI])
                · refine ⟨_, rfl, _, _, rfl, rfl, (by simp only [PySem.Str.length_append, len_3, len_s, len_o, len_2S, len_n, lenL, lenD]; decide), _, rfl, _, rfl, logC c, _, _, rfl, rfl, (by simp only [PySem.Str.length_append, len_3, len_s, len_o, len_2S, len_n, lenL, lenD]; decide), _, _, rfl, rfl, (by simp only [PySem.Str.length_append, len_3, len_s, len_o, len_2S, len_n, lenL, lenD]; decide), ?_⟩
                  exact go' (r := .three l c.next .o) (tx_o l c) (by (try simp only [eq_G, eq_D, eq_R, eq_s, eq_d, eq_dot, eq_m3, eq_m2, eqL_h, eqL_t, eqL_n, eqC_0, eqC_1, eqA_S, eqA_o, dec_eq_int, eqW_none, eqW_ahead, eq_2G, eq_2g, decide_eq_true_eq, Bool.not_eq_true', decide_eq_false_iff_not, Bool.false_eq_true, not_false_eq_true] at e1 e2 e12 e13 e14 e15 e16) <;> grind [Nw.smallStep, nextI])
          · refine iteF ?_
            refine ⟨_, rfl, rfl, _, rfl, ite2 (fun e17 => ?_) (fun e17 => ?_)⟩
            · exact go none (by (try simp only [eq_G, eq_D, eq_R, eq_s, eq_d, eq_dot, eq_m3, eq_m2, eqL_h, eqL_t, eqL_n, eqC_0, eqC_1, eqA_S, eqA_o, dec_eq_int, eqW_none, eqW_ahead, eq_2G, eq_2g, decide_eq_true_eq, Bool.not_eq_true', decide_eq_false_iff_not, Bool.false_eq_true, not_false_eq_true] at e1 e2 e12 e13 e17) <;> grind [Nw.smallStep, nextI])
            · refine ⟨_, rfl, _, _, _, _, rfl, rfl, hS, atI_nat (j := 0) rfl, rfl, _, rfl, ite2 (fun e18 => ?_) (fun e18 => ?_)⟩
              · refine ⟨_, rfl, _, _, rfl, rfl, (by simp only [PySem.Str.length_append, len_3, len_s, len_o, len_2S, len_n, lenL, lenD]; decide), _, rfl, _, rfl, logC c, _, _, rfl, rfl, (by simp only [PySem.Str.length_append, len_3, len_s, len_o, len_2S, len_n, lenL, lenD]; decide), _, _, rfl, rfl, (by simp only [PySem.Str.length_append, len_3, len_s, len_o, len_2S, len_n, lenL, lenD]; decide), ?_⟩
                exact go' (r := .three l c.next .s) (tx_s l c) (by (try simp only [eq_G, eq_D, eq_R, eq_s, eq_d, eq_dot, eq_m3, eq_m2, eqL_h, eqL_t, eqL_n, eqC_0, eqC_1, eqA_S, eqA_o, dec_eq_int, eqW_none, eqW_ahead, eq_2G, eq_2g, decide_eq_true_eq, Bool.not_eq_true', decide_eq_false_iff_not, Bool.false_eq_true, not_false_eq_true] at e1 e2 e12 e13 e17 e18) <;> grind [Nw.smallStep, nextI])
              · refine ⟨_, rfl, _, _, rfl, rfl, (by simp only [PySem.Str.length_append, len_3, len_s, len_o, len_2S, len_n, lenL, lenD]; decide), _, rfl, _, rfl, logC c, _, _, rfl, rfl, (by simp only [PySem.Str.length_append, len_3, len_s, len_o, len_2S, len_n, lenL, lenD]; decide), _, _, rfl, rfl, (by simp only [PySem.Str.length_append, len_3, len_s, len_o, len_2S, len_n, lenL, lenD]; decide), ?_⟩
                exact go' (r := .three l c.next .o) (tx_o l c) (by (try simp only [eq_G, eq_D, eq_R, eq_s, eq_d, eq_dot, eq_m3, eq_m2, eqL_h, eqL_t, eqL_n, eqC_0, eqC_1, eqA_S, eqA_o, dec_eq_int, eqW_none, eqW_ahead, eq_2G, eq_2g, decide_eq_true_eq, Bool.not_eq_true', decide_eq_false_iff_not, Bool.false_eq_true, not_false_eq_true] at e1 e2 e12 e13 e17 e18) <;> grind [Nw.smallStep, nextI])
        · refine iteF ?_
          refine ⟨_, rfl, rfl, _, rfl, ite2 (fun e19 => ?_) (fun e19 => ?_)⟩
          · exact go none (by (try simp only [eq_G, eq_D, eq_R, eq_s, eq_d, eq_dot, eq_m3, eq_m2, eqL_h, eqL_t, eqL_n, eqC_0, eqC_1, eqA_S, eqA_o, dec_eq_int, eqW_none, eqW_ahead, eq_2G, eq_2g, decide_eq_true_eq, Bool.not_eq_true', decide_eq_false_iff_not, Bool.false_eq_true, not_false_eq_true] at e1 e2 e12 e19) <;> grind [Nw.smallStep, nextI])
          · refine ⟨_, rfl, _, _, _, _, rfl, rfl, hS, atI_nat (j := 0) rfl, rfl, _, rfl, ite2 (fun e20 => ?_) (fun e20 => ?_)⟩
            · refine ⟨_, rfl, _, _, rfl, rfl, (by simp only [PySem.Str.length_append, len_3, len_s, len_o, len_2S, len_n, lenL, lenD]; decide), _, rfl, _, rfl, logC c, _, _, rfl, rfl, (by simp only [PySem.Str.length_append, len_3, len_s, len_o, len_2S, len_n, lenL, lenD]; decide), _, _, rfl, rfl, (by simp only [PySem.Str.length_append, len_3, len_s, len_o, len_2S, len_n, lenL, lenD]; decide), ?_⟩
              exact go' (r := .three l c.next .s) (tx_s l c) (by (try simp only [eq_G, eq_D, eq_R, eq_s, eq_d, eq_dot, eq_m3, eq_m2, eqL_h, eqL_t, eqL_n, eqC_0, eqC_1, eqA_S, eqA_o, dec_eq_int, eqW_none, eqW_ahead, eq_2G, eq_2g, decide_eq_true_eq, Bool.not_eq_true', decide_eq_false_iff_not, Bool.false_eq_true, not_false_eq_true] at e1 e2 e12 e19 e20) <;> grind [Nw.smallStep, nextI])
            · refine ⟨_, rfl, _, _, rfl, rfl, (by simp only [PySem.Str.length_append, len_3, len_s, len_o, len_2S, len_n, lenL, lenD]; decide), _, rfl, _, rfl, logC c, _, _, rfl, rfl, (by simp only [PySem.Str.length_append, len_3, len_s, len_o, len_2S, len_n, lenL, lenD]; decide), _, _, rfl, rfl, (by simp only [PySem.Str.length_append, len_3, len_s, len_o, len_2S, len_n, lenL, lenD]; decide), ?_⟩
              exact go' (r := .three l c.next .o) (tx_o l c) (by (try simp only [eq_G, eq_D, eq_R, eq_s, eq_d, eq_dot, eq_m3, eq_m2, eqL_h, eqL_t, eqL_n, eqC_0, eqC_1, eqA_S, eqA_o, dec_eq_int, eqW_none, eqW_ahead, eq_2G, eq_2g, decide_eq_true_eq, Bool.not_eq_true', decide_eq_false_iff_not, Bool.false_eq_true, not_false_eq_true] at e1 e2 e12 e19 e20) <;> grind [Nw.smallStep, nextI])
def sp_parted (K : PySem.W.Frag) : Sp := fun vs H Q _ => ∃ (b : Addr) (k : Nw.Kd) (t : V), vs = [.ref b] ∧ SqT K H b [.str (kT k), t] ∧ Q (.str (qT (Nw.parted k))) H
theorem ok_parted {f : Addr} {fd : FuncData} (F : Fun K "parted" "parted" s_parted f fd) : FnOk P w K mg base CX0 1 f fd ["sign"] (sp_parted K) := by
  refine F.ok sc_parted (fun vs H Q E h => ?_) (fun cdv A outer s H vs Q E hr h => ?_)
  · obtain ⟨b, k, t, rfl, _⟩ := h
    rfl
  · obtain ⟨b, k, t, rfl, hS, q⟩ := h
    have go : ∀ {x : Str} {r : Nw.St}, x = qT r → Nw.parted k = r → Q (.str x) H := fun e e2 => by rw [e, ← e2]; exact q
    refine ⟨_, (pss_cons (ps_if (pt_cmpR op_eq (pe_ix ix_tup (pv 0) pe_int (fun _ _ => rfl)) pe_str (nomark _))
        (pss_one (ps_ret pe_str))
        pss_nil)
      (pss_one (ps_ret pe_str))), ?_⟩
    refine ⟨_, rfl, _, _, _, _, rfl, rfl, hS, atI_nat (j := 0) rfl, rfl, _, rfl, ite2 (fun e1 => ?_) (fun e1 => ?_)⟩
    · exact go q_2_ (by (try simp only [eq_G, eq_D, eq_R, eq_s, eq_d, eq_dot, eq_m3, eq_m2, eqL_h, eqL_t, eqL_n, eqC_0, eqC_1, eqA_S, eqA_o, dec_eq_int, eqW_none, eqW_ahead, eq_2G, eq_2g, decide_eq_true_eq, Bool.not_eq_true', decide_eq_false_iff_not, Bool.false_eq_true, not_false_eq_true] at e1) <;> grind [Nw.parted])
    · exact go q_3n0_ (by (try simp only [eq_G, eq_D, eq_R, eq_s, eq_d, eq_dot, eq_m3, eq_m2, eqL_h, eqL_t, eqL_n, eqC_0, eqC_1, eqA_S, eqA_o, dec_eq_int, eqW_none, eqW_ahead, eq_2G, eq_2g, decide_eq_true_eq, Bool.not_eq_true', decide_eq_false_iff_not, Bool.false_eq_true, not_false_eq_true] at e1) <;> grind [Nw.parted])
def sp_two_step (K : PySem.W.Frag) : Sp := fun vs H Q _ => ∃ (b : Addr) (q0 : Nw.St) (k : Nw.Kd) (t : V) (u : Int), vs = [.str (qT q0), .ref b, .int u] ∧ SqT K H b [.str (kT k), t] ∧ Q (oQ (Nw.twoStep q0 k u)) H
theorem ok_two_step {f fP fS fR : Addr} {fd fdP fdS fdR : FuncData} (F : Fun K "two_step" "two_step" s_two_step f fd) (D_parting : DefAt K mg "parting" fP fdP ["sign"]) (G_parting : FnOk P w K mg base CX0 2 fP fdP ["sign"] (sp_kd Nw.Kd.parting K))
    (D_small : DefAt K mg "small" fS fdS ["sign"]) (G_small : FnOk P w K mg base CX0 2 fS fdS ["sign"] (sp_kd Nw.Kd.small K)) (D_parted : DefAt K mg "parted" fR fdR ["sign"]) (G_parted : FnOk P w K mg base CX0 1 fR fdR ["sign"] (sp_parted K)) : FnOk P w K mg base CX0 3 f fd ["state", "sign", "worth"] (sp_two_step K) := by
  refine F.ok sc_two_step (fun vs H Q E h => ?_) (fun cdv A outer s H vs Q E hr h => ?_)
  · obtain ⟨b, q0, k, t, u, rfl, _⟩ := h
    rfl
  · obtain ⟨b, q0, k, t, u, rfl, hS, q⟩ := h
    have go : ∀ z, Nw.twoStep q0 k u = z → Q (oQ z) H := fun z e => by rw [← e]; exact q
    have go' : ∀ {x : Str} {r : Nw.St}, x = qT r → Nw.twoStep q0 k u = some r → Q (.str x) H := fun e e2 => by rw [e]; exact go _ e2
    refine ⟨_, (pss_cons (ps_set (i := 3) sc_two_step.nd rfl (.inl rfl) (pe_cmpR op_eq (pe_ix ix_tup (pv 1) pe_int (fun _ _ => rfl)) pe_str (nomark _)))
      (pss_cons (ps_if (PW.pt (pw_or (pt_cmpR op_eq (pv 0) pe_str (nomark _)) (pw_or1 (PW.pt (pw_and (pt_cmpR op_eq (pv 0) pe_str (nomark _)) (pw_and1 (pt_val (pv 3))))))))
        (pss_cons (ps_if (PW.pt (pw_and (pt_cmpR op_eq (pv 0) pe_str (nomark _)) (pw_and (pt_val (pv 3)) (pw_and1 (pt_cmpR op_eq (pv 2) pe_int (nomark _))))))
          (pss_one (ps_ret pe_str))
          pss_nil)
        (pss_one (ps_ret pe_non)))
        pss_nil)
      (pss_cons (ps_if (pt_val (pe_call G_parting (hr.mono (by decide)) (by rfl) D_parting.g D_parting.kp D_parting.b .nil pass0 (pa_cons (pv 1) pa_nil)))
        (pss_cons (ps_if (pt_cmpR op_ne (pv 2) pe_int (nomark _))
          (pss_one (ps_ret pe_non))
          pss_nil)
        (pss_cons (ps_if (pt_val (pv 3))
          (pss_one (ps_ret pe_str))
          pss_nil)
        (pss_one (ps_ret (pe_call G_parted (hr.mono (by decide)) (by rfl) D_parted.g D_parted.kp D_parted.b .nil pass0 (pa_cons (pv 1) pa_nil))))))
        pss_nil)
      (pss_cons (ps_if (pt_val (pe_call G_small (hr.mono (by decide)) (by rfl) D_small.g D_small.kp D_small.b .nil pass0 (pa_cons (pv 1) pa_nil)))
        (pss_cons (ps_if (pt_cmpR op_eq (pv 2) pe_int (nomark _))
          (pss_one (ps_ret pe_str))
          pss_nil)
        (pss_one (ps_ret pe_non)))
        pss_nil)
      (pss_cons (ps_if (PW.pt (pw_and (pt_cmpR op_eq (pe_ix ix_tup (pv 1) pe_int (fun _ _ => rfl)) pe_str (nomark _)) (pw_and1 (pt_cmpR op_eq (pv 2) pe_int (nomark _)))))
        (pss_one (ps_ret pe_str))
        pss_nil)
      (pss_cons (ps_if (pt_cmpR op_ne (pv 2) pe_int (nomark _))
        (pss_one (ps_ret pe_non))
        pss_nil)
      (pss_cons (ps_if (pt_cmpR op_eq (pe_ix ix_tup (pv 1) pe_int (fun _ _ => rfl)) pe_str (nomark _))
        (pss_one (ps_ret pe_str))
        pss_nil)
      (pss_one (ps_ret pe_str))))))))), ?_⟩
    refine ⟨_, rfl, _, _, _, _, rfl, rfl, hS, atI_nat (j := 0) rfl, rfl, ?_⟩
    refine ⟨_, rfl, rfl, _, rfl, ite2 (fun e1 => ?_) (fun e1 => ?_)⟩
    · refine iteT ?_
      refine ⟨_, rfl, rfl, _, rfl, ite2 (fun e2 => ?_) (fun e2 => ?_)⟩
      · refine ⟨_, rfl, _, rfl, ite2 (fun e3 => ?_) (fun e3 => ?_)⟩
        · refine ⟨_, rfl, rfl, _, rfl, ite2 (fun e4 => ?_) (fun e4 => ?_)⟩
          · exact go' (r := .two) q_2_ (by (try simp only [eq_G, eq_D, eq_R, eq_s, eq_d, eq_dot, eq_m3, eq_m2, eqL_h, eqL_t, eqL_n, eqC_0, eqC_1, eqA_S, eqA_o, dec_eq_int, eqW_none, eqW_ahead, eq_2G, eq_2g, decide_eq_true_eq, Bool.not_eq_true', decide_eq_false_iff_not, Bool.false_eq_true, not_false_eq_true] at e1 e2 e3 e4) <;> (grind [Nw.twoStep, Nw.Kd.parting]))
          · exact go none (by (try simp only [eq_G, eq_D, eq_R, eq_s, eq_d, eq_dot, eq_m3, eq_m2, eqL_h, eqL_t, eqL_n, eqC_0, eqC_1, eqA_S, eqA_o, dec_eq_int, eqW_none, eqW_ahead, eq_2G, eq_2g, decide_eq_true_eq, Bool.not_eq_true', decide_eq_false_iff_not, Bool.false_eq_true, not_false_eq_true] at e1 e2 e3 e4) <;> (grind [Nw.twoStep, Nw.Kd.parting]))
        · refine iteF ?_
          exact go none (by (try simp only [eq_G, eq_D, eq_R, eq_s, eq_d, eq_dot, eq_m3, eq_m2, eqL_h, eqL_t, eqL_n, eqC_0, eqC_1, eqA_S, eqA_o, dec_eq_int, eqW_none, eqW_ahead, eq_2G, eq_2g, decide_eq_true_eq, Bool.not_eq_true', decide_eq_false_iff_not, Bool.false_eq_true, not_false_eq_true] at e1 e2 e3) <;> (grind [Nw.twoStep, Nw.Kd.parting]))
      · refine iteF ?_
        exact go none (by (try simp only [eq_G, eq_D, eq_R, eq_s, eq_d, eq_dot, eq_m3, eq_m2, eqL_h, eqL_t, eqL_n, eqC_0, eqC_1, eqA_S, eqA_o, dec_eq_int, eqW_none, eqW_ahead, eq_2G, eq_2g, decide_eq_true_eq, Bool.not_eq_true', decide_eq_false_iff_not, Bool.false_eq_true, not_false_eq_true] at e1 e2) <;> (grind [Nw.twoStep, Nw.Kd.parting]))
    · refine ⟨_, rfl, rfl, _, rfl, ite2 (fun e5 => ?_) (fun e5 => ?_)⟩
      · refine ⟨_, rfl, _, rfl, ite2 (fun e6 => ?_) (fun e6 => ?_)⟩
        · refine ⟨_, rfl, rfl, _, rfl, ite2 (fun e7 => ?_) (fun e7 => ?_)⟩
          · refine ⟨_, rfl, _, rfl, ite2 (fun e8 => ?_) (fun e8 => ?_)⟩
            · refine ⟨_, rfl, rfl, _, rfl, ite2 (fun e9 => ?_) (fun e9 => ?_)⟩
              · exact go' (r := .two) q_2_ (by (try simp only [eq_G, eq_D, eq_R, eq_s, eq_d, eq_dot, eq_m3, eq_m2, eqL_h, eqL_t, eqL_n, eqC_0, eqC_1, eqA_S, eqA_o, dec_eq_int, eqW_none, eqW_ahead, eq_2G, eq_2g, decide_eq_true_eq, Bool.not_eq_true', decide_eq_false_iff_not, Bool.false_eq_true, not_false_eq_true] at e1 e5 e6 e7 e8 e9) <;> (grind [Nw.twoStep, Nw.Kd.parting]))
              · exact go none (by (try simp only [eq_G, eq_D, eq_R, eq_s, eq_d, eq_dot, eq_m3, eq_m2, eqL_h, eqL_t, eqL_n, eqC_0, eqC_1, eqA_S, eqA_o, dec_eq_int, eqW_none, eqW_ahead, eq_2G, eq_2g, decide_eq_true_eq, Bool.not_eq_true', decide_eq_false_iff_not, Bool.false_eq_true, not_false_eq_true] at e1 e5 e6 e7 e8 e9) <;> (grind [Nw.twoStep, Nw.Kd.parting]))
            · refine iteF ?_
              exact go none (by (try simp only [eq_G, eq_D, eq_R, eq_s, eq_d, eq_dot, eq_m3, eq_m2, eqL_h, eqL_t, eqL_n, eqC_0, eqC_1, eqA_S, eqA_o, dec_eq_int, eqW_none, eqW_ahead, eq_2G, eq_2g, decide_eq_true_eq, Bool.not_eq_true', decide_eq_false_iff_not, Bool.false_eq_true, not_false_eq_true] at e1 e5 e6 e7 e8) <;> (grind [Nw.twoStep, Nw.Kd.parting]))
          · refine iteF ?_
            exact go none (by (try simp only [eq_G, eq_D, eq_R, eq_s, eq_d, eq_dot, eq_m3, eq_m2, eqL_h, eqL_t, eqL_n, eqC_0, eqC_1, eqA_S, eqA_o, dec_eq_int, eqW_none, eqW_ahead, eq_2G, eq_2g, decide_eq_true_eq, Bool.not_eq_true', decide_eq_false_iff_not, Bool.false_eq_true, not_false_eq_true] at e1 e5 e6 e7) <;> (grind [Nw.twoStep, Nw.Kd.parting]))
        · refine ⟨_, rfl, b, k, t, rfl, hS, _, rfl, ite2 (fun e10 => ?_) (fun e10 => ?_)⟩
          · refine ⟨_, rfl, rfl, _, rfl, ite2 (fun e11 => ?_) (fun e11 => ?_)⟩
            · exact go none (by (try simp only [eq_G, eq_D, eq_R, eq_s, eq_d, eq_dot, eq_m3, eq_m2, eqL_h, eqL_t, eqL_n, eqC_0, eqC_1, eqA_S, eqA_o, dec_eq_int, eqW_none, eqW_ahead, eq_2G, eq_2g, decide_eq_true_eq, Bool.not_eq_true', decide_eq_false_iff_not, Bool.false_eq_true, not_false_eq_true] at e1 e5 e6 e10 e11) <;> (grind [Nw.twoStep, Nw.Kd.parting]))
            · refine ⟨_, rfl, _, rfl, ite2 (fun e12 => ?_) (fun e12 => ?_)⟩
              · exact go' (r := .two) q_2_ (by (try simp only [eq_G, eq_D, eq_R, eq_s, eq_d, eq_dot, eq_m3, eq_m2, eqL_h, eqL_t, eqL_n, eqC_0, eqC_1, eqA_S, eqA_o, dec_eq_int, eqW_none, eqW_ahead, eq_2G, eq_2g, decide_eq_true_eq, Bool.not_eq_true', decide_eq_false_iff_not, Bool.false_eq_true, not_false_eq_true] at e1 e5 e6 e10 e11 e12) <;> (grind [Nw.twoStep, Nw.Kd.parting]))
              · refine ⟨_, rfl, b, k, t, rfl, hS, ?_⟩
                exact go (some (Nw.parted k)) (by (try simp only [eq_G, eq_D, eq_R, eq_s, eq_d, eq_dot, eq_m3, eq_m2, eqL_h, eqL_t, eqL_n, eqC_0, eqC_1, eqA_S, eqA_o, dec_eq_int, eqW_none, eqW_ahead, eq_2G, eq_2g, decide_eq_true_eq, Bool.not_eq_true', decide_eq_false_iff_not, Bool.false_eq_true, not_false_eq_true] at e1 e5 e6 e10 e11 e12) <;> grind [Nw.twoStep, Nw.Kd.parting])
          · refine ⟨_, rfl, b, k, t, rfl, hS, _, rfl, ite2 (fun e13 => ?_) (fun e13 => ?_)⟩
            · refine ⟨_, rfl, rfl, _, rfl, ite2 (fun e14 => ?_) (fun e14 => ?_)⟩
              · exact go' (r := .two) q_2_ (by (try simp only [eq_G, eq_D, eq_R, eq_s, eq_d, eq_dot, eq_m3, eq_m2, eqL_h, eqL_t, eqL_n, eqC_0, eqC_1, eqA_S, eqA_o, dec_eq_int, eqW_none, eqW_ahead, eq_2G, eq_2g, decide_eq_true_eq, Bool.not_eq_true', decide_eq_false_iff_not, Bool.false_eq_true, not_false_eq_true] at e1 e5 e6 e10 e13 e14) <;> (grind [Nw.twoStep, Nw.Kd.parting]))
              · exact go none (by (try simp only [eq_G, eq_D, eq_R, eq_s, eq_d, eq_dot, eq_m3, eq_m2, eqL_h, eqL_t, eqL_n, eqC_0, eqC_1, eqA_S, eqA_o, dec_eq_int, eqW_none, eqW_ahead, eq_2G, eq_2g, decide_eq_true_eq, Bool.not_eq_true', decide_eq_false_iff_not, Bool.false_eq_true, not_false_eq_true] at e1 e5 e6 e10 e13 e14) <;> (grind [Nw.twoStep, Nw.Kd.parting]))
            · refine ⟨_, rfl, _, _, _, _, rfl, rfl, hS, atI_nat (j := 0) rfl, rfl, _, rfl, ite2 (fun e15 => ?_) (fun e15 => ?_)⟩
              · refine ⟨_, rfl, rfl, _, rfl, ite2 (fun e16 => ?_) (fun e16 => ?_)⟩
                · exact go' (r := .twoG) q_2G (by (try simp only [eq_G, eq_D, eq_R, eq_s, eq_d, eq_dot, eq_m3, eq_m2, eqL_h, eqL_t, eqL_n, eqC_0, eqC_1, eqA_S, eqA_o, dec_eq_int, eqW_none, eqW_ahead, eq_2G, eq_2g, decide_eq_true_eq, Bool.not_eq_true', decide_eq_false_iff_not, Bool.false_eq_true, not_false_eq_true] at e1 e5 e6 e10 e13 e15 e16) <;> (grind [Nw.twoStep, Nw.Kd.parting]))
                · refine ⟨_, rfl, rfl, _, rfl, ite2 (fun e17 => ?_) (fun e17 => ?_)⟩
                  · exact go none (by (try simp only [eq_G, eq_D, eq_R, eq_s, eq_d, eq_dot, eq_m3, eq_m2, eqL_h, eqL_t, eqL_n, eqC_0, eqC_1, eqA_S, eqA_o, dec_eq_int, eqW_none, eqW_ahead, eq_2G, eq_2g, decide_eq_true_eq, Bool.not_eq_true', decide_eq_false_iff_not, Bool.false_eq_true, not_false_eq_true] at e1 e5 e6 e10 e13 e15 e16 e17) <;> (grind [Nw.twoStep, Nw.Kd.parting]))
                  · refine ⟨_, rfl, _, _, _, _, rfl, rfl, hS, atI_nat (j := 0) rfl, rfl, _, rfl, ite2 (fun e18 => ?_) (fun e18 => ?_)⟩
                    · exact go' (r := .twog) q_2g (by (try simp only [eq_G, eq_D, eq_R, eq_s, eq_d, eq_dot, eq_m3, eq_m2, eqL_h, eqL_t, eqL_n, eqC_0, eqC_1, eqA_S, eqA_o, dec_eq_int, eqW_none, eqW_ahead, eq_2G, eq_2g, decide_eq_true_eq, Bool.not_eq_true', decide_eq_false_iff_not, Bool.false_eq_true, not_false_eq_true] at e1 e5 e6 e10 e13 e15 e16 e17 e18) <;> (grind [Nw.twoStep, Nw.Kd.parting]))
                    · exact go' (r := .two) q_2_ (by (try simp only [eq_G, eq_D, eq_R, eq_s, eq_d, eq_dot, eq_m3, eq_m2, eqL_h, eqL_t, eqL_n, eqC_0, eqC_1, eqA_S, eqA_o, dec_eq_int, eqW_none, eqW_ahead, eq_2G, eq_2g, decide_eq_true_eq, Bool.not_eq_true', decide_eq_false_iff_not, Bool.false_eq_true, not_false_eq_true] at e1 e5 e6 e10 e13 e15 e16 e17 e18) <;> (grind [Nw.twoStep, Nw.Kd.parting]))
              · refine iteF ?_
                refine ⟨_, rfl, rfl, _, rfl, ite2 (fun e19 => ?_) (fun e19 => ?_)⟩
                · exact go none (by (try simp only [eq_G, eq_D, eq_R, eq_s, eq_d, eq_dot, eq_m3, eq_m2, eqL_h, eqL_t, eqL_n, eqC_0, eqC_1, eqA_S, eqA_o, dec_eq_int, eqW_none, eqW_ahead, eq_2G, eq_2g, decide_eq_true_eq, Bool.not_eq_true', decide_eq_false_iff_not, Bool.false_eq_true, not_false_eq_true] at e1 e5 e6 e10 e13 e15 e19) <;> (grind [Nw.twoStep, Nw.Kd.parting]))
                · refine ⟨_, rfl, _, _, _, _, rfl, rfl, hS, atI_nat (j := 0) rfl, rfl, _, rfl, ite2 (fun e20 => ?_) (fun e20 => ?_)⟩
                  · exact go' (r := .twog) q_2g (by (try simp only [eq_G, eq_D, eq_R, eq_s, eq_d, eq_dot, eq_m3, eq_m2, eqL_h, eqL_t, eqL_n, eqC_0, eqC_1, eqA_S, eqA_o, dec_eq_int, eqW_none, eqW_ahead, eq_2G, eq_2g, decide_eq_true_eq, Bool.not_eq_true', decide_eq_false_iff_not, Bool.false_eq_true, not_false_eq_true] at e1 e5 e6 e10 e13 e15 e19 e20) <;> (grind [Nw.twoStep, Nw.Kd.parting]))
                  · exact go' (r := .two) q_2_ (by (try simp only [eq_G, eq_D, eq_R, eq_s, eq_d, eq_dot, eq_m3, eq_m2, eqL_h, eqL_t, eqL_n, eqC_0, eqC_1, eqA_S, eqA_o, dec_eq_int, eqW_none, eqW_ahead, eq_2G, eq_2g, decide_eq_true_eq, Bool.not_eq_true', decide_eq_false_iff_not, Bool.false_eq_true, not_false_eq_true] at e1 e5 e6 e10 e13 e15 e19 e20) <;> (grind [Nw.twoStep, Nw.Kd.parting]))
      · refine iteF ?_
        refine ⟨_, rfl, b, k, t, rfl, hS, _, rfl, ite2 (fun e21 => ?_) (fun e21 => ?_)⟩
        · refine ⟨_, rfl, rfl, _, rfl, ite2 (fun e22 => ?_) (fun e22 => ?_)⟩
          · exact go none (by (try simp only [eq_G, eq_D, eq_R, eq_s, eq_d, eq_dot, eq_m3, eq_m2, eqL_h, eqL_t, eqL_n, eqC_0, eqC_1, eqA_S, eqA_o, dec_eq_int, eqW_none, eqW_ahead, eq_2G, eq_2g, decide_eq_true_eq, Bool.not_eq_true', decide_eq_false_iff_not, Bool.false_eq_true, not_false_eq_true] at e1 e5 e21 e22) <;> (grind [Nw.twoStep, Nw.Kd.parting]))
          · refine ⟨_, rfl, _, rfl, ite2 (fun e23 => ?_) (fun e23 => ?_)⟩
            · exact go' (r := .two) q_2_ (by (try simp only [eq_G, eq_D, eq_R, eq_s, eq_d, eq_dot, eq_m3, eq_m2, eqL_h, eqL_t, eqL_n, eqC_0, eqC_1, eqA_S, eqA_o, dec_eq_int, eqW_none, eqW_ahead, eq_2G, eq_2g, decide_eq_true_eq, Bool.not_eq_true', decide_eq_false_iff_not, Bool.false_eq_true, not_false_eq_true] at e1 e5 e21 e22 e23) <;> (grind [Nw.twoStep, Nw.Kd.parting]))
            · refine ⟨_, rfl, b, k, t, rfl, hS, ?_⟩
              exact go (some (Nw.parted k)) (by (try simp only [eq_G, eq_D, eq_R, eq_s, eq_d, eq_dot, eq_m3, eq_m2, eqL_h, eqL_t, eqL_n, eqC_0, eqC_1, eqA_S, eqA_o, dec_eq_int, eqW_none, eqW_ahead, eq_2G, eq_2g, decide_eq_true_eq, Bool.not_eq_true', decide_eq_false_iff_not, Bool.false_eq_true, not_false_eq_true] at e1 e5 e21 e22 e23) <;> grind [Nw.twoStep, Nw.Kd.parting])
        · refine ⟨_, rfl, b, k, t, rfl, hS, _, rfl, ite2 (fun e24 => ?_) (fun e24 => ?_)⟩
          · refine ⟨_, rfl, rfl, _, rfl, ite2 (fun e25 => ?_) (fun e25 => ?_)⟩
            · exact go' (r := .two) q_2_ (by (try simp only [eq_G, eq_D, eq_R, eq_s, eq_d, eq_dot, eq_m3, eq_m2, eqL_h, eqL_t, eqL_n, eqC_0, eqC_1, eqA_S, eqA_o, dec_eq_int, eqW_none, eqW_ahead, eq_2G, eq_2g, decide_eq_true_eq, Bool.not_eq_true', decide_eq_false_iff_not, Bool.false_eq_true, not_false_eq_true] at e1 e5 e21 e24 e25) <;> (grind [Nw.twoStep, Nw.Kd.parting]))
            · exact go none (by (try simp only [eq_G, eq_D, eq_R, eq_s, eq_d, eq_dot, eq_m3, eq_m2, eqL_h, eqL_t, eqL_n, eqC_0, eqC_1, eqA_S, eqA_o, dec_eq_int, eqW_none, eqW_ahead, eq_2G, eq_2g, decide_eq_true_eq, Bool.not_eq_true', decide_eq_false_iff_not, Bool.false_eq_true, not_false_eq_true] at e1 e5 e21 e24 e25) <;> (grind [Nw.twoStep, Nw.Kd.parting]))
          · refine ⟨_, rfl, _, _, _, _, rfl, rfl, hS, atI_nat (j := 0) rfl, rfl, _, rfl, ite2 (fun e26 => ?_) (fun e26 => ?_)⟩
            · refine ⟨_, rfl, rfl, _, rfl, ite2 (fun e27 => ?_) (fun e27 => ?_)⟩
              · exact go' (r := .twoG) q_2G (by (try simp only [eq_G, eq_D, eq_R, eq_s, eq_d, eq_dot, eq_m3, eq_m2, eqL_h, eqL_t, eqL_n, eqC_0, eqC_1, eqA_S, eqA_o, dec_eq_int, eqW_none, eqW_ahead, eq_2G, eq_2g, decide_eq_true_eq, Bool.not_eq_true', decide_eq_false_iff_not, Bool.false_eq_true, not_false_eq_true] at e1 e5 e21 e24 e26 e27) <;> (grind [Nw.twoStep, Nw.Kd.parting]))
              · refine ⟨_, rfl, rfl, _, rfl, ite2 (fun e28 => ?_) (fun e28 => ?_)⟩
                · exact go none (by (try simp only [eq_G, eq_D, eq_R, eq_s, eq_d, eq_dot, eq_m3, eq_m2, eqL_h, eqL_t, eqL_n, eqC_0, eqC_1, eqA_S, eqA_o, dec_eq_int, eqW_none, eqW_ahead, eq_2G, eq_2g, decide_eq_true_eq, Bool.not_eq_true', decide_eq_false_iff_not, Bool.false_eq_true, not_false_eq_true] at e1 e5 e21 e24 e26 e27 e28) <;> (grind [Nw.twoStep, Nw.Kd.parting]))
                · refine ⟨_, rfl, _, _, _, _, rfl, rfl, hS, atI_nat (j := 0) rfl, rfl, _, rfl, ite2 (fun e29 => ?_) (fun e29 => ?_)⟩
                  · exact go' (r := .twog) q_2g (by (try simp only [eq_G, eq_D, eq_R, eq_s, eq_d, eq_dot, eq_m3, eq_m2, eqL_h, eqL_t, eqL_n, eqC_0, eqC_1, eqA_S, eqA_o, dec_eq_int, eqW_none, eqW_ahead, eq_2G, eq_2g, decide_eq_true_eq, Bool.not_eq_true', decide_eq_false_iff_not, Bool.false_eq_true, not_false_eq_true] at e1 e5 e21 e24 e26 e27 e28 e29) <;> (grind [Nw.twoStep, Nw.Kd.parting]))
                  · exact go' (r := .two) q_2_ (by (try simp only [eq_G, eq_D, eq_R, eq_s, eq_d, eq_dot, eq_m3, eq_m2, eqL_h, eqL_t, eqL_n, eqC_0, eqC_1, eqA_S, eqA_o, dec_eq_int, eqW_none, eqW_ahead, eq_2G, eq_2g, decide_eq_true_eq, Bool.not_eq_true', decide_eq_false_iff_not, Bool.false_eq_true, not_false_eq_true] at e1 e5 e21 e24 e26 e27 e28 e29) <;> (grind [Nw.twoStep, Nw.Kd.parting]))
            · refine iteF ?_
              refine ⟨_, rfl, rfl, _, rfl, ite2 (fun e30 => ?_) (fun e30 => ?_)⟩
              · exact go none (by (try simp only [eq_G, eq_D, eq_R, eq_s, eq_d, eq_dot, eq_m3, eq_m2, eqL_h, eqL_t, eqL_n, eqC_0, eqC_1, eqA_S, eqA_o, dec_eq_int, eqW_none, eqW_ahead, eq_2G, eq_2g, decide_eq_true_eq, Bool.not_eq_true', decide_eq_false_iff_not, Bool.false_eq_true, not_false_eq_true] at e1 e5 e21 e24 e26 e30) <;> (grind [Nw.twoStep, Nw.Kd.parting]))
              · refine ⟨_, rfl, _, _, _, _, rfl, rfl, hS, atI_nat (j := 0) rfl, rfl, _, rfl, ite2 (fun e31 => ?_) (fun e31 => ?_)⟩
                · exact go' (r := .twog) q_2g (by (try simp only [eq_G, eq_D, eq_R, eq_s, eq_d, eq_dot, eq_m3, eq_m2, eqL_h, eqL_t, eqL_n, eqC_0, eqC_1, eqA_S, eqA_o, dec_eq_int, eqW_none, eqW_ahead, eq_2G, eq_2g, decide_eq_true_eq, Bool.not_eq_true', decide_eq_false_iff_not, Bool.false_eq_true, not_false_eq_true] at e1 e5 e21 e24 e26 e30 e31) <;> (grind [Nw.twoStep, Nw.Kd.parting]))
                · exact go' (r := .two) q_2_ (by (try simp only [eq_G, eq_D, eq_R, eq_s, eq_d, eq_dot, eq_m3, eq_m2, eqL_h, eqL_t, eqL_n, eqC_0, eqC_1, eqA_S, eqA_o, dec_eq_int, eqW_none, eqW_ahead, eq_2G, eq_2g, decide_eq_true_eq, Bool.not_eq_true', decide_eq_false_iff_not, Bool.false_eq_true, not_false_eq_true] at e1 e5 e21 e24 e26 e30 e31) <;> (grind [Nw.twoStep, Nw.Kd.parting]))
end
end Nt
namespace Nt
open PySem PySem.Spec PyProof.Rows L2
section
variable {P : Program} {w : World} {K : PySem.W.Frag} {mg : Str → Option Value} {base : Heap}
theorem absurd_str {x y : Str} (h : ¬ x = y) {C : Prop} (e : decide (V.str x = V.str y) = true) : C := absurd (V.str.inj (of_decide_eq_true e)) h
theorem n3_2 : ¬ (⟨#[51]⟩ : Str) = "2" := by decide +kernel
theorem y2_2 : (⟨#[50]⟩ : Str) = "2" := by decide +kernel
def sp_step (K : PySem.W.Frag) : Sp := fun vs H Q _ => ∃ (b : Addr) (q0 : Nw.St) (k : Nw.Kd) (t : V) (u : Int), vs = [.str (qT q0), .ref b, .int u] ∧ SqT K H b [.str (kT k), t] ∧ Q (oQ (Nw.step q0 k u)) H
theorem ok_step {f f2 fG fGs fS fSs fC fR : Addr} {fd fd2 fdG fdGs fdS fdSs fdC fdR : FuncData} (F : Fun K "step" "step" s_step f fd) (D_two_step : DefAt K mg "two_step" f2 fd2 ["state", "sign", "worth"]) (G_two_step : FnOk P w K mg base CX0 3 f2 fd2 ["state", "sign", "worth"] (sp_two_step K))
    (D_great : DefAt K mg "great" fG fdG ["sign"]) (G_great : FnOk P w K mg base CX0 2 fG fdG ["sign"] (sp_kd Nw.Kd.great K)) (D_great_step : DefAt K mg "great_step" fGs fdGs ["state", "sign", "worth"]) (G_great_step : FnOk P w K mg base CX0 4 fGs fdGs ["state", "sign", "worth"] (sp_great_step K))
    (D_small : DefAt K mg "small" fS fdS ["sign"]) (G_small : FnOk P w K mg base CX0 2 fS fdS ["sign"] (sp_kd Nw.Kd.small K)) (D_small_step : DefAt K mg "small_step" fSs fdSs ["state", "sign", "worth"]) (G_small_step : FnOk P w K mg base CX0 1 fSs fdSs ["state", "sign", "worth"] (sp_small_step K))
    (D_closed_by : DefAt K mg "closed_by" fC fdC ["state", "sign", "worth"]) (G_closed_by : FnOk P w K mg base CX0 3 fC fdC ["state", "sign", "worth"] (sp_closed_by K)) (D_parted : DefAt K mg "parted" fR fdR ["sign"]) (G_parted : FnOk P w K mg base CX0 1 fR fdR ["sign"] (sp_parted K)) : FnOk P w K mg base CX0 5 f fd ["state", "sign", "worth"] (sp_step K) := by
  refine F.ok sc_step (fun vs H Q E h => ?_) (fun cdv A outer s H vs Q E hr h => ?_)
  · obtain ⟨b, q0, k, t, u, rfl, _⟩ := h
    rfl
  · obtain ⟨b, q0, k, t, u, rfl, hS, q⟩ := h
    have go : ∀ z, Nw.step q0 k u = z → Q (oQ z) H := fun z e => by rw [← e]; exact q
    refine ⟨_, (pss_cons (ps_if (pt_cmpR op_eq (pe_ix ix_str (pv 0) pe_int (fun _ _ => rfl)) pe_str (nomark _))
        (pss_one (ps_ret (pe_call G_two_step (hr.mono (by decide)) (by rfl) D_two_step.g D_two_step.kp D_two_step.b .nil pass0 (pa_cons (pv 0) (pa_cons (pv 1) (pa_cons (pv 2) pa_nil))))))
        pss_nil)
      (pss_cons (ps_if (pt_val (pe_call G_great (hr.mono (by decide)) (by rfl) D_great.g D_great.kp D_great.b .nil pass0 (pa_cons (pv 1) pa_nil)))
        (pss_one (ps_ret (pe_call G_great_step (hr.mono (by decide)) (by rfl) D_great_step.g D_great_step.kp D_great_step.b .nil pass0 (pa_cons (pv 0) (pa_cons (pv 1) (pa_cons (pv 2) pa_nil))))))
        pss_nil)
      (pss_cons (ps_if (pt_val (pe_call G_small (hr.mono (by decide)) (by rfl) D_small.g D_small.kp D_small.b .nil pass0 (pa_cons (pv 1) pa_nil)))
        (pss_one (ps_ret (pe_call G_small_step (hr.mono (by decide)) (by rfl) D_small_step.g D_small_step.kp D_small_step.b .nil pass0 (pa_cons (pv 0) (pa_cons (pv 1) (pa_cons (pv 2) pa_nil))))))
        pss_nil)
      (pss_cons (ps_if (PW.pt (pw_or (pt_cmpR op_ne (pv 2) pe_int (nomark _)) (pw_or1 (pt_cmpR op_isN (pe_call G_closed_by (hr.mono (by decide)) (by rfl) D_closed_by.g D_closed_by.kp D_closed_by.b .nil pass0 (pa_cons (pv 0) (pa_cons (pv 1) (pa_cons (pv 2) pa_nil)))) pe_non (nomark _)))))
        (pss_one (ps_ret pe_non))
        pss_nil)
      (pss_one (ps_ret (pe_call G_parted (hr.mono (by decide)) (by rfl) D_parted.g D_parted.kp D_parted.b .nil pass0 (pa_cons (pv 1) pa_nil)))))))), ?_⟩
    cases q0 with
    | three l c a =>
      refine ⟨_, rfl, _, _, _, rfl, rfl, len4, atI_nat (j := 0) rfl, rfl, _, rfl, ite2 (fun e => absurd_str n3_2 e) (fun _ => ?_)⟩
      refine ⟨_, rfl, b, k, t, rfl, hS, _, rfl, ite2 (fun e1 => ?_) (fun e1 => ?_)⟩
      · exact ⟨_, rfl, _, rfl, _, rfl, b, l, c, a, k, t, u, rfl, hS, go _ (by rw [Nw.step, if_pos e1])⟩
      refine ⟨_, rfl, b, k, t, rfl, hS, _, rfl, ite2 (fun e2 => ?_) (fun e2 => ?_)⟩
      · exact ⟨_, rfl, _, rfl, _, rfl, b, l, c, a, k, t, u, rfl, hS, go _ (by rw [Nw.step, if_neg e1, if_pos e2])⟩
      refine ⟨_, rfl, rfl, _, rfl, ite2 (fun e3 => ?_) (fun e3 => ?_)⟩
      · refine iteT (go none ?_)
        have : ¬ u = 0 := by simpa [dec_eq_int] using e3
        rw [Nw.step, if_neg e1, if_neg e2, if_pos this]
      · have h0 : u = 0 := by simpa [dec_eq_int] using e3
        refine ⟨_, rfl, _, rfl, _, rfl, b, l, c, a, k, t, u, rfl, hS, rfl, _, rfl, ?_⟩
        rw [eqW_none]
        refine ite2 (fun e4 => ?_) (fun e4 => ?_)
        · refine go none ?_
          have := of_decide_eq_true e4
          rw [Nw.step, if_neg e1, if_neg e2, if_neg (by simpa using h0), this]
        · refine ⟨_, rfl, b, k, t, rfl, hS, go (some (Nw.parted k)) ?_⟩
          have h4 : ¬ Nw.closedBy l c a k u = none := by simpa using e4
          obtain ⟨x, hx⟩ := Option.ne_none_iff_exists'.mp h4
          rw [Nw.step, if_neg e1, if_neg e2, if_neg (by simpa using h0), hx]
    | _ =>
      refine ⟨_, rfl, _, _, _, rfl, rfl, (by show 2 ≤ sizeLine; decide), atI_nat (j := 0) rfl, rfl, _, rfl, ite2 (fun e => ?_) (fun e => absurd (decide_eq_true (congrArg V.str y2_2)) e)⟩
      exact ⟨_, rfl, _, rfl, _, rfl, b, _, k, t, u, rfl, hS, q⟩
def sp_ends (K : PySem.W.Frag) : Sp := fun vs H Q _ => ∃ (q0 : Nw.St), vs = [.str (qT q0)] ∧ ∀ H', Same H H' → Q (.bl (Nw.ends q0)) H'
theorem ok_ends {f fC : Addr} {fd fdC : FuncData} (F : Fun K "ends" "ends" s_ends f fd) (D_closed_by : DefAt K mg "closed_by" fC fdC ["state", "sign", "worth"]) (G_closed_by : FnOk P w K mg base CX0 3 fC fdC ["state", "sign", "worth"] (sp_closed_by K)) : FnOk P w K mg base CX0 4 f fd ["state"] (sp_ends K) := by
  refine F.ok sc_ends (fun vs H Q E h => ?_) (fun cdv A outer s H vs Q E hr h => ?_)
  · obtain ⟨q0, rfl, _⟩ := h
    rfl
  · obtain ⟨q0, rfl, q⟩ := h
    refine ⟨_, (pss_cons (ps_if (pt_cmpR op_eq (pe_ix ix_str (pv 0) pe_int (fun _ _ => rfl)) pe_str (nomark _))
        (pss_one (ps_ret (pe_cmpR op_ne (pv 0) pe_str (nomark _))))
        pss_nil)
      (pss_one (ps_ret (pe_cmpR op_notN (pe_call G_closed_by (hr.mono (by decide)) (by rfl) D_closed_by.g D_closed_by.kp D_closed_by.b .nil pass0 (pa_cons (pv 0) (pa_cons (pe_tup (pa_cons pe_str (pa_cons pe_int pa_nil))) (pa_cons pe_int pa_nil)))) pe_non (nomark _))))), ?_⟩
    cases q0 with
    | three l c a =>
      refine ⟨_, rfl, _, _, _, rfl, rfl, len4, atI_nat (j := 0) rfl, rfl, _, rfl, ite2 (fun e => absurd_str n3_2 e) (fun _ => ?_)⟩
      refine ⟨_, rfl, (by show 2 ≤ sizeLine; decide), fun p np => ?_⟩
      refine ⟨p, l, c, a, .dot, .int 0, 0, rfl, seqT ?_, rfl, ?_⟩
      · rw [upd_same]
        have e : kT .dot = "." := by decide +kernel
        rw [e]
      · have := q _ (same_upd (o := .tup [V.str ".", V.int 0]) np)
        have e : (!decide (oW (Nw.closedBy l c a .dot 0) = .non)) = Nw.ends (.three l c a) := by
          rw [eqW_none, Nw.ends]
          cases Nw.closedBy l c a .dot 0 <;> rfl
        rw [← e] at this
        exact this
    | _ =>
      refine ⟨_, rfl, _, _, _, rfl, rfl, (by show 2 ≤ sizeLine; decide), atI_nat (j := 0) rfl, rfl, _, rfl, ite2 (fun e => ?_) (fun e => absurd (decide_eq_true (congrArg V.str y2_2)) e)⟩
      refine ⟨_, rfl, rfl, ?_⟩
      rw [eq_2G]
      exact q _ (.refl H)
/-! ### moves -/
theorem eqO_none (z : Option Int) : decide (oV z = .non) = decide (z = none) := by cases z <;> rfl
theorem eqQ_none (z : Option Nw.St) : decide (oQ z = .non) = decide (z = none) := by cases z <;> rfl
def sp_moves_by (K : PySem.W.Frag) : Sp := fun vs H Q _ => ∃ (q0 : Nw.St) (sl pa : Addr) (u : Int) (L : List Nw.Sg) (p : Nw.Pr), vs = [.str (qT q0), .ref sl, .int u, .ref pa] ∧ Line H sl L ∧ L.length ≤ 1000 ∧ H pa = some (.tup [oV p.dot, oV p.dk, oV p.ms]) ∧
  ∀ H' d ms, Same H H' → H d = none → H' d = some (.lst ms) → All2 (isMv H') ms (Nw.moves q0 L u p) → Q (.ref d) H'
theorem ok_moves_by {f fP fS : Addr} {fd fdP fdS : FuncData} (F : Fun K "moves_by" "moves_by" s_moves_by f fd) (D_sign_price : DefAt K mg "sign_price" fP fdP ["sign", "prices"]) (G_sign_price : FnOk P w K mg base CX0 2 fP fdP ["sign", "prices"] (sp_sign_price K))
    (D_step : DefAt K mg "step" fS fdS ["state", "sign", "worth"]) (G_step : FnOk P w K mg base CX0 5 fS fdS ["state", "sign", "worth"] (sp_step K)) : FnOk P w K mg base CX0 6 f fd ["state", "signs", "worth", "prices"] (sp_moves_by K) := by
  refine F.ok sc_moves_by (fun vs H Q E h => ?_) (fun cdv A outer s H vs Q E hr h => ?_)
  · obtain ⟨q0, sl, pa, u, L, p, rfl, _⟩ := h
    rfl
  · obtain ⟨q0, sl, pa, u, L, p, rfl, ⟨xs, hL, hA⟩, hlen, hP, q⟩ := h
    refine ⟨_, (pss_cons (ps_set (i := 4) sc_moves_by.nd rfl (.inl rfl) (pe_lst pa_nil))
      (pss_cons (ps_for PassesOwn.never rfl (pi_list (pv 1)) (pg_name (i := 5) sc_moves_by.nd rfl (.inl rfl))
        (pss_cons (ps_set (i := 6) sc_moves_by.nd rfl (.inl rfl) (pe_call G_sign_price (hr.mono (by decide)) (by rfl) D_sign_price.g D_sign_price.kp D_sign_price.b .nil pass0 (pa_cons (pv 5) (pa_cons (pv 3) pa_nil))))
        (pss_cons (ps_set (i := 7) sc_moves_by.nd rfl (.inl rfl) (pe_call G_step (hr.mono (by decide)) (by rfl) D_step.g D_step.kp D_step.b .nil pass0 (pa_cons (pv 0) (pa_cons (pv 5) (pa_cons (pv 2) pa_nil)))))
        (pss_one (ps_if (PW.pt (pw_and (pt_cmpR op_notN (pv 6) pe_non (nomark _)) (pw_and1 (pt_cmpR op_notN (pv 7) pe_non (nomark _)))))
          (pss_one (ps_expr (pe_bm PySem.F.plainAttrs_list PySem.F.slot_list_append PySem.F.type_list_append mt_append (pv 4) (pa_cons (pe_tup (pa_cons (pv 7) (pa_cons (pv 5) (pa_cons (pv 6) pa_nil)))) pa_nil))))
          pss_nil)))))
      (pss_one (ps_ret (pv 4))))), ?_⟩
    refine ⟨Nat.zero_le _, fun d nd => ?_⟩
    have s0 : Same H (upd H d (.lst [])) := same_upd nd
    refine ⟨_, rfl, sl, rfl, ⟨_, seqL (s0 _ _ hL)⟩, for_list (K := K) (a := sl) (xs := xs) (fun i σ H' => ∃ (y5 y6 y7 : Option V) (ms : List V), σ = [some (.str (qT q0)), some (.ref sl), some (.int u), some (.ref pa), some (.ref d), y5, y6, y7] ∧ Same H H' ∧ H' d = some (.lst ms) ∧ All2 (isMv H') ms (Nw.moves q0 (L.take i) u p))
      ⟨none, none, none, [], rfl, s0, upd_same, All2.nil⟩ (fun i σ H' _ ⟨_, _, _, _, _, sm, _⟩ => seqL (sm _ _ hL)) ?_ ?_⟩
    · rintro i x σ H' hi ⟨y5, y6, y7, ms, rfl, sm, hd, hM⟩
      obtain ⟨g, hg, ⟨t, rfl, ht⟩⟩ := hA.get' hi
      have ht' := sm _ _ ht
      have hP' := sm _ _ hP
      have hmlen : ms.length ≤ 1000 := by
        rw [hM.1]
        refine Nat.le_trans (List.length_filterMap_le _ _) ?_
        rw [List.length_take]
        omega
      have nxt : Nw.moves q0 (L.take (i + 1)) u p = Nw.moves q0 (L.take i) u p ++ (Nw.moveOf q0 u p g).toList := by
        unfold Nw.moves
        rw [List.take_add_one, hg, List.filterMap_append]
        cases h : Nw.moveOf q0 u p g <;> simp [h]
      refine ⟨_, rfl, _, rfl, t, pa, g.1, .int g.2, p, rfl, seqT ht', seqT hP', ?_⟩
      refine ⟨_, rfl, _, rfl, _, rfl, t, q0, g.1, .int g.2, u, rfl, seqT ht', ?_⟩
      refine ⟨_, rfl, rfl, _, rfl, ?_⟩
      rw [eqO_none]
      refine ite2 (fun e1 => ?_) (fun e1 => iteF ?_)
      · refine ⟨_, rfl, rfl, _, rfl, ?_⟩
        rw [eqQ_none]
        have h1 : ¬ Nw.signPrice g.1 p = none := by simpa using e1
        obtain ⟨cc, hc⟩ := Option.ne_none_iff_exists'.mp h1
        refine ite2 (fun e2 => ?_) (fun e2 => ?_)
        · have h2 : ¬ Nw.step q0 g.1 u = none := by simpa using e2
          obtain ⟨q1, hq⟩ := Option.ne_none_iff_exists'.mp h2
          rw [hc, hq]
          have hm : Nw.moveOf q0 u p g = some (q1, g, cc) := by unfold Nw.moveOf; rw [hc, hq]
          rw [hm] at nxt
          refine ⟨_, rfl, .inl ⟨rfl, _, seqL hd⟩, _, rfl, _, rfl, _, rfl, (by show 3 ≤ sizeLine; decide), fun tt nt => ?_⟩
          have ndt : d ≠ tt := ne_of_none hd nt
          have s2 : Same H' (upd H' tt (.tup [oQ (some q1), .ref t, oV (some cc)])) := same_upd nt
          refine ⟨d, _, _, rfl, rfl, s2 _ _ hd, Nat.lt_of_le_of_lt hmlen (by decide), ?_⟩
          refine ⟨_, _, _, _, rfl, fun b o e => ?_, upd_same, ?_⟩
          · rw [upd_ne (ne_of_none e nd)]
            exact s2 _ _ (sm _ _ e)
          · rw [nxt]
            have tp : Tp H' (upd (upd H' tt (.tup [oQ (some q1), .ref t, oV (some cc)])) d (.lst (ms ++ [.ref tt]))) := (Tp.of s2).trans (Tp.upd (s2 _ _ hd) (by intro xs z; cases z))
            refine (hM.mono fun v m => isMv.mono tp).snoc ⟨tt, .ref t, rfl, ?_, isSg.mono tp ⟨t, rfl, ht'⟩⟩
            rw [upd_ne ndt.symm, upd_same]
            rfl
        · have hq : Nw.step q0 g.1 u = none := by simpa using e2
          have hm : Nw.moveOf q0 u p g = none := by unfold Nw.moveOf; rw [hc, hq]
          rw [hm] at nxt
          refine ⟨_, _, _, ms, rfl, sm, hd, ?_⟩
          rw [nxt]
          simpa using hM
      · have hc : Nw.signPrice g.1 p = none := by simpa using e1
        have hm : Nw.moveOf q0 u p g = none := by unfold Nw.moveOf; rw [hc]
        rw [hm] at nxt
        refine ⟨_, _, _, ms, rfl, sm, hd, ?_⟩
        rw [nxt]
        simpa using hM
    · rintro σ H' ⟨y5, y6, y7, ms, rfl, sm, hd, hM⟩
      rw [hA.1, List.take_length] at hM
      exact ⟨_, rfl, q H' d ms sm nd hd hM⟩
end
end Nt
namespace Nt
open PySem PySem.Spec PyProof.Rows L2
section
variable {P : Program} {w : World} {K : PySem.W.Frag} {mg : Str → Option Value} {base : Heap}
def sp_part_moves : Sp := fun vs H Q _ => ∃ (q0 : Nw.St) (pa : Addr) (p : Nw.Pr), vs = [.str (qT q0), .ref pa] ∧ H pa = some (.tup [oV p.dot, oV p.dk, oV p.ms]) ∧
  ∀ H' d ms, Same H H' → H d = none → H' d = some (.lst ms) → All2 (isMv H') ms (Nw.partMoves q0 p) → Q (.ref d) H'
theorem kdot : kT .dot = "." := by decide +kernel
theorem km3 : kT .m3 = "3" := by decide +kernel
theorem km2 : kT .m2 = "2" := by decide +kernel
theorem kG : kT .G = "G" := by decide +kernel
theorem ks : kT .s = "s" := by decide +kernel
theorem kD : kT .D = "D" := by decide +kernel
theorem kd : kT .d = "d" := by decide +kernel
theorem kR : kT .R = "R" := by decide +kernel
theorem kr : kT .r = "r" := by decide +kernel
theorem isSg_of {H : Hp} {t : Addr} {k : Nw.Kd} {x : Str} {i : Int} (h : H t = some (.tup [.str x, .int i])) (e : kT k = x) : isSg H (.ref t) (k, i) := ⟨t, rfl, by rw [h, ← e]⟩
theorem ok_part_moves {f fM : Addr} {fd fdM : FuncData} (F : Fun K "part_moves" "part_moves" s_part_moves f fd) (D_moves_by : DefAt K mg "moves_by" fM fdM ["state", "signs", "worth", "prices"]) (G_moves_by : FnOk P w K mg base CX0 6 fM fdM ["state", "signs", "worth", "prices"] (sp_moves_by K)) :
    FnOk P w K mg base CX0 7 f fd ["state", "prices"] sp_part_moves := by
  refine F.ok sc_part_moves (fun vs H Q E h => ?_) (fun cdv A outer s H vs Q E hr h => ?_)
  · obtain ⟨q0, pa, p, rfl, _⟩ := h
    rfl
  · obtain ⟨q0, pa, p, rfl, hP, q⟩ := h
    refine ⟨_, (pss_one (ps_ret (pe_call G_moves_by (hr.mono (by decide)) (by rfl) D_moves_by.g D_moves_by.kp D_moves_by.b .nil pass0 (pa_cons (pv 0) (pa_cons (pe_lst (pa_cons (pe_tup (pa_cons pe_str (pa_cons pe_int pa_nil))) (pa_cons (pe_tup (pa_cons pe_str (pa_cons pe_int pa_nil))) (pa_cons (pe_tup (pa_cons pe_str (pa_cons pe_int pa_nil))) pa_nil)))) (pa_cons pe_int (pa_cons (pv 1) pa_nil))))))), ?_⟩
    refine ⟨_, rfl, (by show 2 ≤ sizeLine; decide), fun p1 n1 => ⟨(by show 2 ≤ sizeLine; decide), fun p2 n2 => ⟨(by show 2 ≤ sizeLine; decide), fun p3 n3 => ⟨(by show 3 ≤ sizeLine; decide), fun l nl => ?_⟩⟩⟩⟩
    have s1 := same_upd (o := .tup [.str ".", .int 0]) n1
    have s2 := same_upd (o := .tup [.str "3", .int 0]) n2
    have s3 := same_upd (o := .tup [.str "2", .int 0]) n3
    have s4 := same_upd (o := .lst [.ref p1, .ref p2, .ref p3]) nl
    have sA := s1.trans (s2.trans (s3.trans s4))
    refine ⟨_, rfl, q0, l, pa, 0, Nw.partSigns, p, rfl, ⟨_, upd_same, ?_⟩, by decide, sA _ _ hP, fun H' d ms sm nd hd hM => q H' d ms (sA.trans sm) (sA.free nd) hd hM⟩
    refine All2.cons ?_ (All2.cons ?_ (All2.cons ?_ All2.nil))
    · exact isSg_of (s4 _ _ (s3 _ _ (s2 _ _ upd_same))) kdot
    · exact isSg_of (s4 _ _ (s3 _ _ upd_same)) km3
    · exact isSg_of (s4 _ _ upd_same) km2
def sp_wish_moves : Sp := fun vs H Q _ => ∃ (q0 : Nw.St) (wa pa : Addr) (wi : Int × Int) (p : Nw.Pr), vs = [.str (qT q0), .ref wa, .ref pa] ∧ H wa = some (.tup [.int wi.1, .int wi.2]) ∧ H pa = some (.tup [oV p.dot, oV p.dk, oV p.ms]) ∧
  ∀ H' d ms, Same H H' → H d = none → H' d = some (.lst ms) → All2 (isMv H') ms (Nw.wishMoves q0 wi p) → Q (.ref d) H'
theorem ok_wish_moves {f fM : Addr} {fd fdM : FuncData} (F : Fun K "wish_moves" "wish_moves" s_wish_moves f fd) (D_moves_by : DefAt K mg "moves_by" fM fdM ["state", "signs", "worth", "prices"]) (G_moves_by : FnOk P w K mg base CX0 6 fM fdM ["state", "signs", "worth", "prices"] (sp_moves_by K)) :
    FnOk P w K mg base CX0 7 f fd ["state", "wish", "prices"] sp_wish_moves := by
  refine F.ok sc_wish_moves (fun vs H Q E h => ?_) (fun cdv A outer s H vs Q E hr h => ?_)
  · obtain ⟨q0, wa, pa, wi, p, rfl, _⟩ := h
    rfl
  · obtain ⟨q0, wa, pa, wi, p, rfl, hW, hP, q⟩ := h
    refine ⟨_, (pss_cons (ps_set (i := 3) sc_wish_moves.nd rfl (.inl rfl) (pe_ix ix_tup (pv 1) pe_int (fun _ _ => rfl)))
      (pss_cons (ps_if (pt_cmpR op_lt (pv 3) pe_int (nomark _))
        (pss_one (ps_ret (pe_call G_moves_by (hr.mono (by decide)) (by rfl) D_moves_by.g D_moves_by.kp D_moves_by.b .nil pass0 (pa_cons (pv 0) (pa_cons (pe_lst (pa_cons (pe_tup (pa_cons pe_str (pa_cons pe_int pa_nil))) (pa_cons (pe_tup (pa_cons pe_str (pa_cons pe_int pa_nil))) pa_nil))) (pa_cons (pe_ix ix_tup (pv 1) pe_int (fun _ _ => rfl)) (pa_cons (pv 2) pa_nil)))))))
        pss_nil)
      (pss_one (ps_ret (pe_call G_moves_by (hr.mono (by decide)) (by rfl) D_moves_by.g D_moves_by.kp D_moves_by.b .nil pass0 (pa_cons (pv 0) (pa_cons (pe_lst (pa_cons (pe_tup (pa_cons pe_str (pa_cons (pv 3) pa_nil))) (pa_cons (pe_tup (pa_cons pe_str (pa_cons (pv 3) pa_nil))) (pa_cons (pe_tup (pa_cons pe_str (pa_cons (pv 3) pa_nil))) (pa_cons (pe_tup (pa_cons pe_str (pa_cons (pv 3) pa_nil))) pa_nil))))) (pa_cons (pe_ix ix_tup (pv 1) pe_int (fun _ _ => rfl)) (pa_cons (pv 2) pa_nil))))))))), ?_⟩
    refine ⟨_, rfl, _, _, _, _, rfl, rfl, seqT hW, atI_nat (j := 0) rfl, _, rfl, _, _, rfl, rfl, _, rfl, ite2 (fun e => ?_) (fun e => ?_)⟩
    · have hneg : wi.1 < 0 := by simpa using e
      refine ⟨_, rfl, (by show 2 ≤ sizeLine; decide), fun p1 n1 => ⟨(by show 2 ≤ sizeLine; decide), fun p2 n2 => ⟨(by show 2 ≤ sizeLine; decide), fun l nl => ?_⟩⟩⟩
      have s1 := same_upd (o := .tup [.str "R", .int 0]) n1
      have s2 := same_upd (o := .tup [.str "r", .int 0]) n2
      have s4 := same_upd (o := .lst [.ref p1, .ref p2]) nl
      have sA := s1.trans (s2.trans s4)
      refine ⟨_, rfl, _, _, _, _, rfl, rfl, seqT (sA _ _ hW), atI_nat (j := 1) rfl, _, rfl, q0, l, pa, wi.2, [(.R, 0), (.r, 0)], p, rfl, ⟨_, upd_same, ?_⟩, by decide, sA _ _ hP, fun H' d ms sm nd hd hM => q H' d ms (sA.trans sm) (sA.free nd) hd ?_⟩
      · refine All2.cons ?_ (All2.cons ?_ All2.nil)
        · exact isSg_of (s4 _ _ (s2 _ _ upd_same)) kR
        · exact isSg_of (s4 _ _ upd_same) kr
      · unfold Nw.wishMoves Nw.wishSigns
        rw [if_pos hneg]
        exact hM
    · have hneg : ¬ wi.1 < 0 := by simpa using e
      refine ⟨_, rfl, _, rfl, (by show 2 ≤ sizeLine; decide), fun p1 n1 => ⟨_, rfl, (by show 2 ≤ sizeLine; decide), fun p2 n2 => ⟨_, rfl, (by show 2 ≤ sizeLine; decide), fun p3 n3 => ⟨_, rfl, (by show 2 ≤ sizeLine; decide), fun p4 n4 => ⟨(by show 4 ≤ sizeLine; decide), fun l nl => ?_⟩⟩⟩⟩⟩
      have s1 := same_upd (o := .tup [.str "G", .int wi.1]) n1
      have s2 := same_upd (o := .tup [.str "s", .int wi.1]) n2
      have s3 := same_upd (o := .tup [.str "D", .int wi.1]) n3
      have s4 := same_upd (o := .tup [.str "d", .int wi.1]) n4
      have s5 := same_upd (o := .lst [.ref p1, .ref p2, .ref p3, .ref p4]) nl
      have sA := s1.trans (s2.trans (s3.trans (s4.trans s5)))
      refine ⟨_, rfl, _, _, _, _, rfl, rfl, seqT (sA _ _ hW), atI_nat (j := 1) rfl, _, rfl, q0, l, pa, wi.2, [(.G, wi.1), (.s, wi.1), (.D, wi.1), (.d, wi.1)], p, rfl, ⟨_, upd_same, ?_⟩, (by show 4 ≤ 1000; decide), sA _ _ hP, fun H' d ms sm nd hd hM => q H' d ms (sA.trans sm) (sA.free nd) hd ?_⟩
      · refine All2.cons ?_ (All2.cons ?_ (All2.cons ?_ (All2.cons ?_ All2.nil)))
        · exact isSg_of (s5 _ _ (s4 _ _ (s3 _ _ (s2 _ _ upd_same)))) kG
        · exact isSg_of (s5 _ _ (s4 _ _ (s3 _ _ upd_same))) ks
        · exact isSg_of (s5 _ _ (s4 _ _ upd_same)) kD
        · exact isSg_of (s5 _ _ upd_same) kd
      · unfold Nw.wishMoves Nw.wishSigns
        rw [if_neg hneg]
        exact hM
/-! ### a table (a dict of states) and the back pointers (a dict of pairs) -/
structure TabOk (kvs : List (Key × V)) (f : Nw.St → Option Int) (qs : List Nw.St) : Prop where
  keys : kvs.map (·.1) = qs.map (fun q => (Sum.inr (qT q) : Key))
  nd : qs.Nodup
  val : ∀ q, valV kvs (Sum.inr (qT q)) = (f q).map V.int
def Tab (H : Hp) (a : Addr) (f : Nw.St → Option Int) (qs : List Nw.St) : Prop := ∃ kvs, H a = some (.dK kvs) ∧ TabOk kvs f qs
theorem TabOk.len {kvs : List (Key × V)} {f : Nw.St → Option Int} {qs : List Nw.St} (h : TabOk kvs f qs) : kvs.length = qs.length := by
  have := congrArg List.length h.keys
  simpa using this
theorem TabOk.mem {kvs : List (Key × V)} {f : Nw.St → Option Int} {qs : List Nw.St} (h : TabOk kvs f qs) (q : Nw.St) : q ∈ qs ↔ ∃ v, f q = some v := by
  have h1 : (valV kvs (Sum.inr (qT q))).isSome = (f q).isSome := by rw [h.val]; cases f q <;> rfl
  have h2 : (kvs.any fun kv => decide (kv.1 = (Sum.inr (qT q) : Key))) = true ↔ q ∈ qs := by
    rw [List.any_eq_true]
    constructor
    · rintro ⟨kv, hm, e⟩
      have e' : kv.1 = (Sum.inr (qT q) : Key) := of_decide_eq_true e
      have hk : kv.1 ∈ kvs.map (·.1) := List.mem_map.mpr ⟨kv, hm, rfl⟩
      rw [h.keys, e'] at hk
      obtain ⟨q', hq', e2⟩ := List.mem_map.mp hk
      have := qT_inj (Sum.inr.inj e2)
      rw [← this]; exact hq'
    · intro hq
      have hk : (Sum.inr (qT q) : Key) ∈ kvs.map (·.1) := by rw [h.keys]; exact List.mem_map.mpr ⟨q, hq, rfl⟩
      obtain ⟨kv, hm, e⟩ := List.mem_map.mp hk
      exact ⟨kv, hm, decide_eq_true e⟩
  rw [← h2, valV_any, h1]
  exact Option.isSome_iff_exists
def addQ (qs : List Nw.St) (q : Nw.St) : List Nw.St := if q ∈ qs then qs else qs ++ [q]
theorem putK_keys {κ : Type} [DecidableEq κ] {kvs : List (κ × V)} {k : κ} {v : V} (h : (kvs.any fun kv => decide (kv.1 = k)) = true) : (putK kvs k v).map (·.1) = kvs.map (·.1) := by
  unfold putK
  rw [if_pos h, List.map_map]
  refine List.map_congr_left fun x _ => ?_
  show (if x.1 = k then (x.1, v) else x).1 = x.1
  split <;> rfl
theorem TabOk.put {kvs : List (Key × V)} {f f' : Nw.St → Option Int} {qs : List Nw.St} (h : TabOk kvs f qs) {q : Nw.St} {v : Int} (h1 : f' q = some v) (h2 : ∀ q', q' ≠ q → f' q' = f q') : TabOk (putK kvs (Sum.inr (qT q)) (.int v)) f' (addQ qs q) := by
  have hany := valV_any (Sum.inr (qT q) : Key) kvs
  have hm := h.mem q
  refine ⟨?_, ?_, fun q' => ?_⟩
  · unfold addQ
    by_cases hq : q ∈ qs
    · rw [if_pos hq, putK_keys, h.keys]
      rw [hany, h.val]
      obtain ⟨v', e⟩ := hm.mp hq
      rw [e]; rfl
    · rw [if_neg hq, putK_new]
      · rw [List.map_append, h.keys, List.map_append]; rfl
      · rw [h.val]
        cases e : f q with
        | none => rfl
        | some x => exact absurd (hm.mpr ⟨x, e⟩) hq
  · unfold addQ
    by_cases hq : q ∈ qs
    · rw [if_pos hq]; exact h.nd
    · rw [if_neg hq]
      rw [List.nodup_append]
      refine ⟨h.nd, by simp, fun a ha b hb => ?_⟩
      rw [List.mem_singleton.mp hb]
      exact fun z => hq (by rw [← z]; exact ha)
  · rw [valV_put]
    by_cases e : q' = q
    · subst e
      rw [if_pos rfl, h1]; rfl
    · rw [if_neg (fun z => e (qT_inj (Sum.inr.inj z))), h2 _ e]
      exact h.val q'
theorem TabOk.le {kvs : List (Key × V)} {f : Nw.St → Option Int} {qs : List Nw.St} (h : TabOk kvs f qs) : qs.length ≤ 51 := Nw.states_le h.nd
def isBk (H : Hp) (v : V) (t : Nat × Nw.St × Nw.Sg) : Prop := ∃ a sv, v = .ref a ∧ H a = some (.tup [.int t.1, .str (qT t.2.1), sv]) ∧ isSg H sv t.2.2
theorem isBk.mono {H H' : Hp} (h : Tp H H') {v : V} {t : Nat × Nw.St × Nw.Sg} (r : isBk H v t) : isBk H' v t := by
  obtain ⟨a, sv, e, h1, h2⟩ := r; exact ⟨a, sv, e, h _ _ h1, h2.mono h⟩
def bkey (k : Nat) (q : Nw.St) : List Key := [Sum.inl (k : Int), Sum.inr (qT q)]
theorem bkey_inj {k k' : Nat} {q q' : Nw.St} (h : bkey k q = bkey k' q') : k = k' ∧ q = q' := by
  unfold bkey at h
  simp only [List.cons.injEq, Sum.inl.injEq, Sum.inr.injEq, and_true] at h
  exact ⟨by omega, qT_inj h.2⟩
structure BackOk (H : Hp) (kvs : List (List Key × V)) (B : Nw.Bk) (N : Nat) : Prop where
  len : kvs.length ≤ N
  non : ∀ k q, B k q = none → valV kvs (bkey k q) = none
  som : ∀ k q t, B k q = some t → ∃ v, valV kvs (bkey k q) = some v ∧ isBk H v t
def Back (H : Hp) (a : Addr) (B : Nw.Bk) (N : Nat) : Prop := ∃ kvs, H a = some (.dT kvs) ∧ BackOk H kvs B N
theorem BackOk.mono {H H' : Hp} (h : Tp H H') {kvs : List (List Key × V)} {B : Nw.Bk} {N : Nat} (b : BackOk H kvs B N) : BackOk H' kvs B N :=
  ⟨b.len, b.non, fun k q t e => by obtain ⟨v, h1, h2⟩ := b.som k q t e; exact ⟨v, h1, h2.mono h⟩⟩
theorem length_putK_old {κ : Type} [DecidableEq κ] {kvs : List (κ × V)} {k : κ} {v x : V} (h : valV kvs k = some x) : (putK kvs k v).length = kvs.length := by
  have e := valV_any k kvs
  rw [h] at e
  unfold putK
  rw [if_pos (show _ = true from e), List.length_map]
theorem BackOk.put {H : Hp} {kvs : List (List Key × V)} {B : Nw.Bk} {N N' : Nat} (b : BackOk H kvs B N) {k : Nat} {q : Nw.St} {v : V} {t : Nat × Nw.St × Nw.Sg} (hv : isBk H v t) (hN : N' = N + 1 ∨ (N' = N ∧ ∃ t', B k q = some t')) : BackOk H (putK kvs (bkey k q) v) (B.put k q t) N' := by
  refine ⟨?_, fun k' q' e => ?_, fun k' q' t' e => ?_⟩
  · rcases hN with rfl | ⟨rfl, t', e⟩
    · have := length_putK kvs (bkey k q) v
      have := b.len
      omega
    · obtain ⟨x, h1, _⟩ := b.som k q t' e
      rw [length_putK_old h1]
      exact b.len
  · by_cases h : k' = k ∧ q' = q
    · obtain ⟨rfl, rfl⟩ := h
      rw [Nw.Bk.put_same] at e
      cases e
    · rw [Nw.Bk.put_ne h] at e
      rw [valV_put, if_neg (fun z => h (bkey_inj z))]
      exact b.non _ _ e
  · by_cases h : k' = k ∧ q' = q
    · obtain ⟨rfl, rfl⟩ := h
      rw [Nw.Bk.put_same] at e
      cases e
      exact ⟨v, by rw [valV_put, if_pos rfl], hv⟩
    · rw [Nw.Bk.put_ne h] at e
      rw [valV_put, if_neg (fun z => h (bkey_inj z))]
      exact b.som _ _ _ e
/-! ### better -/
def bt (f : Nw.St → Option Int) (q : Nw.St) (c : Int) : Bool := match f q with
  | none => true
  | some o => decide (c < o)
def sp_better : Sp := fun vs H Q _ => ∃ (td : Addr) (q0 : Nw.St) (c : Int) (f : Nw.St → Option Int) (qs : List Nw.St), vs = [.ref td, .str (qT q0), .int c] ∧ Tab H td f qs ∧ Q (.bl (bt f q0 c)) H
theorem ok_better {f : Addr} {fd : FuncData} (F : Fun K "better" "better" s_better f fd) : FnOk P w K mg base CX0 1 f fd ["table", "onto", "cost"] sp_better := by
  refine F.ok sc_better (fun vs H Q E h => ?_) (fun cdv A outer s H vs Q E hr h => ?_)
  · obtain ⟨td, q0, c, g, qs, rfl, _⟩ := h
    rfl
  · obtain ⟨td, q0, c, g, qs, rfl, ⟨kvs, hd, hT⟩, q⟩ := h
    refine ⟨_, (pss_one (ps_ret (pe_or (pe_cmp (pc_dnotin (hu_of hr) (pv 1) (pv 0)) rfl) (pe_one (pe_cmpR op_lt (pv 2) (pe_dget (hu_of hr) (pv 0) (pv 1) (fun _ _ => rfl)) (nomark _)))))), ?_⟩
    have hv := hT.val q0
    unfold bt at q
    cases e : g q0 with
    | none =>
      rw [e] at hv q
      have hv' : valV kvs (Sum.inr (qT q0)) = none := hv
      refine ⟨_, rfl, _, rfl, td, none, rfl, by rw [← hv']; exact DGet.k (k := Sum.inr (qT q0)) hd, true, rfl, iteT q⟩
    | some o =>
      rw [e] at hv q
      have hv' : valV kvs (Sum.inr (qT q0)) = some (.int o) := hv
      have dg : DGet H td (.str (qT q0)) (some (.int o)) := by rw [← hv']; exact DGet.k (k := Sum.inr (qT q0)) hd
      refine ⟨_, rfl, _, rfl, td, _, rfl, dg, false, rfl, iteF ?_⟩
      exact ⟨_, rfl, _, rfl, _, rfl, td, _, rfl, dg, _, _, rfl, rfl, q⟩
end
end Nt
namespace Nt
open PySem PySem.Spec PyProof.Rows L2
/-! ### the tables while they are filled -/
structure SI (W : List (Int × Int)) (p : Nw.Pr) (b : Int) (H0 H : Hp) (td bd : Addr) (k : Nat) (D0 D : Nw.Dm) (B : Nw.Bk) (qs : List Nw.St) (M : Nat) : Prop where
  but : But [td, bd] H0 H
  tab : Tab H td (D k) qs
  bk : Back H bd B (M + qs.length)
  good : Nw.Good W p b D B
  oth : ∀ k', k' ≠ k → D k' = D0 k'
  low : ∀ k' q v, D0 k' q = some v → ∃ v', D k' q = some v' ∧ v' ≤ v
section
variable {W : List (Int × Int)} {p : Nw.Pr} {b : Int} {H0 H : Hp} {td bd : Addr} {k1 k : Nat} {D0 D : Nw.Dm} {B : Nw.Bk} {qs : List Nw.St} {M : Nat}
theorem SI.ne (S : SI W p b H0 H td bd k D0 D B qs M) : td ≠ bd := by
  obtain ⟨kvs, h1, _⟩ := S.tab
  obtain ⟨kvb, h2, _⟩ := S.bk
  exact ne_of h1 h2 (by intro z; cases z)
theorem SI.step (hp : p.ok) (S : SI W p b H0 H td bd k D0 D B qs M) {q q' : Nw.St} {g : Nw.Sg} {c v1 : Int} (e : Nw.Edge W p k1 q g c k q') (h1 : D k1 q = some v1) (hb : ∀ old, D k q' = some old → v1 + c < old)
    {kvs : List (Key × V)} {kvb : List (List Key × V)} (hk : H td = some (.dK kvs)) (hB : H bd = some (.dT kvb)) {sv : V} (hsv : isSg H sv g) {t kt : Addr}
    (nt : upd H td (.dK (putK kvs (Sum.inr (qT q')) (.int (v1 + c)))) t = none) (nkt : upd (upd H td (.dK (putK kvs (Sum.inr (qT q')) (.int (v1 + c))))) t (.tup [.int k1, .str (qT q), sv]) kt = none) :
    SI W p b H0 (upd (upd (upd (upd H td (.dK (putK kvs (Sum.inr (qT q')) (.int (v1 + c))))) t (.tup [.int k1, .str (qT q), sv])) kt (.tup [.int k, .str (qT q')])) bd (.dT (putK kvb (bkey k q') (.ref t)))) td bd k D0 (D.put k q' (v1 + c)) (B.put k q' (k1, q, g)) (addQ qs q') M := by
  obtain ⟨kvs', hk', hT⟩ := S.tab
  rw [hk] at hk'; cases hk'
  obtain ⟨kvb', hB', hBk⟩ := S.bk
  rw [hB] at hB'; cases hB'
  have ne := S.ne
  have tp1 : Tp H (upd H td (.dK (putK kvs (Sum.inr (qT q')) (.int (v1 + c))))) := Tp.upd hk (by intro xs z; cases z)
  have tp2 := Tp.of (same_upd (o := .tup [.int k1, .str (qT q), sv]) nt)
  have tp3 := Tp.of (same_upd (o := .tup [.int k, .str (qT q')]) nkt)
  have ntd : td ≠ t := fun z => by rw [← z, upd_same] at nt; cases nt
  have ntbd : bd ≠ t := fun z => by rw [← z, upd_ne ne.symm, hB] at nt; cases nt
  have nktd : td ≠ kt := fun z => by rw [← z, upd_ne ntd, upd_same] at nkt; cases nkt
  have nkbd : bd ≠ kt := fun z => by rw [← z, upd_ne ntbd, upd_ne ne.symm, hB] at nkt; cases nkt
  have hB3 : (upd (upd (upd H td (.dK (putK kvs (Sum.inr (qT q')) (.int (v1 + c))))) t (.tup [.int k1, .str (qT q), sv])) kt (.tup [.int k, .str (qT q')])) bd = some (.dT kvb) := by
    rw [upd_ne nkbd, upd_ne ntbd, upd_ne ne.symm, hB]
  have tp4 : Tp _ (upd (upd (upd (upd H td (.dK (putK kvs (Sum.inr (qT q')) (.int (v1 + c))))) t (.tup [.int k1, .str (qT q), sv])) kt (.tup [.int k, .str (qT q')])) bd (.dT (putK kvb (bkey k q') (.ref t)))) := Tp.upd hB3 (by intro xs z; cases z)
  have tpA := tp1.trans (tp2.trans (tp3.trans tp4))
  refine ⟨?_, ?_, ?_, S.good.put hp e h1 hb, fun k' hk' => ?_, fun k' q2 v hv => ?_⟩
  · exact S.but.trans ((But.upd (by simp)).trans ((But.new nt).trans ((But.new nkt).trans (But.upd (by simp)))))
  · refine ⟨putK kvs (Sum.inr (qT q')) (.int (v1 + c)), ?_, hT.put Nw.Dm.put_same fun q2 hq2 => Nw.Dm.put_ne fun z => hq2 z.2⟩
    rw [upd_ne ne, upd_ne nktd, upd_ne ntd, upd_same]
  · refine ⟨_, upd_same, (hBk.mono tpA).put ⟨t, sv, rfl, tp4 _ _ (tp3 _ _ upd_same), hsv.mono tpA⟩ ?_⟩
    unfold addQ
    by_cases hq : q' ∈ qs
    · right
      rw [if_pos hq]
      refine ⟨rfl, ?_⟩
      obtain ⟨old, ho⟩ := (hT.mem q').mp hq
      rcases S.good.bp _ _ _ ho with ⟨z1, z2⟩ | ⟨k3, q3, g3, c3, v3, hb3, _⟩
      · exfalso
        have h0 := hb old ho
        have h2 : D 0 (Nw.beginState b) = some 0 := S.good.bg
        rw [← z1, ← z2, ho] at h2
        cases h2
        have := S.good.nn _ _ _ h1
        have := e.cost hp
        omega
      · exact ⟨_, hb3⟩
    · left
      rw [if_neg hq, List.length_append, List.length_singleton]
      omega
  · funext q2
    rw [Nw.Dm.put_ne fun z => hk' z.1]
    exact congrFun (S.oth k' hk') q2
  · obtain ⟨v', h2, h3⟩ := S.low k' q2 v hv
    obtain ⟨v3, h4, h5⟩ := Nw.Dm.put_low hb h2
    exact ⟨v3, h4, by omega⟩
theorem But.at {as : List Addr} {H H' : Hp} (h : But as H H') {a : Addr} {o : HO} (n : a ∉ as) (e : H a = some o) : H' a = some o := h a o n e
/-- a bound for a table's numbers -/
theorem exists_bound (f : Nw.St → Option Int) : ∃ m0 : Nat, ∀ q v, f q = some v → v ≤ (m0 : Int) := by
  have key : ∀ l : List Nw.St, ∃ m0 : Nat, ∀ q ∈ l, ∀ v, f q = some v → v ≤ (m0 : Int) := by
    intro l
    induction l with
    | nil => exact ⟨0, fun q hq => absurd hq (by simp)⟩
    | cons x l ih =>
      obtain ⟨m, hm⟩ := ih
      refine ⟨max m ((f x).getD 0).toNat, fun q hq v e => ?_⟩
      rcases List.mem_cons.mp hq with rfl | hq
      · rw [e]
        show v ≤ ((max m v.toNat : Nat) : Int)
        omega
      · have := hm q hq v e
        omega
  obtain ⟨m0, h⟩ := key Nw.allSt
  exact ⟨m0, fun q v e => h q (Nw.mem_allSt q) v e⟩
end
section
variable {P : Program} {w : World} {K : PySem.W.Frag} {mg : Str → Option Value} {base : Heap}
def sp_spread (W : List (Int × Int)) (b : Int) : Sp := fun vs H Q _ => ∃ (td bd pa : Addr) (k : Nat) (p : Nw.Pr) (D : Nw.Dm) (B : Nw.Bk) (qs : List Nw.St) (M : Nat), vs = [.ref td, .ref bd, .int k, .ref pa] ∧ p.ok ∧ H pa = some (.tup [oV p.dot, oV p.dk, oV p.ms]) ∧
  Tab H td (D k) qs ∧ Back H bd B (M + qs.length) ∧ Nw.Good W p b D B ∧ M ≤ 100000 ∧ ∀ H' D' B' qs', SI W p b H H' td bd k D D' B' qs' M → Nw.ClosedP p D' k → Q .non H'
theorem ok_spread {W : List (Int × Int)} {b : Int} {f fP fB : Addr} {fd fdP fdB : FuncData} (F : Fun K "spread" "spread" s_spread f fd) (D_part_moves : DefAt K mg "part_moves" fP fdP ["state", "prices"]) (G_part_moves : FnOk P w K mg base CX0 7 fP fdP ["state", "prices"] sp_part_moves)
    (D_better : DefAt K mg "better" fB fdB ["table", "onto", "cost"]) (G_better : FnOk P w K mg base CX0 1 fB fdB ["table", "onto", "cost"] sp_better) (z_list : mg "list" = none) : FnOk P w K mg base CX0 8 f fd ["table", "back", "at", "prices"] (sp_spread W b) := by
  refine F.ok sc_spread (fun vs H Q E h => ?_) (fun cdv A outer s H vs Q E hr h => ?_)
  · obtain ⟨td, bd, pa, k, p, D, B, qs, M, rfl, _⟩ := h
    rfl
  · obtain ⟨td, bd, pa, k, p, D, B, qs, M, rfl, hp, hP, hTab, hBack, hGood, hM, q⟩ := h
    obtain ⟨m0, hm0⟩ := exists_bound (D k)
    have nptd : pa ∉ [td, bd] := by
      obtain ⟨kvs, h1, _⟩ := hTab
      obtain ⟨kvb, h2, _⟩ := hBack
      simp only [List.mem_cons, List.not_mem_nil, or_false, not_or]
      exact ⟨ne_of hP h1 (by intro z; cases z), ne_of hP h2 (by intro z; cases z)⟩
    refine ⟨_, (pss_cons (ps_set (i := 4) sc_spread.nd rfl (.inl rfl) pe_bl)
      (pss_one (ps_while PassesOwn.never (pt_val (pv 4))
        (pss_cons (ps_set (i := 4) sc_spread.nd rfl (.inl rfl) pe_bl)
        (pss_one (ps_for PassesOwn.never rfl (pi_list (pe_callTy (call_list_dK rfl) (by rfl) z_list (by decide +kernel) (pa_cons (pv 0) pa_nil))) (pg_name (i := 5) sc_spread.nd rfl (.inl rfl))
          (pss_one (ps_for PassesOwn.never rfl (pi_list (pe_call G_part_moves (hr.mono (by decide)) (by rfl) D_part_moves.g D_part_moves.kp D_part_moves.b .nil pass0 (pa_cons (pv 5) (pa_cons (pv 3) pa_nil)))) (pg_tup rfl (pgs_cons (pg_name (i := 6) sc_spread.nd rfl (.inl rfl)) (pgs_cons (pg_name (i := 7) sc_spread.nd rfl (.inl rfl)) (pgs_cons (pg_name (i := 8) sc_spread.nd rfl (.inl rfl)) pgs_nil))))
            (pss_one (ps_if (pt_val (pe_call G_better (hr.mono (by decide)) (by rfl) D_better.g D_better.kp D_better.b .nil pass0 (pa_cons (pv 0) (pa_cons (pv 6) (pa_cons (pe_op op_add (pe_dget (hu_of hr) (pv 0) (pv 5) (fun _ _ => rfl)) (pv 8)) pa_nil)))))
              (pss_cons (ps_dput (hu_of hr) (pv 0) (pv 6) (pe_op op_add (pe_dget (hu_of hr) (pv 0) (pv 5) (fun _ _ => rfl)) (pv 8)) rfl)
              (pss_cons (ps_dput (hu_of hr) (pv 1) (pe_tup (pa_cons (pv 2) (pa_cons (pv 6) pa_nil))) (pe_tup (pa_cons (pv 2) (pa_cons (pv 5) (pa_cons (pv 7) pa_nil)))) rfl)
              (pss_one (ps_set (i := 4) sc_spread.nd rfl (.inl rfl) pe_bl))))
              pss_nil)))))))))), ?_⟩
    let mm := fun (D1 : Nw.Dm) => Nw.mu (m0 + 460) (D1 k)
    let Bnd := fun (D1 : Nw.Dm) (qs1 : List Nw.St) => ∀ q v, D1 k q = some v → v ≤ (m0 : Int) + 9 * (qs1.length : Int)
    -- going = True; while going
    refine ⟨fun m σ H1 => ∃ (D1 : Nw.Dm) (B1 : Nw.Bk) (qs1 : List Nw.St) (going : Bool) (y5 y6 y7 y8 : Option V), σ = [some (.ref td), some (.ref bd), some (.int k), some (.ref pa), some (.bl going), y5, y6, y7, y8] ∧ SI W p b H H1 td bd k D D1 B1 qs1 M ∧ Bnd D1 qs1 ∧ (going = false → Nw.ClosedP p D1 k) ∧ m = if going = true then mm D1 + 1 else 0, ?_, ?_⟩
    · refine ⟨_, D, B, qs, true, none, none, none, none, rfl, ⟨.refl _ _, hTab, hBack, hGood, fun _ _ => rfl, fun _ _ v e => ⟨v, e, Int.le_refl _⟩⟩, fun q v e => ?_, (fun z => by cases z), rfl⟩
      have := hm0 q v e
      omega
    rintro m σ H1 ⟨D1, B1, qs1, going, y5, y6, y7, y8, rfl, S1, hB1, hcl, rfl⟩
    refine ⟨_, rfl, going, rfl, ?_⟩
    cases going with
    | false =>
      refine iteF ?_
      exact q H1 D1 B1 qs1 S1 (hcl rfl)
    | true =>
      refine iteT ⟨fun σ' H' => ∃ (D2 : Nw.Dm) (B2 : Nw.Bk) (qs2 : List Nw.St) (g2 : Bool) (y5 y6 y7 y8 : Option V), σ' = [some (.ref td), some (.ref bd), some (.int k), some (.ref pa), some (.bl g2), y5, y6, y7, y8] ∧ SI W p b H H' td bd k D D2 B2 qs2 M ∧ Bnd D2 qs2 ∧ (g2 = false → Nw.ClosedP p D2 k) ∧ (g2 = true → mm D2 < mm D1), ?_, ?_⟩
      · rintro σ' H' ⟨D2, B2, qs2, g2, y5, y6, y7, y8, rfl, S2, hB2, hc2, hm2⟩
        refine ⟨_, ?_, D2, B2, qs2, g2, y5, y6, y7, y8, rfl, S2, hB2, hc2, rfl⟩
        cases g2 with
        | true => have := hm2 rfl; simp; omega
        | false => simp
      -- going = False; for state in list(table)
      obtain ⟨kvs1, hk1, hT1⟩ := S1.tab
      refine ⟨_, rfl, td, kvs1, rfl, hk1, fun l nl => ⟨l, rfl, ⟨_, seqL upd_same⟩, ?_⟩⟩
      have eL : kvs1.map (fun kv => kV kv.1) = qs1.map (fun q => V.str (qT q)) := by
        have := congrArg (List.map kV) hT1.keys
        rw [List.map_map, List.map_map] at this
        exact this
      rw [eL]
      have nltd : l ≠ td := (ne_of_none hk1 nl).symm
      have nlbd : l ≠ bd := by
        obtain ⟨kvb, h2, _⟩ := S1.bk
        exact (ne_of_none h2 nl).symm
      have S1' : SI W p b H (upd H1 l (.lst (qs1.map (fun q => V.str (qT q))))) td bd k D D1 B1 qs1 M := by
        refine ⟨S1.but.trans (But.new nl), ⟨kvs1, by rw [upd_ne nltd.symm]; exact hk1, hT1⟩, ?_, S1.good, S1.oth, S1.low⟩
        obtain ⟨kvb, h2, h3⟩ := S1.bk
        exact ⟨kvb, by rw [upd_ne nlbd.symm]; exact h2, h3.mono (Tp.of (same_upd nl))⟩
      refine for_list (K := K) (a := l) (xs := qs1.map (fun q => V.str (qT q))) (fun i σ H' => ∃ (D2 : Nw.Dm) (B2 : Nw.Bk) (qs2 : List Nw.St) (g2 : Bool) (y5 y6 y7 y8 : Option V), σ = [some (.ref td), some (.ref bd), some (.int k), some (.ref pa), some (.bl g2), y5, y6, y7, y8] ∧ H' l = some (.lst (qs1.map (fun q => V.str (qT q)))) ∧ SI W p b H H' td bd k D D2 B2 qs2 M ∧ Bnd D2 qs2 ∧
          (∀ q ∈ qs1, ∃ v, D2 k q = some v) ∧ (g2 = true → mm D2 < mm D1) ∧ (g2 = false → D2 = D1 ∧ ∀ j q, j < i → qs1[j]? = some q → ∀ v q' g c, D1 k q = some v → (q', g, c) ∈ Nw.partMoves q p → ∃ v', D1 k q' = some v' ∧ v' ≤ v + c))
        ⟨D1, B1, qs1, false, _, _, _, _, rfl, upd_same, S1', hB1, fun q hq => (hT1.mem q).mp hq, fun z => (by cases z), fun _ => ⟨rfl, fun j q hj => absurd hj (by omega)⟩⟩ (fun i σ H' _ ⟨_, _, _, _, _, _, _, _, _, hl, _⟩ => seqL hl) ?_ ?_
      · rintro i x σ H' hi ⟨D2, B2, qs2, g2, y5, y6, y7, y8, rfl, hl, S2, hB2, hall, hg2, hn2⟩
        rw [List.getElem?_map] at hi
        obtain ⟨q0, hq0, rfl⟩ := Option.map_eq_some_iff.mp hi
        have hP2 : H' pa = some (.tup [oV p.dot, oV p.dk, oV p.ms]) := S2.but.at nptd hP
        -- for onto, sign, cost in part_moves(state, prices)
        refine ⟨_, rfl, _, rfl, q0, pa, p, rfl, hP2, fun H3 d ms sm nd hd hM => ⟨d, rfl, ⟨_, seqL hd⟩, ?_⟩⟩
        have S3 : SI W p b H H3 td bd k D D2 B2 qs2 M := by
          obtain ⟨kvs, h1, h2⟩ := S2.tab
          obtain ⟨kvb, h3, h4⟩ := S2.bk
          exact ⟨S2.but.trans (But.of sm), ⟨kvs, sm _ _ h1, h2⟩, ⟨kvb, sm _ _ h3, h4.mono (Tp.of sm)⟩, S2.good, S2.oth, S2.low⟩
        have ndtd : d ≠ td := by
          obtain ⟨kvs, h1, h2⟩ := S2.tab
          exact (ne_of_none h1 nd).symm
        have ndbd : d ≠ bd := by
          obtain ⟨kvb, h3, h4⟩ := S2.bk
          exact (ne_of_none h3 nd).symm
        refine for_list (K := K) (a := d) (xs := ms) (fun j σ H4 => ∃ (D4 : Nw.Dm) (B4 : Nw.Bk) (qs4 : List Nw.St) (g4 : Bool) (y6 y7 y8 : Option V), σ = [some (.ref td), some (.ref bd), some (.int k), some (.ref pa), some (.bl g4), some (.str (qT q0)), y6, y7, y8] ∧ H4 l = some (.lst (qs1.map (fun q => V.str (qT q)))) ∧ H4 d = some (.lst ms) ∧ Tp H3 H4 ∧ SI W p b H H4 td bd k D D4 B4 qs4 M ∧ Bnd D4 qs4 ∧
            (∀ q ∈ qs1, ∃ v, D4 k q = some v) ∧ (g4 = true → mm D4 < mm D1) ∧ (g4 = false → D4 = D1 ∧ (∀ j q, j < i → qs1[j]? = some q → ∀ v q' g c, D1 k q = some v → (q', g, c) ∈ Nw.partMoves q p → ∃ v', D1 k q' = some v' ∧ v' ≤ v + c) ∧
              ∀ j' v q' g c, j' < j → (Nw.partMoves q0 p)[j']? = some (q', g, c) → D1 k q0 = some v → ∃ v', D1 k q' = some v' ∧ v' ≤ v + c))
          ⟨D2, B2, qs2, g2, _, _, _, rfl, sm _ _ hl, hd, .refl _, S3, hB2, hall, hg2, fun z => ⟨(hn2 z).1, (hn2 z).2, fun j' _ _ _ _ hj' => absurd hj' (by omega)⟩⟩ (fun j σ H4 _ ⟨_, _, _, _, _, _, _, _, _, hd4, _⟩ => seqL hd4) ?_ ?_
        · rintro j x σ H4 hj ⟨D4, B4, qs4, g4, y6, y7, y8, rfl, hl4, hd4, tp4, S4, hB4, hall4, hg4, hn4⟩
          obtain ⟨⟨q', g, c⟩, hmv, ⟨t, sv, rfl, ht, hsv⟩⟩ := hM.get' hj
          have ht4 := tp4 _ _ ht
          have hsv4 := isSg.mono tp4 hsv
          have hmem : (q', g, c) ∈ Nw.partMoves q0 p := List.mem_of_getElem? hmv
          obtain ⟨v0, hv0⟩ := hall4 q0 (List.mem_of_getElem? hq0)
          obtain ⟨kvs4, hk4, hT4⟩ := S4.tab
          have hdg : DGet H4 td (.str (qT q0)) (some (.int v0)) := by
            have := hT4.val q0
            rw [hv0] at this
            have e : valV kvs4 (Sum.inr (qT q0)) = some (.int v0) := this
            rw [← e]
            exact DGet.k (k := Sum.inr (qT q0)) hk4
          have hcost := Nw.Edge.cost hp (W := W) (k1 := k) (k2 := k) (.inl ⟨rfl, hmem⟩ : Nw.Edge W p k q0 g c k q')
          refine ⟨t, _, rfl, seqT ht4, rfl, _, _, rfl, _, _, rfl, _, [], rfl, rfl, ?_⟩
          -- if better(table, onto, table[state] + cost)
          refine ⟨_, rfl, _, rfl, _, rfl, _, rfl, td, _, rfl, hdg, _, rfl, v0, c, rfl, rfl, td, q', v0 + c, D4 k, qs4, rfl, ⟨kvs4, hk4, hT4⟩, _, rfl, ite2 (fun e => ?_) (fun e => ?_)⟩
          · have hb : ∀ old, D4 k q' = some old → v0 + c < old := fun old ho => by
              unfold bt at e
              rw [ho] at e
              simpa using e
            obtain ⟨kvb4, hb4, hBk4⟩ := S4.bk
            have hlen := hT4.len
            have hle := hT4.le
            have hblen := hBk4.len
            -- table[onto] = table[state] + cost
            refine ⟨_, rfl, _, rfl, td, _, rfl, hdg, _, rfl, v0, c, rfl, rfl, _, rfl, _, rfl, td, _, rfl, DPut.k (k := Sum.inr (qT q')) hk4 (size_small (by omega)), ?_⟩
            -- back[at, onto] = (at, state, sign)
            refine ⟨_, rfl, _, rfl, _, rfl, (by show 3 ≤ sizeLine; decide), fun t1 nt1 => ⟨_, rfl, _, rfl, _, rfl, (by show 2 ≤ sizeLine; decide), fun kt nkt => ?_⟩⟩
            have S5 := S4.step hp (.inl ⟨rfl, hmem⟩ : Nw.Edge W p k q0 g c k q') hv0 hb hk4 hb4 hsv4 nt1 nkt
            have ntd : td ≠ t1 := fun z => by rw [← z, upd_same] at nt1; cases nt1
            have ntbd : bd ≠ t1 := fun z => by rw [← z, upd_ne S4.ne.symm, hb4] at nt1; cases nt1
            have nkbd : bd ≠ kt := fun z => by rw [← z, upd_ne ntbd, upd_ne S4.ne.symm, hb4] at nkt; cases nkt
            refine ⟨bd, _, rfl, DPut.t (k := bkey k q') (by rw [upd_ne nkbd, upd_ne ntbd, upd_ne S4.ne.symm]; exact hb4) upd_same (size_small (by omega)), ?_⟩
            have qle := S5.tab.choose_spec.2.le
            have hmu : mm (D4.put k q' (v0 + c)) < mm D4 := by
              have h0 := S4.good.nn _ _ _ hv0
              have hbv := hB4 q0 v0 hv0
              refine Nw.mu_put hb (by omega) ?_
              have : (qs4.length : Int) ≤ 51 := by omega
              cases ho : D4 k q' with
              | none =>
                have h51 : qs4.length + 1 ≤ 51 := by
                  have hnm : q' ∉ qs4 := fun z => by
                    obtain ⟨x, hx⟩ := (hT4.mem q').mp z
                    rw [ho] at hx; cases hx
                  unfold addQ at qle
                  rw [if_neg hnm, List.length_append, List.length_singleton] at qle
                  exact qle
                omega
              | some old =>
                have := hb old ho
                have := hB4 q' old ho
                omega
            have frl : ∀ {a : Addr} {o : HO}, a ≠ td → a ≠ bd → H4 a = some o → (upd (upd (upd (upd H4 td (.dK (putK kvs4 (Sum.inr (qT q')) (.int (v0 + c))))) t1 (.tup [.int k, .str (qT q0), sv])) kt (.tup [.int k, .str (qT q')])) bd (.dT (putK kvb4 (bkey k q') (.ref t1)))) a = some o := fun {a o} n1 n2 e => by
              have f1 : (upd H4 td (.dK (putK kvs4 (Sum.inr (qT q')) (.int (v0 + c))))) a = some o := by rw [upd_ne n1]; exact e
              rw [upd_ne n2]
              exact same_upd nkt _ _ (same_upd nt1 _ _ f1)
            refine ⟨D4.put k q' (v0 + c), B4.put k q' (k, q0, g), addQ qs4 q', true, _, _, _, rfl, frl nltd nlbd hl4, frl ndtd ndbd hd4, tp4.trans (fun a xs e => frl (ne_of e hk4 (by intro z; cases z)) (ne_of e hb4 (by intro z; cases z)) e), S5, fun q v e => ?_, fun q hq => ?_, fun _ => ?_, fun z => by cases z⟩
            · by_cases hqq : q = q'
              · subst hqq
                rw [Nw.Dm.put_same] at e
                cases e
                have hbv := hB4 q0 v0 hv0
                unfold addQ
                by_cases hm : q ∈ qs4
                · rw [if_pos hm]
                  obtain ⟨old, ho⟩ := (hT4.mem q).mp hm
                  have := hb old ho
                  have := hB4 q old ho
                  omega
                · rw [if_neg hm, List.length_append, List.length_singleton]
                  omega
              · rw [Nw.Dm.put_ne fun z => hqq z.2] at e
                have := hB4 q v e
                have : (qs4.length : Int) ≤ ((addQ qs4 q').length : Int) := by
                  unfold addQ
                  split
                  · exact Int.le_refl _
                  · rw [List.length_append]; omega
                omega
            · obtain ⟨v, hv⟩ := hall4 q hq
              obtain ⟨v', hv', _⟩ := Nw.Dm.put_low hb hv
              exact ⟨v', hv'⟩
            · cases g4 with
              | true => exact Nat.lt_trans hmu (hg4 rfl)
              | false => rw [← (hn4 rfl).1]; exact hmu
          · refine ⟨D4, B4, qs4, g4, _, _, _, rfl, hl4, hd4, tp4, S4, hB4, hall4, hg4, fun z => ?_⟩
            obtain ⟨rfl, h1, h2⟩ := hn4 z
            refine ⟨rfl, h1, fun j' v q2 g2 c2 hj' hm2 hv => ?_⟩
            rcases Nat.lt_succ_iff_lt_or_eq.mp hj' with h | h
            · exact h2 j' v q2 g2 c2 h hm2 hv
            · subst h
              rw [hmv] at hm2
              cases hm2
              rw [hv0] at hv
              cases hv
              unfold bt at e
              cases ho : D4 k q' with
              | none => rw [ho] at e; exact absurd rfl e
              | some old =>
                rw [ho] at e
                exact ⟨old, rfl, by simpa using e⟩
        · rintro σ H4 ⟨D4, B4, qs4, g4, y6, y7, y8, rfl, hl4, hd4, tp4, S4, hB4, hall4, hg4, hn4⟩
          refine ⟨D4, B4, qs4, g4, _, _, _, _, rfl, hl4, S4, hB4, hall4, hg4, fun z => ?_⟩
          obtain ⟨h0, h1, h2⟩ := hn4 z
          refine ⟨h0, fun j q hj hq v q' g c hv hm => ?_⟩
          rcases Nat.lt_succ_iff_lt_or_eq.mp hj with h | h
          · exact h1 j q h hq v q' g c hv hm
          · subst h
            rw [hq0] at hq
            cases hq
            obtain ⟨j', hj', e'⟩ := List.getElem_of_mem hm
            exact h2 j' v q' g c (by rw [hM.1]; exact hj') (by rw [List.getElem?_eq_getElem hj', e']) hv
      · rintro σ H' ⟨D2, B2, qs2, g2, y5, y6, y7, y8, rfl, hl, S2, hB2, hall, hg2, hn2⟩
        refine ⟨D2, B2, qs2, g2, _, _, _, _, rfl, S2, hB2, fun z => ?_, hg2⟩
        obtain ⟨rfl, h1⟩ := hn2 z
        intro q v q' g c hv hm
        obtain ⟨j, hj, e⟩ := List.getElem_of_mem ((hT1.mem q).mpr ⟨v, hv⟩)
        exact h1 j q (by simpa using hj) (by rw [List.getElem?_eq_getElem hj, e]) v q' g c hv hm
end
end Nt
namespace Nt
open PySem PySem.Spec PyProof.Rows L2
section
variable {P : Program} {w : World} {K : PySem.W.Frag} {mg : Str → Option Value} {base : Heap}
def sp_onward (W : List (Int × Int)) (b : Int) : Sp := fun vs H Q _ => ∃ (td bd wa pa : Addr) (k : Nat) (p : Nw.Pr) (wi : Int × Int) (D : Nw.Dm) (B : Nw.Bk) (qs : List Nw.St) (M : Nat), vs = [.ref td, .ref bd, .int k, .ref wa, .ref pa] ∧ p.ok ∧ H pa = some (.tup [oV p.dot, oV p.dk, oV p.ms]) ∧
  H wa = some (.tup [.int wi.1, .int wi.2]) ∧ W[k]? = some wi ∧ Tab H td (D k) qs ∧ Back H bd B M ∧ Nw.Good W p b D B ∧ (∀ q, D (k + 1) q = none) ∧ M ≤ 100000 ∧
  ∀ H' nd D' B' qs', H nd = none → SI W p b H H' nd bd (k + 1) D D' B' qs' M → Nw.ClosedW W p D' k → Q (.ref nd) H'
theorem ok_onward {W : List (Int × Int)} {b : Int} {f fP fB : Addr} {fd fdP fdB : FuncData} (F : Fun K "onward" "onward" s_onward f fd) (D_wish_moves : DefAt K mg "wish_moves" fP fdP ["state", "wish", "prices"]) (G_wish_moves : FnOk P w K mg base CX0 7 fP fdP ["state", "wish", "prices"] sp_wish_moves)
    (D_better : DefAt K mg "better" fB fdB ["table", "onto", "cost"]) (G_better : FnOk P w K mg base CX0 1 fB fdB ["table", "onto", "cost"] sp_better) (z_list : mg "list" = none) : FnOk P w K mg base CX0 8 f fd ["table", "back", "at", "wish", "prices"] (sp_onward W b) := by
  refine F.ok sc_onward (fun vs H Q E h => ?_) (fun cdv A outer s H vs Q E hr h => ?_)
  · obtain ⟨td, bd, wa, pa, k, p, wi, D, B, qs, M, rfl, _⟩ := h
    rfl
  · obtain ⟨td, bd, wa, pa, k, p, wi, D, B, qs, M, rfl, hp, hP, hW, hwi, ⟨kvs0, hk0, hT0⟩, ⟨kvb0, hb0, hBk0⟩, hGood, hnone, hM, q⟩ := h
    refine ⟨_, (pss_cons (ps_set (i := 5) sc_onward.nd rfl (.inl rfl) pe_dnewK)
      (pss_cons (ps_for PassesOwn.never rfl (pi_list (pe_callTy (call_list_dK rfl) (by rfl) z_list (by decide +kernel) (pa_cons (pv 0) pa_nil))) (pg_name (i := 6) sc_onward.nd rfl (.inl rfl))
        (pss_one (ps_for PassesOwn.never rfl (pi_list (pe_call G_wish_moves (hr.mono (by decide)) (by rfl) D_wish_moves.g D_wish_moves.kp D_wish_moves.b .nil pass0 (pa_cons (pv 6) (pa_cons (pv 3) (pa_cons (pv 4) pa_nil))))) (pg_tup rfl (pgs_cons (pg_name (i := 7) sc_onward.nd rfl (.inl rfl)) (pgs_cons (pg_name (i := 8) sc_onward.nd rfl (.inl rfl)) (pgs_cons (pg_name (i := 9) sc_onward.nd rfl (.inl rfl)) pgs_nil))))
          (pss_one (ps_if (pt_val (pe_call G_better (hr.mono (by decide)) (by rfl) D_better.g D_better.kp D_better.b .nil pass0 (pa_cons (pv 5) (pa_cons (pv 7) (pa_cons (pe_op op_add (pe_dget (hu_of hr) (pv 0) (pv 6) (fun _ _ => rfl)) (pv 9)) pa_nil)))))
            (pss_cons (ps_dput (hu_of hr) (pv 5) (pv 7) (pe_op op_add (pe_dget (hu_of hr) (pv 0) (pv 6) (fun _ _ => rfl)) (pv 9)) rfl)
            (pss_one (ps_dput (hu_of hr) (pv 1) (pe_tup (pa_cons (pe_op op_add (pv 2) pe_int) (pa_cons (pv 7) pa_nil))) (pe_tup (pa_cons (pv 2) (pa_cons (pv 6) (pa_cons (pv 8) pa_nil)))) rfl)))
            pss_nil)))))
      (pss_one (ps_ret (pv 5))))), ?_⟩
    intro nd nnd
    have ndtd : nd ≠ td := (ne_of_none hk0 nnd).symm
    have ndbd : nd ≠ bd := (ne_of_none hb0 nnd).symm
    have tdbd : td ≠ bd := ne_of hk0 hb0 (by intro z; cases z)
    have s1 : Same H (upd H nd (.dK [])) := same_upd nnd
    have S1 : SI W p b H (upd H nd (.dK [])) nd bd (k + 1) D D B [] M := ⟨But.new nnd, ⟨[], upd_same, rfl, List.nodup_nil, fun q => by rw [hnone q]; rfl⟩, ⟨kvb0, s1 _ _ hb0, (hBk0.mono (Tp.of s1))⟩, hGood, fun _ _ => rfl, fun _ _ v e => ⟨v, e, Int.le_refl _⟩⟩
    -- for state in list(table)
    refine ⟨_, rfl, td, kvs0, rfl, s1 _ _ hk0, fun l nl => ⟨l, rfl, ⟨_, seqL upd_same⟩, ?_⟩⟩
    have eL : kvs0.map (fun kv => kV kv.1) = qs.map (fun q => V.str (qT q)) := by
      have := congrArg (List.map kV) hT0.keys
      rw [List.map_map, List.map_map] at this
      exact this
    rw [eL]
    have nltd : l ≠ td := (ne_of_none (s1 _ _ hk0) nl).symm
    have nlbd : l ≠ bd := (ne_of_none (s1 _ _ hb0) nl).symm
    have nlnd : l ≠ nd := (ne_of_none (upd_same : (upd H nd (.dK [])) nd = _) nl).symm
    have s2 : Same (upd H nd (.dK [])) (upd (upd H nd (.dK [])) l (.lst (qs.map (fun q => V.str (qT q))))) := same_upd nl
    have S1' : SI W p b H (upd (upd H nd (.dK [])) l (.lst (qs.map (fun q => V.str (qT q))))) nd bd (k + 1) D D B [] M := by
      obtain ⟨kvs, h1, h1'⟩ := S1.tab
      obtain ⟨kvb, h2, h3⟩ := S1.bk
      exact ⟨S1.but.trans (But.of s2), ⟨kvs, s2 _ _ h1, h1'⟩, ⟨kvb, s2 _ _ h2, h3.mono (Tp.of s2)⟩, S1.good, S1.oth, S1.low⟩
    have npn : pa ∉ [nd, bd] := by
      simp only [List.mem_cons, List.not_mem_nil, or_false, not_or]
      exact ⟨ne_of_none hP nnd, ne_of hP hb0 (by intro z; cases z)⟩
    have nwn : wa ∉ [nd, bd] := by
      simp only [List.mem_cons, List.not_mem_nil, or_false, not_or]
      exact ⟨ne_of_none hW nnd, ne_of hW hb0 (by intro z; cases z)⟩
    have ntn : td ∉ [nd, bd] := by
      simp only [List.mem_cons, List.not_mem_nil, or_false, not_or]
      exact ⟨ndtd.symm, tdbd⟩
    refine for_list (K := K) (a := l) (xs := qs.map (fun q => V.str (qT q))) (fun i σ H' => ∃ (D2 : Nw.Dm) (B2 : Nw.Bk) (qs2 : List Nw.St) (y6 y7 y8 y9 : Option V), σ = [some (.ref td), some (.ref bd), some (.int k), some (.ref wa), some (.ref pa), some (.ref nd), y6, y7, y8, y9] ∧ H' l = some (.lst (qs.map (fun q => V.str (qT q)))) ∧ SI W p b H H' nd bd (k + 1) D D2 B2 qs2 M ∧
        (∀ j q, j < i → qs[j]? = some q → ∀ v q' g c, D k q = some v → (q', g, c) ∈ Nw.wishMoves q wi p → ∃ v', D2 (k + 1) q' = some v' ∧ v' ≤ v + c))
      ⟨D, B, [], _, _, _, _, rfl, upd_same, S1', fun j q hj => absurd hj (by omega)⟩ (fun i σ H' _ ⟨_, _, _, _, _, _, _, _, hl, _⟩ => seqL hl) ?_ ?_
    · rintro i x σ H' hi ⟨D2, B2, qs2, y6, y7, y8, y9, rfl, hl, S2, hcl⟩
      rw [List.getElem?_map] at hi
      obtain ⟨q0, hq0, rfl⟩ := Option.map_eq_some_iff.mp hi
      have hP2 : H' pa = some (.tup [oV p.dot, oV p.dk, oV p.ms]) := S2.but.at npn hP
      have hW2 : H' wa = some (.tup [.int wi.1, .int wi.2]) := S2.but.at nwn hW
      refine ⟨_, rfl, _, rfl, _, rfl, q0, wa, pa, wi, p, rfl, hW2, hP2, fun H3 d ms sm ndd hd hMv => ⟨d, rfl, ⟨_, seqL hd⟩, ?_⟩⟩
      have S3 : SI W p b H H3 nd bd (k + 1) D D2 B2 qs2 M := by
        obtain ⟨kvs, h1, h2⟩ := S2.tab
        obtain ⟨kvb, h3, h4⟩ := S2.bk
        exact ⟨S2.but.trans (But.of sm), ⟨kvs, sm _ _ h1, h2⟩, ⟨kvb, sm _ _ h3, h4.mono (Tp.of sm)⟩, S2.good, S2.oth, S2.low⟩
      have nddnd : d ≠ nd := by
        obtain ⟨kvs, h1, h2⟩ := S2.tab
        exact (ne_of_none h1 ndd).symm
      have nddbd : d ≠ bd := by
        obtain ⟨kvb, h3, h4⟩ := S2.bk
        exact (ne_of_none h3 ndd).symm
      refine for_list (K := K) (a := d) (xs := ms) (fun j σ H4 => ∃ (D4 : Nw.Dm) (B4 : Nw.Bk) (qs4 : List Nw.St) (y7 y8 y9 : Option V), σ = [some (.ref td), some (.ref bd), some (.int k), some (.ref wa), some (.ref pa), some (.ref nd), some (.str (qT q0)), y7, y8, y9] ∧ H4 l = some (.lst (qs.map (fun q => V.str (qT q)))) ∧ H4 d = some (.lst ms) ∧ Tp H3 H4 ∧ SI W p b H H4 nd bd (k + 1) D D4 B4 qs4 M ∧
            (∀ j q, j < i → qs[j]? = some q → ∀ v q' g c, D k q = some v → (q', g, c) ∈ Nw.wishMoves q wi p → ∃ v', D4 (k + 1) q' = some v' ∧ v' ≤ v + c) ∧
            ∀ j' v q' g c, j' < j → (Nw.wishMoves q0 wi p)[j']? = some (q', g, c) → D k q0 = some v → ∃ v', D4 (k + 1) q' = some v' ∧ v' ≤ v + c)
        ⟨D2, B2, qs2, _, _, _, rfl, sm _ _ hl, hd, .refl _, S3, hcl, fun j' _ _ _ _ hj' => absurd hj' (by omega)⟩ (fun j σ H4 _ ⟨_, _, _, _, _, _, _, _, hd4, _⟩ => seqL hd4) ?_ ?_
      · rintro j x σ H4 hj ⟨D4, B4, qs4, y7, y8, y9, rfl, hl4, hd4, tp4, S4, hcl4, hcl4'⟩
        obtain ⟨⟨q', g, c⟩, hmv, ⟨t, sv, rfl, ht, hsv⟩⟩ := hMv.get' hj
        have ht4 := tp4 _ _ ht
        have hsv4 := isSg.mono tp4 hsv
        have hmem : (q', g, c) ∈ Nw.wishMoves q0 wi p := List.mem_of_getElem? hmv
        obtain ⟨v0, hv0⟩ := (hT0.mem q0).mp (List.mem_of_getElem? hq0)
        have hk4 : H4 td = some (.dK kvs0) := S4.but.at ntn hk0
        have eDk : D4 k = D k := S4.oth k (by omega)
        have hv04 : D4 k q0 = some v0 := by rw [eDk]; exact hv0
        have hdg : DGet H4 td (.str (qT q0)) (some (.int v0)) := by
          have := hT0.val q0
          rw [hv0] at this
          have e : valV kvs0 (Sum.inr (qT q0)) = some (.int v0) := this
          rw [← e]
          exact DGet.k (k := Sum.inr (qT q0)) hk4
        have hedge : Nw.Edge W p k q0 g c (k + 1) q' := .inr ⟨rfl, wi, hwi, hmem⟩
        have hcost := hedge.cost hp
        obtain ⟨kvs4, hn4, hT4⟩ := S4.tab
        refine ⟨t, _, rfl, seqT ht4, rfl, _, _, rfl, _, _, rfl, _, [], rfl, rfl, ?_⟩
        refine ⟨_, rfl, _, rfl, _, rfl, _, rfl, td, _, rfl, hdg, _, rfl, v0, c, rfl, rfl, nd, q', v0 + c, D4 (k + 1), qs4, rfl, ⟨kvs4, hn4, hT4⟩, _, rfl, ite2 (fun e => ?_) (fun e => ?_)⟩
        · have hb : ∀ old, D4 (k + 1) q' = some old → v0 + c < old := fun old ho => by
            unfold bt at e
            rw [ho] at e
            simpa using e
          obtain ⟨kvb4, hb4, hBk4⟩ := S4.bk
          have hlen := hT4.len
          have hle := hT4.le
          have hblen := hBk4.len
          -- told[onto] = table[state] + cost
          refine ⟨_, rfl, _, rfl, td, _, rfl, hdg, _, rfl, v0, c, rfl, rfl, _, rfl, _, rfl, nd, _, rfl, DPut.k (k := Sum.inr (qT q')) hn4 (size_small (by omega)), ?_⟩
          -- back[at + 1, onto] = (at, state, sign)
          refine ⟨_, rfl, _, rfl, _, rfl, (by show 3 ≤ sizeLine; decide), fun t1 nt1 => ⟨_, rfl, _, rfl, _, _, rfl, rfl, _, rfl, (by show 2 ≤ sizeLine; decide), fun kt nkt => ?_⟩⟩
          have S5 := S4.step hp hedge hv04 hb hn4 hb4 hsv4 nt1 nkt
          have ntd : nd ≠ t1 := fun z => by rw [← z, upd_same] at nt1; cases nt1
          have ntbd : bd ≠ t1 := fun z => by rw [← z, upd_ne S4.ne.symm, hb4] at nt1; cases nt1
          have nkbd : bd ≠ kt := fun z => by rw [← z, upd_ne ntbd, upd_ne S4.ne.symm, hb4] at nkt; cases nkt
          refine ⟨bd, _, rfl, DPut.t (k := bkey (k + 1) q') (by rw [upd_ne nkbd, upd_ne ntbd, upd_ne S4.ne.symm]; exact hb4) upd_same (size_small (by omega)), ?_⟩
          have frl : ∀ {a : Addr} {o : HO}, a ≠ nd → a ≠ bd → H4 a = some o → (upd (upd (upd (upd H4 nd (.dK (putK kvs4 (Sum.inr (qT q')) (.int (v0 + c))))) t1 (.tup [.int k, .str (qT q0), sv])) kt (.tup [.int ((k : Int) + 1), .str (qT q')])) bd (.dT (putK kvb4 (bkey (k + 1) q') (.ref t1)))) a = some o := fun {a o} n1 n2 e => by
            have f1 : (upd H4 nd (.dK (putK kvs4 (Sum.inr (qT q')) (.int (v0 + c))))) a = some o := by rw [upd_ne n1]; exact e
            rw [upd_ne n2]
            exact same_upd nkt _ _ (same_upd nt1 _ _ f1)
          refine ⟨D4.put (k + 1) q' (v0 + c), B4.put (k + 1) q' (k, q0, g), addQ qs4 q', _, _, _, rfl, frl nlnd nlbd hl4, frl nddnd nddbd hd4, tp4.trans (fun a xs e => frl (ne_of e hn4 (by intro z; cases z)) (ne_of e hb4 (by intro z; cases z)) e), S5, fun j q hj hq v q2 g2 c2 hv hm => ?_, fun j' v q2 g2 c2 hj' hm2 hv => ?_⟩
          · obtain ⟨v', h1, h2⟩ := hcl4 j q hj hq v q2 g2 c2 hv hm
            obtain ⟨v3, h3, h4⟩ := Nw.Dm.put_low hb h1
            exact ⟨v3, h3, by omega⟩
          · rcases Nat.lt_succ_iff_lt_or_eq.mp hj' with h | h
            · obtain ⟨v', h1, h2⟩ := hcl4' j' v q2 g2 c2 h hm2 hv
              obtain ⟨v3, h3, h4⟩ := Nw.Dm.put_low hb h1
              exact ⟨v3, h3, by omega⟩
            · subst h
              rw [hmv] at hm2
              cases hm2
              rw [hv0] at hv
              cases hv
              exact ⟨_, Nw.Dm.put_same, Int.le_refl _⟩
        · refine ⟨D4, B4, qs4, _, _, _, rfl, hl4, hd4, tp4, S4, hcl4, fun j' v q2 g2 c2 hj' hm2 hv => ?_⟩
          rcases Nat.lt_succ_iff_lt_or_eq.mp hj' with h | h
          · exact hcl4' j' v q2 g2 c2 h hm2 hv
          · subst h
            rw [hmv] at hm2
            cases hm2
            rw [hv0] at hv
            cases hv
            unfold bt at e
            cases ho : D4 (k + 1) q' with
            | none => rw [ho] at e; exact absurd rfl e
            | some old =>
              rw [ho] at e
              exact ⟨old, rfl, by simpa using e⟩
      · rintro σ H4 ⟨D4, B4, qs4, y7, y8, y9, rfl, hl4, hd4, tp4, S4, hcl4, hcl4'⟩
        refine ⟨D4, B4, qs4, _, _, _, _, rfl, hl4, S4, fun j q hj hq v q' g c hv hm => ?_⟩
        rcases Nat.lt_succ_iff_lt_or_eq.mp hj with h | h
        · exact hcl4 j q h hq v q' g c hv hm
        · subst h
          rw [hq0] at hq
          cases hq
          obtain ⟨j', hj', e'⟩ := List.getElem_of_mem hm
          exact hcl4' j' v q' g c (by rw [hMv.1]; exact hj') (by rw [List.getElem?_eq_getElem hj', e']) hv
    · rintro σ H' ⟨D2, B2, qs2, y6, y7, y8, y9, rfl, hl, S2, hcl⟩
      refine ⟨_, rfl, q H' nd D2 B2 qs2 nnd S2 ?_⟩
      intro q1 v q' g c wi' hv hw hm
      rw [hwi] at hw
      cases hw
      have eDk : D2 k = D k := S2.oth k (by omega)
      rw [eDk] at hv
      obtain ⟨j, hj, e⟩ := List.getElem_of_mem ((hT0.mem q1).mpr ⟨v, hv⟩)
      exact hcl j q1 (by simpa using hj) (by rw [List.getElem?_eq_getElem hj, e]) v q' g c hv hm
end
end Nt
namespace Nt
open PySem PySem.Spec PyProof.Rows L2
section
variable {P : Program} {w : World} {K : PySem.W.Frag} {mg : Str → Option Value} {base : Heap}
def Best (f : Nw.St → Option Int) (r : Option Nw.St) (C : Nw.St → Prop) : Prop := match r with
  | none => ∀ q v, C q → f q = some v → Nw.ends q = false
  | some q => Nw.ends q = true ∧ ∃ v, f q = some v ∧ ∀ q' v', C q' → f q' = some v' → Nw.ends q' = true → v ≤ v'
def sp_cheapest_end : Sp := fun vs H Q _ => ∃ (td : Addr) (f : Nw.St → Option Int) (qs : List Nw.St), vs = [.ref td] ∧ Tab H td f qs ∧ ∀ H' r, Same H H' → Best f r (fun _ => True) → Q (oQ r) H'
theorem ok_cheapest_end {f fE : Addr} {fd fdE : FuncData} (F : Fun K "cheapest_end" "cheapest_end" s_cheapest_end f fd) (D_ends : DefAt K mg "ends" fE fdE ["state"]) (G_ends : FnOk P w K mg base CX0 4 fE fdE ["state"] (sp_ends K)) (z_list : mg "list" = none) (z_sorted : mg "sorted" = none) :
    FnOk P w K mg base CX0 5 f fd ["table"] sp_cheapest_end := by
  refine F.ok sc_cheapest_end (fun vs H Q E h => ?_) (fun cdv A outer s H vs Q E hr h => ?_)
  · obtain ⟨td, g, qs, rfl, _⟩ := h
    rfl
  · obtain ⟨td, g, qs, rfl, ⟨kvs, hk, hT⟩, q⟩ := h
    refine ⟨_, (pss_cons (ps_set (i := 1) sc_cheapest_end.nd rfl (.inl rfl) pe_non)
      (pss_cons (ps_for PassesOwn.never rfl (pi_list (pe_callB cr_sortedS (by rfl) z_sorted (by decide +kernel) (pa_cons (pe_callTy (call_list_dK rfl) (by rfl) z_list (by decide +kernel) (pa_cons (pv 0) pa_nil)) pa_nil))) (pg_name (i := 2) sc_cheapest_end.nd rfl (.inl rfl))
        (pss_one (ps_if (PW.pt (pw_and (pt_val (pe_call G_ends (hr.mono (by decide)) (by rfl) D_ends.g D_ends.kp D_ends.b .nil pass0 (pa_cons (pv 2) pa_nil))) (pw_and1 (PW.pt (pw_or (pt_cmpR op_isN (pv 1) pe_non (nomark _)) (pw_or1 (pt_cmpR op_lt (pe_dget (hu_of hr) (pv 0) (pv 2) (fun _ _ => rfl)) (pe_dget (hu_of hr) (pv 0) (pv 1) (fun _ _ => rfl)) (nomark _))))))))
          (pss_one (ps_set (i := 1) sc_cheapest_end.nd rfl (.inl rfl) (pv 2)))
          pss_nil)))
      (pss_one (ps_ret (pv 1))))), ?_⟩
    have eL : kvs.map (fun kv => kV kv.1) = (qs.map qT).map V.str := by
      have := congrArg (List.map kV) hT.keys
      rw [List.map_map, List.map_map] at this
      rw [List.map_map]
      exact this
    -- told = None; sorted(list(table))
    refine ⟨_, rfl, td, kvs, rfl, hk, fun l nl => ?_⟩
    have s1 : Same H (upd H l (.lst (kvs.map fun kv => kV kv.1))) := same_upd nl
    refine ⟨l, qs.map qT, rfl, seqL (by rw [upd_same, eL]), by rw [List.length_map]; exact Nat.lt_of_le_of_lt hT.le (by decide), fun ys d hperm _ nd => ⟨d, rfl, ⟨_, seqL upd_same⟩, ?_⟩⟩
    have s2 := s1.trans (same_upd (o := .lst (ys.map V.str)) nd)
    refine for_list (K := K) (a := d) (xs := ys.map V.str) (fun i σ H' => ∃ (r : Option Nw.St) (y2 : Option V), σ = [some (.ref td), some (oQ r), y2] ∧ Same H H' ∧ H' d = some (.lst (ys.map V.str)) ∧ Best g r (fun q => ∃ j, j < i ∧ ys[j]? = some (qT q)))
      ⟨none, none, rfl, s2, upd_same, fun q v ⟨j, hj, _⟩ _ => absurd hj (by omega)⟩ (fun i σ H' _ ⟨_, _, _, _, hd, _⟩ => seqL hd) ?_ ?_
    · rintro i x σ H' hi ⟨r, y2, rfl, sm, hd, hB⟩
      rw [List.getElem?_map] at hi
      obtain ⟨y, hy, rfl⟩ := Option.map_eq_some_iff.mp hi
      obtain ⟨q0, hq0, rfl⟩ : ∃ q0, q0 ∈ qs ∧ qT q0 = y := by
        have := (hperm.mem_iff (a := y)).mp (List.mem_of_getElem? hy)
        obtain ⟨q0, h1, h2⟩ := List.mem_map.mp this
        exact ⟨q0, h1, h2⟩
      obtain ⟨v0, hv0⟩ := (hT.mem q0).mp hq0
      -- what was gone through: q0 besides
      have cut : ∀ q', (∃ j, j < i + 1 ∧ ys[j]? = some (qT q')) → (∃ j, j < i ∧ ys[j]? = some (qT q')) ∨ q' = q0 := by
        rintro q' ⟨j, hj, e⟩
        rcases Nat.lt_succ_iff_lt_or_eq.mp hj with h | h
        · exact .inl ⟨j, h, e⟩
        · subst h
          rw [hy] at e
          exact .inr (qT_inj (Option.some.inj e)).symm
      refine ⟨_, rfl, q0, rfl, fun H2 sm2 => ?_⟩
      have smA := sm.trans sm2
      have hk2 := smA _ _ hk
      have dg : ∀ {q1 : Nw.St} {v1 : Int}, g q1 = some v1 → DGet H2 td (.str (qT q1)) (some (.int v1)) := fun {q1 v1} e => by
        have := hT.val q1
        rw [e] at this
        have e2 : valV kvs (Sum.inr (qT q1)) = some (.int v1) := this
        rw [← e2]
        exact DGet.k (k := Sum.inr (qT q1)) hk2
      have keep : Nw.ends q0 = false → Best g r (fun q => ∃ j, j < i + 1 ∧ ys[j]? = some (qT q)) := fun he => by
        cases r with
        | none =>
          intro q' v' hc hv'
          rcases cut q' hc with h | rfl
          · exact hB q' v' h hv'
          · exact he
        | some r =>
          obtain ⟨h1, v, h2, h3⟩ := hB
          refine ⟨h1, v, h2, fun q' v' hc hv' he' => ?_⟩
          rcases cut q' hc with h | rfl
          · exact h3 q' v' h hv' he'
          · rw [he] at he'; cases he'
      refine ⟨_, rfl, ite2 (fun e1 => ?_) (fun e1 => iteF ?_)⟩
      · refine ⟨_, rfl, rfl, _, rfl, ?_⟩
        rw [eqQ_none]
        refine ite2 (fun e2 => ?_) (fun e2 => ?_)
        · have hr0 : r = none := of_decide_eq_true e2
          subst hr0
          refine iteT ⟨_, rfl, ?_⟩
          refine ⟨some q0, _, rfl, smA, sm2 _ _ hd, e1, v0, hv0, fun q' v' hc hv' he' => ?_⟩
          rcases cut q' hc with h | rfl
          · have := hB q' v' h hv'
            rw [this] at he'; cases he'
          · rw [hv0] at hv'; cases hv'; exact Int.le_refl _
        · have hr0 : ¬ r = none := by simpa using e2
          obtain ⟨r, rfl⟩ := Option.ne_none_iff_exists'.mp hr0
          obtain ⟨h1, v, h2, h3⟩ := hB
          refine ⟨_, rfl, _, rfl, td, _, rfl, dg hv0, _, rfl, _, rfl, td, _, rfl, dg h2, _, _, rfl, rfl, _, rfl, ite2 (fun e3 => ?_) (fun e3 => ?_)⟩
          · refine ⟨_, rfl, ?_⟩
            have hlt : v0 < v := of_decide_eq_true e3
            refine ⟨some q0, _, rfl, smA, sm2 _ _ hd, e1, v0, hv0, fun q' v' hc hv' he' => ?_⟩
            rcases cut q' hc with h | rfl
            · have := h3 q' v' h hv' he'
              omega
            · rw [hv0] at hv'; cases hv'; exact Int.le_refl _
          · have hle : ¬ v0 < v := by simpa using e3
            refine ⟨some r, _, rfl, smA, sm2 _ _ hd, h1, v, h2, fun q' v' hc hv' he' => ?_⟩
            rcases cut q' hc with h | rfl
            · exact h3 q' v' h hv' he'
            · rw [hv0] at hv'; cases hv'; omega
      · exact ⟨r, _, rfl, smA, sm2 _ _ hd, keep (by simpa using e1)⟩
    · rintro σ H' ⟨r, y2, rfl, sm, hd, hB⟩
      refine ⟨_, rfl, q H' r sm ?_⟩
      have all : ∀ q' v', g q' = some v' → ∃ j, j < (ys.map V.str).length ∧ ys[j]? = some (qT q') := fun q' v' hv' => by
        have hm := (hT.mem q').mpr ⟨v', hv'⟩
        have := (hperm.mem_iff (a := qT q')).mpr (List.mem_map.mpr ⟨q', hm, rfl⟩)
        obtain ⟨j, hj, e⟩ := List.getElem_of_mem this
        exact ⟨j, by simpa using hj, by rw [List.getElem?_eq_getElem hj, e]⟩
      cases r with
      | none => exact fun q' v' _ hv' => hB q' v' (all q' v' hv') hv'
      | some r =>
        obtain ⟨h1, v, h2, h3⟩ := hB
        exact ⟨h1, v, h2, fun q' v' _ hv' he' => h3 q' v' (all q' v' hv') hv' he'⟩
/-! ### line_back -/
def sp_line_back (W : List (Int × Int)) (b : Int) : Sp := fun vs H Q _ => ∃ (bd : Addr) (n : Nat) (qe : Nw.St) (p : Nw.Pr) (D : Nw.Dm) (B : Nw.Bk) (M : Nat) (v : Int), vs = [.ref bd, .int n, .str (qT qe)] ∧ p.ok ∧ Back H bd B M ∧ Nw.Good W p b D B ∧ D n qe = some v ∧ n ≤ 1000 ∧ v ≤ 100000 ∧
  ∀ H' d L c, Same H H' → H d = none → Line H' d L → Nw.Reach W p b n qe L c → c ≤ v → Q (.ref d) H'
theorem ok_line_back {W : List (Int × Int)} {b : Int} {f : Addr} {fd : FuncData} (F : Fun K "line_back" "line_back" s_line_back f fd) : FnOk P w K mg base CX0 1 f fd ["back", "at", "state"] (sp_line_back W b) := by
  refine F.ok sc_line_back (fun vs H Q E h => ?_) (fun cdv A outer s H vs Q E hr h => ?_)
  · obtain ⟨bd, n, qe, p, D, B, M, v, rfl, _⟩ := h
    rfl
  · obtain ⟨bd, n, qe, p, D, B, M, v, rfl, hp, ⟨kvb, hb, hBk⟩, hG, hv, hn, hvb, q⟩ := h
    have hv0 := hG.nn _ _ _ hv
    refine ⟨_, (pss_cons (ps_set (i := 3) sc_line_back.nd rfl (.inl rfl) (pe_lst pa_nil))
      (pss_cons (ps_while PassesOwn.never (pt_cmp (pc_din (hu_of hr) (pe_tup (pa_cons (pv 1) (pa_cons (pv 2) pa_nil))) (pv 0)))
        (pss_cons (ps_asg (pe_dget (hu_of hr) (pv 0) (pe_tup (pa_cons (pv 1) (pa_cons (pv 2) pa_nil))) (fun _ _ => rfl)) (pg_tup rfl (pgs_cons (pg_name (i := 1) sc_line_back.nd rfl (.inl rfl)) (pgs_cons (pg_name (i := 2) sc_line_back.nd rfl (.inl rfl)) (pgs_cons (pg_name (i := 4) sc_line_back.nd rfl (.inl rfl)) pgs_nil)))))
        (pss_one (ps_expr (pe_bm PySem.F.plainAttrs_list PySem.F.slot_list_append PySem.F.type_list_append mt_append (pv 3) (pa_cons (pv 4) pa_nil))))))
      (pss_one (ps_ret (pe_revL (pv 3)))))), ?_⟩
    refine ⟨Nat.zero_le _, fun l nl => ?_⟩
    have s0 : Same H (upd H l (.lst [])) := same_upd nl
    refine ⟨fun m σ H1 => ∃ (k : Nat) (q1 : Nw.St) (v1 : Int) (S : List Nw.Sg) (cs : Int) (ms : List V) (y4 : Option V), σ = [some (.ref bd), some (.int k), some (.str (qT q1)), some (.ref l), y4] ∧ Same H H1 ∧ H1 l = some (.lst ms) ∧ All2 (isSg H1) ms S.reverse ∧ D k q1 = some v1 ∧ Nw.Suf W p b n qe k q1 S cs ∧ v1 + cs ≤ v ∧ m = k + v1.toNat ∧ S.length + m ≤ n + v.toNat, ?_, ?_⟩
    · exact ⟨_, n, qe, v, [], 0, [], none, rfl, s0, upd_same, All2.nil, hv, Nw.Suf.refl n qe, by omega, rfl, by simp⟩
    rintro m σ H1 ⟨k, q1, v1, S, cs, ms, y4, rfl, sm, hl, hA, hD, hSuf, hvs, rfl, hlen⟩
    -- while (at, state) in back
    refine ⟨_, rfl, _, rfl, (by show 2 ≤ sizeLine; decide), fun kt nkt => ?_⟩
    have s1 : Same H1 (upd H1 kt (.tup [.int k, .str (qT q1)])) := same_upd nkt
    have hb1 := s1 _ _ (sm _ _ hb)
    have dg := DGet.t (k := bkey k q1) hb1 (show (upd H1 kt (.tup [.int k, .str (qT q1)])) kt = some (.tup ((bkey k q1).map kV)) from upd_same)
    rcases hG.step hp hD with ⟨hBn, rfl, rfl, rfl⟩ | ⟨k2, q2, g, c, v2, hBs, hE, hD2, hle, hlt, _⟩
    · -- the line's beginning
      rw [hBk.non _ _ hBn] at dg
      refine ⟨_, rfl, bd, _, rfl, dg, false, rfl, iteF ?_⟩
      refine ⟨_, rfl, l, ms, rfl, seqL (s1 _ _ hl), fun d nd => ?_⟩
      have s2 := s1.trans (same_upd (o := .lst ms.reverse) nd)
      have r := hSuf [] 0 .nil
      rw [List.nil_append, Int.zero_add] at r
      refine q _ d S cs (sm.trans s2) ((sm.trans s1).free nd) ⟨ms.reverse, upd_same, ?_⟩ r (by omega)
      have := hA.reverse
      rw [List.reverse_reverse] at this
      exact this.mono fun v g => isSg.mono (.of s2)
    · obtain ⟨bv, hbv, ⟨t, sv, rfl, ht, hsv⟩⟩ := hBk.som _ _ _ hBs
      rw [hbv] at dg
      refine ⟨_, rfl, bd, _, rfl, dg, true, rfl, iteT ⟨fun σ' H' => ∃ (k' : Nat) (q1' : Nw.St) (v1' : Int) (S : List Nw.Sg) (cs : Int) (ms : List V) (y4 : Option V), σ' = [some (.ref bd), some (.int k'), some (.str (qT q1')), some (.ref l), y4] ∧ Same H H' ∧ H' l = some (.lst ms) ∧ All2 (isSg H') ms S.reverse ∧ D k' q1' = some v1' ∧ Nw.Suf W p b n qe k' q1' S cs ∧ v1' + cs ≤ v ∧ k' + v1'.toNat < k + v1.toNat ∧ S.length + (k' + v1'.toNat) ≤ n + v.toNat, ?_, ?_⟩⟩
      · rintro σ' H' ⟨k', q1', v1', S, cs, ms, y4, rfl, a1, a2, a3, a4, a5, a6, a7, a8⟩
        exact ⟨_, a7, k', q1', v1', S, cs, ms, y4, rfl, a1, a2, a3, a4, a5, a6, rfl, a8⟩
      -- at, state, sign = back[at, state]
      refine ⟨_, rfl, _, rfl, _, rfl, (by show 2 ≤ sizeLine; decide), fun kt2 nkt2 => ?_⟩
      have s2 := s1.trans (same_upd (o := .tup [.int k, .str (qT q1)]) nkt2)
      have smA := sm.trans s2
      have dg2 := DGet.t (k := bkey k q1) (smA _ _ hb) (show (upd (upd H1 kt (.tup [.int k, .str (qT q1)])) kt2 (.tup [.int k, .str (qT q1)])) kt2 = some (.tup ((bkey k q1).map kV)) from upd_same)
      rw [hbv] at dg2
      have ht2 := smA _ _ ht
      refine ⟨bd, _, rfl, dg2, t, _, rfl, seqT ht2, rfl, _, _, rfl, _, _, rfl, _, [], rfl, rfl, ?_⟩
      -- line.append(sign)
      have hl2 := s2 _ _ hl
      have hml : ms.length ≤ 200000 := by
        have := hA.1
        rw [List.length_reverse] at this
        omega
      refine ⟨_, rfl, .inl ⟨rfl, _, seqL hl2⟩, _, rfl, l, _, _, rfl, rfl, hl2, size_small (by omega), ?_⟩
      have tp3 : Tp (upd (upd H1 kt (.tup [.int k, .str (qT q1)])) kt2 (.tup [.int k, .str (qT q1)])) (upd (upd (upd H1 kt (.tup [.int k, .str (qT q1)])) kt2 (.tup [.int k, .str (qT q1)])) l (.lst (ms ++ [sv]))) := Tp.upd hl2 (by intro xs z; cases z)
      refine ⟨k2, q2, v2, g :: S, c + cs, ms ++ [sv], _, rfl, fun a o e => ?_, upd_same, ?_, hD2, hSuf.back hE, by omega, hlt, by rw [List.length_cons]; omega⟩
      · rw [upd_ne (ne_of_none e nl)]
        exact smA _ _ e
      · rw [List.reverse_cons]
        exact (hA.mono fun v g => isSg.mono ((Tp.of s2).trans tp3)).snoc (hsv.mono ((Tp.of smA).trans tp3))
end
end Nt
namespace Nt
open PySem PySem.Spec PyProof.Rows L2
/-! ### sorted(list(table.items())) -/
theorem valV_mem {κ : Type} [DecidableEq κ] : ∀ {kvs : List (κ × V)} {kv : κ × V}, (kvs.map (·.1)).Nodup → kv ∈ kvs → valV kvs kv.1 = some kv.2
  | [], kv, _, h => absurd h (by simp)
  | x :: r, kv, hn, h => by
    have hn' := List.nodup_cons.mp hn
    rcases List.mem_cons.mp h with rfl | h
    · exact valV_pos rfl
    · have ne : ¬ x.1 = kv.1 := fun e => hn'.1 (by show x.1 ∈ _; rw [e]; exact List.mem_map.mpr ⟨kv, h, rfl⟩)
      rw [valV_neg ne]
      exact valV_mem hn'.2 h
theorem TabOk.entry {kvs : List (Key × V)} {f : Nw.St → Option Int} {qs : List Nw.St} (h : TabOk kvs f qs) {kv : Key × V} (hm : kv ∈ kvs) : ∃ q v, kv = (Sum.inr (qT q), V.int v) := by
  have hk : kv.1 ∈ kvs.map (·.1) := List.mem_map.mpr ⟨kv, hm, rfl⟩
  have hn : (kvs.map (·.1)).Nodup := by
    rw [h.keys]
    have : ∀ l : List Nw.St, l.Nodup → (l.map (fun q => (Sum.inr (qT q) : Key))).Nodup := by
      intro l
      induction l with
      | nil => intro _; exact List.nodup_nil
      | cons x r ih =>
        intro hl
        have hl' := List.nodup_cons.mp hl
        refine List.nodup_cons.mpr ⟨fun z => ?_, ih hl'.2⟩
        obtain ⟨y, hy, e⟩ := List.mem_map.mp z
        have := qT_inj (Sum.inr.inj e)
        exact hl'.1 (by rw [← this]; exact hy)
    exact this qs h.nd
  have hv := valV_mem hn hm
  rw [h.keys] at hk
  obtain ⟨q, hq, e⟩ := List.mem_map.mp hk
  rw [← e, h.val] at hv
  obtain ⟨v, hv'⟩ := (h.mem q).mp hq
  rw [hv'] at hv
  have hv2 : V.int v = kv.2 := Option.some.inj hv
  exact ⟨q, v, Prod.ext e.symm hv2.symm⟩
theorem rd_items {K : PySem.W.Frag} {σ : L2.St} {H : Hp} {td : Addr} {f : Nw.St → Option Int} {qs : List Nw.St} {Q : VK} (hσ : σ[3]? = some (some (.ref td))) (hT : Tab H td f qs) (q : ∀ H' p xs, Same H H' → H p = none → H' p = some (.lst xs) → Q (.ref p) H') :
    tCB (rSortedSI K) (tCons (LiI.tListItems (tVar 3)) tNil) σ H Q := by
  obtain ⟨kvs, hk, hT⟩ := hT
  refine ⟨_, hσ, td, kvs, rfl, hk, fun H' p ts hkeep np nts pts hp hpair => ?_⟩
  refine ⟨p, ts.map V.ref, rfl, seqL hp, fun x hx => ?_, fun ys d _ nd => ?_⟩
  · obtain ⟨t, ht, rfl⟩ := List.mem_map.mp hx
    obtain ⟨j, kv, _, h2, h3⟩ := LiI.paired_ix hpair ht
    obtain ⟨q1, v, e⟩ := hT.entry (List.mem_of_getElem? h2)
    rw [e] at h3
    exact ⟨t, qT q1, v, rfl, h3⟩
  · have s2 := same_upd (o := .lst ys) nd
    have sA : Same H H' := hkeep
    exact q _ d ys (sA.trans s2) (sA.free nd) upd_same
/-! ### enumerate -/
theorem for_enum {K : PySem.W.Frag} {a : Addr} {xs : List V} {g : TG} {tb : TS} {D : Ends} {σ : L2.St} {H : Hp} (Pv : Nat → L2.St → Hp → Prop) (h0 : Pv 0 σ H) (hq : ∀ i σ H, Pv i σ H → SqL K H a xs)
    (hs : ∀ (i : Nat) (x : V) (T : Addr) (σ : L2.St) (H : Hp), xs[i]? = some x → Pv i σ H → H T = none → g (.ref T) σ (upd H T (.tup [.int (i : Nat), x])) fun σ2 H2 => tb { D with nx := Pv (i + 1), ct := Pv (i + 1), bk := D.nx } σ2 H2) (hd : ∀ σ H, Pv xs.length σ H → D.nx σ H) :
    ∃ W : Nat → Nat → L2.St → Hp → Prop, (∃ m, W 0 m σ H) ∧ ∀ i m σ H, W i m σ H →
      ((Ite K a).stop i H ∧ D.nx σ H) ∨ ((Ite K a).go i H ∧ ∃ N : L2.St → Hp → Prop, (∀ σ' H', N σ' H' → ∃ m', m' < m ∧ W (i + 1) m' σ' H') ∧ ∀ v H', (Ite K a).yld i H v H' → g v σ H' fun σ2 H2 => tb { D with nx := N, ct := N, bk := D.nx } σ2 H2) := by
  refine ⟨fun i m σ H => m = xs.length - i ∧ i ≤ xs.length ∧ Pv i σ H, ⟨xs.length, rfl, Nat.zero_le _, h0⟩, ?_⟩
  rintro i m σ H ⟨rfl, hi, p⟩
  have qx := hq i σ H p
  by_cases hlt : i < xs.length
  · have hx : xs[i]? = some xs[i] := List.getElem?_eq_getElem hlt
    refine .inr ⟨⟨xs, _, qx, hx⟩, Pv (i + 1), fun σ' H' p' => ⟨xs.length - (i + 1), by omega, rfl, hlt, p'⟩, fun v H' y => ?_⟩
    obtain ⟨T, x', rfl, hT, rfl, f1⟩ := y
    exact hs i x' T σ H (f1 xs qx) p hT
  · have e : i = xs.length := by omega
    subst e
    exact .inl ⟨⟨xs, qx, Nat.le_refl _⟩, hd σ H p⟩
/-! ### the first table -/
def D0 (b : Int) : Nw.Dm := fun k q => if k = 0 ∧ q = Nw.beginState b then some 0 else none
def B0 : Nw.Bk := fun _ _ => none
theorem good0 (W : List (Int × Int)) (p : Nw.Pr) (b : Int) : Nw.Good W p b (D0 b) B0 := by
  refine ⟨if_pos ⟨rfl, rfl⟩, fun k q v e => ?_, fun k q v e => ?_, rfl, fun k q t e => by cases e⟩
  · unfold D0 at e
    split at e
    · cases e; exact Int.le_refl _
    · cases e
  · unfold D0 at e
    split at e
    · rename_i h; exact .inl h
    · cases e
theorem tab0 (b : Int) : TabOk (mergeK [] [(Sum.inr (qT (Nw.beginState b)), V.int 0)]) (D0 b 0) [Nw.beginState b] := by
  refine ⟨rfl, by simp, fun q => ?_⟩
  show valV [(Sum.inr (qT (Nw.beginState b)), V.int 0)] (Sum.inr (qT q) : Key) = _
  unfold D0
  by_cases h : q = Nw.beginState b
  · subst h
    rw [valV_pos rfl, if_pos ⟨rfl, rfl⟩]
    rfl
  · rw [valV_neg (fun z => h (qT_inj (Sum.inr.inj z)).symm), if_neg (fun z => h z.2)]
    rfl
theorem back0 (H : Hp) : BackOk H [] B0 0 := ⟨Nat.le_refl _, fun _ _ _ => rfl, fun _ _ _ e => by cases e⟩
theorem Same.of_but {H H1 H2 : Hp} {as : List Addr} (s : Same H H1) (b : But as H1 H2) (n : ∀ a ∈ as, H a = none) : Same H H2 := fun c o e => by
  refine b c o (fun z => ?_) (s c o e)
  rw [n c z] at e
  cases e
/-- what the writer tells -/
structure Told (W : List (Int × Int)) (p : Nw.Pr) (b : Int) (H H' : Hp) (r la pp : Addr) (L : List Nw.Sg) (v : Int) : Prop where
  same : Same H H'
  nr : H r = none
  nl : H la = none
  np : H pp = none
  ne : la ≠ pp
  at_r : H' r = some (.tup [.ref la, .int v, .ref pp])
  at_l : Line H' la L
  at_p : ∃ xs, H' pp = some (.lst xs) ∧ xs.length ≤ 100
  acc : Nw.Acc W p b L v
  low : ∀ L' c', Nw.Acc W p b L' c' → v ≤ c'
def sp_written : Sp := fun vs H Q _ => ∃ (b : Int) (wl pa : Addr) (W : List (Int × Int)) (p : Nw.Pr), vs = [.ref wl, .ref pa, .int b] ∧ Wishes H wl W ∧ W.length ≤ 60 ∧ p.ok ∧ H pa = some (.tup [oV p.dot, oV p.dk, oV p.ms]) ∧
  (∃ L c, Nw.Acc W p b L c ∧ c ≤ 1000) ∧ ∀ H' r la pp L v, Told W p b H H' r la pp L v → Q (.ref r) H'
section
variable {P : Program} {w : World} {K : PySem.W.Frag} {mg : Str → Option Value} {base : Heap}
theorem ok_written {f fG fS fO fC fL : Addr} {fd fdG fdS fdO fdC fdL : FuncData} (F : FunD K "written" "written" (defArgs s_written) (defBody s_written) (defScope s_written) [.int 3] [] f fd)
    (D_begin_state : DefAt K mg "begin_state" fG fdG ["begin"]) (G_begin_state : FnOk P w K mg base CX0 1 fG fdG ["begin"] sp_begin_state)
    (D_spread : DefAt K mg "spread" fS fdS ["table", "back", "at", "prices"]) (G_spread0 : ∀ W b, FnOk P w K mg base CX0 8 fS fdS ["table", "back", "at", "prices"] (sp_spread W b))
    (D_onward : DefAt K mg "onward" fO fdO ["table", "back", "at", "wish", "prices"]) (G_onward0 : ∀ W b, FnOk P w K mg base CX0 8 fO fdO ["table", "back", "at", "wish", "prices"] (sp_onward W b))
    (D_cheapest_end : DefAt K mg "cheapest_end" fC fdC ["table"]) (G_cheapest_end : FnOk P w K mg base CX0 5 fC fdC ["table"] sp_cheapest_end)
    (D_line_back : DefAt K mg "line_back" fL fdL ["back", "at", "state"]) (G_line_back0 : ∀ W b, FnOk P w K mg base CX0 1 fL fdL ["back", "at", "state"] (sp_line_back W b))
    (z_list : mg "list" = none) (z_sorted : mg "sorted" = none) (z_enumerate : mg "enumerate" = none) (z_len : mg "len" = none) : FnOk P w K mg base CX0 9 f fd ["wishes", "prices", "begin"] sp_written := by
  refine F.ok sc_written (fun vs H Q E h => ?_) (fun cdv A outer s H vs Q E hr h => ?_)
  · obtain ⟨b, wl, pa, W, p, rfl, _⟩ := h
    rfl
  · obtain ⟨b, wl, pa, W, p, rfl, ⟨ws, hwl, hWs⟩, hWlen, hp, hP, ⟨La, ca, hacc, hca⟩, q⟩ := h
    have G_spread := G_spread0 W b
    have G_onward := G_onward0 W b
    have G_line_back := G_line_back0 W b
    have ewl : ws.length = W.length := hWs.1
    refine ⟨_, PSs.nox (pss_cons (ps_set (i := 3) sc_written.nd rfl (.inl rfl) (pe_disp (pps_cons (pe_call G_begin_state (hr.mono (by decide)) (by rfl) D_begin_state.g D_begin_state.kp D_begin_state.b .nil pass0 (pa_cons (pv 2) pa_nil)) pe_int pps_nil) (by rfl) (by rfl) (fun z => by cases z) (by decide)))
      (pss_cons (ps_set (i := 4) sc_written.nd rfl (.inl rfl) pe_dnewT)
      (pss_cons (ps_expr (pe_call G_spread (hr.mono (by decide)) (by rfl) D_spread.g D_spread.kp D_spread.b .nil pass0 (pa_cons (pv 3) (pa_cons (pv 4) (pa_cons pe_int (pa_cons (pv 1) pa_nil))))))
      (pss_cons (ps_set (i := 5) sc_written.nd rfl (.inl rfl) (pe_lst (pa_cons (pe_callB cr_sortedSI (by rfl) z_sorted (by decide +kernel) (pa_cons (LiI.pe_listItems rfl (pv 3) (by rfl) z_list (by decide +kernel)) pa_nil)) pa_nil)))
      (pss_cons (ps_for PassesOwn.never rfl (pi_enum (by rfl) z_enumerate (pa_cons (pv 0) pa_nil)) (pg_tup rfl (pgs_cons (pg_name (i := 6) sc_written.nd rfl (.inl rfl)) (pgs_cons (pg_name (i := 7) sc_written.nd rfl (.inl rfl)) pgs_nil)))
        (pss_cons (ps_set (i := 3) sc_written.nd rfl (.inl rfl) (pe_call G_onward (hr.mono (by decide)) (by rfl) D_onward.g D_onward.kp D_onward.b .nil pass0 (pa_cons (pv 3) (pa_cons (pv 4) (pa_cons (pv 6) (pa_cons (pv 7) (pa_cons (pv 1) pa_nil)))))))
        (pss_cons (ps_expr (pe_call G_spread (hr.mono (by decide)) (by rfl) D_spread.g D_spread.kp D_spread.b .nil pass0 (pa_cons (pv 3) (pa_cons (pv 4) (pa_cons (pe_op op_add (pv 6) pe_int) (pa_cons (pv 1) pa_nil))))))
        (pss_one (ps_expr (pe_bm PySem.F.plainAttrs_list PySem.F.slot_list_append PySem.F.type_list_append mt_append (pv 5) (pa_cons (pe_callB cr_sortedSI (by rfl) z_sorted (by decide +kernel) (pa_cons (LiI.pe_listItems rfl (pv 3) (by rfl) z_list (by decide +kernel)) pa_nil)) pa_nil)))))))
      (pss_cons (ps_set (i := 8) sc_written.nd rfl (.inl rfl) (pe_call G_cheapest_end (hr.mono (by decide)) (by rfl) D_cheapest_end.g D_cheapest_end.kp D_cheapest_end.b .nil pass0 (pa_cons (pv 3) pa_nil)))
      (pss_cons (ps_if (pt_cmpR op_isN (pv 8) pe_non (nomark _))
        (pss_one (ps_ret (pe_tup (pa_cons pe_non (pa_cons pe_non (pa_cons (pv 5) pa_nil))))))
        pss_nil)
      (pss_one (ps_ret (pe_tup (pa_cons (pe_call G_line_back (hr.mono (by decide)) (by rfl) D_line_back.g D_line_back.kp D_line_back.b .nil pass0 (pa_cons (pv 4) (pa_cons (pe_callB call_len_seq (by rfl) z_len PySem.boot_len (pa_cons (pv 0) pa_nil)) (pa_cons (pv 8) pa_nil)))) (pa_cons (pe_dget (hu_of hr) (pv 3) (pv 8) (fun _ _ => rfl)) (pa_cons (pv 5) pa_nil))))))))))))), ?_⟩
    -- table = {begin_state(begin): 0}
    refine fun td ntd => ⟨_, rfl, b, rfl, upd_same, [(Sum.inr (qT (Nw.beginState b)), V.int 0)], rfl, by show 1 ≤ 15; decide, ?_⟩
    have s1 : Same H (upd (upd H td (.dK [])) td (.dK (mergeK [] [(Sum.inr (qT (Nw.beginState b)), V.int 0)]))) := by
      rw [upd_upd]; exact same_upd ntd
    generalize hH1 : upd (upd H td (.dK [])) td (.dK (mergeK [] [(Sum.inr (qT (Nw.beginState b)), V.int 0)])) = H1 at s1 ⊢
    have htd1 : H1 td = some (.dK (mergeK [] [(Sum.inr (qT (Nw.beginState b)), V.int 0)])) := by rw [← hH1]; exact upd_same
    -- back = {}
    intro bd nbd
    have s2 : Same H1 (upd H1 bd (.dT [])) := same_upd nbd
    have nbd0 : H bd = none := s1.free nbd
    -- spread(table, back, 0, prices)
    refine ⟨_, rfl, _, rfl, _, rfl, td, bd, pa, 0, p, D0 b, B0, [Nw.beginState b], 0, rfl, hp, s2 _ _ (s1 _ _ hP), ⟨_, s2 _ _ htd1, tab0 b⟩, ⟨[], upd_same, ⟨Nat.zero_le _, fun _ _ _ => rfl, fun _ _ _ e => by cases e⟩⟩, good0 W p b, by omega, fun H2 D2 B2 qs2 S2 hcl2 => ?_⟩
    have new2 : ∀ a ∈ [td, bd], H a = none := by
      intro a ha
      simp only [List.mem_cons, List.not_mem_nil, or_false] at ha
      rcases ha with rfl | rfl
      · exact ntd
      · exact nbd0
    have sm2 : Same H H2 := Same.of_but (s1.trans s2) S2.but new2
    -- paper = [sorted(list(table.items()))]
    refine rd_items rfl S2.tab fun H3 p1 xs1 sm3 np1 hp1 => ⟨by show 1 ≤ sizeLine; decide, fun pp npp => ?_⟩
    have s4 := sm3.trans (same_upd (o := .lst [.ref p1]) npp)
    have npp0 : H pp = none := (sm2.trans sm3).free npp
    have nptd : pp ≠ td := by
      obtain ⟨kvs, h1, _⟩ := S2.tab
      exact (ne_of_none (sm3 _ _ h1) npp).symm
    have npbd : pp ≠ bd := by
      obtain ⟨kvb, h1, _⟩ := S2.bk
      exact (ne_of_none (sm3 _ _ h1) npp).symm
    -- for at, wish in enumerate(wishes)
    refine ⟨_, rfl, wl, ws, rfl, seqL (s4 _ _ (sm2 _ _ hwl)), for_enum (xs := ws) (fun i σ H' => ∃ (td' : Addr) (D : Nw.Dm) (B : Nw.Bk) (qs : List Nw.St) (M : Nat) (xs : List V) (y6 y7 y8 : Option V), σ = [some (.ref wl), some (.ref pa), some (.int b), some (.ref td'), some (.ref bd), some (.ref pp), y6, y7, y8] ∧ Same H H' ∧ H td' = none ∧ Tab H' td' (D i) qs ∧ Back H' bd B (M + qs.length) ∧ M ≤ 51 * i ∧ Nw.Good W p b D B ∧
        (∀ k q, i < k → D k q = none) ∧ (∀ k, k ≤ i → Nw.ClosedP p D k) ∧ (∀ k, k < i → Nw.ClosedW W p D k) ∧ H' pp = some (.lst xs) ∧ xs.length = i + 1)
      ⟨td, D2, B2, qs2, 0, _, _, _, _, rfl, sm2.trans s4, ntd, ?_, ?_, by omega, S2.good, fun k q' hk => ?_, fun k hk => ?_, fun k hk => absurd hk (by omega), upd_same, rfl⟩ (fun i σ H' ⟨_, _, _, _, _, _, _, _, _, _, sm, _⟩ => seqL (sm _ _ hwl)) ?_ ?_⟩
    · obtain ⟨kvs, h1, h2⟩ := S2.tab
      exact ⟨kvs, s4 _ _ h1, h2⟩
    · obtain ⟨kvb, h1, h2⟩ := S2.bk
      exact ⟨kvb, s4 _ _ h1, h2.mono (Tp.of s4)⟩
    · rw [S2.oth k (by omega)]
      unfold D0
      rw [if_neg (fun z => by omega)]
    · have : k = 0 := by omega
      subst this
      exact hcl2
    · rintro i x T σ H' hi ⟨td', D, B, qs, M, xs, y6, y7, y8, rfl, sm, ntd', hTab, hBack, hM, hGood, hnone, hcP, hcW, hpp, hxs⟩ nT
      obtain ⟨wi, hwi, ⟨wa, rfl, hwa⟩⟩ := hWs.get' hi
      have hi60 : i < 60 := by
        have := (List.getElem?_eq_some_iff.mp hi).1
        omega
      have sT : Same H' (upd H' T (.tup [.int (i : Nat), .ref wa])) := same_upd nT
      have smT := sm.trans sT
      have qle : qs.length ≤ 51 := by
        obtain ⟨kvs, h1, h2⟩ := hTab
        exact h2.le
      refine ⟨T, _, rfl, seqT upd_same, rfl, _, _, rfl, _, [], rfl, rfl, ?_⟩
      -- table = onward(table, back, at, wish, prices)
      refine ⟨_, rfl, _, rfl, _, rfl, _, rfl, _, rfl, td', bd, wa, pa, i, p, wi, D, B, qs, M + qs.length, rfl, hp, smT _ _ hP, smT _ _ hwa, hwi, ?_, ?_, hGood, fun q' => hnone _ _ (by omega), by omega, fun H4 nd D4 B4 qs4 nnd S4 hcw4 => ?_⟩
      · obtain ⟨kvs, h1, h2⟩ := hTab
        exact ⟨kvs, sT _ _ h1, h2⟩
      · obtain ⟨kvb, h1, h2⟩ := hBack
        exact ⟨kvb, sT _ _ h1, h2.mono (Tp.of sT)⟩
      have nnd0 : H nd = none := smT.free nnd
      have new4 : ∀ a ∈ [nd, bd], H a = none := by
        intro a ha
        simp only [List.mem_cons, List.not_mem_nil, or_false] at ha
        rcases ha with rfl | rfl
        · exact nnd0
        · exact nbd0
      have sm4 : Same H H4 := Same.of_but smT S4.but new4
      have npnd : pp ≠ nd := ne_of_none (sT _ _ hpp) nnd
      have npn4 : pp ∉ [nd, bd] := by
        simp only [List.mem_cons, List.not_mem_nil, or_false, not_or]
        exact ⟨npnd, npbd⟩
      have hpp4 := S4.but.at npn4 (sT _ _ hpp)
      -- spread(table, back, at + 1, prices)
      refine ⟨_, rfl, _, rfl, _, rfl, _, _, rfl, rfl, _, rfl, nd, bd, pa, i + 1, p, D4, B4, qs4, M + qs.length, rfl, hp, sm4 _ _ hP, S4.tab, S4.bk, S4.good, by omega, fun H5 D5 B5 qs5 S5 hcl5 => ?_⟩
      have sm5 : Same H H5 := Same.of_but sm4 S5.but new4
      have hpp5 := S5.but.at npn4 hpp4
      -- paper.append(sorted(list(table.items())))
      refine ⟨_, rfl, .inl ⟨rfl, _, seqL hpp5⟩, ?_⟩
      refine rd_items rfl S5.tab fun H6 p6 xs6 sm6 np6 hp6 => ?_
      have hpp6 := sm6 _ _ hpp5
      refine ⟨pp, _, _, rfl, rfl, hpp6, size_small (by omega), ?_⟩
      have fr : ∀ {a : Addr} {o : HO}, a ≠ pp → H6 a = some o → (upd H6 pp (.lst (xs ++ [.ref p6]))) a = some o := fun {a o} n e => by rw [upd_ne n]; exact e
      have tp7 : Tp H6 (upd H6 pp (.lst (xs ++ [.ref p6]))) := Tp.upd hpp6 (by intro xs z; cases z)
      refine ⟨nd, D5, B5, qs5, M + qs.length, xs ++ [.ref p6], _, _, _, rfl, fun a o e => fr (ne_of_none e npp0) (sm6 _ _ (sm5 _ _ e)), nnd0, ?_, ?_, by omega, S5.good, fun k q' hk => ?_, fun k hk => ?_, fun k hk => ?_, upd_same, by simp [hxs]⟩
      · obtain ⟨kvs, h1, h2⟩ := S5.tab
        exact ⟨kvs, fr npnd.symm (sm6 _ _ h1), h2⟩
      · obtain ⟨kvb, h1, h2⟩ := S5.bk
        exact ⟨kvb, fr npbd.symm (sm6 _ _ h1), h2.mono ((Tp.of sm6).trans tp7)⟩
      · rw [S5.oth k (by omega), S4.oth k (by omega)]
        exact hnone k q' (by omega)
      · by_cases hk1 : k = i + 1
        · subst hk1; exact hcl5
        · have e : D5 k = D k := (S5.oth k hk1).trans (S4.oth k hk1)
          intro q1 v q' g c hv hm
          rw [e] at hv ⊢
          exact hcP k (by omega) q1 v q' g c hv hm
      · have e : D5 k = D k := (S5.oth k (by omega)).trans (S4.oth k (by omega))
        intro q1 v q' g c wi' hv hw hm
        rw [e] at hv
        by_cases hk1 : k = i
        · subst hk1
          have e4 : D4 k = D k := S4.oth k (by omega)
          obtain ⟨v', h1, h2⟩ := hcw4 q1 v q' g c wi' (by rw [e4]; exact hv) hw hm
          obtain ⟨v3, h3, h4⟩ := S5.low _ _ _ h1
          exact ⟨v3, h3, by omega⟩
        · have e2 : D5 (k + 1) = D (k + 1) := (S5.oth (k + 1) (by omega)).trans (S4.oth (k + 1) (by omega))
          rw [e2]
          exact hcW k (by omega) q1 v q' g c wi' hv hw hm
    · rintro σ H' ⟨td', D, B, qs, M, xs, y6, y7, y8, rfl, sm, ntd', hTab, hBack, hM, hGood, hnone, hcP, hcW, hpp, hxs⟩
      have qle : qs.length ≤ 51 := by
        obtain ⟨kvs, h1, h2⟩ := hTab
        exact h2.le
      have lowAll : ∀ L' c', Nw.Acc W p b L' c' → ∃ q v, D W.length q = some v ∧ v ≤ c' ∧ Nw.ends q = true := by
        rintro L' c' ⟨q1, hr1, he1⟩
        obtain ⟨v, h1, h2⟩ := Nw.reach_low hGood.bg (n := W.length) (fun k hk => hcP k (by omega)) (fun k hk => hcW k (by omega)) hr1 (Nat.le_refl _)
        exact ⟨q1, v, h1, h2, he1⟩
      -- state = cheapest_end(table)
      refine ⟨_, rfl, td', D ws.length, qs, rfl, hTab, fun H2 r sm7 hbest => ?_⟩
      rw [ewl] at hbest
      refine ⟨_, rfl, rfl, _, rfl, ?_⟩
      rw [eqQ_none]
      obtain ⟨qa, va, hqa, hva, hea⟩ := lowAll La ca hacc
      refine ite2 (fun e => ?_) (fun e => ?_)
      · have hr0 : r = none := of_decide_eq_true e
        subst hr0
        have := hbest qa va trivial hqa
        rw [this] at hea
        cases hea
      · have hr0 : ¬ r = none := by simpa using e
        obtain ⟨qe, rfl⟩ := Option.ne_none_iff_exists'.mp hr0
        obtain ⟨heE, v, hv, hmin⟩ := hbest
        have hvle : v ≤ 1000 := by
          have := hmin qa va trivial hqa hea
          omega
        have smA := sm.trans sm7
        -- line_back(back, len(wishes), state)
        refine ⟨_, rfl, _, rfl, wl, ws, rfl, .inl (seqL (smA _ _ hwl)), _, rfl, bd, ws.length, qe, p, D, B, M + qs.length, v, rfl, hp, ?_, hGood, by rw [ewl]; exact hv, by omega, by omega, fun H3 d L c sm8 nd hL hR hc => ?_⟩
        · obtain ⟨kvb, h1, h2⟩ := hBack
          exact ⟨kvb, sm7 _ _ h1, h2.mono (Tp.of sm7)⟩
        have smB := smA.trans sm8
        obtain ⟨kvs, hk, hT⟩ := hTab
        have hk3 := sm8 _ _ (sm7 _ _ hk)
        have dg : DGet H3 td' (.str (qT qe)) (some (.int v)) := by
          have e1 := hT.val qe
          rw [ewl, hv] at e1
          have e2 : valV kvs (Sum.inr (qT qe)) = some (.int v) := e1
          rw [← e2]
          exact DGet.k (k := Sum.inr (qT qe)) hk3
        refine ⟨_, rfl, _, rfl, td', _, rfl, dg, _, rfl, by show 3 ≤ sizeLine; decide, fun r nr => ?_⟩
        have s9 : Same H3 (upd H3 r (.tup [.ref d, .int v, .ref pp])) := same_upd nr
        have hA : Nw.Acc W p b L c := ⟨qe, by rw [← ewl]; exact hR, heE⟩
        have hlow : ∀ L' c', Nw.Acc W p b L' c' → v ≤ c' := fun L' c' h => by
          obtain ⟨q1, v1, h1, h2, h3⟩ := lowAll L' c' h
          have := hmin q1 v1 trivial h1 h3
          omega
        have ecv : c = v := by
          have := hlow L c hA
          omega
        subst ecv
        refine q _ r d pp L c ⟨smB.trans s9, smB.free nr, smA.free nd, npp0, (ne_of_none (sm7 _ _ hpp) nd).symm, upd_same, hL.same s9, ⟨xs, s9 _ _ (sm8 _ _ (sm7 _ _ hpp)), by omega⟩, hA, hlow⟩
end
end Nt
namespace Nt
open PySem PySem.Spec PyProof.Rows L2
section
variable {P : Program} {w : World} {K : PySem.W.Frag} {mg : Str → Option Value} {base : Heap}
/-! ### the law's own numbers -/
def sp_l_cell_at (K : PySem.W.Frag) : Sp := fun vs H Q _ => ∃ (a : Addr) (ns : List Int) (k : Int), vs = [.ref a, .int k] ∧ SqL K H a (ns.map V.int) ∧ 0 ≤ k ∧ ∀ i : Int, Q (.int i) H
theorem ok_l_cell_at {f : Addr} {fd : FuncData} (F : Fun K "_law_cell_at" "_law_cell_at" s_l_cell_at f fd) (z_min : mg "min" = none) (z_len : mg "len" = none) : FnOk P w K mg base CX0 1 f fd ["_law_script", "_law_k"] (sp_l_cell_at K) := by
  refine F.ok sc_l_cell_at (fun vs H Q E h => ?_) (fun cdv A outer s H vs Q E hr h => ?_)
  · obtain ⟨a, ns, k, rfl, _⟩ := h
    rfl
  · obtain ⟨a, ns, k, rfl, hS, hk, q⟩ := h
    refine ⟨_, (pss_cons (ps_if (pt_cmpR op_lt (pv 1) (pe_callB (call_min2 rfl) (by rfl) z_min (by decide +kernel) (pa_cons pe_int (pa_cons (pe_callB call_len_seq (by rfl) z_len PySem.boot_len (pa_cons (pv 0) pa_nil)) pa_nil))) (nomark _))
        (pss_one (ps_ret (pe_ix ix_list (pv 0) (pv 1) (fun _ _ => rfl))))
        pss_nil)
      (pss_one (ps_ret pe_int))), ?_⟩
    refine ⟨_, rfl, _, rfl, a, _, rfl, .inl hS, _, _, rfl, _, _, rfl, rfl, _, rfl, ite2 (fun e => ?_) (fun e => q 0)⟩
    have h1 : k < (ns.length : Int) := by
      have := of_decide_eq_true e
      rw [List.length_map] at this
      split at this <;> omega
    obtain ⟨j, rfl⟩ : ∃ j : Nat, k = (j : Int) := ⟨k.toNat, by omega⟩
    have hj : j < ns.length := by omega
    refine ⟨_, rfl, _, rfl, a, _, _, _, rfl, rfl, hS, atI_nat (j := j) (by rw [List.getElem?_map, List.getElem?_eq_getElem hj]; rfl), q _⟩
def sp_l_mixed : Sp := fun vs H Q _ => ∃ (a k : Int), vs = [.int a, .int k] ∧ ∀ i : Int, 0 ≤ i → i < 65521 → Q (.int i) H
theorem ok_l_mixed {f : Addr} {fd : FuncData} (F : Fun K "_law_mixed" "_law_mixed" s_l_mixed f fd) : FnOk P w K mg base CX0 1 f fd ["_law_seed", "_law_k"] sp_l_mixed := by
  refine F.ok sc_l_mixed (fun vs H Q E h => ?_) (fun cdv A outer s H vs Q E hr h => ?_)
  · obtain ⟨a, k, rfl, _⟩ := h
    rfl
  · obtain ⟨a, k, rfl, q⟩ := h
    refine ⟨_, (pss_cons (ps_set (i := 2) sc_l_mixed.nd rfl (.inl rfl) (pe_op op_mod (pe_op op_add (pe_op op_add (pe_op op_mul (pe_op op_mod (pv 0) pe_int) pe_int) (pe_op op_mul (pv 1) pe_int)) pe_int) pe_int))
      (pss_cons (ps_set (i := 3) sc_l_mixed.nd rfl (.inl rfl) (pe_op op_mod (pe_op op_add (pe_op op_add (pe_op op_mul (pv 2) (pv 2)) (pe_op op_mul (pv 1) pe_int)) (pe_op op_mod (pe_op op_fdiv (pv 0) pe_int) pe_int)) pe_int))
      (pss_one (ps_ret (pe_op op_mod (pe_op op_add (pe_op op_fdiv (pe_op op_mul (pv 3) (pv 3)) pe_int) (pv 3)) pe_int))))), ?_⟩
    have mb : ∀ (x m : Int), 0 < m → m < 2 ^ 60 → -(2 ^ 64) < x % m ∧ x % m < 2 ^ 64 := fun x m h1 h2 => by
      have := Int.emod_nonneg x (by omega : m ≠ 0)
      have := Int.emod_lt_of_pos x h1
      omega
    refine ⟨_, rfl, _, _, rfl, rfl, (by show (0 : Int) < 1000003; decide), _, _, rfl, rfl, .inr ⟨by decide, by decide⟩, _, rfl, _, _, rfl, rfl, .inr ⟨by decide, by decide⟩, _, _, rfl, rfl, _, _, rfl, rfl, _, _, rfl, rfl, (by show (0 : Int) < 1000033; decide), ?_⟩
    refine ⟨_, rfl, _, rfl, _, _, rfl, rfl, .inl (mb _ _ (by decide) (by decide)), _, rfl, _, _, rfl, rfl, .inr ⟨by decide, by decide⟩, _, _, rfl, rfl, _, rfl, _, _, rfl, rfl, ⟨by decide, by decide⟩, _, _, rfl, rfl, (by show (0 : Int) < 997; decide), _, _, rfl, rfl, _, _, rfl, rfl, (by show (0 : Int) < 999983; decide), ?_⟩
    refine ⟨_, rfl, _, rfl, _, _, rfl, rfl, .inl (mb _ _ (by decide) (by decide)), _, _, rfl, rfl, ⟨by decide, by decide⟩, _, rfl, _, _, rfl, rfl, _, _, rfl, rfl, (by show (0 : Int) < 65521; decide), ?_⟩
    exact q _ (Int.emod_nonneg _ (by decide)) (Int.emod_lt_of_pos _ (by decide))
def sp_l_numbers (K : PySem.W.Frag) : Sp := fun vs H Q _ => ∃ (a : Addr) (ns : List Int) (at_ many : Int), vs = [.ref a, .int at_, .int many] ∧ SqL K H a (ns.map V.int) ∧ 0 ≤ at_ ∧ 0 ≤ many ∧ many ≤ 60 ∧
  ∀ H' d (ms : List Int), Same H H' → H d = none → H' d = some (.lst (ms.map V.int)) → ms.length ≤ 60 → (∀ m ∈ ms, 0 ≤ m) → Q (.ref d) H'
theorem ok_l_numbers {f fC fM : Addr} {fd fdC fdM : FuncData} (F : Fun K "_law_numbers" "_law_numbers" s_l_numbers f fd) (D_l_cell_at : DefAt K mg "_law_cell_at" fC fdC ["_law_script", "_law_k"]) (G_l_cell_at : FnOk P w K mg base CX0 1 fC fdC ["_law_script", "_law_k"] (sp_l_cell_at K))
    (D_l_mixed : DefAt K mg "_law_mixed" fM fdM ["_law_seed", "_law_k"]) (G_l_mixed : FnOk P w K mg base CX0 1 fM fdM ["_law_seed", "_law_k"] sp_l_mixed) (z_range : mg "range" = none) (z_len : mg "len" = none) : FnOk P w K mg base CX0 2 f fd ["_law_script", "_law_at", "_law_many"] (sp_l_numbers K) := by
  refine F.ok sc_l_numbers (fun vs H Q E h => ?_) (fun cdv A outer s H vs Q E hr h => ?_)
  · obtain ⟨a, ns, at_, many, rfl, _⟩ := h
    rfl
  · obtain ⟨a, ns, at_, many, rfl, hS, hat, hm0, hm1, q⟩ := h
    refine ⟨_, (pss_cons (ps_set (i := 3) sc_l_numbers.nd rfl (.inr rfl) (pe_call G_l_cell_at (hr.mono (by decide)) (by rfl) D_l_cell_at.g D_l_cell_at.kp D_l_cell_at.b .nil pass0 (pa_cons (pv 0) (pa_cons (pv 1) pa_nil))))
      (pss_cons (ps_if (pt_cmpR op_lt (pv 3) (pe_op op_pow pe_int pe_int) (nomark _))
        (pss_one (ps_ret (pe_lc (own := [("_law_k", 6)]) (g := gName 6) (tt := tYes) rfl sc_l_numbers.nd (pi_range1 (by rfl) z_range (pa_cons (pv 2) pa_nil)) (blkOk_by (own := [("_law_k", 6)]) (N := ["_law_script", "_law_at", "_law_many", "_law_seed", "_law_left", "_law_row", "_law_k"]) (sc := defScope s_l_numbers) (by decide +kernel)) (fun _ _ _ _ _ => pg_name (i := 6) sc_l_numbers.nd rfl (Or.inl rfl)) (fun _ _ _ _ _ => pts_nil) (fun _ _ _ _ _ => (pe_call G_l_mixed (hr.mono (by decide)) (by rfl) D_l_mixed.g D_l_mixed.kp D_l_mixed.b .nil pass0 (pa_cons (pe_op op_add (pv 3) (pe_op op_mul pe_int (pe_call G_l_cell_at (hr.mono (by decide)) (by rfl) D_l_cell_at.g D_l_cell_at.kp D_l_cell_at.b .nil pass0 (pa_cons (pv 0) (pa_cons (pe_op op_add (pe_op op_add (pv 1) pe_int) (pv 6)) pa_nil))))) (pa_cons (pv 6) pa_nil)))))))
        pss_nil)
      (pss_cons (ps_set (i := 4) sc_l_numbers.nd rfl (.inl rfl) (pe_op op_sub (pv 3) (pe_op op_pow pe_int pe_int)))
      (pss_cons (ps_set (i := 5) sc_l_numbers.nd rfl (.inl rfl) (pe_lst pa_nil))
      (pss_cons (ps_while PassesOwn.never (PW.pt (pw_and (pt_cmpR op_gt (pv 4) pe_int (nomark _)) (pw_and1 (pt_cmpR op_lt (pe_callB call_len_seq (by rfl) z_len PySem.boot_len (pa_cons (pv 5) pa_nil)) pe_int (nomark _)))))
        (pss_cons (ps_expr (pe_bm PySem.F.plainAttrs_list PySem.F.slot_list_append PySem.F.type_list_append mt_append (pv 5) (pa_cons (pe_op op_mod (pv 4) pe_int) pa_nil)))
        (pss_one (ps_set (i := 4) sc_l_numbers.nd rfl (.inl rfl) (pe_op op_fdiv (pv 4) pe_int)))))
      (pss_one (ps_ret (pv 5)))))))), ?_⟩
    refine ⟨_, rfl, _, rfl, a, ns, at_, rfl, hS, hat, fun seed => ?_⟩
    refine ⟨_, rfl, _, _, rfl, rfl, ⟨by decide, by decide, by decide⟩, _, _, rfl, rfl, _, rfl, ite2 (fun _ => ?_) (fun _ => ?_)⟩
    · -- [.. for k in range(many)]
      refine ⟨_, rfl, many, rfl, by omega, by omega, fun D nD => ?_⟩
      refine lc_range (lo := 0) (n := many.toNat) (fun i H' => ∃ ms : List Int, Same H H' ∧ H' D = some (.lst (ms.map V.int)) ∧ ms.length = i ∧ ∀ m ∈ ms, 0 ≤ m) ⟨[], same_upd nD, upd_same, rfl, fun m hm => absurd hm (by simp)⟩ ?_ ?_
      · rintro i H' hi ⟨ms, sm, hD, hl, hpos⟩
        refine ⟨rfl, ?_⟩
        refine ⟨_, rfl, _, rfl, _, rfl, _, _, rfl, rfl, _, rfl, _, _, rfl, rfl, a, ns, _, rfl, sm.seq hS, (by show (0 : Int) ≤ at_ + 1 + (0 + (i : Int)); omega), fun c => ?_⟩
        refine ⟨_, _, rfl, rfl, .inl ⟨by decide, by decide⟩, _, _, rfl, rfl, _, rfl, _, _, rfl, fun v hv0 hv1 => ?_⟩
        refine ⟨_, hD, by rw [List.length_map]; exact size_small (by omega), ms ++ [v], fun b o e => ?_, ?_, by simp [hl], fun m hm => ?_⟩
        · rw [upd_ne (ne_of_none e nD)]; exact sm _ _ e
        · rw [upd_same, List.map_append]; rfl
        · rcases List.mem_append.mp hm with h | h
          · exact hpos m h
          · rw [List.mem_singleton.mp h]; exact hv0
      · rintro H' ⟨ms, sm, hD, hl, hpos⟩
        exact q H' D ms sm nD hD (by omega) hpos
    · -- the row of a great seed
      refine ⟨_, rfl, _, _, rfl, rfl, ⟨by decide, by decide, by decide⟩, _, _, rfl, rfl, ?_⟩
      refine ⟨Nat.zero_le _, fun d nd => ?_⟩
      refine ⟨fun m σ H' => ∃ (left : Int) (ms : List Int) (y6 : Option V), σ = [some (.ref a), some (.int at_), some (.int many), some (.int seed), some (.int left), some (.ref d), y6] ∧ Same H H' ∧ H' d = some (.lst (ms.map V.int)) ∧ ms.length ≤ 60 ∧ (∀ m ∈ ms, 0 ≤ m) ∧ m = 60 - ms.length, ⟨_, _, [], _, rfl, same_upd nd, upd_same, by decide, fun m hm => absurd hm (by simp), rfl⟩, ?_⟩
      rintro m σ H' ⟨left, ms, y6, rfl, sm, hd, hl, hpos, rfl⟩
      refine ⟨_, rfl, _, _, rfl, rfl, _, rfl, ite2 (fun _ => ?_) (fun _ => iteF ?_)⟩
      · refine ⟨_, rfl, d, _, rfl, .inl (seqL hd), _, _, rfl, rfl, _, rfl, ?_⟩
        rw [List.length_map]
        refine ite2 (fun e => ?_) (fun e => ?_)
        · have hlt : ms.length < 60 := by
            have := of_decide_eq_true e
            omega
          refine ⟨fun σ' H'' => ∃ (left : Int) (ms' : List Int) (y6 : Option V), σ' = [some (.ref a), some (.int at_), some (.int many), some (.int seed), some (.int left), some (.ref d), y6] ∧ Same H H'' ∧ H'' d = some (.lst (ms'.map V.int)) ∧ ms'.length = ms.length + 1 ∧ (∀ m ∈ ms', 0 ≤ m), ?_, ?_⟩
          · rintro σ' H'' ⟨left, ms', y6, rfl, sm', hd', hl', hpos'⟩
            exact ⟨60 - ms'.length, by omega, left, ms', y6, rfl, sm', hd', by omega, hpos', rfl⟩
          · refine ⟨_, rfl, .inl ⟨rfl, _, seqL hd⟩, _, rfl, _, _, rfl, rfl, (by show (0 : Int) < 2400; decide), d, _, _, rfl, rfl, hd, by rw [List.length_map]; exact size_small (by omega), ?_⟩
            refine ⟨_, rfl, _, _, rfl, rfl, ⟨by decide, by decide⟩, ?_⟩
            refine ⟨_, ms ++ [left % 2400], _, rfl, fun b o e => ?_, ?_, by simp, fun m hm => ?_⟩
            · rw [upd_ne (ne_of_none e nd)]; exact sm _ _ e
            · rw [upd_same, List.map_append]; rfl
            · rcases List.mem_append.mp hm with h | h
              · exact hpos m h
              · rw [List.mem_singleton.mp h]; exact Int.emod_nonneg _ (by decide)
        · exact ⟨_, rfl, q H' d ms sm nd hd hl hpos⟩
      · exact ⟨_, rfl, q H' d ms sm nd hd hl hpos⟩
end
end Nt
namespace Nt
open PySem PySem.Spec PyProof.Rows L2
/-! a part of a reading whose value is known: the ways join again -/
theorem seqIf {c : TT} {t u r : TS} {D : Ends} {σ : L2.St} {H : Hp} (bb : Bool) (h : ∀ Q : Bool → Hp → Prop, Q bb H → c σ H Q) (k : if bb = true then t { D with nx := r D } σ H else u { D with nx := r D } σ H) : tSeq (tIfS c t u) r D σ H := h _ k
theorem lastIf {c : TT} {t u : TS} {D : Ends} {σ : L2.St} {H : Hp} (bb : Bool) (h : ∀ Q : Bool → Hp → Prop, Q bb H → c σ H Q) (k : if bb = true then t D σ H else u D σ H) : tIfS c t u D σ H := h _ k
theorem seqAsg {te : TE} {g : TG} {r : TS} {D : Ends} {σ : L2.St} {H : Hp} (v : V) (h : ∀ Q : VK, Q v H → te σ H Q) (k : g v σ H (r D)) : tSeq (tAsg te g) r D σ H := h _ k
theorem retV {te : TE} {D : Ends} {σ : L2.St} {H : Hp} (v : V) (h : ∀ Q : VK, Q v H → te σ H Q) (k : D.rt v H) : tRet te D σ H := h _ k
section
variable {P : Program} {w : World} {K : PySem.W.Frag} {mg : Str → Option Value} {base : Heap}
/-! ### the law's own signs -/
def kinds : List Nw.Kd := [.G, .G, .G, .G, .G, .s, .s, .s, .s, .s, .s, .s, .s, .s, .d, .d, .r, .r, .D, .R, .dot, .dot, .m3, .m2]
theorem kinds_txt : (("GGGGGsssssssssddrrDR..32" : Str)).cps.toList = kinds.map cpK := by decide +kernel
theorem kinds_len : (("GGGGGsssssssssddrrDR..32" : Str)).length ≤ sizeLine := by
  have : (("GGGGGsssssssssddrrDR..32" : Str)).length = 24 := by decide +kernel
  rw [this]
  decide
theorem in_sound (k : Nw.Kd) : decide (cpK k ∈ ("GDsd" : Str).cps.toList) = k.sounds := by cases k <;> decide +kernel
theorem in_part (k : Nw.Kd) : decide (cpK k ∈ (".32" : Str).cps.toList) = k.parting := by cases k <;> decide +kernel
theorem in_small (k : Nw.Kd) : decide (cpK k ∈ ("sdr" : Str).cps.toList) = k.small := by cases k <;> decide +kernel
theorem in_great (k : Nw.Kd) : decide (cpK k ∈ ("GDR" : Str).cps.toList) = k.great := by cases k <;> decide +kernel
def sp_l_sign_by : Sp := fun vs H Q _ => ∃ n : Int, vs = [.int n] ∧ ∀ H' t (g : Nw.Sg), Same H H' → H' t = some (.tup [.str (kT g.1), .int g.2]) → Nw.goodSg g → Q (.ref t) H'
theorem ok_l_sign_by {f : Addr} {fd : FuncData} (F : Fun K "_law_sign_by" "_law_sign_by" s_l_sign_by f fd) : FnOk P w K mg base CX0 1 f fd ["_law_number"] sp_l_sign_by := by
  refine F.ok sc_l_sign_by (fun vs H Q E h => ?_) (fun cdv A outer s H vs Q E hr h => ?_)
  · obtain ⟨n, rfl, _⟩ := h
    rfl
  · obtain ⟨n, rfl, q⟩ := h
    refine ⟨_, (pss_cons (ps_set (i := 1) sc_l_sign_by.nd rfl (.inl rfl) (pe_ix ix_str pe_str (pe_op op_mod (pv 0) pe_int) (fun _ _ => rfl)))
      (pss_cons (ps_if (pt_cmpR op_in_sign (pv 1) pe_str rfl)
        (pss_one (ps_ret (pe_tup (pa_cons (pv 1) (pa_cons (pe_op op_mod (pe_op op_fdiv (pv 0) pe_int) pe_int) pa_nil)))))
        pss_nil)
      (pss_one (ps_ret (pe_tup (pa_cons (pv 1) (pa_cons pe_int pa_nil))))))), ?_⟩
    have h0 := Int.emod_nonneg n (show (24 : Int) ≠ 0 by decide)
    have h1 := Int.emod_lt_of_pos n (show (0 : Int) < 24 by decide)
    obtain ⟨j, hj⟩ : ∃ j : Nat, n % 24 = (j : Int) := ⟨(n % 24).toNat, by omega⟩
    have hj24 : j < kinds.length := by show j < 24; omega
    have hat : atI ("GGGGGsssssssssddrrDR..32" : Str).cps.toList (n % 24) = some (cpK kinds[j]) := by
      rw [hj, kinds_txt]
      exact atI_nat (j := j) (by rw [List.getElem?_map, List.getElem?_eq_getElem hj24]; rfl)
    generalize kinds[j] = k at hat
    refine ⟨_, rfl, _, _, rfl, rfl, (by show (0 : Int) < 24; decide), _, _, _, rfl, rfl, kinds_len, hat, ?_⟩
    refine ⟨_, rfl, _, _, rfl, rfl, _, rfl, ?_⟩
    rw [in_sound]
    refine ite2 (fun e => ?_) (fun e => ?_)
    · refine ⟨_, rfl, _, rfl, _, _, rfl, rfl, ⟨by decide, by decide⟩, _, _, rfl, rfl, (by show (0 : Int) < 100; decide), (by show 2 ≤ sizeLine; decide), fun p np => ?_⟩
      refine q _ p (k, n / 24 % 100) (same_upd np) upd_same ?_
      unfold Nw.goodSg
      rw [if_pos e]
      exact Int.emod_nonneg _ (by decide)
    · refine ⟨_, rfl, (by show 2 ≤ sizeLine; decide), fun p np => ?_⟩
      refine q _ p (k, 0) (same_upd np) upd_same ?_
      unfold Nw.goodSg
      rw [if_neg e]
def sp_l_line (K : PySem.W.Frag) : Sp := fun vs H Q _ => ∃ (a : Addr) (ns : List Int) (at_ many : Int), vs = [.ref a, .int at_, .int many] ∧ SqL K H a (ns.map V.int) ∧ 0 ≤ at_ ∧ 0 ≤ many ∧ many ≤ 60 ∧
  ∀ H' d L, Same H H' → H d = none → Line H' d L → L.length ≤ 60 → (∀ g ∈ L, Nw.goodSg g) → Q (.ref d) H'
theorem ok_l_line {f fN fS : Addr} {fd fdN fdS : FuncData} (F : Fun K "_law_line" "_law_line" s_l_line f fd) (D_l_numbers : DefAt K mg "_law_numbers" fN fdN ["_law_script", "_law_at", "_law_many"]) (G_l_numbers : FnOk P w K mg base CX0 2 fN fdN ["_law_script", "_law_at", "_law_many"] (sp_l_numbers K))
    (D_l_sign_by : DefAt K mg "_law_sign_by" fS fdS ["_law_number"]) (G_l_sign_by : FnOk P w K mg base CX0 1 fS fdS ["_law_number"] sp_l_sign_by) : FnOk P w K mg base CX0 3 f fd ["_law_script", "_law_at", "_law_many"] (sp_l_line K) := by
  refine F.ok sc_l_line (fun vs H Q E h => ?_) (fun cdv A outer s H vs Q E hr h => ?_)
  · obtain ⟨a, ns, at_, many, rfl, _⟩ := h
    rfl
  · obtain ⟨a, ns, at_, many, rfl, hS, hat, hm0, hm1, q⟩ := h
    refine ⟨_, (pss_one (ps_ret (pe_lc (own := [("_law_number", 3)]) (g := gName 3) (tt := tYes) rfl sc_l_line.nd (pi_list (pe_call G_l_numbers (hr.mono (by decide)) (by rfl) D_l_numbers.g D_l_numbers.kp D_l_numbers.b .nil pass0 (pa_cons (pv 0) (pa_cons (pv 1) (pa_cons (pv 2) pa_nil))))) (blkOk_by (own := [("_law_number", 3)]) (N := ["_law_script", "_law_at", "_law_many", "_law_number"]) (sc := defScope s_l_line) (by decide +kernel)) (fun _ _ _ _ _ => pg_name (i := 3) sc_l_line.nd rfl (Or.inl rfl)) (fun _ _ _ _ _ => pts_nil) (fun _ _ _ _ _ => (pe_call G_l_sign_by (hr.mono (by decide)) (by rfl) D_l_sign_by.g D_l_sign_by.kp D_l_sign_by.b .nil pass0 (pa_cons (pv 3) pa_nil)))))), ?_⟩
    refine ⟨_, rfl, _, rfl, _, rfl, a, ns, at_, many, rfl, hS, hat, hm0, hm1, fun H1 d ms sm1 nd hd hl hpos => ⟨d, rfl, ⟨_, seqL hd⟩, fun D nD => ?_⟩⟩
    have nD0 : H D = none := sm1.free nD
    refine lc_list (K := K) (a := d) (xs := ms.map V.int) (fun i H' => ∃ (vs : List V) (L : List Nw.Sg), Same H1 H' ∧ H' D = some (.lst vs) ∧ All2 (isSg H') vs L ∧ L.length = i ∧ ∀ g ∈ L, Nw.goodSg g) ⟨[], [], same_upd nD, upd_same, All2.nil, rfl, fun g hg => absurd hg (by simp)⟩ (fun i H' _ ⟨_, _, sm, _⟩ => seqL (sm _ _ hd)) ?_ ?_
    · rintro i x H' hi ⟨vs, L, sm, hD, hA, hLl, hgood⟩
      rw [List.getElem?_map] at hi
      obtain ⟨n, hn, rfl⟩ := Option.map_eq_some_iff.mp hi
      have hi60 : i < 60 := by
        have := (List.getElem?_eq_some_iff.mp hn).1
        omega
      refine ⟨rfl, ?_⟩
      refine ⟨_, rfl, n, rfl, fun H2 t g sm2 ht hg => ?_⟩
      have hD2 := sm2 _ _ hD
      have tp : Tp H' (upd H2 D (.lst (vs ++ [.ref t]))) := (Tp.of sm2).trans (Tp.upd hD2 (by intro xs z; cases z))
      refine ⟨vs, hD2, size_small (by rw [hA.1]; omega), vs ++ [.ref t], L ++ [g], fun b o e => ?_, upd_same, (hA.mono fun v g => isSg.mono tp).snoc ⟨t, rfl, ?_⟩, by simp [hLl], fun g' hg' => ?_⟩
      · rw [upd_ne (ne_of_none e nD)]; exact sm2 _ _ (sm _ _ e)
      · rw [upd_ne (ne_of ht hD2 (by intro z; cases z))]
        exact ht
      · rcases List.mem_append.mp hg' with h | h
        · exact hgood g' h
        · rw [List.mem_singleton.mp h]; exact hg
    · rintro H' ⟨vs, L, sm, hD, hA, hLl, hgood⟩
      rw [List.length_map] at hLl
      exact q H' D L (sm1.trans sm) nD0 ⟨vs, hD, hA⟩ (by omega) hgood
def sp_l_begin : Sp := fun vs H Q _ => ∃ n : Int, vs = [.int n] ∧ ∀ b : Int, b = 2 ∨ b = 3 → Q (.int b) H
theorem ok_l_begin {f : Addr} {fd : FuncData} (F : Fun K "_law_begin" "_law_begin" s_l_begin f fd) (z_int : mg "int" = none) : FnOk P w K mg base CX0 1 f fd ["_law_cell"] sp_l_begin := by
  refine F.ok sc_l_begin (fun vs H Q E h => ?_) (fun cdv A outer s H vs Q E hr h => ?_)
  · obtain ⟨n, rfl, _⟩ := h
    rfl
  · obtain ⟨n, rfl, q⟩ := h
    refine ⟨_, (pss_one (ps_ret (pe_op op_sub pe_int (pe_callTy call_int1 (by rfl) z_int (by decide +kernel) (pa_cons (pe_cmpR op_eq (pe_op op_mod (pv 0) pe_int) pe_int (nomark _)) pa_nil))))), ?_⟩
    refine ⟨_, rfl, _, _, rfl, rfl, (by show (0 : Int) < 5; decide), rfl, .inr ⟨_, rfl, _, _, rfl, rfl, q _ ?_⟩⟩
    split <;> omega
/-! ### base, three -/
def nowA (b : Int) : List Nw.Sg → Int
  | [] => b
  | g :: L => nowA (Nw.nowOf b g.1) L
theorem nowA_snoc (g : Nw.Sg) : ∀ (L : List Nw.Sg) (b : Int), nowA b (L ++ [g]) = Nw.nowOf (nowA b L) g.1
  | [], b => rfl
  | x :: L, b => nowA_snoc g L _
def cellB (now : Int) (k : Nw.Kd) (hd : Bool) : Int := if k.parting then 0 else if k.small then 1 else if k = .D then 2 else if now = 2 ∧ k = .G ∧ hd = true then 3 else now
theorem baseW_drop : ∀ (P L : List Nw.Sg) (b : Int), Nw.baseW b (P ++ L) = (Nw.baseW b (P ++ L)).take P.length ++ Nw.baseW (nowA b P) L
  | [], L, b => rfl
  | x :: P, L, b => by
    have ih := baseW_drop P L (Nw.nowOf b x.1)
    rw [List.cons_append, Nw.baseW, List.length_cons, List.take_succ_cons, List.cons_append]
    congr 1
theorem baseW_step {L : List Nw.Sg} {i : Nat} {g : Nw.Sg} (b : Int) (h : L[i]? = some g) : (Nw.baseW b L).take (i + 1) = (Nw.baseW b L).take i ++ [cellB (nowA b (L.take (i + 1))) g.1 (Nw.headDot (L.drop (i + 1)))] := by
  have hl := (List.getElem?_eq_some_iff.mp h).1
  have e : L = L.take i ++ g :: L.drop (i + 1) := by
    rw [show g :: L.drop (i + 1) = L.drop i from ?_, List.take_append_drop]
    rw [List.drop_eq_getElem_cons hl]
    congr 1
    exact (Option.some.inj ((List.getElem?_eq_getElem hl).symm.trans h)).symm
  have hlen : (L.take i).length = i := by rw [List.length_take]; omega
  have hx : (Nw.baseW b L)[i]? = some (cellB (nowA b (L.take (i + 1))) g.1 (Nw.headDot (L.drop (i + 1)))) := by
    have e2 : nowA b (L.take (i + 1)) = Nw.nowOf (nowA b (L.take i)) g.1 := by
      rw [List.take_add_one, h]
      exact nowA_snoc g _ _
    rw [e2]
    have e3 := baseW_drop (L.take i) (g :: L.drop (i + 1)) b
    rw [← e, hlen] at e3
    have hbl : ((Nw.baseW b L).take i).length = i := by rw [List.length_take, Nw.baseW_length]; omega
    rw [e3, List.getElem?_append_right (by omega), hbl, Nat.sub_self]
    rfl
  rw [List.take_add_one, hx]
  rfl
theorem measuring_m2 {k : Nw.Kd} (h : ¬ k = .m3) : k.measuring = decide (k = .m2) := by revert h; cases k <;> decide
def mI (k : Nw.Kd) : Int := if k = .m3 then 3 else 2
theorem intK {k : Nw.Kd} (h : k.measuring = true) : PySem.intText? ⟨#[cpK k]⟩ = some (mI k) := by revert h; cases k <;> decide +kernel
theorem mI_now {k : Nw.Kd} (h : k.measuring = true) (now : Int) : mI k = Nw.nowOf now k := by revert h; cases k <;> intro h <;> first | rfl | cases h
theorem no_now {k : Nw.Kd} (h : ¬ k.measuring = true) (now : Int) : now = Nw.nowOf now k := by revert h; cases k <;> intro h <;> first | rfl | exact absurd rfl h
def sp_l_base : Sp := fun vs H Q _ => ∃ (la : Addr) (b : Int) (L : List Nw.Sg), vs = [.ref la, .int b] ∧ Line H la L ∧ L.length ≤ 5000 ∧ ∀ H' d, Same H H' → H d = none → H' d = some (.lst ((Nw.baseW b L).map V.int)) → Q (.ref d) H'
theorem ok_l_base {f : Addr} {fd : FuncData} (F : Fun K "_law_base" "_law_base" s_l_base f fd) (z_range : mg "range" = none) (z_len : mg "len" = none) (z_int : mg "int" = none) : FnOk P w K mg base CX0 1 f fd ["_law_line_here", "_law_begin_here"] sp_l_base := by
  refine F.ok sc_l_base (fun vs H Q E h => ?_) (fun cdv A outer s H vs Q E hr h => ?_)
  · obtain ⟨la, b, L, rfl, _⟩ := h
    rfl
  · obtain ⟨la, b, L, rfl, ⟨vs, hL, hA⟩, hlen, q⟩ := h
    refine ⟨_, (pss_cons (ps_set (i := 2) sc_l_base.nd rfl (.inl rfl) (pe_lst pa_nil))
      (pss_cons (ps_set (i := 3) sc_l_base.nd rfl (.inl rfl) (pv 1))
      (pss_cons (ps_for PassesOwn.never rfl (pi_range1 (by rfl) z_range (pa_cons (pe_callB call_len_seq (by rfl) z_len PySem.boot_len (pa_cons (pv 0) pa_nil)) pa_nil)) (pg_name (i := 4) sc_l_base.nd rfl (.inl rfl))
        (pss_cons (ps_set (i := 5) sc_l_base.nd rfl (.inl rfl) (pe_ix ix_tup (pe_ix ix_list (pv 0) (pv 4) (fun _ _ => rfl)) pe_int (fun _ _ => rfl)))
        (pss_cons (ps_if (PW.pt (pw_or (pt_cmpR op_eq (pv 5) pe_str (nomark _)) (pw_or1 (pt_cmpR op_eq (pv 5) pe_str (nomark _)))))
          (pss_one (ps_set (i := 3) sc_l_base.nd rfl (.inl rfl) (pe_callTy call_int_str (by rfl) z_int (by decide +kernel) (pa_cons (pv 5) pa_nil))))
          pss_nil)
        (pss_one (ps_if (pt_cmpR op_in_sign (pv 5) pe_str rfl)
          (pss_one (ps_expr (pe_bm PySem.F.plainAttrs_list PySem.F.slot_list_append PySem.F.type_list_append mt_append (pv 2) (pa_cons pe_int pa_nil))))
          (pss_one (ps_if (pt_cmpR op_in_sign (pv 5) pe_str rfl)
            (pss_one (ps_expr (pe_bm PySem.F.plainAttrs_list PySem.F.slot_list_append PySem.F.type_list_append mt_append (pv 2) (pa_cons pe_int pa_nil))))
            (pss_one (ps_if (pt_cmpR op_eq (pv 5) pe_str (nomark _))
              (pss_one (ps_expr (pe_bm PySem.F.plainAttrs_list PySem.F.slot_list_append PySem.F.type_list_append mt_append (pv 2) (pa_cons pe_int pa_nil))))
              (pss_one (ps_if (PW.pt (pw_and (pt_cmpR op_eq (pv 3) pe_int (nomark _)) (pw_and (pt_cmpR op_eq (pv 5) pe_str (nomark _)) (pw_and (pt_cmpR op_lt (pe_op op_add (pv 4) pe_int) (pe_callB call_len_seq (by rfl) z_len PySem.boot_len (pa_cons (pv 0) pa_nil)) (nomark _)) (pw_and1 (pt_cmpR op_eq (pe_ix ix_tup (pe_ix ix_list (pv 0) (pe_op op_add (pv 4) pe_int) (fun _ _ => rfl)) pe_int (fun _ _ => rfl)) pe_str (nomark _)))))))
                (pss_one (ps_expr (pe_bm PySem.F.plainAttrs_list PySem.F.slot_list_append PySem.F.type_list_append mt_append (pv 2) (pa_cons pe_int pa_nil))))
                (pss_one (ps_expr (pe_bm PySem.F.plainAttrs_list PySem.F.slot_list_append PySem.F.type_list_append mt_append (pv 2) (pa_cons (pv 3) pa_nil)))))))))))))))
      (pss_one (ps_ret (pv 2)))))), ?_⟩
    refine ⟨Nat.zero_le _, fun d nd => ?_⟩
    have s0 : Same H (upd H d (.lst [])) := same_upd nd
    refine ⟨_, rfl, _, rfl, la, vs, rfl, .inl (seqL (s0 _ _ hL)), _, rfl, by omega, by rw [hA.1]; omega, for_range (lo := 0) (n := ((vs.length : Int)).toNat) (fun i σ H' => ∃ (y4 y5 : Option V), σ = [some (.ref la), some (.int b), some (.ref d), some (.int (nowA b (L.take i))), y4, y5] ∧ Same H H' ∧ H' d = some (.lst (((Nw.baseW b L).take i).map V.int)))
      ⟨none, none, rfl, s0, upd_same⟩ ?_ ?_⟩
    · rintro i σ H' hi ⟨y4, y5, rfl, sm, hd⟩
      have hiL : i < L.length := by rw [← hA.1]; omega
      obtain ⟨g, hg⟩ : ∃ g, L[i]? = some g := ⟨_, List.getElem?_eq_getElem hiL⟩
      obtain ⟨v, hv, ⟨t, rfl, ht0⟩⟩ := hA.get hg
      have hL1 := sm _ _ hL
      have ht := sm _ _ ht0
      have hat : atI vs (0 + (i : Int)) = some (.ref t) := by rw [Int.zero_add]; exact atI_nat hv
      have hlt : ((((Nw.baseW b L).take i).map V.int)).length < sizeLine := by
        rw [List.length_map, List.length_take]
        exact size_small (by omega)
      have nxt : ∀ (x now' : Int) (y4 y5 : Option V), now' = Nw.nowOf (nowA b (L.take i)) g.1 → x = cellB now' g.1 (Nw.headDot (L.drop (i + 1))) →
          ∃ (z4 z5 : Option V), [some (V.ref la), some (.int b), some (.ref d), some (.int now'), y4, y5] = [some (.ref la), some (.int b), some (.ref d), some (.int (nowA b (L.take (i + 1)))), z4, z5] ∧ Same H (upd H' d (.lst (((Nw.baseW b L).take i).map V.int ++ [.int x]))) ∧ (upd H' d (.lst (((Nw.baseW b L).take i).map V.int ++ [.int x]))) d = some (.lst (((Nw.baseW b L).take (i + 1)).map V.int)) := by
        intro x now' y4 y5 e1 e2
        have e3 : nowA b (L.take (i + 1)) = now' := by
          rw [List.take_add_one, hg, e1]
          exact nowA_snoc g _ _
        refine ⟨y4, y5, by rw [e3], fun a o e => ?_, ?_⟩
        · rw [upd_ne (ne_of_none e nd)]; exact sm _ _ e
        · rw [upd_same, baseW_step b hg, List.map_append, e3, e2]
          rfl
      refine ⟨_, rfl, _, rfl, la, vs, _, _, rfl, rfl, seqL hL1, hat, _, _, _, _, rfl, rfl, seqT ht, atI_nat (j := 0) rfl, ?_⟩
      -- if kind == '3' or kind == '2': now = int(kind)
      dsimp only [gName]
      refine seqIf g.1.measuring (fun Q2 q2 => ?_) ?_
      · refine ⟨_, rfl, rfl, _, rfl, ite2 (fun e => ?_) (fun e => ⟨_, rfl, rfl, _, rfl, ?_⟩)⟩
        · rw [eq_m3] at e; rw [of_decide_eq_true e] at q2; exact q2
        · rw [eq_m3] at e; rw [eq_m2]; rw [measuring_m2 (by simpa using e)] at q2; exact q2
      refine ite2 (fun em => ?_) (fun em => ?_)
      · refine ⟨_, rfl, _, _, rfl, intK em, (by show (1 : Nat) ≤ 640; decide), ?_⟩
        refine ⟨_, rfl, _, _, rfl, rfl, _, rfl, ?_⟩
        rw [in_part]
        refine ite2 (fun e1 => ?_) (fun e1 => ?_)
        · refine ⟨_, rfl, .inl ⟨rfl, _, seqL hd⟩, d, _, _, rfl, rfl, hd, hlt, nxt _ _ _ _ (mI_now em _) (by unfold cellB; rw [if_pos e1])⟩
        refine ⟨_, rfl, _, _, rfl, rfl, _, rfl, ?_⟩
        rw [in_small]
        refine ite2 (fun e2 => ?_) (fun e2 => ?_)
        · refine ⟨_, rfl, .inl ⟨rfl, _, seqL hd⟩, d, _, _, rfl, rfl, hd, hlt, nxt _ _ _ _ (mI_now em _) (by unfold cellB; rw [if_neg e1, if_pos e2])⟩
        refine ⟨_, rfl, rfl, _, rfl, ?_⟩
        rw [eq_D]
        refine ite2 (fun e3 => ?_) (fun e3 => ?_)
        · have e3' := of_decide_eq_true e3
          refine ⟨_, rfl, .inl ⟨rfl, _, seqL hd⟩, d, _, _, rfl, rfl, hd, hlt, nxt _ _ _ _ (mI_now em _) (by unfold cellB; rw [if_neg e1, if_neg e2, if_pos e3'])⟩
        have e3' : ¬ g.1 = .D := by simpa using e3
        refine lastIf (decide (mI g.1 = 2 ∧ g.1 = .G ∧ Nw.headDot (L.drop (i + 1)) = true)) (fun Q2 q2 => ?_) ?_
        · refine ⟨_, rfl, rfl, _, rfl, ?_⟩
          rw [dec_eq_int]
          refine ite2 (fun a1 => ?_) (fun a1 => ?_)
          · have b1 := of_decide_eq_true a1
            refine ⟨_, rfl, rfl, _, rfl, ?_⟩
            rw [eq_G]
            refine ite2 (fun a2 => ?_) (fun a2 => ?_)
            · have b2 := of_decide_eq_true a2
              refine ⟨_, rfl, _, _, rfl, rfl, _, rfl, la, vs, rfl, .inl (seqL hL1), _, _, rfl, rfl, _, rfl, ite2 (fun a3 => ?_) (fun a3 => ?_)⟩
              · have h3 : i + 1 < vs.length := by have := of_decide_eq_true a3; omega
                have h3' : i + 1 < L.length := by rw [← hA.1]; exact h3
                obtain ⟨v2, hv2, ⟨t2, rfl, ht20⟩⟩ := hA.get (List.getElem?_eq_getElem h3')
                have hat2 : atI vs (0 + (i : Int) + 1) = some (.ref t2) := by rw [show (0 + (i : Int) + 1) = ((i + 1 : Nat) : Int) by omega]; exact atI_nat hv2
                refine ⟨_, rfl, _, rfl, _, _, rfl, rfl, la, vs, _, _, rfl, rfl, seqL hL1, hat2, _, _, _, _, rfl, rfl, seqT (sm _ _ ht20), atI_nat (j := 0) rfl, rfl, _, rfl, ?_⟩
                rw [eq_dot]
                have e5 : Nw.headDot (L.drop (i + 1)) = decide (L[i + 1].1 = .dot) := by rw [List.drop_eq_getElem_cons h3']; rfl
                rw [e5] at q2
                have e6 : decide (mI g.1 = 2 ∧ g.1 = .G ∧ decide (L[i + 1].1 = .dot) = true) = decide (L[i + 1].1 = .dot) := by
                  by_cases hx : L[i + 1].1 = .dot
                  · rw [decide_eq_true hx]; exact decide_eq_true ⟨b1, b2, rfl⟩
                  · rw [decide_eq_false hx]; exact decide_eq_false (fun z => by cases z.2.2)
                rw [e6] at q2
                exact q2
              · have h3 : ¬ i + 1 < vs.length := fun z => a3 (decide_eq_true (by omega))
                have e5 : Nw.headDot (L.drop (i + 1)) = false := by rw [List.drop_eq_nil_of_le (by rw [← hA.1]; omega)]; rfl
                rw [e5] at q2
                simp at q2
                exact q2
            · have b2 : ¬ g.1 = .G := by simpa using a2
              simp [b2] at q2
              exact q2
          · have b1 : ¬ mI g.1 = 2 := by simpa using a1
            simp [b1] at q2
            exact q2
        refine ite2 (fun e4 => ?_) (fun e4 => ?_)
        · have e4' := of_decide_eq_true e4
          refine ⟨_, rfl, .inl ⟨rfl, _, seqL hd⟩, d, _, _, rfl, rfl, hd, hlt, nxt _ _ _ _ (mI_now em _) (by unfold cellB; rw [if_neg e1, if_neg e2, if_neg e3', if_pos e4'])⟩
        · have e4' : ¬ (mI g.1 = 2 ∧ g.1 = .G ∧ Nw.headDot (L.drop (i + 1)) = true) := by simpa using e4
          refine ⟨_, rfl, .inl ⟨rfl, _, seqL hd⟩, _, rfl, d, _, _, rfl, rfl, hd, hlt, nxt _ _ _ _ (mI_now em _) ?_⟩
          unfold cellB
          rw [if_neg e1, if_neg e2, if_neg e3', if_neg e4']
      · dsimp only [tNext]
        refine ⟨_, rfl, _, _, rfl, rfl, _, rfl, ?_⟩
        rw [in_part]
        refine ite2 (fun e1 => ?_) (fun e1 => ?_)
        · refine ⟨_, rfl, .inl ⟨rfl, _, seqL hd⟩, d, _, _, rfl, rfl, hd, hlt, nxt _ _ _ _ (no_now em _) (by unfold cellB; rw [if_pos e1])⟩
        refine ⟨_, rfl, _, _, rfl, rfl, _, rfl, ?_⟩
        rw [in_small]
        refine ite2 (fun e2 => ?_) (fun e2 => ?_)
        · refine ⟨_, rfl, .inl ⟨rfl, _, seqL hd⟩, d, _, _, rfl, rfl, hd, hlt, nxt _ _ _ _ (no_now em _) (by unfold cellB; rw [if_neg e1, if_pos e2])⟩
        refine ⟨_, rfl, rfl, _, rfl, ?_⟩
        rw [eq_D]
        refine ite2 (fun e3 => ?_) (fun e3 => ?_)
        · have e3' := of_decide_eq_true e3
          refine ⟨_, rfl, .inl ⟨rfl, _, seqL hd⟩, d, _, _, rfl, rfl, hd, hlt, nxt _ _ _ _ (no_now em _) (by unfold cellB; rw [if_neg e1, if_neg e2, if_pos e3'])⟩
        have e3' : ¬ g.1 = .D := by simpa using e3
        refine lastIf (decide (nowA b (L.take i) = 2 ∧ g.1 = .G ∧ Nw.headDot (L.drop (i + 1)) = true)) (fun Q2 q2 => ?_) ?_
        · refine ⟨_, rfl, rfl, _, rfl, ?_⟩
          rw [dec_eq_int]
          refine ite2 (fun a1 => ?_) (fun a1 => ?_)
          · have b1 := of_decide_eq_true a1
            refine ⟨_, rfl, rfl, _, rfl, ?_⟩
            rw [eq_G]
            refine ite2 (fun a2 => ?_) (fun a2 => ?_)
            · have b2 := of_decide_eq_true a2
              refine ⟨_, rfl, _, _, rfl, rfl, _, rfl, la, vs, rfl, .inl (seqL hL1), _, _, rfl, rfl, _, rfl, ite2 (fun a3 => ?_) (fun a3 => ?_)⟩
              · have h3 : i + 1 < vs.length := by have := of_decide_eq_true a3; omega
                have h3' : i + 1 < L.length := by rw [← hA.1]; exact h3
                obtain ⟨v2, hv2, ⟨t2, rfl, ht20⟩⟩ := hA.get (List.getElem?_eq_getElem h3')
                have hat2 : atI vs (0 + (i : Int) + 1) = some (.ref t2) := by rw [show (0 + (i : Int) + 1) = ((i + 1 : Nat) : Int) by omega]; exact atI_nat hv2
                refine ⟨_, rfl, _, rfl, _, _, rfl, rfl, la, vs, _, _, rfl, rfl, seqL hL1, hat2, _, _, _, _, rfl, rfl, seqT (sm _ _ ht20), atI_nat (j := 0) rfl, rfl, _, rfl, ?_⟩
                rw [eq_dot]
                have e5 : Nw.headDot (L.drop (i + 1)) = decide (L[i + 1].1 = .dot) := by rw [List.drop_eq_getElem_cons h3']; rfl
                rw [e5] at q2
                have e6 : decide (nowA b (L.take i) = 2 ∧ g.1 = .G ∧ decide (L[i + 1].1 = .dot) = true) = decide (L[i + 1].1 = .dot) := by
                  by_cases hx : L[i + 1].1 = .dot
                  · rw [decide_eq_true hx]; exact decide_eq_true ⟨b1, b2, rfl⟩
                  · rw [decide_eq_false hx]; exact decide_eq_false (fun z => by cases z.2.2)
                rw [e6] at q2
                exact q2
              · have h3 : ¬ i + 1 < vs.length := fun z => a3 (decide_eq_true (by omega))
                have e5 : Nw.headDot (L.drop (i + 1)) = false := by rw [List.drop_eq_nil_of_le (by rw [← hA.1]; omega)]; rfl
                rw [e5] at q2
                simp at q2
                exact q2
            · have b2 : ¬ g.1 = .G := by simpa using a2
              simp [b2] at q2
              exact q2
          · have b1 : ¬ nowA b (L.take i) = 2 := by simpa using a1
            simp [b1] at q2
            exact q2
        refine ite2 (fun e4 => ?_) (fun e4 => ?_)
        · have e4' := of_decide_eq_true e4
          refine ⟨_, rfl, .inl ⟨rfl, _, seqL hd⟩, d, _, _, rfl, rfl, hd, hlt, nxt _ _ _ _ (no_now em _) (by unfold cellB; rw [if_neg e1, if_neg e2, if_neg e3', if_pos e4'])⟩
        · have e4' : ¬ (nowA b (L.take i) = 2 ∧ g.1 = .G ∧ Nw.headDot (L.drop (i + 1)) = true) := by simpa using e4
          refine ⟨_, rfl, .inl ⟨rfl, _, seqL hd⟩, _, rfl, d, _, _, rfl, rfl, hd, hlt, nxt _ _ _ _ (no_now em _) ?_⟩
          unfold cellB
          rw [if_neg e1, if_neg e2, if_neg e3', if_neg e4']
    · rintro σ H' ⟨y4, y5, rfl, sm, hd⟩
      have e : (Nw.baseW b L).take ((vs.length : Int)).toNat = Nw.baseW b L := List.take_of_length_le (by rw [Nw.baseW_length, hA.1]; simp)
      rw [e] at hd
      exact ⟨_, rfl, q H' d sm nd hd⟩
def sp_l_three : Sp := fun vs H Q _ => ∃ (la : Addr) (b : Int) (L : List Nw.Sg), vs = [.ref la, .int b] ∧ Line H la L ∧ L.length ≤ 5000 ∧ ∀ H' d, Same H H' → H d = none → H' d = some (.lst ((Nw.threeW b L).map V.bl)) → Q (.ref d) H'
theorem threeW_step : ∀ {L : List Nw.Sg} {i : Nat} {g : Nw.Sg} (b : Int), L[i]? = some g → (Nw.threeW b L).take (i + 1) = (Nw.threeW b L).take i ++ [decide (nowA b (L.take (i + 1)) = 3)]
  | [], _, _, _, h => by simp at h
  | x :: L, 0, g, b, h => by
    cases h
    rfl
  | x :: L, i + 1, g, b, h => by
    have ih := threeW_step (L := L) (i := i) (g := g) (Nw.nowOf b x.1) (by simpa using h)
    rw [Nw.threeW, List.take_succ_cons, ih, List.take_succ_cons]
    rfl
theorem ok_l_three {f : Addr} {fd : FuncData} (F : Fun K "_law_three" "_law_three" s_l_three f fd) (z_int : mg "int" = none) : FnOk P w K mg base CX0 1 f fd ["_law_line_here", "_law_begin_here"] sp_l_three := by
  refine F.ok sc_l_three (fun vs H Q E h => ?_) (fun cdv A outer s H vs Q E hr h => ?_)
  · obtain ⟨la, b, L, rfl, _⟩ := h
    rfl
  · obtain ⟨la, b, L, rfl, ⟨vs, hL, hA⟩, hlen, q⟩ := h
    refine ⟨_, (pss_cons (ps_set (i := 2) sc_l_three.nd rfl (.inl rfl) (pe_lst pa_nil))
      (pss_cons (ps_set (i := 3) sc_l_three.nd rfl (.inl rfl) (pv 1))
      (pss_cons (ps_for PassesOwn.never rfl (pi_list (pv 0)) (pg_name (i := 4) sc_l_three.nd rfl (.inl rfl))
        (pss_cons (ps_if (PW.pt (pw_or (pt_cmpR op_eq (pe_ix ix_tup (pv 4) pe_int (fun _ _ => rfl)) pe_str (nomark _)) (pw_or1 (pt_cmpR op_eq (pe_ix ix_tup (pv 4) pe_int (fun _ _ => rfl)) pe_str (nomark _)))))
          (pss_one (ps_set (i := 3) sc_l_three.nd rfl (.inl rfl) (pe_callTy call_int_str (by rfl) z_int (by decide +kernel) (pa_cons (pe_ix ix_tup (pv 4) pe_int (fun _ _ => rfl)) pa_nil))))
          pss_nil)
        (pss_one (ps_expr (pe_bm PySem.F.plainAttrs_list PySem.F.slot_list_append PySem.F.type_list_append mt_append (pv 2) (pa_cons (pe_cmpR op_eq (pv 3) pe_int (nomark _)) pa_nil))))))
      (pss_one (ps_ret (pv 2)))))), ?_⟩
    refine ⟨Nat.zero_le _, fun d nd => ?_⟩
    have s0 : Same H (upd H d (.lst [])) := same_upd nd
    refine ⟨_, rfl, _, rfl, la, rfl, ⟨_, seqL (s0 _ _ hL)⟩, for_list (K := K) (a := la) (xs := vs) (fun i σ H' => ∃ (y4 : Option V), σ = [some (.ref la), some (.int b), some (.ref d), some (.int (nowA b (L.take i))), y4] ∧ Same H H' ∧ H' d = some (.lst (((Nw.threeW b L).take i).map V.bl)))
      ⟨none, rfl, s0, upd_same⟩ (fun i σ H' _ ⟨_, _, sm, _⟩ => seqL (sm _ _ hL)) ?_ ?_⟩
    · rintro i x σ H' hi ⟨y4, rfl, sm, hd⟩
      obtain ⟨g, hg, ⟨t, rfl, ht0⟩⟩ := hA.get' hi
      have hiL := (List.getElem?_eq_some_iff.mp hg).1
      have ht := sm _ _ ht0
      have hlt : ((((Nw.threeW b L).take i).map V.bl)).length < sizeLine := by
        rw [List.length_map, List.length_take]
        exact size_small (by omega)
      have nxt : ∀ (now' : Int) (y4 : Option V), now' = Nw.nowOf (nowA b (L.take i)) g.1 →
          ∃ (z4 : Option V), [some (V.ref la), some (.int b), some (.ref d), some (.int now'), y4] = [some (.ref la), some (.int b), some (.ref d), some (.int (nowA b (L.take (i + 1)))), z4] ∧ Same H (upd H' d (.lst (((Nw.threeW b L).take i).map V.bl ++ [.bl (decide (V.int now' = V.int 3))]))) ∧ (upd H' d (.lst (((Nw.threeW b L).take i).map V.bl ++ [.bl (decide (V.int now' = V.int 3))]))) d = some (.lst (((Nw.threeW b L).take (i + 1)).map V.bl)) := by
        intro now' y4 e1
        have e3 : nowA b (L.take (i + 1)) = now' := by
          rw [List.take_add_one, hg, e1]
          exact nowA_snoc g _ _
        refine ⟨y4, by rw [e3], fun a o e => ?_, ?_⟩
        · rw [upd_ne (ne_of_none e nd)]; exact sm _ _ e
        · rw [upd_same, threeW_step b hg, List.map_append, e3, dec_eq_int]
          rfl
      dsimp only [gName]
      refine seqIf g.1.measuring (fun Q2 q2 => ?_) ?_
      · refine ⟨_, rfl, _, _, _, _, rfl, rfl, seqT ht, atI_nat (j := 0) rfl, rfl, _, rfl, ite2 (fun e => ?_) (fun e => ⟨_, rfl, _, _, _, _, rfl, rfl, seqT ht, atI_nat (j := 0) rfl, rfl, _, rfl, ?_⟩)⟩
        · rw [eq_m3] at e; rw [of_decide_eq_true e] at q2; exact q2
        · rw [eq_m3] at e; rw [eq_m2]; rw [measuring_m2 (by simpa using e)] at q2; exact q2
      refine ite2 (fun em => ?_) (fun em => ?_)
      · refine ⟨_, rfl, _, _, _, _, rfl, rfl, seqT ht, atI_nat (j := 0) rfl, _, _, rfl, intK em, (by show (1 : Nat) ≤ 640; decide), ?_⟩
        exact ⟨_, rfl, .inl ⟨rfl, _, seqL hd⟩, _, rfl, rfl, d, _, _, rfl, rfl, hd, hlt, nxt _ _ (mI_now em _)⟩
      · exact ⟨_, rfl, .inl ⟨rfl, _, seqL hd⟩, _, rfl, rfl, d, _, _, rfl, rfl, hd, hlt, nxt _ _ (no_now em _)⟩
    · rintro σ H' ⟨y4, rfl, sm, hd⟩
      have e : (Nw.threeW b L).take vs.length = Nw.threeW b L := List.take_of_length_le (by rw [Nw.threeW_length, hA.1]; simp)
      rw [e] at hd
      exact ⟨_, rfl, q H' d sm nd hd⟩
end
end Nt
namespace Nt
open PySem PySem.Spec PyProof.Rows L2
section
variable {P : Program} {w : World} {K : PySem.W.Frag} {mg : Str → Option Value} {base : Heap}
theorem dec0 (r : Nat) : decide (V.int (r : Int) = V.int 0) = decide (r = 0) := by rw [dec_eq_int]; by_cases h : r = 0 <;> simp [h]
theorem dec1 (r : Nat) : decide (V.int (r : Int) = V.int 1) = decide (r = 1) := by
  rw [dec_eq_int]
  by_cases h : r = 1
  · rw [decide_eq_true h]; exact decide_eq_true (by omega)
  · rw [decide_eq_false h]; exact decide_eq_false (by omega)
theorem dec2 (r : Nat) : decide (V.int (r : Int) = V.int 2) = decide (r = 2) := by
  rw [dec_eq_int]
  by_cases h : r = 2
  · rw [decide_eq_true h]; exact decide_eq_true (by omega)
  · rw [decide_eq_false h]; exact decide_eq_false (by omega)
theorem ixN_of {n j : Nat} {i : Int} (e : i = (j : Int)) (h : j < n) : ixN n i = some j := by
  unfold ixN
  rw [e, if_pos (by omega), if_pos (by omega)]
  rfl
theorem at_of' {α : Type} {xs : List α} {z : Int} {j : Nat} {v : α} (e : z = (j : Int)) (h : xs[j]? = some v) : atI xs z = some v := by
  rw [e]; exact atI_nat h
/-! tests and truth values whose parts are known -/
theorem orB {t u : TT} {σ : L2.St} {H : Hp} {Q : Bool → Hp → Prop} (b c : Bool) (h1 : ∀ Q : Bool → Hp → Prop, Q b H → t σ H Q) (h2 : ∀ Q : Bool → Hp → Prop, Q c H → u σ H Q) (k : Q (b || c) H) : tOr t u σ H Q := h1 _ (by
  cases b with
  | true => exact iteT k
  | false => exact iteF (h2 _ k))
theorem andB {t u : TT} {σ : L2.St} {H : Hp} {Q : Bool → Hp → Prop} (b c : Bool) (h1 : ∀ Q : Bool → Hp → Prop, Q b H → t σ H Q) (h2 : ∀ Q : Bool → Hp → Prop, Q c H → u σ H Q) (k : Q (b && c) H) : tAnd t u σ H Q := h1 _ (by
  cases b with
  | true => exact iteT (h2 _ k)
  | false => exact iteF k)
theorem notB {t : TT} {σ : L2.St} {H : Hp} {Q : Bool → Hp → Prop} (b : Bool) (h1 : ∀ Q : Bool → Hp → Prop, Q b H → t σ H Q) (k : Q (!b) H) : tNot t σ H Q := h1 _ k
theorem orV {t u : TE} {σ : L2.St} {H : Hp} {Q : VK} (b c : Bool) (h1 : ∀ Q : VK, Q (.bl b) H → t σ H Q) (h2 : ∀ Q : VK, Q (.bl c) H → u σ H Q) (k : Q (.bl (b || c)) H) : tOrV t u σ H Q := h1 _ ⟨b, rfl, by
  cases b with
  | true => exact iteT k
  | false => exact iteF (h2 _ k)⟩
theorem andV {t u : TE} {σ : L2.St} {H : Hp} {Q : VK} (b c : Bool) (h1 : ∀ Q : VK, Q (.bl b) H → t σ H Q) (h2 : ∀ Q : VK, Q (.bl c) H → u σ H Q) (k : Q (.bl (b && c)) H) : tAndV t u σ H Q := h1 _ ⟨b, rfl, by
  cases b with
  | true => exact iteT (h2 _ k)
  | false => exact iteF k⟩
def sp_l_run : Sp := fun vs H Q _ => ∃ (la td : Addr) (L : List Nw.Sg) (T : List Int) (lo hi : Nat), vs = [.ref la, .ref td, .int lo, .int hi] ∧ Line H la L ∧ H td = some (.lst (T.map V.int)) ∧ T.length = L.length ∧ lo < hi ∧ hi ≤ L.length ∧
  ∀ H', But [td] H H' → H' td = some (.lst ((Nw.runM L T lo hi).1.map V.int)) → Q (.bl (Nw.runM L T lo hi).2) H'
theorem ok_l_run {f : Addr} {fd : FuncData} (F : Fun K "_law_run" "_law_run" s_l_run f fd) (z_len : mg "len" = none) : FnOk P w K mg base CX0 1 f fd ["_law_line_here", "_law_told", "_law_low", "_law_high"] sp_l_run := by
  refine F.ok sc_l_run (fun vs H Q E h => ?_) (fun cdv A outer s H vs Q E hr h => ?_)
  · obtain ⟨la, td, L, T, lo, hi, rfl, _⟩ := h
    rfl
  · obtain ⟨la, td, L, T, lo, hi, rfl, ⟨vs, hL, hA⟩, hT, hTL, hlt, hle, q⟩ := h
    -- an item of the line, as a kind
    have item : ∀ j : Nat, j < L.length → ∃ t, vs[j]? = some (.ref t) ∧ H t = some (.tup [.str (kT (Nw.kindAt L j)), .int (L.getD j (.dot, 0)).2]) := fun j hj => by
      obtain ⟨v, hv, ⟨t, rfl, ht⟩⟩ := hA.get (List.getElem?_eq_getElem hj)
      refine ⟨t, hv, ?_⟩
      unfold Nw.kindAt
      rw [List.getElem?_eq_getElem hj, List.getD_eq_getElem?_getD, List.getElem?_eq_getElem hj]
      exact ht
    have none_ : ∀ j : Nat, ¬ j < L.length → Nw.kindAt L j = .dot := fun j hj => by
      unfold Nw.kindAt
      rw [List.getElem?_eq_none_iff.mpr (by omega)]
    refine ⟨_, (pss_cons (ps_set (i := 4) sc_l_run.nd rfl (.inl rfl) (pe_op op_mod (pe_op op_sub (pv 3) (pv 2)) pe_int))
      (pss_cons (ps_set (i := 5) sc_l_run.nd rfl (.inl rfl) (pe_ifExp (pt_cmpR op_lt (pv 3) (pe_callB call_len_seq (by rfl) z_len PySem.boot_len (pa_cons (pv 0) pa_nil)) (nomark _)) (pe_ix ix_tup (pe_ix ix_list (pv 0) (pv 3) (fun _ _ => rfl)) pe_int (fun _ _ => rfl)) pe_str))
      (pss_cons (ps_set (i := 6) sc_l_run.nd rfl (.inl rfl) (pe_ifExp (pt_cmpR op_lt (pe_op op_add (pv 3) pe_int) (pe_callB call_len_seq (by rfl) z_len PySem.boot_len (pa_cons (pv 0) pa_nil)) (nomark _)) (pe_ix ix_tup (pe_ix ix_list (pv 0) (pe_op op_add (pv 3) pe_int) (fun _ _ => rfl)) pe_int (fun _ _ => rfl)) pe_str))
      (pss_cons (ps_set (i := 7) sc_l_run.nd rfl (.inl rfl) (pe_and (pe_cmpR op_gt (pv 2) pe_int (nomark _)) (pe_and (pe_cmpR op_eq (pe_ix ix_tup (pe_ix ix_list (pv 0) (pe_op op_sub (pv 2) pe_int) (fun _ _ => rfl)) pe_int (fun _ _ => rfl)) pe_str (nomark _)) (pe_one (pe_cmpR op_eq (pe_ix ix_list (pv 1) (pe_op op_sub (pv 2) pe_int) (fun _ _ => rfl)) pe_int (nomark _))))))
      (pss_cons (ps_set (i := 8) sc_l_run.nd rfl (.inl rfl) (pe_and (pe_cmpR op_eq (pv 5) pe_str (nomark _)) (pe_one (pe_cmpR op_notIn_sign (pv 6) pe_str rfl))))
      (pss_cons (ps_if (PW.pt (pw_and (pt_cmpR op_eq (pv 4) pe_int (nomark _)) (pw_and (pt_cmpR op_in_sign (pv 5) pe_str rfl) (pw_and1 (pt_cmpR op_eq (pe_ix ix_tup (pe_ix ix_list (pv 0) (pe_op op_sub (pv 3) pe_int) (fun _ _ => rfl)) pe_int (fun _ _ => rfl)) pe_str (nomark _))))))
        (pss_cons (ps_asg pe_int (pg_sub (pv 1) (pe_op op_sub (pv 3) pe_int) set_list))
        (pss_one (ps_ret pe_bl)))
        pss_nil)
      (pss_cons (ps_if (PW.pt (pw_or (PW.pt (pw_and (pt_cmpR op_eq (pv 4) pe_int (nomark _)) (pw_and1 (pt_val (pv 7))))) (pw_or1 (PW.pt (pw_and (pt_cmpR op_eq (pv 4) pe_int (nomark _)) (pw_and (pt_val (pv 7)) (pw_and1 (pt_val (pv 8)))))))))
        (pss_one (ps_asg pe_int (pg_sub (pv 1) (pe_op op_sub (pv 2) pe_int) set_list)))
        pss_nil)
      (pss_cons (ps_if (PW.pt (pw_or (PW.pt (pw_and (pt_cmpR op_eq (pv 4) pe_int (nomark _)) (pw_and (pt_val (pv 8)) (pw_and1 (pt_not (pt_val (pv 7))))))) (pw_or1 (PW.pt (pw_and (pt_cmpR op_eq (pv 4) pe_int (nomark _)) (pw_and (pt_val (pv 7)) (pw_and1 (pt_val (pv 8)))))))))
        (pss_one (ps_asg pe_int (pg_sub (pv 1) (pv 3) set_list)))
        pss_nil)
      (pss_one (ps_ret (pe_or (pe_cmpR op_eq (pv 4) pe_int (nomark _)) (pe_or (pe_and (pe_cmpR op_eq (pv 4) pe_int (nomark _)) (pe_one (pe_or (pv 7) (pe_one (pv 8))))) (pe_one (pe_and (pe_cmpR op_eq (pv 4) pe_int (nomark _)) (pe_and (pv 7) (pe_one (pv 8))))))))))))))))), ?_⟩
    -- rest
    refine seqAsg (.int (((hi - lo) % 3 : Nat) : Int)) (fun Q2 q2 => ?_) ?_
    · have e : ((hi : Int) - (lo : Int)) % 3 = (((hi - lo) % 3 : Nat) : Int) := by omega
      rw [← e] at q2
      exact ⟨_, rfl, _, rfl, _, _, rfl, rfl, _, _, rfl, rfl, (by show (0 : Int) < 3; decide), q2⟩
    generalize hr3 : (hi - lo) % 3 = r
    dsimp only [gName]
    -- behind, after
    refine seqAsg (.str (kT (Nw.kindAt L hi))) (fun Q2 q2 => ?_) ?_
    · refine ⟨_, rfl, _, rfl, la, vs, rfl, .inl (seqL hL), _, _, rfl, rfl, _, rfl, ite2 (fun e => ?_) (fun e => ?_)⟩
      · have hj : hi < L.length := by have := of_decide_eq_true e; rw [← hA.1]; omega
        obtain ⟨t, hv, ht⟩ := item hi hj
        exact ⟨_, rfl, _, rfl, la, vs, _, _, rfl, rfl, seqL hL, atI_nat hv, _, _, _, _, rfl, rfl, seqT ht, atI_nat (j := 0) rfl, q2⟩
      · have hj : ¬ hi < L.length := fun z => e (decide_eq_true (by rw [← hA.1] at z; omega))
        rw [none_ hi hj, kdot] at q2
        exact q2
    dsimp only [gName]
    refine seqAsg (.str (kT (Nw.kindAt L (hi + 1)))) (fun Q2 q2 => ?_) ?_
    · refine ⟨_, rfl, _, _, rfl, rfl, _, rfl, la, vs, rfl, .inl (seqL hL), _, _, rfl, rfl, _, rfl, ite2 (fun e => ?_) (fun e => ?_)⟩
      · have hj : hi + 1 < L.length := by have := of_decide_eq_true e; rw [← hA.1]; omega
        obtain ⟨t, hv, ht⟩ := item (hi + 1) hj
        exact ⟨_, rfl, _, rfl, _, _, rfl, rfl, la, vs, _, _, rfl, rfl, seqL hL, at_of' (j := hi + 1) (by omega) hv, _, _, _, _, rfl, rfl, seqT ht, atI_nat (j := 0) rfl, q2⟩
      · have hj : ¬ hi + 1 < L.length := fun z => e (decide_eq_true (by rw [← hA.1] at z; omega))
        rw [none_ (hi + 1) hj, kdot] at q2
        exact q2
    dsimp only [gName]
    -- left
    refine seqAsg (.bl (Nw.runLeft L T lo)) (fun Q2 q2 => ?_) ?_
    · unfold Nw.runLeft at q2
      refine ⟨_, rfl, _, _, rfl, rfl, _, rfl, ite2 (fun e => ?_) (fun e => ?_)⟩
      · have h0 : 0 < lo := by have := of_decide_eq_true e; omega
        obtain ⟨t, hv, ht⟩ := item (lo - 1) (by omega)
        rw [decide_eq_true h0] at q2
        refine ⟨_, rfl, _, rfl, _, _, rfl, rfl, la, vs, _, _, rfl, rfl, seqL hL, at_of' (j := lo - 1) (by omega) hv, _, _, _, _, rfl, rfl, seqT ht, atI_nat (j := 0) rfl, rfl, _, rfl, ?_⟩
        rw [eq_G]
        refine ite2 (fun e2 => ?_) (fun e2 => ?_)
        · have hlT : lo - 1 < T.length := by omega
          have hTg : (T.map V.int)[lo - 1]? = some (.int T[lo - 1]) := by rw [List.getElem?_map, List.getElem?_eq_getElem hlT]; rfl
          refine ⟨_, rfl, _, rfl, _, _, rfl, rfl, td, _, _, _, rfl, rfl, seqL hT, at_of' (j := lo - 1) (by omega) hTg, rfl, ?_⟩
          rw [dec_eq_int]
          have e3 : decide (T[lo - 1]? = some 3) = decide (T[lo - 1] = 3) := by rw [List.getElem?_eq_getElem hlT]; by_cases h : T[lo - 1] = 3 <;> simp [h]
          rw [e2, e3] at q2
          simpa using q2
        · have : decide (Nw.kindAt L (lo - 1) = .G) = false := by simpa using e2
          rw [this] at q2
          simpa using q2
      · have h0 : ¬ 0 < lo := fun z => e (decide_eq_true (by omega))
        rw [decide_eq_false h0] at q2
        simpa using q2
    generalize hleft : Nw.runLeft L T lo = left
    dsimp only [gName]
    -- right
    refine seqAsg (.bl (Nw.runRight L hi)) (fun Q2 q2 => ?_) ?_
    · unfold Nw.runRight at q2
      refine ⟨_, rfl, rfl, _, rfl, ?_⟩
      rw [eq_G]
      refine ite2 (fun e => ?_) (fun e => ?_)
      · refine ⟨_, rfl, _, _, rfl, rfl, ?_⟩
        rw [in_great]
        rw [e] at q2
        simpa using q2
      · have : decide (Nw.kindAt L hi = .G) = false := by simpa using e
        rw [this] at q2
        simpa using q2
    generalize hright : Nw.runRight L hi = right
    dsimp only [gName]
    have eM : Nw.runM L T lo hi = (if r = 2 ∧ (Nw.kindAt L hi).great = true ∧ Nw.kindAt L (hi - 1) = .s then (T.set (hi - 1) 2, true)
        else ((if (r = 1 ∧ right = true ∧ left = false) ∨ (r = 2 ∧ left = true ∧ right = true) then (if (r = 1 ∧ left = true) ∨ (r = 2 ∧ left = true ∧ right = true) then T.set (lo - 1) 2 else T).set hi 2 else (if (r = 1 ∧ left = true) ∨ (r = 2 ∧ left = true ∧ right = true) then T.set (lo - 1) 2 else T)),
          decide (r = 0) || (decide (r = 1) && (left || right)) || (decide (r = 2) && left && right))) := by
      unfold Nw.runM
      simp only [hr3, hleft, hright]
    rw [eM] at q
    have r3 : r < 3 := by rw [← hr3]; exact Nat.mod_lt _ (by decide)
    -- a doubled small note
    refine seqIf (decide (r = 2 ∧ (Nw.kindAt L hi).great = true ∧ Nw.kindAt L (hi - 1) = .s)) (fun Q2 q2 => ?_) ?_
    · refine ⟨_, rfl, rfl, _, rfl, ?_⟩
      rw [dec2]
      refine ite2 (fun e1 => ?_) (fun e1 => ?_)
      · refine ⟨_, rfl, _, _, rfl, rfl, _, rfl, ?_⟩
        rw [in_great]
        refine ite2 (fun e2 => ?_) (fun e2 => ?_)
        · obtain ⟨t, hv, ht⟩ := item (hi - 1) (by omega)
          refine ⟨_, rfl, _, rfl, _, _, rfl, rfl, la, vs, _, _, rfl, rfl, seqL hL, at_of' (j := hi - 1) (by omega) hv, _, _, _, _, rfl, rfl, seqT ht, atI_nat (j := 0) rfl, rfl, _, rfl, ?_⟩
          rw [eq_s]
          have e1' := of_decide_eq_true e1
          have e3 : decide (r = 2 ∧ (Nw.kindAt L hi).great = true ∧ Nw.kindAt L (hi - 1) = .s) = decide (Nw.kindAt L (hi - 1) = .s) := by simp [e1', e2]
          rw [e3] at q2
          exact q2
        · simp [e2] at q2
          exact q2
      · have e1' : ¬ r = 2 := by simpa using e1
        simp [e1'] at q2
        exact q2
    refine ite2 (fun e => ?_) (fun e => ?_)
    · have hc := of_decide_eq_true e
      rw [if_pos hc] at q
      refine ⟨_, rfl, _, rfl, _, _, rfl, rfl, td, _, _, hi - 1, rfl, rfl, hT, ixN_of (by omega) (by rw [List.length_map]; omega), ?_⟩
      refine q _ (But.upd (by simp)) ?_
      rw [upd_same, List.map_set]
    · have hc : ¬ (r = 2 ∧ (Nw.kindAt L hi).great = true ∧ Nw.kindAt L (hi - 1) = .s) := by simpa using e
      rw [if_neg hc] at q
      dsimp only [tNext]
      have w0 : ∀ (Q2 : VK) (H2 : Hp) (σ : L2.St), σ[4]? = some (some (.int (r : Int))) → Q2 (.bl (decide (r = 0))) H2 → tOp rEq (tVar 4) (tC (V.int 0)) σ H2 Q2 := fun Q2 H2 σ h4 q2 => ⟨_, h4, rfl, by rw [dec0]; exact q2⟩
      have w1 : ∀ (Q2 : VK) (H2 : Hp) (σ : L2.St), σ[4]? = some (some (.int (r : Int))) → Q2 (.bl (decide (r = 1))) H2 → tOp rEq (tVar 4) (tC (V.int 1)) σ H2 Q2 := fun Q2 H2 σ h4 q2 => ⟨_, h4, rfl, by rw [dec1]; exact q2⟩
      have w2 : ∀ (Q2 : VK) (H2 : Hp) (σ : L2.St), σ[4]? = some (some (.int (r : Int))) → Q2 (.bl (decide (r = 2))) H2 → tOp rEq (tVar 4) (tC (V.int 2)) σ H2 Q2 := fun Q2 H2 σ h4 q2 => ⟨_, h4, rfl, by rw [dec2]; exact q2⟩
      -- the value told at last
      have last : ∀ (H2 : Hp) (Q2 : VK) (σ : L2.St), σ[4]? = some (some (.int (r : Int))) → σ[7]? = some (some (.bl left)) → σ[8]? = some (some (.bl right)) → Q2 (.bl (decide (r = 0) || (decide (r = 1) && (left || right)) || (decide (r = 2) && left && right))) H2 →
          tOrV (tOp rEq (tVar 4) (tC (V.int 0))) (tOrV (tAndV (tOp rEq (tVar 4) (tC (V.int 1))) (tOrV (tVar 7) (tVar 8))) (tAndV (tOp rEq (tVar 4) (tC (V.int 2))) (tAndV (tVar 7) (tVar 8)))) σ H2 Q2 := by
        intro H2 Q2 σ h4 h7 h8 q2
        refine orV (decide (r = 0)) ((decide (r = 1) && (left || right)) || (decide (r = 2) && (left && right))) (fun Q3 q3 => w0 Q3 H2 σ h4 q3) (fun Q3 q3 => ?_) (by rw [← Bool.or_assoc, ← Bool.and_assoc]; exact q2)
        refine orV (decide (r = 1) && (left || right)) (decide (r = 2) && (left && right)) (fun Q4 q4 => ?_) (fun Q4 q4 => ?_) q3
        · exact andV _ _ (fun Q5 q5 => w1 Q5 H2 σ h4 q5) (fun Q5 q5 => orV _ _ (fun Q6 q6 => ⟨_, h7, q6⟩) (fun Q6 q6 => ⟨_, h8, q6⟩) q5) q4
        · exact andV _ _ (fun Q5 q5 => w2 Q5 H2 σ h4 q5) (fun Q5 q5 => andV _ _ (fun Q6 q6 => ⟨_, h7, q6⟩) (fun Q6 q6 => ⟨_, h8, q6⟩) q5) q4
      -- the left note shortened
      refine seqIf ((decide (r = 1) && left) || (decide (r = 2) && (left && right))) (fun Q2 q2 => ?_) ?_
      · refine orB _ _ (fun Q3 q3 => ?_) (fun Q3 q3 => ?_) q2
        · exact andB _ _ (fun Q4 q4 => w1 _ H _ rfl ⟨_, rfl, q4⟩) (fun Q4 q4 => ⟨_, rfl, _, rfl, q4⟩) q3
        · exact andB _ _ (fun Q4 q4 => w2 _ H _ rfl ⟨_, rfl, q4⟩) (fun Q4 q4 => andB _ _ (fun Q5 q5 => ⟨_, rfl, _, rfl, q5⟩) (fun Q5 q5 => ⟨_, rfl, _, rfl, q5⟩) q4) q3
      have c1 : ((decide (r = 1) && left) || (decide (r = 2) && (left && right))) = true ↔ (r = 1 ∧ left = true) ∨ (r = 2 ∧ left = true ∧ right = true) := by simp
      have c2 : ((decide (r = 1) && (right && !left)) || (decide (r = 2) && (left && right))) = true ↔ (r = 1 ∧ right = true ∧ left = false) ∨ (r = 2 ∧ left = true ∧ right = true) := by simp
      have lo0 : left = true → 0 < lo := fun z => by
        rw [← hleft] at z
        unfold Nw.runLeft at z
        simp only [Bool.and_eq_true, decide_eq_true_eq] at z
        exact z.1
      have hi0 : right = true → hi < L.length := fun z => by
        rw [← hright] at z
        unfold Nw.runRight at z
        by_cases h : hi < L.length
        · exact h
        · rw [none_ hi h] at z
          simp at z
      refine ite2 (fun e1 => ?_) (fun e1 => ?_)
      · have h1 := c1.mp e1
        rw [if_pos h1] at q
        have hl : left = true := h1.elim (fun z => z.2) (fun z => z.2.1)
        have h0 := lo0 hl
        refine ⟨_, rfl, _, rfl, _, _, rfl, rfl, td, _, _, lo - 1, rfl, rfl, hT, ixN_of (by omega) (by rw [List.length_map]; omega), ?_⟩
        dsimp only
        refine seqIf ((decide (r = 1) && (right && !left)) || (decide (r = 2) && (left && right))) (fun Q2 q2 => ?_) ?_
        · refine orB _ _ (fun Q3 q3 => ?_) (fun Q3 q3 => ?_) q2
          · exact andB _ _ (fun Q4 q4 => w1 _ _ _ rfl ⟨_, rfl, q4⟩) (fun Q4 q4 => andB _ _ (fun Q5 q5 => ⟨_, rfl, _, rfl, q5⟩) (fun Q5 q5 => notB _ (fun Q6 q6 => ⟨_, rfl, _, rfl, q6⟩) q5) q4) q3
          · exact andB _ _ (fun Q4 q4 => w2 _ _ _ rfl ⟨_, rfl, q4⟩) (fun Q4 q4 => andB _ _ (fun Q5 q5 => ⟨_, rfl, _, rfl, q5⟩) (fun Q5 q5 => ⟨_, rfl, _, rfl, q5⟩) q4) q3
        refine ite2 (fun e2 => ?_) (fun e2 => ?_)
        · have h2 := c2.mp e2
          rw [if_pos h2] at q
          have hr : right = true := h2.elim (fun z => z.2.1) (fun z => z.2.2)
          have h4 := hi0 hr
          refine ⟨_, rfl, _, rfl, td, _, _, hi, rfl, rfl, upd_same, ixN_of rfl (by rw [List.length_set, List.length_map]; omega), ?_⟩
          refine last _ _ _ rfl rfl rfl (q _ ((But.upd (by simp)).trans (But.upd (by simp))) ?_)
          rw [upd_same, List.map_set, List.map_set]
        · have h2 : ¬ _ := fun z => e2 (c2.mpr z)
          rw [if_neg h2] at q
          refine last _ _ _ rfl rfl rfl (q _ (But.upd (by simp)) ?_)
          rw [upd_same, List.map_set]
      · have h1 : ¬ _ := fun z => e1 (c1.mpr z)
        rw [if_neg h1] at q
        dsimp only [tNext]
        refine seqIf ((decide (r = 1) && (right && !left)) || (decide (r = 2) && (left && right))) (fun Q2 q2 => ?_) ?_
        · refine orB _ _ (fun Q3 q3 => ?_) (fun Q3 q3 => ?_) q2
          · exact andB _ _ (fun Q4 q4 => w1 _ _ _ rfl ⟨_, rfl, q4⟩) (fun Q4 q4 => andB _ _ (fun Q5 q5 => ⟨_, rfl, _, rfl, q5⟩) (fun Q5 q5 => notB _ (fun Q6 q6 => ⟨_, rfl, _, rfl, q6⟩) q5) q4) q3
          · exact andB _ _ (fun Q4 q4 => w2 _ _ _ rfl ⟨_, rfl, q4⟩) (fun Q4 q4 => andB _ _ (fun Q5 q5 => ⟨_, rfl, _, rfl, q5⟩) (fun Q5 q5 => ⟨_, rfl, _, rfl, q5⟩) q4) q3
        refine ite2 (fun e2 => ?_) (fun e2 => ?_)
        · have h2 := c2.mp e2
          rw [if_pos h2] at q
          have hr : right = true := h2.elim (fun z => z.2.1) (fun z => z.2.2)
          have h4 := hi0 hr
          refine ⟨_, rfl, _, rfl, td, _, _, hi, rfl, rfl, hT, ixN_of rfl (by rw [List.length_map]; omega), ?_⟩
          refine last _ _ _ rfl rfl rfl (q _ (But.upd (by simp)) ?_)
          rw [upd_same, List.map_set]
        · have h2 : ¬ _ := fun z => e2 (c2.mpr z)
          rw [if_neg h2] at q
          exact last _ _ _ rfl rfl rfl (q _ (.refl _ _) hT)
/-! ### the law's reader -/
def isPair (H : Hp) (v : V) (x : Nat × Nat) : Prop := ∃ t, v = .ref t ∧ H t = some (.tup [.int x.1, .int x.2])
theorem isPair.mono {H H' : Hp} (h : Tp H H') {v : V} {x : Nat × Nat} (r : isPair H v x) : isPair H' v x := by
  obtain ⟨t, e, ht⟩ := r; exact ⟨t, e, h _ _ ht⟩
def sp_l_read : Sp := fun vs H Q _ => ∃ (la : Addr) (b : Int) (L : List Nw.Sg), vs = [.ref la, .int b] ∧ Line H la L ∧ L.length ≤ 5000 ∧
  ∀ H' r td lf, Same H H' → H td = none → H' r = some (.tup [.ref td, .ref lf]) → H' td = some (.lst ((Nw.lawRead L b).1.map V.int)) → (∃ vs, H' lf = some (.lst vs) ∧ All2 (isPair H') vs (Nw.lawRead L b).2) → Q (.ref r) H'
theorem condT {c : TT} {σ : L2.St} {H : Hp} {C : Bool → Hp → Prop} (bb : Bool) (h : ∀ Q : Bool → Hp → Prop, Q bb H → c σ H Q) (k : C bb H) : c σ H C := h _ k
theorem hiM_go {L : List Nw.Sg} {th : List Bool} {hi : Nat} (h1 : hi < L.length) (h2 : (Nw.kindAt L hi).small = true) (h3 : th[hi]? = some true) : Nw.hiM L th hi = Nw.hiM L th (hi + 1) := by
  rw [Nw.hiM, dif_pos h1, if_pos ⟨h2, h3⟩]
theorem hiM_stop {L : List Nw.Sg} {th : List Bool} {hi : Nat} (h : ¬ (hi < L.length ∧ (Nw.kindAt L hi).small = true ∧ th[hi]? = some true)) : Nw.hiM L th hi = hi := by
  rw [Nw.hiM]
  split
  · rename_i h1
    rw [if_neg fun z => h ⟨h1, z⟩]
  · rfl
theorem runM_length {L : List Nw.Sg} {T : List Int} {lo hi : Nat} : (Nw.runM L T lo hi).1.length = T.length := by
  unfold Nw.runM
  dsimp only
  repeat' split
  all_goals simp
theorem ok_l_read {f fB fT fR : Addr} {fd fdB fdT fdR : FuncData} (F : Fun K "_law_read" "_law_read" s_l_read f fd) (D_l_base : DefAt K mg "_law_base" fB fdB ["_law_line_here", "_law_begin_here"]) (G_l_base : FnOk P w K mg base CX0 1 fB fdB ["_law_line_here", "_law_begin_here"] sp_l_base)
    (D_l_three : DefAt K mg "_law_three" fT fdT ["_law_line_here", "_law_begin_here"]) (G_l_three : FnOk P w K mg base CX0 1 fT fdT ["_law_line_here", "_law_begin_here"] sp_l_three)
    (D_l_run : DefAt K mg "_law_run" fR fdR ["_law_line_here", "_law_told", "_law_low", "_law_high"]) (G_l_run : FnOk P w K mg base CX0 1 fR fdR ["_law_line_here", "_law_told", "_law_low", "_law_high"] sp_l_run)
    (z_len : mg "len" = none) (z_max : mg "max" = none) : FnOk P w K mg base CX0 2 f fd ["_law_line_here", "_law_begin_here"] sp_l_read := by
  refine F.ok sc_l_read (fun vs H Q E h => ?_) (fun cdv A outer s H vs Q E hr h => ?_)
  · obtain ⟨la, b, L, rfl, _⟩ := h
    rfl
  · obtain ⟨la, b, L, rfl, hLine, hlen, q⟩ := h
    refine ⟨_, (pss_cons (ps_set (i := 2) sc_l_read.nd rfl (.inl rfl) (pe_call G_l_base (hr.mono (by decide)) (by rfl) D_l_base.g D_l_base.kp D_l_base.b .nil pass0 (pa_cons (pv 0) (pa_cons (pv 1) pa_nil))))
      (pss_cons (ps_set (i := 3) sc_l_read.nd rfl (.inl rfl) (pe_call G_l_three (hr.mono (by decide)) (by rfl) D_l_three.g D_l_three.kp D_l_three.b .nil pass0 (pa_cons (pv 0) (pa_cons (pv 1) pa_nil))))
      (pss_cons (ps_set (i := 4) sc_l_read.nd rfl (.inl rfl) (pe_lst pa_nil))
      (pss_cons (ps_set (i := 5) sc_l_read.nd rfl (.inl rfl) pe_int)
      (pss_cons (ps_while PassesOwn.never (pt_cmpR op_lt (pv 5) (pe_callB call_len_seq (by rfl) z_len PySem.boot_len (pa_cons (pv 0) pa_nil)) (nomark _))
        (pss_cons (ps_set (i := 6) sc_l_read.nd rfl (.inl rfl) (pv 5))
        (pss_cons (ps_while PassesOwn.never (PW.pt (pw_and (pt_cmpR op_lt (pv 6) (pe_callB call_len_seq (by rfl) z_len PySem.boot_len (pa_cons (pv 0) pa_nil)) (nomark _)) (pw_and (pt_cmpR op_in_sign (pe_ix ix_tup (pe_ix ix_list (pv 0) (pv 6) (fun _ _ => rfl)) pe_int (fun _ _ => rfl)) pe_str rfl) (pw_and1 (pt_val (pe_ix ix_list (pv 3) (pv 6) (fun _ _ => rfl)))))))
          (pss_one (ps_set (i := 6) sc_l_read.nd rfl (.inl rfl) (pe_op op_add (pv 6) pe_int))))
        (pss_cons (ps_if (PW.pt (pw_and (pt_cmpR op_gt (pv 6) (pv 5) (nomark _)) (pw_and1 (pt_not (pt_val (pe_call G_l_run (hr.mono (by decide)) (by rfl) D_l_run.g D_l_run.kp D_l_run.b .nil pass0 (pa_cons (pv 0) (pa_cons (pv 2) (pa_cons (pv 5) (pa_cons (pv 6) pa_nil))))))))))
          (pss_one (ps_expr (pe_bm PySem.F.plainAttrs_list PySem.F.slot_list_append PySem.F.type_list_append mt_append (pv 4) (pa_cons (pe_tup (pa_cons (pv 5) (pa_cons (pv 6) pa_nil))) pa_nil))))
          pss_nil)
        (pss_one (ps_set (i := 5) sc_l_read.nd rfl (.inl rfl) (pe_callB (call_max2 rfl) (by rfl) z_max (by decide +kernel) (pa_cons (pv 6) (pa_cons (pe_op op_add (pv 5) pe_int) pa_nil)))))))))
      (pss_one (ps_ret (pe_tup (pa_cons (pv 2) (pa_cons (pv 4) pa_nil)))))))))), ?_⟩
    refine ⟨_, rfl, _, rfl, la, b, L, rfl, hLine, hlen, fun H1 td sm1 ntd htd => ?_⟩
    refine ⟨_, rfl, _, rfl, la, b, L, rfl, hLine.same sm1, hlen, fun H2 th sm2 nth hth => ?_⟩
    refine ⟨Nat.zero_le _, fun lf nlf => ?_⟩
    have sm3 : Same H2 (upd H2 lf (.lst [])) := same_upd nlf
    obtain ⟨vs, hL, hA⟩ := hLine
    have smA := sm1.trans (sm2.trans sm3)
    have nth0 : H th = none := sm1.free nth
    have nlf0 : H lf = none := (sm1.trans sm2).free nlf
    have netdth : td ≠ th := ne_of_none htd nth
    have netdlf : td ≠ lf := ne_of_none (sm2 _ _ htd) nlf
    have nethlf : th ≠ lf := ne_of_none hth nlf
    have evs : vs.length = L.length := hA.1
    have item : ∀ {H' : Hp}, Same H H' → ∀ j : Nat, j < L.length → ∃ t, vs[j]? = some (.ref t) ∧ H' t = some (.tup [.str (kT (Nw.kindAt L j)), .int (L.getD j (.dot, 0)).2]) := fun {H'} sm j hj => by
      obtain ⟨v, hv, ⟨t, rfl, ht⟩⟩ := hA.get (List.getElem?_eq_getElem hj)
      refine ⟨t, hv, ?_⟩
      unfold Nw.kindAt
      rw [List.getElem?_eq_getElem hj, List.getD_eq_getElem?_getD, List.getElem?_eq_getElem hj]
      exact sm _ _ ht
    -- while low < len(line)
    refine ⟨fun m σ H' => ∃ (lo : Nat) (T : List Int) (left : List (Nat × Nat)) (ps : List V) (y6 : Option V), σ = [some (.ref la), some (.int b), some (.ref td), some (.ref th), some (.ref lf), some (.int lo), y6] ∧ Same H H' ∧ H' td = some (.lst (T.map V.int)) ∧ T.length = L.length ∧ H' th = some (.lst ((Nw.threeW b L).map V.bl)) ∧ H' lf = some (.lst ps) ∧ All2 (isPair H') ps left ∧ left.length ≤ lo ∧ lo ≤ L.length ∧
        Nw.readM L (Nw.threeW b L) lo T left = Nw.lawRead L b ∧ m = L.length - lo, ⟨_, 0, Nw.baseW b L, [], [], none, rfl, smA, ?_, Nw.baseW_length L b, ?_, upd_same, All2.nil, Nat.le_refl _, Nat.zero_le _, rfl, rfl⟩, ?_⟩
    · rw [upd_ne netdlf]; exact sm2 _ _ htd
    · rw [upd_ne nethlf]; exact hth
    rintro m σ H' ⟨lo, T, left, ps, y6, rfl, sm, htd', hT, hth', hlf', hps, hll, hlo, hread, rfl⟩
    have hL' := sm _ _ hL
    refine ⟨_, rfl, _, rfl, la, vs, rfl, .inl (seqL hL'), _, _, rfl, rfl, _, rfl, ite2 (fun e => ?_) (fun e => ?_)⟩
    · have hlt : lo < L.length := by have := of_decide_eq_true e; omega
      refine ⟨fun σ' H'' => ∃ (lo' : Nat) (T : List Int) (left : List (Nat × Nat)) (ps : List V) (y6 : Option V), σ' = [some (.ref la), some (.int b), some (.ref td), some (.ref th), some (.ref lf), some (.int lo'), y6] ∧ Same H H'' ∧ H'' td = some (.lst (T.map V.int)) ∧ T.length = L.length ∧ H'' th = some (.lst ((Nw.threeW b L).map V.bl)) ∧ H'' lf = some (.lst ps) ∧ All2 (isPair H'') ps left ∧ left.length ≤ lo' ∧ lo' ≤ L.length ∧
        Nw.readM L (Nw.threeW b L) lo' T left = Nw.lawRead L b ∧ lo < lo', ?_, ?_⟩
      · rintro σ' H'' ⟨lo', T, left, ps, y6, rfl, a1, a2, a3, a4, a5, a6, a7, a8, a9, a10⟩
        exact ⟨L.length - lo', by omega, lo', T, left, ps, y6, rfl, a1, a2, a3, a4, a5, a6, a7, a8, a9, rfl⟩
      -- high = low; the inner while
      refine ⟨_, rfl, ?_⟩
      refine ⟨fun m σ H'' => ∃ (hi : Nat), σ = [some (.ref la), some (.int b), some (.ref td), some (.ref th), some (.ref lf), some (.int lo), some (.int hi)] ∧ H'' = H' ∧ lo ≤ hi ∧ hi ≤ L.length ∧ Nw.hiM L (Nw.threeW b L) hi = Nw.hiM L (Nw.threeW b L) lo ∧ m = L.length - hi, ⟨_, lo, rfl, rfl, Nat.le_refl _, hlo, rfl, rfl⟩, ?_⟩
      rintro m σ H'' ⟨hi, rfl, rfl, hh1, hh2, hh3, rfl⟩
      have hlen3 : (Nw.threeW b L).length = L.length := Nw.threeW_length L b
      have stop : Nw.hiM L (Nw.threeW b L) lo = hi → Nw.readM L (Nw.threeW b L) lo T left = (if lo < hi then Nw.readM L (Nw.threeW b L) (max hi (lo + 1)) (Nw.runM L T lo hi).1 (if (Nw.runM L T lo hi).2 = true then left else left ++ [(lo, hi)]) else Nw.readM L (Nw.threeW b L) (max hi (lo + 1)) T left) := fun z => by
        rw [Nw.readM, dif_pos hlt, z]
      have mx : (if ((lo : Int) + 1) > (hi : Int) then (lo : Int) + 1 else (hi : Int)) = ((max hi (lo + 1) : Nat) : Int) := by split <;> omega
      refine condT (decide (hi < L.length) && ((Nw.kindAt L hi).small && decide ((Nw.threeW b L)[hi]? = some true))) (fun Q2 q2 => ?_) (ite2 (fun a => ?_) (fun a => ?_))
      · refine ⟨_, rfl, _, rfl, la, vs, rfl, .inl (seqL hL'), _, _, rfl, rfl, _, rfl, ite2 (fun a1 => ?_) (fun a1 => ?_)⟩
        · have h2 : hi < L.length := by have := of_decide_eq_true a1; omega
          rw [decide_eq_true h2, Bool.true_and] at q2
          obtain ⟨t, hv, ht⟩ := item sm hi h2
          refine ⟨_, rfl, _, rfl, la, vs, _, _, rfl, rfl, seqL hL', atI_nat hv, _, _, _, _, rfl, rfl, seqT ht, atI_nat (j := 0) rfl, _, _, rfl, rfl, _, rfl, ?_⟩
          rw [in_small]
          refine ite2 (fun a2 => ?_) (fun a2 => ?_)
          · rw [a2, Bool.true_and] at q2
            have h3 : hi < (Nw.threeW b L).length := by omega
            have hg3 : ((Nw.threeW b L).map V.bl)[hi]? = some (.bl (Nw.threeW b L)[hi]) := by rw [List.getElem?_map, List.getElem?_eq_getElem h3]; rfl
            refine ⟨_, rfl, _, rfl, th, _, _, _, rfl, rfl, seqL hth', atI_nat hg3, _, rfl, ?_⟩
            rw [List.getElem?_eq_getElem h3] at q2
            have e3 : decide (some (Nw.threeW b L)[hi] = some true) = (Nw.threeW b L)[hi] := by cases (Nw.threeW b L)[hi] <;> rfl
            rw [e3] at q2
            exact q2
          · have : (Nw.kindAt L hi).small = false := by simpa using a2
            rw [this, Bool.false_and] at q2
            exact q2
        · have h2 : ¬ hi < L.length := fun z => a1 (decide_eq_true (by omega))
          rw [decide_eq_false h2, Bool.false_and] at q2
          exact q2
      · -- high = high + 1
        simp only [Bool.and_eq_true, decide_eq_true_eq] at a
        obtain ⟨a1, a2, a3⟩ := a
        refine ⟨fun σ' H2 => σ' = [some (.ref la), some (.int b), some (.ref td), some (.ref th), some (.ref lf), some (.int lo), some (.int ((hi + 1 : Nat) : Int))] ∧ H2 = H'', ?_, ?_⟩
        · rintro σ' H2 ⟨rfl, rfl⟩
          exact ⟨L.length - (hi + 1), by omega, hi + 1, rfl, rfl, by omega, a1, by rw [← hiM_go a1 a2 a3]; exact hh3, rfl⟩
        · exact ⟨_, rfl, _, _, rfl, rfl, rfl, rfl⟩
      · -- behind the inner while
        have hz : Nw.hiM L (Nw.threeW b L) lo = hi := by
          rw [← hh3]
          refine hiM_stop fun ⟨z1, z2, z3⟩ => a ?_
          simp [z1, z2, z3]
        have hread2 := stop hz
        rw [hread] at hread2
        refine ⟨_, rfl, _, rfl, _, _, rfl, rfl, _, rfl, ite2 (fun c1 => ?_) (fun c1 => iteF ?_)⟩
        · have hlh : lo < hi := by have := of_decide_eq_true c1; omega
          rw [if_pos hlh] at hread2
          refine ⟨_, rfl, _, rfl, _, rfl, _, rfl, la, td, L, T, lo, hi, rfl, ⟨vs, hL', hA.mono fun v g => isSg.mono (.of sm)⟩, htd', hT, hlh, hh2, fun H4 hbut htd4 => ⟨_, rfl, ?_⟩⟩
          have n4 : ∀ {a : Addr} {o : HO}, a ≠ td → H'' a = some o → H4 a = some o := fun {a o} n e => hbut a o (by simpa using n) e
          have sm4 : Same H H4 := fun a o e => n4 (ne_of_none e ntd) (sm _ _ e)
          have tp4 : Tp H'' H4 := fun a xs e => n4 (ne_of e htd' (by intro z; cases z)) e
          have hth4 := n4 netdth.symm hth'
          have hlf4 := n4 netdlf.symm hlf'
          have hps4 := hps.mono fun v x => isPair.mono tp4
          refine ite2 (fun c2 => ?_) (fun c2 => ?_)
          · have hfl : (Nw.runM L T lo hi).2 = false := by simpa using c2
            rw [hfl, if_neg (by decide)] at hread2
            refine ⟨_, rfl, .inl ⟨rfl, _, seqL hlf4⟩, _, rfl, _, rfl, (by show 2 ≤ sizeLine; decide), fun t nt => ?_⟩
            have s5 : Same H4 (upd H4 t (.tup [.int lo, .int hi])) := same_upd nt
            have hlf5 := s5 _ _ hlf4
            have tp6 : Tp H4 (upd (upd H4 t (.tup [.int lo, .int hi])) lf (.lst (ps ++ [.ref t]))) := (Tp.of s5).trans (Tp.upd hlf5 (by intro xs z; cases z))
            have n6 : ∀ {a : Addr} {o : HO}, a ≠ lf → H4 a = some o → (upd (upd H4 t (.tup [.int lo, .int hi])) lf (.lst (ps ++ [.ref t]))) a = some o := fun {a o} n e => by rw [upd_ne n]; exact s5 _ _ e
            refine ⟨lf, _, _, rfl, rfl, hlf5, size_small (by rw [hps.1]; omega), ?_⟩
            refine ⟨_, rfl, _, rfl, _, _, rfl, rfl, _, _, rfl, max hi (lo + 1), (Nw.runM L T lo hi).1, left ++ [(lo, hi)], ps ++ [.ref t], _, by rw [← mx]; rfl, fun a o e => n6 (ne_of_none e nlf0) (sm4 _ _ e), n6 netdlf htd4, by rw [runM_length, hT], n6 nethlf hth4, upd_same, (hps4.mono fun v x => isPair.mono tp6).snoc ⟨t, rfl, ?_⟩, by rw [List.length_append, List.length_singleton]; omega, by omega, hread2.symm, by omega⟩
            rw [upd_ne (ne_of_none hlf4 nt).symm, upd_same]
          · have hfl : (Nw.runM L T lo hi).2 = true := by simpa using c2
            rw [hfl, if_pos rfl] at hread2
            exact ⟨_, rfl, _, rfl, _, _, rfl, rfl, _, _, rfl, max hi (lo + 1), (Nw.runM L T lo hi).1, left, ps, _, by rw [← mx]; rfl, sm4, htd4, by rw [runM_length, hT], hth4, hlf4, hps4, by omega, by omega, hread2.symm, by omega⟩
        · have hlh : ¬ lo < hi := fun z => c1 (decide_eq_true (by omega))
          rw [if_neg hlh] at hread2
          exact ⟨_, rfl, _, rfl, _, _, rfl, rfl, _, _, rfl, max hi (lo + 1), T, left, ps, _, by rw [← mx]; rfl, sm, htd', hT, hth', hlf', hps, by omega, by omega, hread2.symm, by omega⟩
    · have hlo2 : lo = L.length := by
        have : ¬ lo < L.length := fun z => e (decide_eq_true (by omega))
        omega
      have hread2 : Nw.lawRead L b = (T, left) := by rw [← hread, Nw.readM, dif_neg (by omega)]
      refine ⟨_, rfl, _, rfl, by show 2 ≤ sizeLine; decide, fun r nr => ?_⟩
      have s9 : Same H' (upd H' r (.tup [.ref td, .ref lf])) := same_upd nr
      refine q _ r td lf (sm.trans s9) ntd upd_same ?_ ⟨ps, s9 _ _ hlf', ?_⟩
      · rw [hread2]; exact s9 _ _ htd'
      · rw [hread2]; exact hps.mono fun v x => isPair.mono (Tp.of s9)
end
end Nt
namespace Nt
open PySem PySem.Spec PyProof.Rows L2
section
variable {P : Program} {w : World} {K : PySem.W.Frag} {mg : Str → Option Value} {base : Heap}
/-! ### firmed -/
theorem cut_to (xs : List V) (n : Nat) : cutV xs none (some (n : Int)) = xs.take n := by
  unfold cutV
  rw [HT.sIx_nat, HT.sIx_none, List.drop_zero, Nat.sub_zero]
  by_cases h : n ≤ xs.length
  · rw [Nat.min_eq_left h]
  · rw [Nat.min_eq_right (by omega), List.take_of_length_le (Nat.le_refl _), List.take_of_length_le (by omega)]
theorem cut_from (xs : List V) (n : Nat) : cutV xs (some (n : Int)) none = xs.drop n := by
  unfold cutV
  rw [HT.sIx_nat, HT.sIx_none]
  by_cases h : n ≤ xs.length
  · rw [Nat.min_eq_left h]
    exact List.take_of_length_le (by rw [List.length_drop]; omega)
  · rw [Nat.min_eq_right (by omega), List.drop_length, List.take_nil, List.drop_eq_nil_of_le (by omega)]
def prData (x : Nat × Nat) : PyData := .tuple [.int x.1, .int x.2]
theorem canLay_prs : ∀ l : List (Nat × Nat), PyData.canLayAll0 (l.map prData) = true
  | [] => rfl
  | x :: l => by
    rw [List.map_cons, PyData.canLayAll0, canLay_prs l]
    rfl
theorem depth_prs : ∀ l : List (Nat × Nat), PyData.depthAll (l.map prData) ≤ 1
  | [] => Nat.zero_le _
  | x :: l => by
    have := depth_prs l
    rw [List.map_cons, PyData.depthAll]
    have e : PyData.depth (prData x) = 1 := rfl
    omega
theorem shaped_prs (l : List (Nat × Nat)) : SeqAt.shaped (.list (l.map prData)) = true := by
  unfold SeqAt.shaped
  rw [PyData.canLay0, canLay_prs, PyData.depth]
  have := depth_prs l
  exact decide_eq_true (by omega)
theorem dp_prs {H : Hp} : ∀ {vs : List V} {l : List (Nat × Nat)}, All2 (isPair H) vs l → DpAll K H vs (l.map prData)
  | [], [], _ => .nil
  | [], _ :: _, h => by have := h.1; cases this
  | _ :: _, [], h => by have := h.1; cases this
  | v :: vs, x :: l, h => by
    obtain ⟨t, e, ht⟩ := h.2 0 v x rfl rfl
    subst e
    refine .cons (.tup (seqT ht) (.cons (.int _) (.cons (.int _) .nil))) (dp_prs ⟨by have := h.1; simpa using this, fun i v' g' a b => h.2 (i + 1) v' g' (by simpa using a) (by simpa using b)⟩)
def sp_l_firmed : Sp := fun vs H Q _ => ∃ (la : Addr) (b : Int) (L : List Nw.Sg), vs = [.ref la, .int b] ∧ Line H la L ∧ L.length ≤ 5000 ∧ (b = 2 ∨ b = 3) ∧ ∀ H' d, Same H H' → Line H' d (Nw.firmed L b) → Q (.ref d) H'
theorem ok_l_firmed {f fR : Addr} {fd fdR : FuncData} (F : Fun K "_law_firmed" "_law_firmed" s_l_firmed f fd) (D_l_read : DefAt K mg "_law_read" fR fdR ["_law_line_here", "_law_begin_here"]) (G_l_read : FnOk P w K mg base CX0 2 fR fdR ["_law_line_here", "_law_begin_here"] sp_l_read)
    (z_range : mg "range" = none) (z_len : mg "len" = none) : FnOk P w K mg base CX0 3 f fd ["_law_line_here", "_law_begin_here"] sp_l_firmed := by
  refine F.ok sc_l_firmed (fun vs H Q E h => ?_) (fun cdv A outer s H vs Q E hr h => ?_)
  · obtain ⟨la, b, L, rfl, _⟩ := h
    rfl
  · obtain ⟨la, b, L, rfl, hLine, hlen, hb, q⟩ := h
    refine ⟨_, (pss_cons (ps_for PassesOwn.never rfl (pi_range1 (by rfl) z_range (pa_cons (pe_op op_add (pe_callB call_len_seq (by rfl) z_len PySem.boot_len (pa_cons (pv 0) pa_nil)) pe_int) pa_nil)) (pg_name (i := 2) sc_l_firmed.nd rfl (.inl rfl))
        (pss_cons (ps_set (i := 3) sc_l_firmed.nd rfl (.inl rfl) (pe_ix ix_tup (pe_call G_l_read (hr.mono (by decide)) (by rfl) D_l_read.g D_l_read.kp D_l_read.b .nil pass0 (pa_cons (pv 0) (pa_cons (pv 1) pa_nil))) pe_int (fun _ _ => rfl)))
        (pss_cons (ps_if (pt_cmpR (op_eqD hr.units) (pv 3) (pe_lst pa_nil) (nomark _))
          (pss_one (ps_ret (pv 0)))
          pss_nil)
        (pss_cons (ps_asg (pe_ix ix_list (pv 3) pe_int (fun _ _ => rfl)) (pg_tup rfl (pgs_cons (pg_name (i := 4) sc_l_firmed.nd rfl (.inl rfl)) (pgs_cons (pg_name (i := 5) sc_l_firmed.nd rfl (.inl rfl)) pgs_nil))))
        (pss_one (ps_set (i := 0) sc_l_firmed.nd rfl (.inl rfl) (pe_op op_cat (pe_slice sl_list (pv 0) po_none (po_some (pe_op op_sub (pv 5) (pe_op op_mod (pe_op op_sub (pv 5) (pv 4)) pe_int)))) (pe_slice sl_list (pv 0) (po_some (pv 5)) po_none))))))))
      (pss_one (ps_ret (pv 0)))), ?_⟩
    obtain ⟨vs, hL, hA⟩ := hLine
    have evs := hA.1
    refine ⟨_, rfl, la, vs, rfl, .inl (seqL hL), _, _, rfl, rfl, _, rfl, by omega, by omega, for_range (lo := 0) (n := ((vs.length : Int) + 1).toNat) (fun i σ H' => ∃ (la' : Addr) (L' : List Nw.Sg) (y2 y3 y4 y5 : Option V), σ = [some (.ref la'), some (.int b), y2, y3, y4, y5] ∧ Same H H' ∧ Line H' la' L' ∧ L'.length ≤ L.length ∧ Nw.firmM b (L.length + 1 - i) L' = Nw.firmed L b)
      ⟨la, L, none, none, none, none, rfl, .refl _, ⟨vs, hL, hA⟩, Nat.le_refl _, rfl⟩ ?_ ?_⟩
    · rintro i σ H' hi ⟨la', L', y2, y3, y4, y5, rfl, sm, hLine', hlen', hf⟩
      have hi' : i < L.length + 1 := by omega
      obtain ⟨k, hk⟩ : ∃ k, L.length + 1 - i = k + 1 := ⟨L.length - i, by omega⟩
      rw [hk, Nw.firmM] at hf
      -- found = read(line, begin)[1]
      refine ⟨_, rfl, _, rfl, la', b, L', rfl, hLine', by omega, fun H2 r td lf sm2 _ hr htd ⟨ps, hlf, hps⟩ => ?_⟩
      refine ⟨_, _, _, _, rfl, rfl, seqT hr, atI_nat (j := 1) rfl, ?_⟩
      -- if found == []
      refine ⟨_, rfl, Nat.zero_le _, fun e ne => ?_⟩
      have s3 : Same H2 (upd H2 e (.lst [])) := same_upd ne
      refine ⟨_, _, .lst (seqL (s3 _ _ hlf)) (dp_prs (hps.mono fun v x => isPair.mono (Tp.of s3))), .lst (seqL upd_same) .nil, shaped_prs _, (by decide), _, rfl, ite2 (fun a => ?_) (fun a => ?_)⟩
      · cases hc : (Nw.lawRead L' b).2 with
        | nil =>
          rw [hc] at hf
          exact ⟨_, rfl, q _ la' (sm.trans (sm2.trans s3)) (by rw [← hf]; exact hLine'.same (sm2.trans s3))⟩
        | cons x l =>
          rw [hc] at a
          cases a
      · cases hc : (Nw.lawRead L' b).2 with
        | nil =>
          rw [hc] at a
          exact absurd rfl a
        | cons x l =>
          rcases x with ⟨lo, hi2⟩
          rw [hc] at hf hps
          obtain ⟨v0, hv0, ⟨t, rfl, ht⟩⟩ := hps.get (i := 0) rfl
          -- low, high = found[0]
          refine ⟨_, rfl, lf, ps, _, _, rfl, rfl, seqL (s3 _ _ hlf), atI_nat (j := 0) hv0, t, _, rfl, seqT (s3 _ _ ht), rfl, _, _, rfl, _, [], rfl, rfl, ?_⟩
          -- line = line[:..] + line[high:]
          obtain ⟨us, hU, hAU⟩ := hLine'.same (sm2.trans s3)
          have e1 : (hi2 : Int) - ((hi2 : Int) - (lo : Int)) % 3 = (((hi2 - (hi2 - lo) % 3 : Nat)) : Int) := by
            have hlo : lo ≤ hi2 := by
              have := ((Nw.lawRead_eq hb L').2.2 (lo, hi2) (by rw [hc]; exact List.mem_cons_self)).1
              exact Nat.le_of_lt this
            omega
          refine ⟨_, rfl, _, rfl, _, rfl, _, rfl, _, _, rfl, rfl, _, _, rfl, rfl, (by show (0 : Int) < 3; decide), _, _, rfl, rfl, _, rfl, la', us, rfl, seqL hU, fun p np => ?_⟩
          rw [e1, cut_to]
          have s4 : Same (upd H2 e (.lst [])) (upd (upd H2 e (.lst [])) p (.lst (us.take (hi2 - (hi2 - lo) % 3)))) := same_upd np
          refine ⟨_, rfl, _, rfl, _, rfl, la', us, rfl, seqL (s4 _ _ hU), fun p2 np2 => ?_⟩
          rw [cut_from]
          have s5 := s4.trans (same_upd (o := .lst (us.drop hi2)) np2)
          have hp1 := same_upd (o := .lst (us.drop hi2)) np2 p _ (upd_same (H := upd H2 e (.lst [])) (o := .lst (us.take (hi2 - (hi2 - lo) % 3))))
          have hAC : All2 (isSg (upd H2 e (.lst []))) (us.take (hi2 - (hi2 - lo) % 3) ++ us.drop hi2) (Nw.cutRun L' lo hi2) := (hAU.take _).app (hAU.drop _)
          have hb3 := (Nw.lawRead_eq hb L').2.2 (lo, hi2) (by rw [hc]; exact List.mem_cons_self)
          have hcl : (Nw.cutRun L' lo hi2).length < L'.length := Nw.cutRun_length hb3.1 hb3.2.1 hb3.2.2
          have hsz : (us.take (hi2 - (hi2 - lo) % 3)).length + (us.drop hi2).length ≤ sizeLine := by
            have := hAC.1
            rw [List.length_append] at this
            exact size_le (by omega)
          refine ⟨p, p2, _, _, rfl, rfl, hp1, upd_same, hsz, fun p3 np3 => ?_⟩
          have s6 := s5.trans (same_upd (o := .lst (us.take (hi2 - (hi2 - lo) % 3) ++ us.drop hi2)) np3)
          refine ⟨p3, Nw.cutRun L' lo hi2, _, _, _, _, rfl, sm.trans (sm2.trans (s3.trans s6)), ⟨_, upd_same, hAC.mono fun v g => isSg.mono (.of s6)⟩, by omega, ?_⟩
          have e9 : L.length + 1 - (i + 1) = k := by omega
          rw [e9]
          exact hf
    · rintro σ H' ⟨la', L', y2, y3, y4, y5, rfl, sm, hLine', hlen', hf⟩
      have e : L.length + 1 - ((vs.length : Int) + 1).toNat = 0 := by omega
      rw [e] at hf
      exact ⟨_, rfl, q _ la' sm (by rw [← hf]; exact hLine')⟩
/-! ### wishes -/
theorem in_rest (k : Nw.Kd) : decide (cpK k ∈ ("Rr" : Str).cps.toList) = (!k.sounds && !k.parting) := by cases k <;> decide +kernel
theorem sounds_part {k : Nw.Kd} (h : k.sounds = true) : k.parting = false := by revert h; cases k <;> decide
theorem wishesOf_step : ∀ {L : List Nw.Sg} {ws : List Int} {i : Nat} {g : Nw.Sg} {u : Int}, L[i]? = some g → ws[i]? = some u → Nw.wishesOf (L.take (i + 1)) (ws.take (i + 1)) = Nw.wishesOf (L.take i) (ws.take i) ++ (if g.1.parting = true then [] else [(if g.1.sounds = true then g.2 else -1, u)])
  | [], _, _, _, _, h, _ => by simp at h
  | _ :: _, [], _, _, _, _, h => by simp at h
  | x :: L, v :: ws, 0, g, u, h1, h2 => by
    cases h1; cases h2
    simp only [List.take_succ_cons, List.take_zero, Nw.wishesOf]
    split <;> simp [Nw.wishesOf]
  | x :: L, v :: ws, i + 1, g, u, h1, h2 => by
    have ih := wishesOf_step (L := L) (ws := ws) (i := i) (g := g) (u := u) (by simpa using h1) (by simpa using h2)
    rw [List.take_succ_cons, List.take_succ_cons, Nw.wishesOf, ih, List.take_succ_cons, List.take_succ_cons, Nw.wishesOf]
    split <;> rfl
def sp_l_wishes : Sp := fun vs H Q _ => ∃ (la : Addr) (b : Int) (L : List Nw.Sg), vs = [.ref la, .int b] ∧ Line H la L ∧ L.length ≤ 5000 ∧ (b = 2 ∨ b = 3) ∧ ∀ H' d, Same H H' → H d = none → Wishes H' d (Nw.wishesOf L (Nw.rd (Nw.cfOf b) L).ws) → Q (.ref d) H'
theorem ok_l_wishes {f fR : Addr} {fd fdR : FuncData} (F : Fun K "_law_wishes" "_law_wishes" s_l_wishes f fd) (D_l_read : DefAt K mg "_law_read" fR fdR ["_law_line_here", "_law_begin_here"]) (G_l_read : FnOk P w K mg base CX0 2 fR fdR ["_law_line_here", "_law_begin_here"] sp_l_read)
    (z_zip : mg "zip" = none) : FnOk P w K mg base CX0 3 f fd ["_law_line_here", "_law_begin_here"] sp_l_wishes := by
  refine F.ok sc_l_wishes (fun vs H Q E h => ?_) (fun cdv A outer s H vs Q E hr h => ?_)
  · obtain ⟨la, b, L, rfl, _⟩ := h
    rfl
  · obtain ⟨la, b, L, rfl, ⟨vs, hL, hA⟩, hlen, hb, q⟩ := h
    refine ⟨_, (pss_cons (ps_set (i := 2) sc_l_wishes.nd rfl (.inl rfl) (pe_lst pa_nil))
      (pss_cons (ps_for PassesOwn.never rfl (pi_zip (by rfl) z_zip (pa_cons (pv 0) (pa_cons (pe_ix ix_tup (pe_call G_l_read (hr.mono (by decide)) (by rfl) D_l_read.g D_l_read.kp D_l_read.b .nil pass0 (pa_cons (pv 0) (pa_cons (pv 1) pa_nil))) pe_int (fun _ _ => rfl)) pa_nil))) (pg_tup rfl (pgs_cons (pg_name (i := 3) sc_l_wishes.nd rfl (.inl rfl)) (pgs_cons (pg_name (i := 4) sc_l_wishes.nd rfl (.inl rfl)) pgs_nil)))
        (pss_one (ps_if (pt_cmpR op_in_sign (pe_ix ix_tup (pv 3) pe_int (fun _ _ => rfl)) pe_str rfl)
          (pss_one (ps_expr (pe_bm PySem.F.plainAttrs_list PySem.F.slot_list_append PySem.F.type_list_append mt_append (pv 2) (pa_cons (pe_tup (pa_cons (pe_ix ix_tup (pv 3) pe_int (fun _ _ => rfl)) (pa_cons (pv 4) pa_nil))) pa_nil))))
          (pss_one (ps_if (pt_cmpR op_in_sign (pe_ix ix_tup (pv 3) pe_int (fun _ _ => rfl)) pe_str rfl)
            (pss_one (ps_expr (pe_bm PySem.F.plainAttrs_list PySem.F.slot_list_append PySem.F.type_list_append mt_append (pv 2) (pa_cons (pe_tup (pa_cons (pe_un un_neg pe_int) (pa_cons (pv 4) pa_nil))) pa_nil))))
            pss_nil)))))
      (pss_one (ps_ret (pv 2))))), ?_⟩
    refine ⟨Nat.zero_le _, fun d nd => ?_⟩
    have s0 : Same H (upd H d (.lst [])) := same_upd nd
    have hLine0 : Line (upd H d (.lst [])) la L := Line.same s0 ⟨vs, hL, hA⟩
    refine ⟨_, rfl, _, rfl, _, rfl, la, b, L, rfl, hLine0, hlen, fun H2 r td lf sm2 ntd0 hr htd _ => ?_⟩
    refine ⟨_, _, _, _, rfl, rfl, seqT hr, atI_nat (j := 0) rfl, la, td, vs, _, rfl, seqL (sm2 _ _ (s0 _ _ hL)), seqL htd, ?_⟩
    rw [(Nw.lawRead_eq hb L).1] at htd
    generalize hws : (Nw.rd (Nw.cfOf b) L).ws = ws at htd q
    have hwl : ws.length = L.length := by rw [← hws]; exact Nw.rd_length L _
    refine RZ.for_zipL (xs := vs) (ys := ws.map V.int) (by rw [List.length_map, hwl, hA.1]) (fun i σ H' => ∃ (y3 y4 : Option V) (us : List V), σ = [some (.ref la), some (.int b), some (.ref d), y3, y4] ∧ Same H H' ∧ H' td = some (.lst (ws.map V.int)) ∧ H' d = some (.lst us) ∧ All2 (isWi H') us (Nw.wishesOf (L.take i) (ws.take i)))
      ⟨none, none, [], rfl, s0.trans sm2, htd, sm2 _ _ upd_same, All2.nil⟩ (fun i σ H' ⟨_, _, _, _, sm, ht, _⟩ => ⟨seqL (sm _ _ hL), seqL ht⟩) ?_ ?_
    · rintro i x y T σ H' hx hy ⟨y3, y4, us, rfl, sm, ht, hd, hW⟩ nT
      obtain ⟨g, hg, ⟨t, rfl, htg⟩⟩ := hA.get' hx
      rw [List.getElem?_map] at hy
      obtain ⟨u, hu, rfl⟩ := Option.map_eq_some_iff.mp hy
      have hi := (List.getElem?_eq_some_iff.mp hg).1
      have sT : Same H' (upd H' T (.tup [.ref t, .int u])) := same_upd nT
      have htg' := sT _ _ (sm _ _ htg)
      have hd' := sT _ _ hd
      have hstep := wishesOf_step hg hu
      have hul : us.length ≤ 5000 := by
        rw [hW.1]
        refine Nat.le_trans Nw.wishesOf_length ?_
        rw [List.length_take]; omega
      refine ⟨T, _, rfl, seqT upd_same, rfl, _, _, rfl, _, [], rfl, rfl, ?_⟩
      -- one wish more
      have nxt : ∀ (tone : Int) (H2 : Hp) (p : Addr), Same (upd H' T (.tup [.ref t, .int u])) H2 → H2 p = some (.tup [.int tone, .int u]) → Nw.wishesOf (L.take (i + 1)) (ws.take (i + 1)) = Nw.wishesOf (L.take i) (ws.take i) ++ [(tone, u)] →
          ∃ (y3 y4 : Option V) (us' : List V), [some (V.ref la), some (.int b), some (.ref d), some (.ref t), some (.int u)] = [some (.ref la), some (.int b), some (.ref d), y3, y4] ∧ Same H (upd H2 d (.lst (us ++ [.ref p]))) ∧ (upd H2 d (.lst (us ++ [.ref p]))) td = some (.lst (ws.map V.int)) ∧ (upd H2 d (.lst (us ++ [.ref p]))) d = some (.lst us') ∧ All2 (isWi (upd H2 d (.lst (us ++ [.ref p])))) us' (Nw.wishesOf (L.take (i + 1)) (ws.take (i + 1))) := by
        intro tone H2 p s2 hp e
        have hd2 := s2 _ _ hd'
        have tp : Tp H' (upd H2 d (.lst (us ++ [.ref p]))) := (Tp.of (sT.trans s2)).trans (Tp.upd hd2 (by intro xs z; cases z))
        have ntd : td ≠ d := (ne_of_none (upd_same (H := H) (a := d) (o := .lst [])) ntd0).symm
        refine ⟨_, _, us ++ [.ref p], rfl, fun a o e => ?_, ?_, upd_same, ?_⟩
        · rw [upd_ne (ne_of_none e nd)]; exact s2 _ _ (sT _ _ (sm _ _ e))
        · rw [upd_ne ntd]; exact s2 _ _ (sT _ _ ht)
        · rw [e]
          refine (hW.mono fun v g => isWi.mono tp).snoc ⟨p, rfl, ?_⟩
          rw [upd_ne (ne_of hp hd2 (by intro z; cases z))]
          exact hp
      refine ⟨_, rfl, _, _, _, _, rfl, rfl, seqT htg', atI_nat (j := 0) rfl, _, _, rfl, rfl, _, rfl, ?_⟩
      rw [in_sound]
      refine ite2 (fun e1 => ?_) (fun e1 => ?_)
      · refine ⟨_, rfl, .inl ⟨rfl, _, seqL hd'⟩, _, rfl, _, _, _, _, rfl, rfl, seqT htg', atI_nat (j := 1) rfl, _, rfl, (by show 2 ≤ sizeLine; decide), fun p np => ⟨d, _, _, rfl, rfl, same_upd np _ _ hd', size_small (by omega), nxt g.2 _ p (same_upd np) upd_same ?_⟩⟩
        rw [hstep, sounds_part e1, e1]
        rfl
      · have e1' : g.1.sounds = false := by simpa using e1
        refine ⟨_, rfl, _, _, _, _, rfl, rfl, seqT htg', atI_nat (j := 0) rfl, _, _, rfl, rfl, _, rfl, ?_⟩
        rw [in_rest, e1']
        refine ite2 (fun e2 => ?_) (fun e2 => ?_)
        · have e2' : g.1.parting = false := by simpa using e2
          refine ⟨_, rfl, .inl ⟨rfl, _, seqL hd'⟩, _, rfl, _, rfl, (by show 2 ≤ sizeLine; decide), fun p np => ⟨d, _, _, rfl, rfl, same_upd np _ _ hd', size_small (by omega), nxt (-1) _ p (same_upd np) upd_same ?_⟩⟩
          rw [hstep, e2', e1']
          rfl
        · have e2' : g.1.parting = true := by simpa using e2
          refine ⟨_, _, us, rfl, sm.trans sT, sT _ _ ht, hd', ?_⟩
          rw [hstep, e2', if_pos rfl, List.append_nil]
          exact hW.mono fun v g => isWi.mono (Tp.of sT)
    · rintro σ H' ⟨y3, y4, us, rfl, sm, ht, hd, hW⟩
      have e1 : L.take vs.length = L := by rw [hA.1, List.take_length]
      have e2 : ws.take vs.length = ws := by rw [hA.1, ← hwl, List.take_length]
      rw [e1, e2] at hW
      exact ⟨_, rfl, q _ d sm nd ⟨us, hd, hW⟩⟩
end
end Nt
namespace Nt
open PySem PySem.Spec PyProof.Rows L2
section
variable {P : Program} {w : World} {K : PySem.W.Frag} {mg : Str → Option Value} {base : Heap}
/-! ### prices -/
def okO (o : Option Int) : Prop := ∀ c, o = some c → 1 ≤ c ∧ c ≤ 9
def sp_l_prices : Sp := fun vs H Q _ => ∃ (c : Int), vs = [.int c] ∧ ∀ H' t p, Same H H' → H' t = some (.tup [oV p.dot, oV p.dk, oV p.ms]) → Nw.Pr.ok p → Q (.ref t) H'
theorem ok_l_prices {f : Addr} {fd : FuncData} (F : Fun K "_law_prices" "_law_prices" s_l_prices f fd) (z_range : mg "range" = none) : FnOk P w K mg base CX0 1 f fd ["_law_cell"] sp_l_prices := by
  refine F.ok sc_l_prices (fun vs H Q E h => ?_) (fun cdv A outer s H vs Q E hr h => ?_)
  · obtain ⟨c, rfl, _⟩ := h
    rfl
  · obtain ⟨c, rfl, q⟩ := h
    refine ⟨_, (pss_cons (ps_set (i := 1) sc_l_prices.nd rfl (.inl rfl) (pe_lst pa_nil))
      (pss_cons (ps_for PassesOwn.never rfl (pi_range1 (by rfl) z_range (pa_cons pe_int pa_nil)) (pg_name (i := 2) sc_l_prices.nd rfl (.inl rfl))
        (pss_cons (ps_expr (pe_bm PySem.F.plainAttrs_list PySem.F.slot_list_append PySem.F.type_list_append mt_append (pv 1) (pa_cons (pe_ifExp (pt_cmpR op_gt (pe_op op_mod (pv 0) pe_int) pe_int (nomark _)) pe_non (pe_op op_add (pe_op op_mod (pv 0) pe_int) pe_int)) pa_nil)))
        (pss_one (ps_set (i := 0) sc_l_prices.nd rfl (.inl rfl) (pe_op op_fdiv (pv 0) pe_int)))))
      (pss_one (ps_ret (pe_tup (pa_cons (pe_ix ix_list (pv 1) pe_int (fun _ _ => rfl)) (pa_cons (pe_ix ix_list (pv 1) pe_int (fun _ _ => rfl)) (pa_cons (pe_ix ix_list (pv 1) pe_int (fun _ _ => rfl)) pa_nil)))))))), ?_⟩
    refine ⟨Nat.zero_le _, fun d nd => ?_⟩
    refine ⟨3, rfl, by decide, by decide, for_range (lo := 0) (n := 3) (fun i σ H' => ∃ (c : Int) (os : List (Option Int)) (y2 : Option V), σ = [some (.int c), some (.ref d), y2] ∧ Same H H' ∧ H' d = some (.lst (os.map oV)) ∧ os.length = i ∧ ∀ o ∈ os, okO o)
      ⟨c, [], none, rfl, same_upd nd, upd_same, rfl, fun o ho => absurd ho (by simp)⟩ ?_ ?_⟩
    · rintro i σ H' hi ⟨c, os, y2, rfl, sm, hd, hl, hos⟩
      have h0 := Int.emod_nonneg c (show (11 : Int) ≠ 0 by decide)
      have h1 := Int.emod_lt_of_pos c (show (0 : Int) < 11 by decide)
      have hlt : (os.map oV).length < sizeLine := by rw [List.length_map]; exact size_small (by omega)
      have nxt : ∀ o : Option Int, okO o → ∃ (c' : Int) (os' : List (Option Int)) (y2 : Option V), [some (V.int (c / 11)), some (.ref d), some (.int (0 + (i : Int)))] = [some (.int c'), some (.ref d), y2] ∧ Same H (upd H' d (.lst (os.map oV ++ [oV o]))) ∧ (upd H' d (.lst (os.map oV ++ [oV o]))) d = some (.lst (os'.map oV)) ∧ os'.length = i + 1 ∧ ∀ o ∈ os', okO o := by
        intro o ho
        refine ⟨_, os ++ [o], _, rfl, fun a x e => ?_, ?_, by simp [hl], fun o' ho' => ?_⟩
        · rw [upd_ne (ne_of_none e nd)]; exact sm _ _ e
        · rw [upd_same, List.map_append]; rfl
        · rcases List.mem_append.mp ho' with h | h
          · exact hos o' h
          · rw [List.mem_singleton.mp h]; exact ho
      refine ⟨_, rfl, .inl ⟨rfl, _, seqL hd⟩, _, rfl, _, _, rfl, rfl, (by show (0 : Int) < 11; decide), _, _, rfl, rfl, _, rfl, ite2 (fun e => ?_) (fun e => ?_)⟩
      · refine ⟨d, _, _, rfl, rfl, hd, hlt, ?_⟩
        exact ⟨_, rfl, _, _, rfl, rfl, ⟨by decide, by decide⟩, nxt none (fun c h => by cases h)⟩
      · have e8 : ¬ (8 < c % 11) := by simpa using e
        refine ⟨_, rfl, _, _, rfl, rfl, (by show (0 : Int) < 11; decide), _, _, rfl, rfl, d, _, _, rfl, rfl, hd, hlt, ?_⟩
        exact ⟨_, rfl, _, _, rfl, rfl, ⟨by decide, by decide⟩, nxt (some (c % 11 + 1)) (fun c' h => by cases h; omega)⟩
    · rintro σ H' ⟨c, os, y2, rfl, sm, hd, hl, hos⟩
      match os, hl, hos, hd with
      | [x, y, z], _, hos, hd =>
        refine ⟨_, rfl, d, _, _, _, rfl, rfl, seqL hd, atI_nat (j := 0) rfl, _, rfl, d, _, _, _, rfl, rfl, seqL hd, atI_nat (j := 1) rfl, _, rfl, d, _, _, _, rfl, rfl, seqL hd, atI_nat (j := 2) rfl, (by show 3 ≤ sizeLine; decide), fun t nt => ?_⟩
        exact q _ t ⟨x, y, z⟩ (sm.trans (same_upd nt)) upd_same ⟨hos x (by simp), hos y (by simp), hos z (by simp)⟩
/-! ### a line's price -/
theorem seqIfV {c : TT} {t r : TS} {D : Ends} {σ : L2.St} {H : Hp} (bb : Bool) (v w : V) (σ0 : V → L2.St) (hσ : σ = σ0 v) (h : ∀ Q : Bool → Hp → Prop, Q bb H → c σ H Q) (ht : ∀ D' : Ends, D'.nx (σ0 w) H → t D' σ H) (k : r D (σ0 (if bb = true then w else v)) H) : tSeq (tIfS c t tNext) r D σ H := h _ (by
  cases bb with
  | true => exact iteT (ht _ k)
  | false => subst hσ; exact iteF k)
theorem in_Dd (k : Nw.Kd) : decide (cpK k ∈ ("Dd" : Str).cps.toList) = decide (k = .D ∨ k = .d) := by cases k <;> decide +kernel
theorem in_32 (k : Nw.Kd) : decide (cpK k ∈ ("32" : Str).cps.toList) = k.measuring := by cases k <;> decide +kernel
theorem price_take {p : Nw.Pr} : ∀ {L : List Nw.Sg} {i : Nat} {g : Nw.Sg}, L[i]? = some g → Nw.price (L.take (i + 1)) p = (match Nw.price (L.take i) p, Nw.signPrice g.1 p with | some t, some c => some (t + c) | _, _ => none)
  | [], _, _, h => by simp at h
  | x :: L, 0, g, h => by
    cases h
    simp only [List.take_succ_cons, List.take_zero, Nw.price]
    cases Nw.signPrice x.1 p with
    | none => rfl
    | some c => show some (c + 0) = some (0 + c); congr 1; omega
  | x :: L, i + 1, g, h => by
    have ih := price_take (p := p) (L := L) (i := i) (g := g) (by simpa using h)
    rw [List.take_succ_cons, Nw.price, ih, List.take_succ_cons, Nw.price]
    cases Nw.signPrice x.1 p <;> cases Nw.price (L.take i) p <;> cases Nw.signPrice g.1 p <;> simp
    omega
theorem price_none {p : Nw.Pr} : ∀ {L : List Nw.Sg} {g : Nw.Sg}, g ∈ L → Nw.signPrice g.1 p = none → Nw.price L p = none
  | [], _, h, _ => absurd h (by simp)
  | x :: L, g, h, e => by
    rw [Nw.price]
    rcases List.mem_cons.mp h with rfl | h
    · rw [e]
    · rw [price_none h e]
      cases Nw.signPrice x.1 p <;> rfl
def sp_l_price : Sp := fun vs H Q _ => ∃ (la pa : Addr) (L : List Nw.Sg) (p : Nw.Pr), vs = [.ref la, .ref pa] ∧ Line H la L ∧ H pa = some (.tup [oV p.dot, oV p.dk, oV p.ms]) ∧ Q (oV (Nw.price L p)) H
theorem ok_l_price {f : Addr} {fd : FuncData} (F : Fun K "_law_price" "_law_price" s_l_price f fd) : FnOk P w K mg base CX0 1 f fd ["_law_line_here", "_law_prices_here"] sp_l_price := by
  refine F.ok sc_l_price (fun vs H Q E h => ?_) (fun cdv A outer s H vs Q E hr h => ?_)
  · obtain ⟨la, pa, L, p, rfl, _⟩ := h
    rfl
  · obtain ⟨la, pa, L, p, rfl, ⟨vs, hL, hA⟩, hP, q⟩ := h
    refine ⟨_, (pss_cons (ps_set (i := 2) sc_l_price.nd rfl (.inl rfl) pe_int)
      (pss_cons (ps_for PassesOwn.never rfl (pi_list (pv 0)) (pg_name (i := 3) sc_l_price.nd rfl (.inl rfl))
        (pss_cons (ps_set (i := 4) sc_l_price.nd rfl (.inl rfl) pe_int)
        (pss_cons (ps_if (pt_cmpR op_eq (pe_ix ix_tup (pv 3) pe_int (fun _ _ => rfl)) pe_str (nomark _))
          (pss_one (ps_set (i := 4) sc_l_price.nd rfl (.inl rfl) (pe_ix ix_tup (pv 1) pe_int (fun _ _ => rfl))))
          pss_nil)
        (pss_cons (ps_if (pt_cmpR op_in_sign (pe_ix ix_tup (pv 3) pe_int (fun _ _ => rfl)) pe_str rfl)
          (pss_one (ps_set (i := 4) sc_l_price.nd rfl (.inl rfl) (pe_ix ix_tup (pv 1) pe_int (fun _ _ => rfl))))
          pss_nil)
        (pss_cons (ps_if (pt_cmpR op_in_sign (pe_ix ix_tup (pv 3) pe_int (fun _ _ => rfl)) pe_str rfl)
          (pss_one (ps_set (i := 4) sc_l_price.nd rfl (.inl rfl) (pe_ix ix_tup (pv 1) pe_int (fun _ _ => rfl))))
          pss_nil)
        (pss_cons (ps_if (pt_cmpR op_isN (pv 4) pe_non (nomark _))
          (pss_one (ps_ret pe_non))
          pss_nil)
        (pss_one (ps_set (i := 2) sc_l_price.nd rfl (.inl rfl) (pe_op op_add (pv 2) (pv 4))))))))))
      (pss_one (ps_ret (pv 2))))), ?_⟩
    refine ⟨_, rfl, la, rfl, ⟨_, seqL hL⟩, for_list (K := K) (a := la) (xs := vs) (fun i σ H' => ∃ (t : Int) (y3 y4 : Option V), σ = [some (.ref la), some (.ref pa), some (.int t), y3, y4] ∧ H' = H ∧ Nw.price (L.take i) p = some t)
      ⟨0, none, none, rfl, rfl, rfl⟩ (fun i σ H' _ ⟨_, _, _, _, e, _⟩ => by rw [e]; exact seqL hL) ?_ ?_⟩
    · rintro i x σ H' hi ⟨t, y3, y4, rfl, rfl, hp⟩
      obtain ⟨g, hg, ⟨a, rfl, ha⟩⟩ := hA.get' hi
      have step := price_take (p := p) hg
      rw [hp] at step
      dsimp only [gName]
      refine seqAsg (.int 0) (fun Q2 q2 => q2) ?_
      dsimp only [gName]
      refine seqIfV (decide (g.1 = .dot)) (.int 0) (oV p.dot) (fun v => [some (.ref la), some (.ref pa), some (.int t), some (.ref a), some v]) rfl (fun Q2 q2 => ?_) (fun D' k => ?_) ?_
      · refine ⟨_, rfl, _, _, _, _, rfl, rfl, seqT ha, atI_nat (j := 0) rfl, rfl, _, rfl, ?_⟩
        rw [eq_dot]; exact q2
      · exact ⟨_, rfl, pa, _, _, _, rfl, rfl, seqT hP, atI_nat (j := 0) rfl, k⟩
      refine seqIfV (decide (g.1 = .D ∨ g.1 = .d)) _ (oV p.dk) (fun v => [some (.ref la), some (.ref pa), some (.int t), some (.ref a), some v]) rfl (fun Q2 q2 => ?_) (fun D' k => ?_) ?_
      · refine ⟨_, rfl, _, _, _, _, rfl, rfl, seqT ha, atI_nat (j := 0) rfl, _, _, rfl, rfl, _, rfl, ?_⟩
        rw [in_Dd]; exact q2
      · exact ⟨_, rfl, pa, _, _, _, rfl, rfl, seqT hP, atI_nat (j := 1) rfl, k⟩
      refine seqIfV g.1.measuring _ (oV p.ms) (fun v => [some (.ref la), some (.ref pa), some (.int t), some (.ref a), some v]) rfl (fun Q2 q2 => ?_) (fun D' k => ?_) ?_
      · refine ⟨_, rfl, _, _, _, _, rfl, rfl, seqT ha, atI_nat (j := 0) rfl, _, _, rfl, rfl, _, rfl, ?_⟩
        rw [in_32]; exact q2
      · exact ⟨_, rfl, pa, _, _, _, rfl, rfl, seqT hP, atI_nat (j := 2) rfl, k⟩
      have ev : (if g.1.measuring = true then oV p.ms else if decide (g.1 = .D ∨ g.1 = .d) = true then oV p.dk else if decide (g.1 = .dot) = true then oV p.dot else V.int 0) = oV (Nw.signPrice g.1 p) := by
        cases g.1 <;> rfl
      rw [ev]
      refine ⟨_, rfl, rfl, _, rfl, ?_⟩
      rw [eqO_none]
      refine ite2 (fun e => ?_) (fun e => ?_)
      · have hn := of_decide_eq_true e
        rw [price_none (List.mem_of_getElem? hg) hn] at q
        exact q
      · have hn : ¬ Nw.signPrice g.1 p = none := by simpa using e
        obtain ⟨c, hc⟩ := Option.ne_none_iff_exists'.mp hn
        rw [hc] at step ⊢
        exact ⟨_, rfl, _, rfl, _, _, rfl, rfl, t + c, _, _, rfl, rfl, step⟩
    · rintro σ H' ⟨t, y3, y4, rfl, rfl, hp⟩
      rw [hA.1, List.take_length] at hp
      rw [hp] at q
      exact ⟨_, rfl, q⟩
/-! ### whole -/
def sp_l_whole : Sp := fun vs H Q _ => ∃ (c : Int), vs = [.int c] ∧ Q (.bl true) H
theorem ok_l_whole {f : Addr} {fd : FuncData} (F : Fun K "_law_whole" "_law_whole" s_l_whole f fd) (z_isinstance : mg "isinstance" = none) (z_int : mg "int" = none) (z_bool : mg "bool" = none) : FnOk P w K mg base CX0 1 f fd ["_law_found"] sp_l_whole := by
  refine F.ok sc_l_whole (fun vs H Q E h => ?_) (fun cdv A outer s H vs Q E hr h => ?_)
  · obtain ⟨c, rfl, _⟩ := h
    rfl
  · obtain ⟨c, rfl, q⟩ := h
    refine ⟨_, (pss_one (ps_ret (pe_and (pe_callB call_isi (by rfl) z_isinstance (by decide +kernel) (pa_cons (pv 0) (pa_cons (pe_bltn (v := .ty "int") (by rfl) z_int (by decide +kernel) rfl) pa_nil))) (pe_one (pe_not (pe_callB call_isi (by rfl) z_isinstance (by decide +kernel) (pa_cons (pv 0) (pa_cons (pe_bltn (v := .ty "bool") (by rfl) z_bool (by decide +kernel) rfl) pa_nil)))))))), ?_⟩
    refine ⟨_, rfl, _, _, _, _, true, rfl, .ty "int", .base (.int c), kit_ty (by decide +kernel), true, rfl, iteT ?_⟩
    exact ⟨_, rfl, _, _, _, _, false, rfl, .ty "bool", .base (.int c), kit_ty (by decide +kernel), false, rfl, q⟩
end
end Nt
namespace Nt
open PySem PySem.Spec PyProof.Rows L2
variable {K : PySem.W.Frag} {f : Addr} {fd : FuncData}
theorem bind_begin (F : FunD K "begin_state" "begin_state" (defArgs s_begin_state) (defBody s_begin_state) (defScope s_begin_state) [.int 3] [] f fd) : Binds K fd ["begin"] [] := by
  obtain ⟨ds, h1, h2⟩ := F.binds1 (ps := ["begin"]) 1 1 (by simp) rfl (fun T kV doc pm an cdv ct us its h1 h2 => by
    match us, its, h1, h2 with
    | [u], [i], _, _ => exact ⟨_, rfl, rfl⟩)
  cases h1
  exact h2
theorem bind_written (F : FunD K "written" "written" (defArgs s_written) (defBody s_written) (defScope s_written) [.int 3] [] f fd) : Binds K fd ["wishes", "prices", "begin"] [] := by
  obtain ⟨ds, h1, h2⟩ := F.binds1 (ps := ["wishes", "prices", "begin"]) 3 1 (by simp) rfl (fun T kV doc pm an cdv ct us its h1 h2 => by
    match us, its, h1, h2 with
    | [u, u2, u3], [i], _, _ => exact ⟨_, rfl, rfl⟩)
  cases h1
  exact h2
theorem bind_written1 (F : FunD K "written" "written" (defArgs s_written) (defBody s_written) (defScope s_written) [.int 3] [] f fd) : ∃ ds, Vals [.int 3] ds ∧ Binds K fd ["wishes", "prices", "begin"] ds :=
  F.binds1 (ps := ["wishes", "prices", "begin"]) 2 0 (by simp) rfl (fun T kV doc pm an cdv ct us its h1 h2 => by
    match us, its, h1, h2 with
    | [u, u2], [i], _, _ => exact ⟨_, rfl, rfl⟩)
end Nt
namespace Nt
open PySem PySem.Spec PyProof.Rows L2
theorem seqCut {s r : TS} {D : Ends} {σ : L2.St} {H : Hp} (Pre : L2.St → Hp → Prop) (rest : ∀ σ' H', Pre σ' H' → r D σ' H') (h : (∀ σ' H', Pre σ' H' → r D σ' H') → tSeq s r D σ H) : tSeq s r D σ H := h rest
theorem seqTup {t : TA} {g : TG} {r : TS} {D : Ends} {σ : L2.St} {H : Hp} (h : tTup t σ H (fun x H1 => g x σ H1 (r D))) : tSeq (tAsg (tTup t) g) r D σ H := h
theorem orT_ev {K : PySem.W.Frag} {σ : L2.St} {H : Hp} {Q : VK} {te : TE} {o : Option Int} (d : Int) (ho : okO o) (h : ∀ Q : VK, Q (oV o) H → te σ H Q) (k : Q (.int (o.getD d)) H) : tOrT K te (tC (.int d)) σ H Q := h _ (by
  cases o with
  | none => exact ⟨false, rfl, iteF k⟩
  | some c =>
    refine ⟨true, ?_, iteT k⟩
    show true = (c != 0)
    have := ho c rfl
    have h0 : c ≠ 0 := by omega
    simp [h0])
theorem tup3 {K : PySem.W.Frag} {σ : L2.St} {H : Hp} {Q : VK} {t : Addr} {p : Nw.Pr} {i : Nat} {x y z : Int} (hσ : σ[i]? = some (some (.ref t))) (ht : H t = some (.tup [oV p.dot, oV p.dk, oV p.ms])) (hp : p.ok)
    (k : ∀ r, H r = none → Q (.ref r) (upd H r (.tup [oV (Nw.orPr p x y z).dot, oV (Nw.orPr p x y z).dk, oV (Nw.orPr p x y z).ms]))) :
    tTup (tCons (tOrT K (tOp (rIxT K) (tVar i) (tC (.int 0))) (tC (.int x))) (tCons (tOrT K (tOp (rIxT K) (tVar i) (tC (.int 1))) (tC (.int y))) (tCons (tOrT K (tOp (rIxT K) (tVar i) (tC (.int 2))) (tC (.int z))) tNil))) σ H Q := by
  refine orT_ev (K := K) (te := tOp (rIxT K) (tVar i) (tC (.int 0))) x hp.1 (fun Q q => ⟨_, hσ, t, _, _, _, rfl, rfl, seqT ht, atI_nat (j := 0) rfl, q⟩) ?_
  refine orT_ev (K := K) (te := tOp (rIxT K) (tVar i) (tC (.int 1))) y hp.2.1 (fun Q q => ⟨_, hσ, t, _, _, _, rfl, rfl, seqT ht, atI_nat (j := 1) rfl, q⟩) ?_
  refine orT_ev (K := K) (te := tOp (rIxT K) (tVar i) (tC (.int 2))) z hp.2.2 (fun Q q => ⟨_, hσ, t, _, _, _, rfl, rfl, seqT ht, atI_nat (j := 2) rfl, q⟩) ?_
  exact ⟨(by show 3 ≤ sizeLine; decide), fun r nr => k r nr⟩
def wiData (x : Int × Int) : PyData := .tuple [.int x.1, .int x.2]
theorem canLay_wis : ∀ l : List (Int × Int), PyData.canLayAll0 (l.map wiData) = true
  | [] => rfl
  | x :: l => by
    rw [List.map_cons, PyData.canLayAll0, canLay_wis l]
    rfl
theorem depth_wis : ∀ l : List (Int × Int), PyData.depthAll (l.map wiData) ≤ 1
  | [] => Nat.zero_le _
  | x :: l => by
    have := depth_wis l
    rw [List.map_cons, PyData.depthAll]
    have e : PyData.depth (wiData x) = 1 := rfl
    omega
theorem shaped_wis (l : List (Int × Int)) : SeqAt.shaped (.list (l.map wiData)) = true := by
  unfold SeqAt.shaped
  rw [PyData.canLay0, canLay_wis, PyData.depth]
  have := depth_wis l
  exact decide_eq_true (by omega)
section
variable {P : Program} {w : World} {K : PySem.W.Frag} {mg : Str → Option Value} {base : Heap}
theorem dp_wis {H : Hp} : ∀ {vs : List V} {l : List (Int × Int)}, All2 (isWi H) vs l → DpAll K H vs (l.map wiData)
  | [], [], _ => .nil
  | [], _ :: _, h => by have := h.1; cases this
  | _ :: _, [], h => by have := h.1; cases this
  | v :: vs, x :: l, h => by
    obtain ⟨t, e, ht⟩ := h.2 0 v x rfl rfl
    subst e
    refine .cons (.tup (seqT ht) (.cons (.int _) (.cons (.int _) .nil))) (dp_wis ⟨by have := h.1; simpa using this, fun i v' g' a b => h.2 (i + 1) v' g' (by simpa using a) (by simpa using b)⟩)
def sp_law (K : PySem.W.Frag) : Sp := fun vs H Q _ => ∃ (a : Addr) (ns : List Int), vs = [.ref a] ∧ SqL K H a (ns.map V.int) ∧ ns.length ≤ 63 ∧ ∀ H', Q (.bl true) H'
set_option maxHeartbeats 4000000 in
theorem ok_law {f fBg fCe fPs fMi fFi fLi fPr fWi fWr fWh : Addr} {fd fdBg fdCe fdPs fdMi fdFi fdLi fdPr fdWi fdWr fdWh : FuncData} {ds1 : List Value} (F : Fun K "law" "law" s_law f fd)
    (D_l_begin : DefAt K mg "_law_begin" fBg fdBg ["_law_cell"]) (G_l_begin : FnOk P w K mg base CX0 1 fBg fdBg ["_law_cell"] sp_l_begin)
    (D_l_cell_at : DefAt K mg "_law_cell_at" fCe fdCe ["_law_script", "_law_k"]) (G_l_cell_at : FnOk P w K mg base CX0 1 fCe fdCe ["_law_script", "_law_k"] (sp_l_cell_at K))
    (D_l_prices : DefAt K mg "_law_prices" fPs fdPs ["_law_cell"]) (G_l_prices : FnOk P w K mg base CX0 1 fPs fdPs ["_law_cell"] sp_l_prices)
    (D_l_mixed : DefAt K mg "_law_mixed" fMi fdMi ["_law_seed", "_law_k"]) (G_l_mixed : FnOk P w K mg base CX0 1 fMi fdMi ["_law_seed", "_law_k"] sp_l_mixed)
    (D_l_firmed : DefAt K mg "_law_firmed" fFi fdFi ["_law_line_here", "_law_begin_here"]) (G_l_firmed : FnOk P w K mg base CX0 3 fFi fdFi ["_law_line_here", "_law_begin_here"] sp_l_firmed)
    (D_l_line : DefAt K mg "_law_line" fLi fdLi ["_law_script", "_law_at", "_law_many"]) (G_l_line : FnOk P w K mg base CX0 3 fLi fdLi ["_law_script", "_law_at", "_law_many"] (sp_l_line K))
    (D_l_price : DefAt K mg "_law_price" fPr fdPr ["_law_line_here", "_law_prices_here"]) (G_l_price : FnOk P w K mg base CX0 1 fPr fdPr ["_law_line_here", "_law_prices_here"] sp_l_price)
    (D_l_wishes : DefAt K mg "_law_wishes" fWi fdWi ["_law_line_here", "_law_begin_here"]) (G_l_wishes : FnOk P w K mg base CX0 3 fWi fdWi ["_law_line_here", "_law_begin_here"] sp_l_wishes)
    (D_written : DefAt K mg "written" fWr fdWr ["wishes", "prices", "begin"]) (b1_written : Binds K fdWr ["wishes", "prices", "begin"] ds1) (v1_written : Vals [.int 3] ds1) (G_written : FnOk P w K mg base CX0 9 fWr fdWr ["wishes", "prices", "begin"] sp_written)
    (D_l_whole : DefAt K mg "_law_whole" fWh fdWh ["_law_found"]) (G_l_whole : FnOk P w K mg base CX0 1 fWh fdWh ["_law_found"] sp_l_whole)
    (z_int : mg "int" = none) (z_isinstance : mg "isinstance" = none) (z_tuple : mg "tuple" = none) (z_list : mg "list" = none) (z_len : mg "len" = none) (z_min : mg "min" = none) : FnOk P w K mg base CX0 10 f fd ["_law_script"] (sp_law K) := by
  refine F.ok sc_law (fun vs H Q E h => ?_) (fun cdv A outer s H vs Q E hr h => ?_)
  · obtain ⟨a, ns, rfl, _⟩ := h
    rfl
  · obtain ⟨a, ns, rfl, hS, _, q⟩ := h
    refine ⟨_, (pss_cons (ps_set (i := 1) sc_law.nd rfl (.inl rfl) (pe_call G_l_begin (hr.mono (by decide)) (by rfl) D_l_begin.g D_l_begin.kp D_l_begin.b .nil pass0 (pa_cons (pe_call G_l_cell_at (hr.mono (by decide)) (by rfl) D_l_cell_at.g D_l_cell_at.kp D_l_cell_at.b .nil pass0 (pa_cons (pv 0) (pa_cons pe_int pa_nil))) pa_nil)))
      (pss_cons (ps_set (i := 2) sc_law.nd rfl (.inl rfl) (pe_call G_l_prices (hr.mono (by decide)) (by rfl) D_l_prices.g D_l_prices.kp D_l_prices.b .nil pass0 (pa_cons (pe_call G_l_mixed (hr.mono (by decide)) (by rfl) D_l_mixed.g D_l_mixed.kp D_l_mixed.b .nil pass0 (pa_cons (pe_call G_l_cell_at (hr.mono (by decide)) (by rfl) D_l_cell_at.g D_l_cell_at.kp D_l_cell_at.b .nil pass0 (pa_cons (pv 0) (pa_cons pe_int pa_nil))) (pa_cons pe_int pa_nil))) pa_nil)))
      (pss_cons (ps_if (pt_cmpR op_eq (pe_op op_mod (pe_op op_fdiv (pe_call G_l_cell_at (hr.mono (by decide)) (by rfl) D_l_cell_at.g D_l_cell_at.kp D_l_cell_at.b .nil pass0 (pa_cons (pv 0) (pa_cons pe_int pa_nil))) pe_int) pe_int) pe_int (nomark _))
        (pss_one (ps_set (i := 2) sc_law.nd rfl (.inl rfl) (pe_tup (pa_cons (pe_orT (pe_ix ix_tup (pv 2) pe_int (fun _ _ => rfl)) (pe_one pe_int)) (pa_cons (pe_orT (pe_ix ix_tup (pv 2) pe_int (fun _ _ => rfl)) (pe_one pe_int)) (pa_cons (pe_orT (pe_ix ix_tup (pv 2) pe_int (fun _ _ => rfl)) (pe_one pe_int)) pa_nil))))))
        pss_nil)
      (pss_cons (ps_set (i := 3) sc_law.nd rfl (.inl rfl) (pe_ix ix_list (pe_lst (pa_cons pe_int (pa_cons pe_int pa_nil))) (pe_callTy call_int1 (by rfl) z_int (by decide +kernel) (pa_cons (pe_cmpR op_eq (pe_op op_mod (pe_op op_fdiv (pe_call G_l_cell_at (hr.mono (by decide)) (by rfl) D_l_cell_at.g D_l_cell_at.kp D_l_cell_at.b .nil pass0 (pa_cons (pv 0) (pa_cons pe_int pa_nil))) pe_int) pe_int) pe_int (nomark _)) pa_nil)) (fun _ _ => rfl)))
      (pss_cons (ps_set (i := 4) sc_law.nd rfl (.inl rfl) (pe_call G_l_firmed (hr.mono (by decide)) (by rfl) D_l_firmed.g D_l_firmed.kp D_l_firmed.b .nil pass0 (pa_cons (pe_slice sl_list (pe_call G_l_line (hr.mono (by decide)) (by rfl) D_l_line.g D_l_line.kp D_l_line.b .nil pass0 (pa_cons (pv 0) (pa_cons pe_int (pa_cons (pe_op op_mod (pe_call G_l_cell_at (hr.mono (by decide)) (by rfl) D_l_cell_at.g D_l_cell_at.kp D_l_cell_at.b .nil pass0 (pa_cons (pv 0) (pa_cons pe_int pa_nil))) (pe_op op_add (pv 3) pe_int)) pa_nil)))) po_none (po_some (pv 3))) (pa_cons (pv 1) pa_nil))))
      (pss_cons (ps_if (pt_cmpR op_isN (pe_call G_l_price (hr.mono (by decide)) (by rfl) D_l_price.g D_l_price.kp D_l_price.b .nil pass0 (pa_cons (pv 4) (pa_cons (pv 2) pa_nil))) pe_non (nomark _))
        (pss_one (ps_set (i := 2) sc_law.nd rfl (.inl rfl) (pe_tup (pa_cons (pe_orT (pe_ix ix_tup (pv 2) pe_int (fun _ _ => rfl)) (pe_one pe_int)) (pa_cons (pe_orT (pe_ix ix_tup (pv 2) pe_int (fun _ _ => rfl)) (pe_one pe_int)) (pa_cons (pe_orT (pe_ix ix_tup (pv 2) pe_int (fun _ _ => rfl)) (pe_one pe_int)) pa_nil))))))
        pss_nil)
      (pss_cons (ps_set (i := 5) sc_law.nd rfl (.inl rfl) (pe_call G_l_price (hr.mono (by decide)) (by rfl) D_l_price.g D_l_price.kp D_l_price.b .nil pass0 (pa_cons (pv 4) (pa_cons (pv 2) pa_nil))))
      (pss_cons (ps_set (i := 6) sc_law.nd rfl (.inl rfl) (pe_call G_l_wishes (hr.mono (by decide)) (by rfl) D_l_wishes.g D_l_wishes.kp D_l_wishes.b .nil pass0 (pa_cons (pv 4) (pa_cons (pv 1) pa_nil))))
      (pss_cons (ps_set (i := 7) sc_law.nd rfl (.inl rfl) (pe_ifExp (pt_cmpR op_eq (pv 1) pe_int (nomark _)) (pe_call G_written (hr.mono (by decide)) (by rfl) D_written.g D_written.kp b1_written v1_written pass0 (pa_cons (pv 6) (pa_cons (pv 2) pa_nil))) (pe_call G_written (hr.mono (by decide)) (by rfl) D_written.g D_written.kp D_written.b .nil pass0 (pa_cons (pv 6) (pa_cons (pv 2) (pa_cons (pv 1) pa_nil))))))
      (pss_cons (ps_if (PW.pt (pw_or (pt_not (pt_val (pe_callB call_isi (by rfl) z_isinstance (by decide +kernel) (pa_cons (pv 7) (pa_cons (pe_bltn (v := .ty "tuple") (by rfl) z_tuple (by decide +kernel) rfl) pa_nil))))) (pw_or1 (pt_cmpR op_ne (pe_callB call_len_seq (by rfl) z_len PySem.boot_len (pa_cons (pv 7) pa_nil)) pe_int (nomark _)))))
        (pss_one (ps_ret pe_bl))
        pss_nil)
      (pss_cons (ps_if (PW.pt (pw_or (pt_not (pt_val (pe_call G_l_whole (hr.mono (by decide)) (by rfl) D_l_whole.g D_l_whole.kp D_l_whole.b .nil pass0 (pa_cons (pe_ix ix_tup (pv 7) pe_int (fun _ _ => rfl)) pa_nil)))) (pw_or (pt_cmpR op_lt (pe_ix ix_tup (pv 7) pe_int (fun _ _ => rfl)) pe_int (nomark _)) (pw_or (pt_cmpR op_gt (pe_ix ix_tup (pv 7) pe_int (fun _ _ => rfl)) (pv 5) (nomark _)) (pw_or1 (pt_not (pt_val (pe_callB call_isi (by rfl) z_isinstance (by decide +kernel) (pa_cons (pe_ix ix_tup (pv 7) pe_int (fun _ _ => rfl)) (pa_cons (pe_bltn (v := .ty "list") (by rfl) z_list (by decide +kernel) rfl) pa_nil))))))))))
        (pss_one (ps_ret pe_bl))
        pss_nil)
      (pss_cons (ps_set (i := 8) sc_law.nd rfl (.inl rfl) (pe_call G_l_prices (hr.mono (by decide)) (by rfl) D_l_prices.g D_l_prices.kp D_l_prices.b .nil pass0 (pa_cons (pe_call G_l_mixed (hr.mono (by decide)) (by rfl) D_l_mixed.g D_l_mixed.kp D_l_mixed.b .nil pass0 (pa_cons (pe_call G_l_cell_at (hr.mono (by decide)) (by rfl) D_l_cell_at.g D_l_cell_at.kp D_l_cell_at.b .nil pass0 (pa_cons (pv 0) (pa_cons pe_int pa_nil))) (pa_cons pe_int pa_nil))) pa_nil)))
      (pss_cons (ps_set (i := 8) sc_law.nd rfl (.inl rfl) (pe_tup (pa_cons (pe_orT (pe_ix ix_tup (pv 8) pe_int (fun _ _ => rfl)) (pe_one pe_int)) (pa_cons (pe_orT (pe_ix ix_tup (pv 8) pe_int (fun _ _ => rfl)) (pe_one pe_int)) (pa_cons (pe_orT (pe_ix ix_tup (pv 8) pe_int (fun _ _ => rfl)) (pe_one pe_int)) pa_nil)))))
      (pss_cons (ps_set (i := 9) sc_law.nd rfl (.inl rfl) (pe_call G_written (hr.mono (by decide)) (by rfl) D_written.g D_written.kp D_written.b .nil pass0 (pa_cons (pv 6) (pa_cons (pv 8) (pa_cons (pv 1) pa_nil)))))
      (pss_cons (ps_if (PW.pt (pw_or (pt_not (pt_val (pe_callB call_isi (by rfl) z_isinstance (by decide +kernel) (pa_cons (pv 9) (pa_cons (pe_bltn (v := .ty "tuple") (by rfl) z_tuple (by decide +kernel) rfl) pa_nil))))) (pw_or (pt_not (pt_val (pe_call G_l_whole (hr.mono (by decide)) (by rfl) D_l_whole.g D_l_whole.kp D_l_whole.b .nil pass0 (pa_cons (pe_ix ix_tup (pv 9) pe_int (fun _ _ => rfl)) pa_nil)))) (pw_or1 (pt_cmpR op_lt (pe_ix ix_tup (pv 9) pe_int (fun _ _ => rfl)) pe_int (nomark _))))))
        (pss_one (ps_ret pe_bl))
        pss_nil)
      (pss_cons (ps_if (PW.pt (pw_or (pt_cmpR op_gt (pe_ix ix_tup (pv 9) pe_int (fun _ _ => rfl)) (pe_callB (call_min2 rfl) (by rfl) z_min (by decide +kernel) (pa_cons (pe_call G_l_price (hr.mono (by decide)) (by rfl) D_l_price.g D_l_price.kp D_l_price.b .nil pass0 (pa_cons (pv 4) (pa_cons (pv 8) pa_nil))) (pa_cons (pe_call G_l_price (hr.mono (by decide)) (by rfl) D_l_price.g D_l_price.kp D_l_price.b .nil pass0 (pa_cons (pe_ix ix_tup (pv 7) pe_int (fun _ _ => rfl)) (pa_cons (pv 8) pa_nil))) pa_nil))) (nomark _)) (pw_or1 (pt_cmpR op_ne (pe_call G_l_price (hr.mono (by decide)) (by rfl) D_l_price.g D_l_price.kp D_l_price.b .nil pass0 (pa_cons (pe_ix ix_tup (pv 9) pe_int (fun _ _ => rfl)) (pa_cons (pv 8) pa_nil))) (pe_ix ix_tup (pv 9) pe_int (fun _ _ => rfl)) (nomark _)))))
        (pss_one (ps_ret pe_bl))
        pss_nil)
      (pss_cons (ps_if (pt_cmpR op_gt (pe_op op_mod (pe_call G_l_cell_at (hr.mono (by decide)) (by rfl) D_l_cell_at.g D_l_cell_at.kp D_l_cell_at.b .nil pass0 (pa_cons (pv 0) (pa_cons pe_int pa_nil))) pe_int) pe_int (nomark _))
        (pss_one (ps_ret (pe_cmpR op_eq (pe_ix ix_tup (pe_call G_written (hr.mono (by decide)) (by rfl) D_written.g D_written.kp D_written.b .nil pass0 (pa_cons (pv 6) (pa_cons (pv 2) (pa_cons (pv 1) pa_nil)))) pe_int (fun _ _ => rfl)) (pe_ix ix_tup (pv 7) pe_int (fun _ _ => rfl)) (nomark _))))
        pss_nil)
      (pss_cons (ps_expr (pe_bm PySem.F.plainAttrs_list PySem.F.slot_list_append PySem.F.type_list_append mt_append (pe_ix ix_tup (pv 7) pe_int (fun _ _ => rfl)) (pa_cons (pe_tup (pa_cons pe_str (pa_cons pe_int pa_nil))) pa_nil)))
      (pss_cons (ps_expr (pe_bm PySem.F.plainAttrs_list PySem.F.slot_list_append PySem.F.type_list_append mt_append (pe_ix ix_tup (pv 7) pe_int (fun _ _ => rfl)) (pa_cons (pe_lst pa_nil) pa_nil)))
      (pss_cons (ps_set (i := 10) sc_law.nd rfl (.inl rfl) (pe_call G_written (hr.mono (by decide)) (by rfl) D_written.g D_written.kp D_written.b .nil pass0 (pa_cons (pv 6) (pa_cons (pv 2) (pa_cons (pv 1) pa_nil)))))
      (pss_one (ps_ret (pe_and (pe_cmpR op_eq (pe_ix ix_tup (pv 10) pe_int (fun _ _ => rfl)) (pe_ix ix_tup (pv 7) pe_int (fun _ _ => rfl)) (nomark _)) (pe_one (pe_cmpR (op_eqD hr.units) (pe_call G_l_wishes (hr.mono (by decide)) (by rfl) D_l_wishes.g D_l_wishes.kp D_l_wishes.b .nil pass0 (pa_cons (pe_ix ix_tup (pv 10) pe_int (fun _ _ => rfl)) (pa_cons (pv 1) pa_nil))) (pv 6) (nomark _)))))))))))))))))))))))))), ?_⟩
    -- begin, costs
    refine ⟨_, rfl, a, ns, _, rfl, hS, by decide, fun c0 => ⟨c0, rfl, fun b hb => ?_⟩⟩
    refine ⟨_, rfl, a, ns, _, rfl, hS, by decide, fun c1 => ⟨c1, _, rfl, fun i1 _ _ => ⟨i1, rfl, fun H1 t p sm1 ht hp => ?_⟩⟩⟩
    dsimp only [gName]
    refine seqCut (fun σ' H' => ∃ t p, σ' = [some (.ref a), some (.int b), some (.ref t), none, none, none, none, none, none, none, none] ∧ Same H H' ∧ H' t = some (.tup [oV p.dot, oV p.dk, oV p.ms]) ∧ Nw.Pr.ok p) ?rest1 (fun hrest => ?now1)
    case now1 =>
      refine ⟨_, rfl, a, ns, _, rfl, sm1.seq hS, by decide, fun c2 => ⟨_, _, rfl, rfl, ⟨by decide, by decide⟩, _, _, rfl, rfl, (by show (0 : Int) < 2; decide), rfl, _, rfl, ite2 (fun _ => ?_) (fun _ => ?_)⟩⟩
      · refine tup3 rfl ht hp fun r nr => hrest _ _ ⟨r, Nw.orPr p 2 5 3, rfl, sm1.trans (same_upd nr), upd_same, Nw.orPr_ok hp (by decide) (by decide) (by decide)⟩
      · exact hrest _ _ ⟨t, p, rfl, sm1, ht, hp⟩
    rintro σ1 H2 ⟨t, p, rfl, sm2, ht, hp⟩
    -- size
    refine seqCut (fun σ' H' => ∃ sz : Int, (sz = 20 ∨ sz = 60) ∧ σ' = [some (.ref a), some (.int b), some (.ref t), some (.int sz), none, none, none, none, none, none, none] ∧ Same H2 H') ?rest2 (fun hrest => ?now2)
    case now2 =>
      refine ⟨by show 2 ≤ sizeLine; decide, fun l nl => ?_⟩
      have s3 := same_upd (o := .lst [.int 20, .int 60]) nl
      refine ⟨_, rfl, a, ns, _, rfl, (sm2.trans s3).seq hS, by decide, fun c2 => ⟨_, _, rfl, rfl, ⟨by decide, by decide⟩, _, _, rfl, rfl, (by show (0 : Int) < 8; decide), rfl, .inr ⟨_, rfl, ?_⟩⟩⟩
      cases decide (V.int (c2 / 10 % 8) = V.int 1) with
      | true => exact ⟨l, _, _, _, rfl, rfl, seqL upd_same, atI_nat (j := 1) rfl, hrest _ _ ⟨60, .inr rfl, rfl, s3⟩⟩
      | false => exact ⟨l, _, _, _, rfl, rfl, seqL upd_same, atI_nat (j := 0) rfl, hrest _ _ ⟨20, .inl rfl, rfl, s3⟩⟩
    rintro σ2 H3 ⟨sz, hsz, rfl, sm3⟩
    have hS3 := (sm2.trans sm3).seq hS
    have hmod0 : ∀ c : Int, 0 ≤ c % (sz + 1) ∧ c % (sz + 1) ≤ 60 := fun c => by
      have h1 := Int.emod_nonneg c (show sz + 1 ≠ 0 by omega)
      have h2 := Int.emod_lt_of_pos c (show 0 < sz + 1 by omega)
      omega
    -- line = firmed(line(..)[:size], begin)
    refine ⟨_, rfl, _, rfl, a, ns, _, rfl, hS3, by decide, fun c3 => ⟨_, rfl, _, _, rfl, rfl, _, _, rfl, rfl, (by show (0 : Int) < sz + 1; omega), a, ns, _, _, rfl, hS3, by decide, (hmod0 c3).1, (hmod0 c3).2, fun H4 d L sm4 nd hLine hLl hLg => ?_⟩⟩
    obtain ⟨us, hU, hAU⟩ := hLine
    obtain ⟨szn, rfl⟩ : ∃ szn : Nat, sz = (szn : Int) := ⟨sz.toNat, by omega⟩
    refine ⟨_, rfl, _, rfl, d, us, rfl, seqL hU, fun d2 nd2 => ?_⟩
    rw [cut_to]
    have s5 : Same H4 (upd H4 d2 (.lst (us.take szn))) := same_upd nd2
    have hLt : Line (upd H4 d2 (.lst (us.take szn))) d2 (L.take szn) := ⟨_, upd_same, (hAU.take szn).mono fun v g => isSg.mono (Tp.of s5)⟩
    refine ⟨_, rfl, d2, b, L.take szn, rfl, hLt, by rw [List.length_take]; omega, hb, fun H5 la sm5 hLa => ?_⟩
    obtain ⟨hok, hFl, hFm⟩ := Nw.firmed_spec hb (L.take szn)
    have hFgood : ∀ g ∈ Nw.firmed (L.take szn) b, Nw.goodSg g := fun g hg => hLg g (List.mem_of_mem_take (hFm g hg))
    have hFlen : (Nw.firmed (L.take szn) b).length ≤ 60 := by
      rw [List.length_take] at hFl
      omega
    generalize Nw.firmed (L.take szn) b = L0 at hLa hok hFgood hFlen
    have smA : Same H2 H5 := sm3.trans (sm4.trans (s5.trans sm5))
    have ht5 := smA _ _ ht
    dsimp only [gName]
    -- prices that stand for the line
    refine seqCut (fun σ' H' => ∃ t p due, σ' = [some (.ref a), some (.int b), some (.ref t), some (.int (szn : Int)), some (.ref la), none, none, none, none, none, none] ∧ Same H5 H' ∧ H' t = some (.tup [oV p.dot, oV p.dk, oV p.ms]) ∧ Nw.Pr.ok p ∧ Nw.price L0 p = some due) ?rest3 (fun hrest => ?now3)
    case now3 =>
      refine ⟨_, rfl, _, rfl, la, t, L0, p, rfl, hLa, ht5, rfl, _, rfl, ?_⟩
      rw [eqO_none]
      refine ite2 (fun e => ?_) (fun e => ?_)
      · obtain ⟨due, hdue⟩ := Nw.orPr_price p 3 2 1 L0
        exact tup3 rfl ht5 hp fun r nr => hrest _ _ ⟨r, Nw.orPr p 3 2 1, due, rfl, same_upd nr, upd_same, Nw.orPr_ok hp (by decide) (by decide) (by decide), hdue⟩
      · have hn : ¬ Nw.price L0 p = none := by simpa using e
        obtain ⟨due, hdue⟩ := Option.ne_none_iff_exists'.mp hn
        exact hrest _ _ ⟨t, p, due, rfl, .refl _, ht5, hp, hdue⟩
    rintro σ3 H6 ⟨t, p, due, rfl, sm6, ht6, hp, hdue⟩
    have hLa6 := hLa.same sm6
    have smB : Same H H6 := sm2.trans (smA.trans sm6)
    -- due, wishes
    refine ⟨_, rfl, _, rfl, la, t, L0, p, rfl, hLa6, ht6, ?_⟩
    rw [hdue]
    refine ⟨_, rfl, _, rfl, la, b, L0, rfl, hLa6, by omega, hb, fun H7 wl sm7 nwl hWl => ?_⟩
    have hWt : ∀ wi ∈ Nw.wishesOf L0 (Nw.rd (Nw.cfOf b) L0).ws, -1 ≤ wi.1 := Nw.wishesOf_tone hFgood
    have hWlen : (Nw.wishesOf L0 (Nw.rd (Nw.cfOf b) L0).ws).length ≤ 60 := Nat.le_trans Nw.wishesOf_length hFlen
    have hacc : ∀ p' c', Nw.price L0 p' = some c' → Nw.Acc (Nw.wishesOf L0 (Nw.rd (Nw.cfOf b) L0).ws) p' b L0 c' := fun p' c' h => Nw.acc_of_firm hFgood hok h
    have hsmall : ∀ p' c', Nw.Pr.ok p' → Nw.price L0 p' = some c' → c' ≤ 1000 := fun p' c' h1 h2 => by
      have := Nw.price_le h1 h2
      omega
    generalize Nw.wishesOf L0 (Nw.rd (Nw.cfOf b) L0).ws = W at hWl hWt hWlen hacc
    have hLa7 := hLa6.same sm7
    have ht7 := sm7 _ _ ht6
    dsimp only [gName]
    -- found
    refine seqCut (fun σ' H' => ∃ r l1 pp1 L1 v1, σ' = [some (.ref a), some (.int b), some (.ref t), some (.int (szn : Int)), some (.ref la), some (.int due), some (.ref wl), some (.ref r), none, none, none] ∧ Told W p b H7 H' r l1 pp1 L1 v1) ?rest4 (fun hrest => ?now4)
    case now4 =>
      refine ⟨_, rfl, rfl, _, rfl, ?_⟩
      rw [dec_eq_int]
      refine ite2 (fun e => ?_) (fun e => ?_)
      · have hb3 : b = 3 := of_decide_eq_true e
        subst hb3
        exact ⟨_, rfl, _, rfl, 3, wl, t, W, p, rfl, hWl, hWlen, hp, ht7, ⟨L0, due, hacc p due hdue, hsmall p due hp hdue⟩, fun H' r l1 pp1 L1 v1 T => hrest _ _ ⟨r, l1, pp1, L1, v1, rfl, T⟩⟩
      · exact ⟨_, rfl, _, rfl, _, rfl, b, wl, t, W, p, rfl, hWl, hWlen, hp, ht7, ⟨L0, due, hacc p due hdue, hsmall p due hp hdue⟩, fun H' r l1 pp1 L1 v1 T => hrest _ _ ⟨r, l1, pp1, L1, v1, rfl, T⟩⟩
    rintro σ4 H8 ⟨r, l1, pp1, L1, v1, rfl, T1⟩
    obtain ⟨vs1, hl1, hA1⟩ := id T1.at_l
    have hv1 := (T1.acc.len hp).2
    have hv1d : v1 ≤ due := T1.low L0 due (hacc p due hdue)
    -- the first three tests
    refine seqIf false (fun Q2 q2 => orB false false (fun Q3 q3 => notB true (fun Q4 q4 => ?_) q3) (fun Q3 q3 => ?_) q2) (iteF ?_)
    · exact ⟨_, rfl, _, _, _, _, true, rfl, .ty "tuple", .base (.tup T1.at_r), kit_ty (by decide +kernel), true, rfl, q4⟩
    · exact ⟨_, rfl, r, _, rfl, .inr (seqT T1.at_r), rfl, _, rfl, q3⟩
    dsimp only [tNext]
    refine seqIf false (fun Q2 q2 => orB false false (fun Q3 q3 => notB true (fun Q4 q4 => ?_) q3) (fun Q3 q3 => orB false false (fun Q4 q4 => ?_) (fun Q4 q4 => orB false false (fun Q5 q5 => ?_) (fun Q5 q5 => notB true (fun Q6 q6 => ?_) q5) q4) q3) q2) (iteF ?_)
    · exact ⟨_, rfl, _, _, _, _, rfl, rfl, seqT T1.at_r, atI_nat (j := 1) rfl, v1, rfl, true, rfl, q4⟩
    · refine ⟨_, rfl, _, _, _, _, rfl, rfl, seqT T1.at_r, atI_nat (j := 1) rfl, _, _, rfl, rfl, _, rfl, ?_⟩
      rw [decide_eq_false (show ¬ v1 < 0 by omega)]
      exact q4
    · refine ⟨_, rfl, _, _, _, _, rfl, rfl, seqT T1.at_r, atI_nat (j := 1) rfl, _, rfl, _, _, rfl, rfl, _, rfl, ?_⟩
      rw [decide_eq_false (show ¬ due < v1 by omega)]
      exact q5
    · exact ⟨_, rfl, _, _, _, _, rfl, rfl, seqT T1.at_r, atI_nat (j := 0) rfl, _, _, _, _, true, rfl, .ty "list", .base (.lst hl1), kit_ty (by decide +kernel), true, rfl, q6⟩
    dsimp only [tNext]
    -- more
    have smC : Same H H8 := smB.trans (sm7.trans T1.same)
    refine ⟨_, rfl, a, ns, _, rfl, smC.seq hS, by decide, fun c4 => ⟨c4, _, rfl, fun i2 _ _ => ⟨i2, rfl, fun H9 t2 p2 sm9 ht2 hp2 => ?_⟩⟩⟩
    dsimp only [gName]
    refine seqCut (fun σ' H' => ∃ t3, σ' = [some (.ref a), some (.int b), some (.ref t), some (.int (szn : Int)), some (.ref la), some (.int due), some (.ref wl), some (.ref r), some (.ref t3), none, none] ∧ Same H9 H' ∧ H' t3 = some (.tup [oV (Nw.orPr p2 1 2 4).dot, oV (Nw.orPr p2 1 2 4).dk, oV (Nw.orPr p2 1 2 4).ms])) ?rest5 (fun hrest => ?now5)
    case now5 =>
      refine seqTup (tup3 (i := 8) (x := 1) (y := 2) (z := 4) rfl ht2 hp2 fun t3 nt3 => ?_)
      exact hrest _ _ ⟨t3, rfl, same_upd nt3, upd_same⟩
    rintro σ5 H10 ⟨t3, rfl, sm10, ht3⟩
    have hp3 : (Nw.orPr p2 1 2 4).ok := Nw.orPr_ok hp2 (by decide) (by decide) (by decide)
    obtain ⟨cA, hcA⟩ := Nw.orPr_price p2 1 2 4 L0
    obtain ⟨cB, hcB⟩ := Nw.orPr_price p2 1 2 4 L1
    generalize Nw.orPr p2 1 2 4 = p3 at ht3 hp3 hcA hcB
    have smD : Same H7 H10 := T1.same.trans (sm9.trans sm10)
    -- second
    refine ⟨_, rfl, _, rfl, _, rfl, b, wl, t3, W, p3, rfl, hWl.same smD, hWlen, hp3, ht3, ⟨L0, cA, hacc p3 cA hcA, hsmall p3 cA hp3 hcA⟩, fun H11 r3 l3 pp3 L3 v3 T3 => ?_⟩
    have hv3 := (T3.acc.len hp3).2
    have hvA : v3 ≤ cA := T3.low L0 cA (hacc p3 cA hcA)
    have hvB : v3 ≤ cB := T3.low L1 cB (T1.acc.swap hWt hcB)
    have hC := (Nw.firm_of_acc hWt T3.acc).2.1
    have smE : Same H7 H11 := smD.trans T3.same
    have smF : Same H8 H11 := sm9.trans (sm10.trans T3.same)
    dsimp only [gName]
    have hr11 := smF _ _ T1.at_r
    have ht311 := T3.same _ _ ht3
    refine seqIf false (fun Q2 q2 => orB false false (fun Q3 q3 => notB true (fun Q4 q4 => ?_) q3) (fun Q3 q3 => orB false false (fun Q4 q4 => notB true (fun Q5 q5 => ?_) q4) (fun Q4 q4 => ?_) q3) q2) (iteF ?_)
    · exact ⟨_, rfl, _, _, _, _, true, rfl, .ty "tuple", .base (.tup T3.at_r), kit_ty (by decide +kernel), true, rfl, q4⟩
    · exact ⟨_, rfl, _, _, _, _, rfl, rfl, seqT T3.at_r, atI_nat (j := 1) rfl, v3, rfl, true, rfl, q5⟩
    · refine ⟨_, rfl, _, _, _, _, rfl, rfl, seqT T3.at_r, atI_nat (j := 1) rfl, _, _, rfl, rfl, _, rfl, ?_⟩
      rw [decide_eq_false (show ¬ v3 < 0 by omega)]
      exact q4
    dsimp only [tNext]
    refine seqIf false (fun Q2 q2 => orB false false (fun Q3 q3 => ?_) (fun Q3 q3 => ?_) q2) (iteF ?_)
    · refine ⟨_, rfl, _, _, _, _, rfl, rfl, seqT T3.at_r, atI_nat (j := 1) rfl, _, rfl, _, rfl, la, t3, L0, p3, rfl, hLa7.same smE, ht311, ?_⟩
      rw [hcA]
      refine ⟨_, rfl, _, _, _, _, rfl, rfl, seqT hr11, atI_nat (j := 0) rfl, _, rfl, l1, t3, L1, p3, rfl, T1.at_l.same smF, ht311, ?_⟩
      rw [hcB]
      refine ⟨_, _, rfl, _, _, rfl, rfl, _, rfl, ?_⟩
      rw [decide_eq_false (show ¬ (if cB < cA then cB else cA) < v3 by split <;> omega)]
      exact q3
    · refine ⟨_, rfl, _, _, _, _, rfl, rfl, seqT T3.at_r, atI_nat (j := 0) rfl, _, rfl, l3, t3, L3, p3, rfl, T3.at_l, ht311, ?_⟩
      rw [hC]
      refine ⟨_, rfl, _, _, _, _, rfl, rfl, seqT T3.at_r, atI_nat (j := 1) rfl, rfl, _, rfl, ?_⟩
      have e : (!decide (oV (some v3) = V.int v3)) = false := by show (!decide (V.int v3 = V.int v3)) = false; simp
      rw [e]
      exact q3
    dsimp only [tNext]
    have smG : Same H H11 := smC.trans smF
    have ht11 := smE _ _ ht7
    have hW11 := hWl.same smE
    -- asked again
    refine ⟨_, rfl, a, ns, _, rfl, smG.seq hS, by decide, fun c5 => ⟨_, _, rfl, rfl, (by show (0 : Int) < 4; decide), _, _, rfl, rfl, _, rfl, ite2 (fun _ => ?_) (fun _ => ?_)⟩⟩
    · refine ⟨_, rfl, _, rfl, _, rfl, b, wl, t, W, p, rfl, hW11, hWlen, hp, ht11, ⟨L0, due, hacc p due hdue, hsmall p due hp hdue⟩, fun H12 r4 l4 pp4 L4 v4 T4 => ?_⟩
      have e : v4 = v1 := by
        have h1 := T4.low _ _ T1.acc
        have h2 := T1.low _ _ T4.acc
        omega
      refine ⟨_, _, _, _, rfl, rfl, seqT T4.at_r, atI_nat (j := 1) rfl, _, rfl, _, _, _, _, rfl, rfl, seqT (T4.same _ _ hr11), atI_nat (j := 1) rfl, rfl, ?_⟩
      have e2 : decide (V.int v4 = V.int v1) = true := by rw [e]; simp
      rw [e2]
      exact q _
    -- found[0].append, found[2].append
    obtain ⟨xs1, hx1, hx1l⟩ := T1.at_p
    have hl11 := smF _ _ hl1
    have hpp11 := smF _ _ hx1
    have hL1len : L1.length ≤ 5000 := by
      have := (T1.acc.len hp).1
      have := hsmall p due hp hdue
      omega
    have nlp : l1 ≠ pp1 := T1.ne
    refine ⟨_, rfl, _, _, _, _, rfl, rfl, seqT hr11, atI_nat (j := 0) rfl, .inl ⟨rfl, _, seqL hl11⟩, (by show 2 ≤ sizeLine; decide), fun pt npt => ?_⟩
    have sA : Same H11 (upd H11 pt (.tup [.str "R", .int 0])) := same_upd npt
    refine ⟨l1, _, _, rfl, rfl, sA _ _ hl11, size_small (by rw [hA1.1]; omega), ?_⟩
    have tB : Tp H11 (upd (upd H11 pt (.tup [.str "R", .int 0])) l1 (.lst (vs1 ++ [.ref pt]))) := (Tp.of sA).trans (Tp.upd (sA _ _ hl11) (by intro xs z; cases z))
    have bB : But [l1, pp1] H11 (upd (upd H11 pt (.tup [.str "R", .int 0])) l1 (.lst (vs1 ++ [.ref pt]))) := (But.of sA).trans (But.upd (by simp))
    have hppB : (upd (upd H11 pt (.tup [.str "R", .int 0])) l1 (.lst (vs1 ++ [.ref pt]))) pp1 = some (.lst xs1) := by rw [upd_ne nlp.symm]; exact sA _ _ hpp11
    refine ⟨_, rfl, _, _, _, _, rfl, rfl, seqT (tB _ _ hr11), atI_nat (j := 2) rfl, .inl ⟨rfl, _, seqL hppB⟩, Nat.zero_le _, fun pl npl => ?_⟩
    generalize hHB : upd (upd H11 pt (.tup [.str "R", .int 0])) l1 (.lst (vs1 ++ [.ref pt])) = HB at tB bB hppB npl ⊢
    have sC : Same HB (upd HB pl (.lst [])) := same_upd npl
    refine ⟨pp1, _, _, rfl, rfl, sC _ _ hppB, size_small (by omega), ?_⟩
    have tD : Tp H11 (upd (upd HB pl (.lst [])) pp1 (.lst (xs1 ++ [.ref pl]))) := tB.trans ((Tp.of sC).trans (Tp.upd (sC _ _ hppB) (by intro xs z; cases z)))
    have bD : But [l1, pp1] H11 (upd (upd HB pl (.lst [])) pp1 (.lst (xs1 ++ [.ref pl]))) := bB.trans ((But.of sC).trans (But.upd (by simp)))
    generalize upd (upd HB pl (.lst [])) pp1 (.lst (xs1 ++ [.ref pl])) = HD at tD bD ⊢
    have hWD : Wishes HD wl W := by
      obtain ⟨ws, h1, h2⟩ := hWl
      have n1 : wl ≠ l1 := ne_of_none h1 T1.nl
      have n2 : wl ≠ pp1 := ne_of_none h1 T1.np
      exact ⟨ws, bD wl _ (by simp [n1, n2]) (smE _ _ h1), h2.mono fun v g => isWi.mono ((Tp.of smE).trans tD)⟩
    -- again
    refine ⟨_, rfl, _, rfl, _, rfl, b, wl, t, W, p, rfl, hWD, hWlen, hp, tD _ _ ht11, ⟨L0, due, hacc p due hdue, hsmall p due hp hdue⟩, fun H13 r5 l5 pp5 L5 v5 T5 => ?_⟩
    have e5 : v5 = v1 := by
      have h1 := T5.low _ _ T1.acc
      have h2 := T1.low _ _ T5.acc
      omega
    have hr13 := T5.same _ _ (tD _ _ hr11)
    have hL5len : L5.length ≤ 5000 := by
      have := (T5.acc.len hp).1
      have := hsmall p due hp hdue
      omega
    refine ⟨_, rfl, _, _, _, _, rfl, rfl, seqT T5.at_r, atI_nat (j := 1) rfl, _, rfl, _, _, _, _, rfl, rfl, seqT hr13, atI_nat (j := 1) rfl, rfl, true, by rw [e5]; simp, iteT ?_⟩
    refine ⟨_, rfl, _, _, _, _, rfl, rfl, seqT T5.at_r, atI_nat (j := 0) rfl, _, rfl, l5, b, L5, rfl, T5.at_l, hL5len, hb, fun H14 dw sm14 ndw hW14 => ?_⟩
    rw [(Nw.firm_of_acc hWt T5.acc).2.2] at hW14
    obtain ⟨w1, hw1, hw1A⟩ := hW14
    obtain ⟨w2, hw2, hw2A⟩ := (hWD.same T5.same).same sm14
    refine ⟨_, rfl, _, _, .lst (seqL hw1) (dp_wis hw1A), .lst (seqL hw2) (dp_wis hw2A), shaped_wis _, shaped_wis _, ?_⟩
    rw [SeqAt.eqv_refl _ (SeqAt.canLay_of_shaped (shaped_wis W))]
    exact q _
end
end Nt
namespace Nt
open PySem PySem.Spec PyProof.Rows L2
/-! ### what the top has left, and the end -/
structure DefK (K : PySem.W.Frag) (x : Str) (st : Stmt) (f : Addr) (fd : FuncData) : Prop where
  a : PySem.W.nsIn K mainGlobals x = some (some (.ref f))
  F : Fun K x x st f fd
theorem DefK.at {K : PySem.W.Frag} {h : Heap} {mg : Str → Option Value} {x : Str} {st : Stmt} {f : Addr} {fd : FuncData} {ps : List Str} (d : DefK K x st f fd) (X : K.In h) (G : h.Ns mainGlobals mg)
    (hb : ∀ (kV doc pm : Value) (an : Option Addr) (cdv ct : Value) (us : List Value), us.length = ps.length → bindArgs (PySem.W.fnOf x x (defArgs st) (defBody st) (defScope st) .none kV doc pm an cdv ct) ⟨us, []⟩ = pure (ps.zip us)) : DefAt K mg x f fd ps :=
  ⟨PySem.W.mg_of X G d.a, d.F.kp, d.F.binds hb⟩
theorem funD_mk {K : PySem.W.Frag} {x : Str} {st : Stmt} {f T : Addr} {oc : Value} {od an : Option Addr} {osl : Array (Option Value)} {kV doc pm cdv ct : Value} {o : Obj} {t : Tok} {n : Nat}
    (l : K.lookup f = some ⟨oc, od, .func (PySem.W.fnOf x x (defArgs st) (defBody st) (defScope st) (.ref T) kV doc pm an cdv ct), osl⟩) (c : PySem.W.codeIn K cdv x = true) (k : PySem.W.keepIn K (.ref f) = true)
    (lT : K.lookup T = some o) (oT : o.data = .seq #[.int 3 t] n) : FunD K x x (defArgs st) (defBody st) (defScope st) [.int 3] [] f (PySem.W.fnOf x x (defArgs st) (defBody st) (defScope st) (.ref T) kV doc pm an cdv ct) :=
  ⟨⟨oc, od, .ref T, kV, doc, pm, an, cdv, ct, osl, rfl, l, c, .inr ⟨by simp, T, o, [.int 3 t], n, rfl, lT, oT, .cons ⟨t, rfl⟩ .nil⟩, .inl rfl⟩, k⟩
set_option maxHeartbeats 8000000 in
theorem all_mk {l : PySem.W.OpenLaw} {w : World} {K : PySem.W.Frag} {h : Heap} {mg : Str → Option Value} {fa f_within f_great f_small f_parting f_measuring f_sign_price f_begin_state f_closed_by f_great_step f_small_step f_parted f_two_step f_step f_ends f_moves_by f_part_moves f_wish_moves f_better f_spread f_onward f_cheapest_end f_line_back f_written f_l_cell_at f_l_mixed f_l_numbers f_l_sign_by f_l_line f_l_begin f_l_base f_l_three f_l_run f_l_read f_l_firmed f_l_wishes f_l_prices f_l_price f_l_whole f_law : Addr} {fd_within fd_great fd_small fd_parting fd_measuring fd_sign_price fd_begin_state fd_closed_by fd_great_step fd_small_step fd_parted fd_two_step fd_step fd_ends fd_moves_by fd_part_moves fd_wish_moves fd_better fd_spread fd_onward fd_cheapest_end fd_line_back fd_written fd_l_cell_at fd_l_mixed fd_l_numbers fd_l_sign_by fd_l_line fd_l_begin fd_l_base fd_l_three fd_l_run fd_l_read fd_l_firmed fd_l_wishes fd_l_prices fd_l_price fd_l_whole fd_law : FuncData} {t_GREAT t_SMALL t_PARTING : Tok} (X : K.In h) (G : h.Ns mainGlobals mg) (hfa : mg "law" = some (.ref fa))
    (d_within : DefK K "within" s_within f_within fd_within)
    (d_great : DefK K "great" s_great f_great fd_great)
    (d_small : DefK K "small" s_small f_small fd_small)
    (d_parting : DefK K "parting" s_parting f_parting fd_parting)
    (d_measuring : DefK K "measuring" s_measuring f_measuring fd_measuring)
    (d_sign_price : DefK K "sign_price" s_sign_price f_sign_price fd_sign_price)
    (a_begin_state : PySem.W.nsIn K mainGlobals "begin_state" = some (some (.ref f_begin_state))) (d_begin_state : FunD K "begin_state" "begin_state" (defArgs s_begin_state) (defBody s_begin_state) (defScope s_begin_state) [.int 3] [] f_begin_state fd_begin_state)
    (d_closed_by : DefK K "closed_by" s_closed_by f_closed_by fd_closed_by)
    (d_great_step : DefK K "great_step" s_great_step f_great_step fd_great_step)
    (d_small_step : DefK K "small_step" s_small_step f_small_step fd_small_step)
    (d_parted : DefK K "parted" s_parted f_parted fd_parted)
    (d_two_step : DefK K "two_step" s_two_step f_two_step fd_two_step)
    (d_step : DefK K "step" s_step f_step fd_step)
    (d_ends : DefK K "ends" s_ends f_ends fd_ends)
    (d_moves_by : DefK K "moves_by" s_moves_by f_moves_by fd_moves_by)
    (d_part_moves : DefK K "part_moves" s_part_moves f_part_moves fd_part_moves)
    (d_wish_moves : DefK K "wish_moves" s_wish_moves f_wish_moves fd_wish_moves)
    (d_better : DefK K "better" s_better f_better fd_better)
    (d_spread : DefK K "spread" s_spread f_spread fd_spread)
    (d_onward : DefK K "onward" s_onward f_onward fd_onward)
    (d_cheapest_end : DefK K "cheapest_end" s_cheapest_end f_cheapest_end fd_cheapest_end)
    (d_line_back : DefK K "line_back" s_line_back f_line_back fd_line_back)
    (a_written : PySem.W.nsIn K mainGlobals "written" = some (some (.ref f_written))) (d_written : FunD K "written" "written" (defArgs s_written) (defBody s_written) (defScope s_written) [.int 3] [] f_written fd_written)
    (d_l_cell_at : DefK K "_law_cell_at" s_l_cell_at f_l_cell_at fd_l_cell_at)
    (d_l_mixed : DefK K "_law_mixed" s_l_mixed f_l_mixed fd_l_mixed)
    (d_l_numbers : DefK K "_law_numbers" s_l_numbers f_l_numbers fd_l_numbers)
    (d_l_sign_by : DefK K "_law_sign_by" s_l_sign_by f_l_sign_by fd_l_sign_by)
    (d_l_line : DefK K "_law_line" s_l_line f_l_line fd_l_line)
    (d_l_begin : DefK K "_law_begin" s_l_begin f_l_begin fd_l_begin)
    (d_l_base : DefK K "_law_base" s_l_base f_l_base fd_l_base)
    (d_l_three : DefK K "_law_three" s_l_three f_l_three fd_l_three)
    (d_l_run : DefK K "_law_run" s_l_run f_l_run fd_l_run)
    (d_l_read : DefK K "_law_read" s_l_read f_l_read fd_l_read)
    (d_l_firmed : DefK K "_law_firmed" s_l_firmed f_l_firmed fd_l_firmed)
    (d_l_wishes : DefK K "_law_wishes" s_l_wishes f_l_wishes fd_l_wishes)
    (d_l_prices : DefK K "_law_prices" s_l_prices f_l_prices fd_l_prices)
    (d_l_price : DefK K "_law_price" s_l_price f_l_price fd_l_price)
    (d_l_whole : DefK K "_law_whole" s_l_whole f_l_whole fd_l_whole)
    (d_law : DefK K "law" s_law f_law fd_law)
    (b_GREAT : PySem.W.nsIn K mainGlobals "GREAT" = some (some (.str "GDR" t_GREAT)))
    (b_SMALL : PySem.W.nsIn K mainGlobals "SMALL" = some (some (.str "sdr" t_SMALL)))
    (b_PARTING : PySem.W.nsIn K mainGlobals "PARTING" = some (some (.str ".32" t_PARTING)))
    (y_len : PySem.W.nsIn K mainGlobals "len" = some none)
    (y_min : PySem.W.nsIn K mainGlobals "min" = some none)
    (y_max : PySem.W.nsIn K mainGlobals "max" = some none)
    (y_int : PySem.W.nsIn K mainGlobals "int" = some none)
    (y_str : PySem.W.nsIn K mainGlobals "str" = some none)
    (y_list : PySem.W.nsIn K mainGlobals "list" = some none)
    (y_sorted : PySem.W.nsIn K mainGlobals "sorted" = some none)
    (y_enumerate : PySem.W.nsIn K mainGlobals "enumerate" = some none)
    (y_range : PySem.W.nsIn K mainGlobals "range" = some none)
    (y_zip : PySem.W.nsIn K mainGlobals "zip" = some none)
    (y_isinstance : PySem.W.nsIn K mainGlobals "isinstance" = some none)
    (y_tuple : PySem.W.nsIn K mainGlobals "tuple" = some none)
    (y_bool : PySem.W.nsIn K mainGlobals "bool" = some none)
    : ∃ fd : FuncData, (∀ (s : Shared) (v : Value), BindsTo s fd ⟨[v], []⟩ [("_law_script", v)]) ∧ ∀ base : Heap, K.In base → base.Ns mainGlobals mg → FnOk l.prog w K mg base CX0 10 fa fd ["_law_script"] (sp_law K) := by
  have e := hfa.symm.trans (PySem.W.mg_of X G d_law.a)
  cases e
  have g_GREAT := PySem.W.mg_of X G b_GREAT
  have g_SMALL := PySem.W.mg_of X G b_SMALL
  have g_PARTING := PySem.W.mg_of X G b_PARTING
  have z_len := PySem.W.mg_none_of X G y_len
  have z_min := PySem.W.mg_none_of X G y_min
  have z_max := PySem.W.mg_none_of X G y_max
  have z_int := PySem.W.mg_none_of X G y_int
  have z_str := PySem.W.mg_none_of X G y_str
  have z_list := PySem.W.mg_none_of X G y_list
  have z_sorted := PySem.W.mg_none_of X G y_sorted
  have z_enumerate := PySem.W.mg_none_of X G y_enumerate
  have z_range := PySem.W.mg_none_of X G y_range
  have z_zip := PySem.W.mg_none_of X G y_zip
  have z_isinstance := PySem.W.mg_none_of X G y_isinstance
  have z_tuple := PySem.W.mg_none_of X G y_tuple
  have z_bool := PySem.W.mg_none_of X G y_bool
  have D_within : DefAt K mg "within" f_within fd_within ["kind", "letters"] := d_within.at X G fun _ _ _ _ _ _ us hl => match us, hl with | [_, _], _ => rfl
  have D_great : DefAt K mg "great" f_great fd_great ["sign"] := d_great.at X G fun _ _ _ _ _ _ us hl => match us, hl with | [_], _ => rfl
  have D_small : DefAt K mg "small" f_small fd_small ["sign"] := d_small.at X G fun _ _ _ _ _ _ us hl => match us, hl with | [_], _ => rfl
  have D_parting : DefAt K mg "parting" f_parting fd_parting ["sign"] := d_parting.at X G fun _ _ _ _ _ _ us hl => match us, hl with | [_], _ => rfl
  have D_measuring : DefAt K mg "measuring" f_measuring fd_measuring ["sign"] := d_measuring.at X G fun _ _ _ _ _ _ us hl => match us, hl with | [_], _ => rfl
  have D_sign_price : DefAt K mg "sign_price" f_sign_price fd_sign_price ["sign", "prices"] := d_sign_price.at X G fun _ _ _ _ _ _ us hl => match us, hl with | [_, _], _ => rfl
  have D_begin_state : DefAt K mg "begin_state" f_begin_state fd_begin_state ["begin"] := ⟨PySem.W.mg_of X G a_begin_state, d_begin_state.kp, bind_begin d_begin_state⟩
  have D_closed_by : DefAt K mg "closed_by" f_closed_by fd_closed_by ["state", "sign", "worth"] := d_closed_by.at X G fun _ _ _ _ _ _ us hl => match us, hl with | [_, _, _], _ => rfl
  have D_great_step : DefAt K mg "great_step" f_great_step fd_great_step ["state", "sign", "worth"] := d_great_step.at X G fun _ _ _ _ _ _ us hl => match us, hl with | [_, _, _], _ => rfl
  have D_small_step : DefAt K mg "small_step" f_small_step fd_small_step ["state", "sign", "worth"] := d_small_step.at X G fun _ _ _ _ _ _ us hl => match us, hl with | [_, _, _], _ => rfl
  have D_parted : DefAt K mg "parted" f_parted fd_parted ["sign"] := d_parted.at X G fun _ _ _ _ _ _ us hl => match us, hl with | [_], _ => rfl
  have D_two_step : DefAt K mg "two_step" f_two_step fd_two_step ["state", "sign", "worth"] := d_two_step.at X G fun _ _ _ _ _ _ us hl => match us, hl with | [_, _, _], _ => rfl
  have D_step : DefAt K mg "step" f_step fd_step ["state", "sign", "worth"] := d_step.at X G fun _ _ _ _ _ _ us hl => match us, hl with | [_, _, _], _ => rfl
  have D_ends : DefAt K mg "ends" f_ends fd_ends ["state"] := d_ends.at X G fun _ _ _ _ _ _ us hl => match us, hl with | [_], _ => rfl
  have D_moves_by : DefAt K mg "moves_by" f_moves_by fd_moves_by ["state", "signs", "worth", "prices"] := d_moves_by.at X G fun _ _ _ _ _ _ us hl => match us, hl with | [_, _, _, _], _ => rfl
  have D_part_moves : DefAt K mg "part_moves" f_part_moves fd_part_moves ["state", "prices"] := d_part_moves.at X G fun _ _ _ _ _ _ us hl => match us, hl with | [_, _], _ => rfl
  have D_wish_moves : DefAt K mg "wish_moves" f_wish_moves fd_wish_moves ["state", "wish", "prices"] := d_wish_moves.at X G fun _ _ _ _ _ _ us hl => match us, hl with | [_, _, _], _ => rfl
  have D_better : DefAt K mg "better" f_better fd_better ["table", "onto", "cost"] := d_better.at X G fun _ _ _ _ _ _ us hl => match us, hl with | [_, _, _], _ => rfl
  have D_spread : DefAt K mg "spread" f_spread fd_spread ["table", "back", "at", "prices"] := d_spread.at X G fun _ _ _ _ _ _ us hl => match us, hl with | [_, _, _, _], _ => rfl
  have D_onward : DefAt K mg "onward" f_onward fd_onward ["table", "back", "at", "wish", "prices"] := d_onward.at X G fun _ _ _ _ _ _ us hl => match us, hl with | [_, _, _, _, _], _ => rfl
  have D_cheapest_end : DefAt K mg "cheapest_end" f_cheapest_end fd_cheapest_end ["table"] := d_cheapest_end.at X G fun _ _ _ _ _ _ us hl => match us, hl with | [_], _ => rfl
  have D_line_back : DefAt K mg "line_back" f_line_back fd_line_back ["back", "at", "state"] := d_line_back.at X G fun _ _ _ _ _ _ us hl => match us, hl with | [_, _, _], _ => rfl
  have D_written : DefAt K mg "written" f_written fd_written ["wishes", "prices", "begin"] := ⟨PySem.W.mg_of X G a_written, d_written.kp, bind_written d_written⟩
  obtain ⟨ds1, v1_written, b1_written⟩ := bind_written1 d_written
  have D_l_cell_at : DefAt K mg "_law_cell_at" f_l_cell_at fd_l_cell_at ["_law_script", "_law_k"] := d_l_cell_at.at X G fun _ _ _ _ _ _ us hl => match us, hl with | [_, _], _ => rfl
  have D_l_mixed : DefAt K mg "_law_mixed" f_l_mixed fd_l_mixed ["_law_seed", "_law_k"] := d_l_mixed.at X G fun _ _ _ _ _ _ us hl => match us, hl with | [_, _], _ => rfl
  have D_l_numbers : DefAt K mg "_law_numbers" f_l_numbers fd_l_numbers ["_law_script", "_law_at", "_law_many"] := d_l_numbers.at X G fun _ _ _ _ _ _ us hl => match us, hl with | [_, _, _], _ => rfl
  have D_l_sign_by : DefAt K mg "_law_sign_by" f_l_sign_by fd_l_sign_by ["_law_number"] := d_l_sign_by.at X G fun _ _ _ _ _ _ us hl => match us, hl with | [_], _ => rfl
  have D_l_line : DefAt K mg "_law_line" f_l_line fd_l_line ["_law_script", "_law_at", "_law_many"] := d_l_line.at X G fun _ _ _ _ _ _ us hl => match us, hl with | [_, _, _], _ => rfl
  have D_l_begin : DefAt K mg "_law_begin" f_l_begin fd_l_begin ["_law_cell"] := d_l_begin.at X G fun _ _ _ _ _ _ us hl => match us, hl with | [_], _ => rfl
  have D_l_base : DefAt K mg "_law_base" f_l_base fd_l_base ["_law_line_here", "_law_begin_here"] := d_l_base.at X G fun _ _ _ _ _ _ us hl => match us, hl with | [_, _], _ => rfl
  have D_l_three : DefAt K mg "_law_three" f_l_three fd_l_three ["_law_line_here", "_law_begin_here"] := d_l_three.at X G fun _ _ _ _ _ _ us hl => match us, hl with | [_, _], _ => rfl
  have D_l_run : DefAt K mg "_law_run" f_l_run fd_l_run ["_law_line_here", "_law_told", "_law_low", "_law_high"] := d_l_run.at X G fun _ _ _ _ _ _ us hl => match us, hl with | [_, _, _, _], _ => rfl
  have D_l_read : DefAt K mg "_law_read" f_l_read fd_l_read ["_law_line_here", "_law_begin_here"] := d_l_read.at X G fun _ _ _ _ _ _ us hl => match us, hl with | [_, _], _ => rfl
  have D_l_firmed : DefAt K mg "_law_firmed" f_l_firmed fd_l_firmed ["_law_line_here", "_law_begin_here"] := d_l_firmed.at X G fun _ _ _ _ _ _ us hl => match us, hl with | [_, _], _ => rfl
  have D_l_wishes : DefAt K mg "_law_wishes" f_l_wishes fd_l_wishes ["_law_line_here", "_law_begin_here"] := d_l_wishes.at X G fun _ _ _ _ _ _ us hl => match us, hl with | [_, _], _ => rfl
  have D_l_prices : DefAt K mg "_law_prices" f_l_prices fd_l_prices ["_law_cell"] := d_l_prices.at X G fun _ _ _ _ _ _ us hl => match us, hl with | [_], _ => rfl
  have D_l_price : DefAt K mg "_law_price" f_l_price fd_l_price ["_law_line_here", "_law_prices_here"] := d_l_price.at X G fun _ _ _ _ _ _ us hl => match us, hl with | [_, _], _ => rfl
  have D_l_whole : DefAt K mg "_law_whole" f_l_whole fd_l_whole ["_law_found"] := d_l_whole.at X G fun _ _ _ _ _ _ us hl => match us, hl with | [_], _ => rfl
  obtain ⟨oc, od, kV, doc, pm, an, cdv, ct, osl, rfl, lk, hcd⟩ := id d_law.F.ex
  refine ⟨PySem.W.fnOf "law" "law" (defArgs s_law) (defBody s_law) (defScope s_law) .none kV doc pm an cdv ct, fun s v => .of_eq rfl, fun base _ _ => ?_⟩
  have G_within : FnOk l.prog w K mg base CX0 1 f_within fd_within ["kind", "letters"] sp_within := ok_within d_within.F
  have G_great : FnOk l.prog w K mg base CX0 2 f_great fd_great ["sign"] (sp_kd Nw.Kd.great K) := ok_great d_great.F D_within G_within g_GREAT
  have G_small : FnOk l.prog w K mg base CX0 2 f_small fd_small ["sign"] (sp_kd Nw.Kd.small K) := ok_small d_small.F D_within G_within g_SMALL
  have G_parting : FnOk l.prog w K mg base CX0 2 f_parting fd_parting ["sign"] (sp_kd Nw.Kd.parting K) := ok_parting d_parting.F D_within G_within g_PARTING
  have G_measuring : FnOk l.prog w K mg base CX0 1 f_measuring fd_measuring ["sign"] (sp_kd Nw.Kd.measuring K) := ok_measuring d_measuring.F
  have G_sign_price : FnOk l.prog w K mg base CX0 2 f_sign_price fd_sign_price ["sign", "prices"] (sp_sign_price K) := ok_sign_price d_sign_price.F D_measuring G_measuring
  have G_begin_state : FnOk l.prog w K mg base CX0 1 f_begin_state fd_begin_state ["begin"] sp_begin_state := ok_begin_state d_begin_state
  have G_closed_by : FnOk l.prog w K mg base CX0 3 f_closed_by fd_closed_by ["state", "sign", "worth"] (sp_closed_by K) := ok_closed_by d_closed_by.F D_great G_great
  have G_great_step : FnOk l.prog w K mg base CX0 4 f_great_step fd_great_step ["state", "sign", "worth"] (sp_great_step K) := ok_great_step d_great_step.F D_closed_by G_closed_by
  have G_small_step : FnOk l.prog w K mg base CX0 1 f_small_step fd_small_step ["state", "sign", "worth"] (sp_small_step K) := ok_small_step d_small_step.F z_int z_str
  have G_parted : FnOk l.prog w K mg base CX0 1 f_parted fd_parted ["sign"] (sp_parted K) := ok_parted d_parted.F
  have G_two_step : FnOk l.prog w K mg base CX0 3 f_two_step fd_two_step ["state", "sign", "worth"] (sp_two_step K) := ok_two_step d_two_step.F D_parting G_parting D_small G_small D_parted G_parted
  have G_step : FnOk l.prog w K mg base CX0 5 f_step fd_step ["state", "sign", "worth"] (sp_step K) := ok_step d_step.F D_two_step G_two_step D_great G_great D_great_step G_great_step D_small G_small D_small_step G_small_step D_closed_by G_closed_by D_parted G_parted
  have G_ends : FnOk l.prog w K mg base CX0 4 f_ends fd_ends ["state"] (sp_ends K) := ok_ends d_ends.F D_closed_by G_closed_by
  have G_moves_by : FnOk l.prog w K mg base CX0 6 f_moves_by fd_moves_by ["state", "signs", "worth", "prices"] (sp_moves_by K) := ok_moves_by d_moves_by.F D_sign_price G_sign_price D_step G_step
  have G_part_moves : FnOk l.prog w K mg base CX0 7 f_part_moves fd_part_moves ["state", "prices"] sp_part_moves := ok_part_moves d_part_moves.F D_moves_by G_moves_by
  have G_wish_moves : FnOk l.prog w K mg base CX0 7 f_wish_moves fd_wish_moves ["state", "wish", "prices"] sp_wish_moves := ok_wish_moves d_wish_moves.F D_moves_by G_moves_by
  have G_better : FnOk l.prog w K mg base CX0 1 f_better fd_better ["table", "onto", "cost"] sp_better := ok_better d_better.F
  have G_spread : ∀ W b, FnOk l.prog w K mg base CX0 8 f_spread fd_spread ["table", "back", "at", "prices"] (sp_spread W b) := fun W b => ok_spread d_spread.F D_part_moves G_part_moves D_better G_better z_list
  have G_onward : ∀ W b, FnOk l.prog w K mg base CX0 8 f_onward fd_onward ["table", "back", "at", "wish", "prices"] (sp_onward W b) := fun W b => ok_onward d_onward.F D_wish_moves G_wish_moves D_better G_better z_list
  have G_cheapest_end : FnOk l.prog w K mg base CX0 5 f_cheapest_end fd_cheapest_end ["table"] sp_cheapest_end := ok_cheapest_end d_cheapest_end.F D_ends G_ends z_list z_sorted
  have G_line_back : ∀ W b, FnOk l.prog w K mg base CX0 1 f_line_back fd_line_back ["back", "at", "state"] (sp_line_back W b) := fun W b => ok_line_back d_line_back.F
  have G_written : FnOk l.prog w K mg base CX0 9 f_written fd_written ["wishes", "prices", "begin"] sp_written := ok_written d_written D_begin_state G_begin_state D_spread G_spread D_onward G_onward D_cheapest_end G_cheapest_end D_line_back G_line_back z_list z_sorted z_enumerate z_len
  have G_l_cell_at : FnOk l.prog w K mg base CX0 1 f_l_cell_at fd_l_cell_at ["_law_script", "_law_k"] (sp_l_cell_at K) := ok_l_cell_at d_l_cell_at.F z_min z_len
  have G_l_mixed : FnOk l.prog w K mg base CX0 1 f_l_mixed fd_l_mixed ["_law_seed", "_law_k"] sp_l_mixed := ok_l_mixed d_l_mixed.F
  have G_l_numbers : FnOk l.prog w K mg base CX0 2 f_l_numbers fd_l_numbers ["_law_script", "_law_at", "_law_many"] (sp_l_numbers K) := ok_l_numbers d_l_numbers.F D_l_cell_at G_l_cell_at D_l_mixed G_l_mixed z_range z_len
  have G_l_sign_by : FnOk l.prog w K mg base CX0 1 f_l_sign_by fd_l_sign_by ["_law_number"] sp_l_sign_by := ok_l_sign_by d_l_sign_by.F
  have G_l_line : FnOk l.prog w K mg base CX0 3 f_l_line fd_l_line ["_law_script", "_law_at", "_law_many"] (sp_l_line K) := ok_l_line d_l_line.F D_l_numbers G_l_numbers D_l_sign_by G_l_sign_by
  have G_l_begin : FnOk l.prog w K mg base CX0 1 f_l_begin fd_l_begin ["_law_cell"] sp_l_begin := ok_l_begin d_l_begin.F z_int
  have G_l_base : FnOk l.prog w K mg base CX0 1 f_l_base fd_l_base ["_law_line_here", "_law_begin_here"] sp_l_base := ok_l_base d_l_base.F z_range z_len z_int
  have G_l_three : FnOk l.prog w K mg base CX0 1 f_l_three fd_l_three ["_law_line_here", "_law_begin_here"] sp_l_three := ok_l_three d_l_three.F z_int
  have G_l_run : FnOk l.prog w K mg base CX0 1 f_l_run fd_l_run ["_law_line_here", "_law_told", "_law_low", "_law_high"] sp_l_run := ok_l_run d_l_run.F z_len
  have G_l_read : FnOk l.prog w K mg base CX0 2 f_l_read fd_l_read ["_law_line_here", "_law_begin_here"] sp_l_read := ok_l_read d_l_read.F D_l_base G_l_base D_l_three G_l_three D_l_run G_l_run z_len z_max
  have G_l_firmed : FnOk l.prog w K mg base CX0 3 f_l_firmed fd_l_firmed ["_law_line_here", "_law_begin_here"] sp_l_firmed := ok_l_firmed d_l_firmed.F D_l_read G_l_read z_range z_len
  have G_l_wishes : FnOk l.prog w K mg base CX0 3 f_l_wishes fd_l_wishes ["_law_line_here", "_law_begin_here"] sp_l_wishes := ok_l_wishes d_l_wishes.F D_l_read G_l_read z_zip
  have G_l_prices : FnOk l.prog w K mg base CX0 1 f_l_prices fd_l_prices ["_law_cell"] sp_l_prices := ok_l_prices d_l_prices.F z_range
  have G_l_price : FnOk l.prog w K mg base CX0 1 f_l_price fd_l_price ["_law_line_here", "_law_prices_here"] sp_l_price := ok_l_price d_l_price.F
  have G_l_whole : FnOk l.prog w K mg base CX0 1 f_l_whole fd_l_whole ["_law_found"] sp_l_whole := ok_l_whole d_l_whole.F z_isinstance z_int z_bool
  exact ok_law d_law.F D_l_begin G_l_begin D_l_cell_at G_l_cell_at D_l_prices G_l_prices D_l_mixed G_l_mixed D_l_firmed G_l_firmed D_l_line G_l_line D_l_price G_l_price D_l_wishes G_l_wishes D_written b1_written v1_written G_written D_l_whole G_l_whole z_int z_isinstance z_tuple z_list z_len z_min
end Nt
open PySem PySem.W PyProof.Rows
set_option maxRecDepth 100000 in
set_option maxHeartbeats 0 in
theorem PySem.Challenge.cw_noteworth_k26_whole_none_cheaper_holds : PySem.Challenge.rw_noteworth_k26_whole_none_cheaper.Holds := by
  w_on; o_law; k_head; (case hw => w_witness2)
  k_fill
  refine L2.walk_of (l := PySem.Challenge.rw_noteworth_k26_whole_none_cheaper) (n := 63) (k := 10) (x := "_law_script") (CX := fun _ => L2.CX0) (sp := fun w => Nt.sp_law _) rfl (by decide) rfl ⟨rfl, by decide, by decide⟩ (fun w h Y => PySem.W.kIn_of Y) ?F (fun _ _ a ns hl _ hS => ⟨a, ns, rfl, hS, hl, fun _ => rfl⟩) (fun _ _ _ _ _ h => h)
  case F =>
    intro w mg fa h KX G hmg
    refine' Nt.all_mk KX G hmg ⟨?a_within, L2.fun_mk ?l_within ?c_within ?k_within⟩ ⟨?a_great, L2.fun_mk ?l_great ?c_great ?k_great⟩ ⟨?a_small, L2.fun_mk ?l_small ?c_small ?k_small⟩ ⟨?a_parting, L2.fun_mk ?l_parting ?c_parting ?k_parting⟩ ⟨?a_measuring, L2.fun_mk ?l_measuring ?c_measuring ?k_measuring⟩ ⟨?a_sign_price, L2.fun_mk ?l_sign_price ?c_sign_price ?k_sign_price⟩ ?a_begin_state (Nt.funD_mk ?l_begin_state ?c_begin_state ?k_begin_state ?t_begin_state ?o_begin_state) ⟨?a_closed_by, L2.fun_mk ?l_closed_by ?c_closed_by ?k_closed_by⟩ ⟨?a_great_step, L2.fun_mk ?l_great_step ?c_great_step ?k_great_step⟩ ⟨?a_small_step, L2.fun_mk ?l_small_step ?c_small_step ?k_small_step⟩ ⟨?a_parted, L2.fun_mk ?l_parted ?c_parted ?k_parted⟩ ⟨?a_two_step, L2.fun_mk ?l_two_step ?c_two_step ?k_two_step⟩ ⟨?a_step, L2.fun_mk ?l_step ?c_step ?k_step⟩ ⟨?a_ends, L2.fun_mk ?l_ends ?c_ends ?k_ends⟩ ⟨?a_moves_by, L2.fun_mk ?l_moves_by ?c_moves_by ?k_moves_by⟩ ⟨?a_part_moves, L2.fun_mk ?l_part_moves ?c_part_moves ?k_part_moves⟩ ⟨?a_wish_moves, L2.fun_mk ?l_wish_moves ?c_wish_moves ?k_wish_moves⟩ ⟨?a_better, L2.fun_mk ?l_better ?c_better ?k_better⟩ ⟨?a_spread, L2.fun_mk ?l_spread ?c_spread ?k_spread⟩ ⟨?a_onward, L2.fun_mk ?l_onward ?c_onward ?k_onward⟩ ⟨?a_cheapest_end, L2.fun_mk ?l_cheapest_end ?c_cheapest_end ?k_cheapest_end⟩ ⟨?a_line_back, L2.fun_mk ?l_line_back ?c_line_back ?k_line_back⟩ ?a_written (Nt.funD_mk ?l_written ?c_written ?k_written ?t_written ?o_written) ⟨?a_l_cell_at, L2.fun_mk ?l_l_cell_at ?c_l_cell_at ?k_l_cell_at⟩ ⟨?a_l_mixed, L2.fun_mk ?l_l_mixed ?c_l_mixed ?k_l_mixed⟩ ⟨?a_l_numbers, L2.fun_mk ?l_l_numbers ?c_l_numbers ?k_l_numbers⟩ ⟨?a_l_sign_by, L2.fun_mk ?l_l_sign_by ?c_l_sign_by ?k_l_sign_by⟩ ⟨?a_l_line, L2.fun_mk ?l_l_line ?c_l_line ?k_l_line⟩ ⟨?a_l_begin, L2.fun_mk ?l_l_begin ?c_l_begin ?k_l_begin⟩ ⟨?a_l_base, L2.fun_mk ?l_l_base ?c_l_base ?k_l_base⟩ ⟨?a_l_three, L2.fun_mk ?l_l_three ?c_l_three ?k_l_three⟩ ⟨?a_l_run, L2.fun_mk ?l_l_run ?c_l_run ?k_l_run⟩ ⟨?a_l_read, L2.fun_mk ?l_l_read ?c_l_read ?k_l_read⟩ ⟨?a_l_firmed, L2.fun_mk ?l_l_firmed ?c_l_firmed ?k_l_firmed⟩ ⟨?a_l_wishes, L2.fun_mk ?l_l_wishes ?c_l_wishes ?k_l_wishes⟩ ⟨?a_l_prices, L2.fun_mk ?l_l_prices ?c_l_prices ?k_l_prices⟩ ⟨?a_l_price, L2.fun_mk ?l_l_price ?c_l_price ?k_l_price⟩ ⟨?a_l_whole, L2.fun_mk ?l_l_whole ?c_l_whole ?k_l_whole⟩ ⟨?a_law, L2.fun_mk ?l_law ?c_law ?k_law⟩ ?b_GREAT ?b_SMALL ?b_PARTING ?y_len ?y_min ?y_max ?y_int ?y_str ?y_list ?y_sorted ?y_enumerate ?y_range ?y_zip ?y_isinstance ?y_tuple ?y_bool
    (case a_within => k_is)
    (case l_within => k_is)
    (case c_within => k_is)
    (case k_within => k_is)
    (case a_great => k_is)
    (case l_great => k_is)
    (case c_great => k_is)
    (case k_great => k_is)
    (case a_small => k_is)
    (case l_small => k_is)
    (case c_small => k_is)
    (case k_small => k_is)
    (case a_parting => k_is)
    (case l_parting => k_is)
    (case c_parting => k_is)
    (case k_parting => k_is)
    (case a_measuring => k_is)
    (case l_measuring => k_is)
    (case c_measuring => k_is)
    (case k_measuring => k_is)
    (case a_sign_price => k_is)
    (case l_sign_price => k_is)
    (case c_sign_price => k_is)
    (case k_sign_price => k_is)
    (case a_begin_state => k_is)
    (case l_begin_state => k_is)
    (case c_begin_state => k_is)
    (case k_begin_state => k_is)
    (case t_begin_state => k_is)
    (case o_begin_state => rfl)
    (case a_closed_by => k_is)
    (case l_closed_by => k_is)
    (case c_closed_by => k_is)
    (case k_closed_by => k_is)
    (case a_great_step => k_is)
    (case l_great_step => k_is)
    (case c_great_step => k_is)
    (case k_great_step => k_is)
    (case a_small_step => k_is)
    (case l_small_step => k_is)
    (case c_small_step => k_is)
    (case k_small_step => k_is)
    (case a_parted => k_is)
    (case l_parted => k_is)
    (case c_parted => k_is)
    (case k_parted => k_is)
    (case a_two_step => k_is)
    (case l_two_step => k_is)
    (case c_two_step => k_is)
    (case k_two_step => k_is)
    (case a_step => k_is)
    (case l_step => k_is)
    (case c_step => k_is)
    (case k_step => k_is)
    (case a_ends => k_is)
    (case l_ends => k_is)
    (case c_ends => k_is)
    (case k_ends => k_is)
    (case a_moves_by => k_is)
    (case l_moves_by => k_is)
    (case c_moves_by => k_is)
    (case k_moves_by => k_is)
    (case a_part_moves => k_is)
    (case l_part_moves => k_is)
    (case c_part_moves => k_is)
    (case k_part_moves => k_is)
    (case a_wish_moves => k_is)
    (case l_wish_moves => k_is)
    (case c_wish_moves => k_is)
    (case k_wish_moves => k_is)
    (case a_better => k_is)
    (case l_better => k_is)
    (case c_better => k_is)
    (case k_better => k_is)
    (case a_spread => k_is)
    (case l_spread => k_is)
    (case c_spread => k_is)
    (case k_spread => k_is)
    (case a_onward => k_is)
    (case l_onward => k_is)
    (case c_onward => k_is)
    (case k_onward => k_is)
    (case a_cheapest_end => k_is)
    (case l_cheapest_end => k_is)
    (case c_cheapest_end => k_is)
    (case k_cheapest_end => k_is)
    (case a_line_back => k_is)
    (case l_line_back => k_is)
    (case c_line_back => k_is)
    (case k_line_back => k_is)
    (case a_written => k_is)
    (case l_written => k_is)
    (case c_written => k_is)
    (case k_written => k_is)
    (case t_written => k_is)
    (case o_written => rfl)
    (case a_l_cell_at => k_is)
    (case l_l_cell_at => k_is)
    (case c_l_cell_at => k_is)
    (case k_l_cell_at => k_is)
    (case a_l_mixed => k_is)
    (case l_l_mixed => k_is)
    (case c_l_mixed => k_is)
    (case k_l_mixed => k_is)
    (case a_l_numbers => k_is)
    (case l_l_numbers => k_is)
    (case c_l_numbers => k_is)
    (case k_l_numbers => k_is)
    (case a_l_sign_by => k_is)
    (case l_l_sign_by => k_is)
    (case c_l_sign_by => k_is)
    (case k_l_sign_by => k_is)
    (case a_l_line => k_is)
    (case l_l_line => k_is)
    (case c_l_line => k_is)
    (case k_l_line => k_is)
    (case a_l_begin => k_is)
    (case l_l_begin => k_is)
    (case c_l_begin => k_is)
    (case k_l_begin => k_is)
    (case a_l_base => k_is)
    (case l_l_base => k_is)
    (case c_l_base => k_is)
    (case k_l_base => k_is)
    (case a_l_three => k_is)
    (case l_l_three => k_is)
    (case c_l_three => k_is)
    (case k_l_three => k_is)
    (case a_l_run => k_is)
    (case l_l_run => k_is)
    (case c_l_run => k_is)
    (case k_l_run => k_is)
    (case a_l_read => k_is)
    (case l_l_read => k_is)
    (case c_l_read => k_is)
    (case k_l_read => k_is)
    (case a_l_firmed => k_is)
    (case l_l_firmed => k_is)
    (case c_l_firmed => k_is)
    (case k_l_firmed => k_is)
    (case a_l_wishes => k_is)
    (case l_l_wishes => k_is)
    (case c_l_wishes => k_is)
    (case k_l_wishes => k_is)
    (case a_l_prices => k_is)
    (case l_l_prices => k_is)
    (case c_l_prices => k_is)
    (case k_l_prices => k_is)
    (case a_l_price => k_is)
    (case l_l_price => k_is)
    (case c_l_price => k_is)
    (case k_l_price => k_is)
    (case a_l_whole => k_is)
    (case l_l_whole => k_is)
    (case c_l_whole => k_is)
    (case k_l_whole => k_is)
    (case a_law => k_is)
    (case l_law => k_is)
    (case c_law => k_is)
    (case k_law => k_is)
    (case b_GREAT => k_is)
    (case b_SMALL => k_is)
    (case b_PARTING => k_is)
    (case y_len => k_is)
    (case y_min => k_is)
    (case y_max => k_is)
    (case y_int => k_is)
    (case y_str => k_is)
    (case y_list => k_is)
    (case y_sorted => k_is)
    (case y_enumerate => k_is)
    (case y_range => k_is)
    (case y_zip => k_is)
    (case y_isinstance => k_is)
    (case y_tuple => k_is)
    (case y_bool => k_is)
