import PyProof.Rows.All
import Wide.All
import OpenK.AllK
import Wide.FinOn
import HandS.ForMost
import HandS.TupAny
import HandS.IsInst
import HandS.Deep
import HandS.Property
import HandS.Defaults
import HandS.OwnEq
import HandS.Zip
import HandS.Rev
import HandS.Walk
import HandS.More
import KE.GoesMore
import HandS.DictTup
import HandS.Style
import KE.GoesEnum
import KE.KDictWalk
import KE.KDictDisplayH
import KE.KeyNested
import PyProof.Rows.TupTab
import HandS.Small
import HandS.Ends
import PySem.Challenge.RW_beamframes_k08_whole_nearest
set_option Elab.async false
set_option linter.all false
set_option maxRecDepth 100000
set_option maxHeartbeats 4000000
/-! Beamframes: the mirror of the program's functions as plain functions, and the plain law of `nearest`. -/
namespace BF

inductive Op where
  | no | gap | pulse
  deriving DecidableEq

/-- a table -/
inductive Tb where
  | pairs (hdr : List Int) (z o : Int × Int) (stop : Int) (bits : Nat)
  | halves (u : Int) (bits : Nat)

def Tb.bits : Tb → Nat
  | .pairs _ _ _ _ b => b
  | .halves _ b => b

structure Pl where
  known : Nat
  rest : List Int
  op : Op
  deriving DecidableEq

abbrev Item := Int × Int
abbrev Part := Int × Int
abbrev Stp := Option Bool × Int × Pl

def begin_ : Tb → Pl
  | .pairs h _ _ _ _ => ⟨0, h, .no⟩
  | .halves u _ => ⟨0, [u], .gap⟩

def isEnd (t : Tb) (p : Pl) : Bool := decide (p.known = t.bits) && decide (p.rest = [])

def fh (b : Bool) : Op := if b then .pulse else .gap
def other : Op → Op
  | .gap => .pulse
  | .pulse => .gap
  | .no => .no

def settle (t : Tb) (k : Nat) (op : Op) (b : Bool) : Pl :=
  match t with
  | .pairs _ z o stop bits => ⟨k + 1, (if b then [o.1, o.2] else [z.1, z.2]) ++ (if k + 1 = bits then [stop] else []), .no⟩
  | .halves u bits =>
    let rest := if fh b = op then [2 * u] else [u, u]
    let op' := if fh b = op then other op else op
    if k + 1 = bits ∧ op' = .pulse then ⟨k + 1, rest ++ [u], .gap⟩ else ⟨k + 1, rest, op'⟩

def take1 (b : Option Bool) (q : Pl) : Stp := (b, q.rest.headD 0, ⟨q.known, q.rest.tail, q.op⟩)

def steps (t : Tb) (p : Pl) : List Stp :=
  if isEnd t p then [] else
  if p.rest = [] then [take1 (some false) (settle t p.known p.op false), take1 (some true) (settle t p.known p.op true)]
  else [take1 none p]

/-! ### parts: pairs above and below a line -/
def off (it : Item) (d : Int) : Part := (if it.1 - d * it.2 > 0 then it.1 - d * it.2 else -(it.1 - d * it.2), it.2 * d)
def less (p q : Part) : Bool := decide (p.1 * q.2 < q.1 * p.2)
def wider (p o : Part) : Part := if less p o then o else p

/-! ### the least tolerance: the program's way -/
def look (l : List (Pl × Part)) (k : Pl) : Option Part := (l.find? fun e => decide (e.1 = k)).map (·.2)
def put (l : List (Pl × Part)) (k : Pl) (v : Part) : List (Pl × Part) :=
  if l.any (fun e => decide (e.1 = k)) then l.map (fun e => if e.1 = k then (e.1, v) else e) else l ++ [(k, v)]
def upd1 (it : Item) (part : Part) (later : List (Pl × Part)) (s : Stp) : List (Pl × Part) :=
  let w := wider part (off it s.2.1)
  match look later s.2.2 with
  | none => put later s.2.2 w
  | some v => if less w v then put later s.2.2 w else later
def row (t : Tb) (it : Item) (later : List (Pl × Part)) (e : Pl × Part) : List (Pl × Part) := (steps t e.1).foldl (upd1 it e.2) later
def layer (t : Tb) (best : List (Pl × Part)) (it : Item) : List (Pl × Part) := best.foldl (row t it) []
def lastBest (t : Tb) (burst : List Item) : List (Pl × Part) := burst.foldl (layer t) [(begin_ t, (0, 1))]
def least1 (t : Tb) (l : Option Part) (e : Pl × Part) : Option Part :=
  if isEnd t e.1 && (match l with | none => true | some v => less e.2 v) then some e.2 else l
def least (t : Tb) (burst : List Item) : Option Part := (lastBest t burst).foldl (least1 t) none

/-! ### the least word: the program's way -/
def isOff (tol : Part) (it : Item) (d : Int) : Bool := !decide ((off it d).1 * tol.2 ≤ tol.1 * (off it d).2)
def fit1 (tol : Part) (it : Item) (fits : List Pl) (s : Stp) : List Pl := if (!isOff tol it s.2.1) && !fits.contains s.2.2 then fits ++ [s.2.2] else fits
def fitRow (t : Tb) (tol : Part) (it : Item) (fits : List Pl) (p : Pl) : List Pl := (steps t p).foldl (fit1 tol it) fits
def fits (t : Tb) (tol : Part) (it : Item) (l : List Pl) : List Pl := l.foldl (fitRow t tol it) []
def goodB (t : Tb) (tol : Part) (it : Item) (nx : List Pl) (p : Pl) : Bool := (steps t p).any fun s => (!isOff tol it s.2.1) && nx.contains s.2.2
/-- the layers forth -/
def forth (t : Tb) (tol : Part) : List Item → List Pl → List (List Pl)
  | [], l => [l]
  | it :: its, l => l :: forth t tol its (fits t tol it l)
/-- the layers back, of which an end can be come to -/
def back (t : Tb) (tol : Part) : List Item → List Pl → List (List Pl)
  | [], l => [l.filter (isEnd t)]
  | it :: its, l =>
    let r := back t tol its (fits t tol it l)
    l.filter (goodB t tol it (r.headD [])) :: r
def greedy (t : Tb) (tol : Part) : List Item → List (List Pl) → Pl → List Bool → List Bool
  | it :: its, F :: Fs, p, w =>
    match (steps t p).filter (fun s => (!isOff tol it s.2.1) && F.contains s.2.2) with
    | s :: _ => greedy t tol its Fs s.2.2 (match s.1 with | none => w | some b => w ++ [b])
    | [] => w
  | _, _, _, w => w
def leastWord (t : Tb) (burst : List Item) (tol : Part) : Option (List Bool) :=
  let F := back t tol burst [begin_ t]
  if F.headD [] = [] then none else some (greedy t tol burst F.tail (begin_ t) [])

/-! ### the law's way: all words -/
def words : Nat → List (List Bool)
  | 0 => [[]]
  | n + 1 => (words n).map (false :: ·) ++ (words n).map (true :: ·)
def b2 (b : Bool) : Nat := if b then 1 else 0
def levels (w : List Bool) : List Bool := w.foldl (fun l b => l ++ [b, !b]) [true, false]
/-- found and the level ahead of the next one -/
def lev1 (u : Int) (s : List Int × Option Bool) (l : Bool) : List Int × Option Bool :=
  (if s.2 = some l then s.1.dropLast ++ [s.1.getLastD 0 + u] else s.1 ++ [u], some l)
def frameL (t : Tb) (w : List Bool) : List Int :=
  match t with
  | .pairs h z o stop _ => (w.foldl (fun f b => f ++ (if b then [o.1, o.2] else [z.1, z.2])) h) ++ [stop]
  | .halves u _ =>
    let f := ((levels w).foldl (lev1 u) ([], none)).1
    if (levels w).getLastD false = false then f.dropLast else f
def far (burst : List Item) (frame : List Int) : Part := (burst.zip frame).foldl (fun p x => wider p (off x.1 x.2)) (0, 1)
def due1 (t : Tb) (burst : List Item) (best : Option (Part × List Bool)) (w : List Bool) : Option (Part × List Bool) :=
  if (frameL t w).length = burst.length then
    (match best with
     | none => some (far burst (frameL t w), w)
     | some b => if less (far burst (frameL t w)) b.1 then some (far burst (frameL t w), w) else best)
  else best
def due (t : Tb) (burst : List Item) : Option (Part × List Bool) := (words t.bits).foldl (due1 t burst) none

end BF

namespace BF

/-! ### the order of parts -/
def le (p q : Part) : Prop := p.1 * q.2 ≤ q.1 * p.2
def Pos (p : Part) : Prop := 0 < p.2
theorem less_false {p q : Part} : less q p = false ↔ le p q := by
  unfold less le
  simp
theorem less_true {p q : Part} : less p q = true ↔ ¬ le q p := by
  unfold less le
  simp
theorem le_refl (p : Part) : le p p := Int.le_refl _
theorem le_total (p q : Part) : le p q ∨ le q p := Int.le_total _ _
theorem le_trans {p q r : Part} (hp : Pos p) (hq : Pos q) (hr : Pos r) (h1 : le p q) (h2 : le q r) : le p r := by
  unfold le Pos at *
  have a : p.1 * q.2 * r.2 ≤ q.1 * p.2 * r.2 := Int.mul_le_mul_of_nonneg_right h1 (Int.le_of_lt hr)
  have b : q.1 * r.2 * p.2 ≤ r.1 * q.2 * p.2 := Int.mul_le_mul_of_nonneg_right h2 (Int.le_of_lt hp)
  have c : q.2 * (p.1 * r.2) ≤ q.2 * (r.1 * p.2) := by
    have e1 : q.2 * (p.1 * r.2) = p.1 * q.2 * r.2 := by
      rw [Int.mul_comm p.1 q.2, Int.mul_assoc]
    have e2 : q.1 * p.2 * r.2 = q.1 * r.2 * p.2 := by
      rw [Int.mul_assoc, Int.mul_comm p.2 r.2, ← Int.mul_assoc]
    have e3 : q.2 * (r.1 * p.2) = r.1 * q.2 * p.2 := by
      rw [Int.mul_comm r.1 q.2, Int.mul_assoc]
    omega
  exact Int.le_of_mul_le_mul_left c hq
theorem wider_cases (p o : Part) : wider p o = p ∨ wider p o = o := by
  unfold wider
  split
  · exact .inr rfl
  · exact .inl rfl
theorem wider_left (p o : Part) : le p (wider p o) := by
  unfold wider
  split
  · rename_i h
    rcases le_total p o with z | z
    · exact z
    · exact absurd z (less_true.mp h)
  · exact le_refl p
theorem wider_right (p o : Part) : le o (wider p o) := by
  unfold wider
  split
  · exact le_refl o
  · rename_i h
    exact less_false.mp (by simpa using h)
theorem wider_pos {p o : Part} (hp : Pos p) (ho : Pos o) : Pos (wider p o) := by
  rcases wider_cases p o with e | e <;> rw [e] <;> assumption
theorem wider_mono {p q o : Part} (hp : Pos p) (hq : Pos q) (ho : Pos o) (h : le p q) : le (wider p o) (wider q o) := by
  rcases wider_cases p o with e | e
  · rw [e]
    exact le_trans hp hq (wider_pos hq ho) h (wider_left q o)
  · rw [e]
    exact wider_right q o
theorem wider_le {p o r : Part} (h1 : le p r) (h2 : le o r) : le (wider p o) r := by
  rcases wider_cases p o with e | e <;> rw [e] <;> assumption

def ItOk (it : Item) : Prop := 0 < it.2
theorem off_pos {it : Item} {d : Int} (h : ItOk it) (hd : 0 < d) : Pos (off it d) := Int.mul_pos h hd
theorem off_nn {it : Item} {d : Int} : 0 ≤ (off it d).1 := by
  unfold off
  show 0 ≤ (if it.1 - d * it.2 > 0 then it.1 - d * it.2 else -(it.1 - d * it.2))
  split <;> omega

/-! ### right tables, places -/
structure Tb.Right (t : Tb) : Prop where
  bits : 1 ≤ t.bits
  dur : match t with
    | .pairs h z o s _ => (∀ d ∈ h, 0 < d) ∧ 0 < z.1 ∧ 0 < z.2 ∧ 0 < o.1 ∧ 0 < o.2 ∧ 0 < s
    | .halves u _ => 0 < u
/-- a place to which steps may lead -/
structure PlOk (t : Tb) (p : Pl) : Prop where
  known : p.known ≤ t.bits
  dur : ∀ d ∈ p.rest, 0 < d
theorem begin_ok {t : Tb} (h : t.Right) : PlOk t (begin_ t) := by
  cases t with
  | pairs hd z o s b => exact ⟨Nat.zero_le _, h.dur.1⟩
  | halves u b => exact ⟨Nat.zero_le _, fun d hm => by
      have e : d = u := by simpa [begin_] using hm
      rw [e]; exact h.dur⟩
theorem settle_known (t : Tb) (k : Nat) (op : Op) (b : Bool) : (settle t k op b).known = k + 1 := by
  cases t with
  | pairs => rfl
  | halves u bits =>
    unfold settle
    dsimp only
    split <;> split <;> rfl
theorem settle_rest_ne (t : Tb) (k : Nat) (op : Op) (b : Bool) : (settle t k op b).rest ≠ [] := by
  cases t with
  | pairs h z o s bits =>
    unfold settle
    cases b <;> simp
  | halves u bits =>
    unfold settle
    dsimp only
    split <;> split <;> simp
theorem settle_dur {t : Tb} (h : t.Right) (k : Nat) (op : Op) (b : Bool) : ∀ d ∈ (settle t k op b).rest, 0 < d := by
  cases t with
  | pairs hd z o s bits =>
    obtain ⟨_, h1, h2, h3, h4, h5⟩ := h.dur
    unfold settle
    intro d hm
    simp only [List.mem_append] at hm
    rcases hm with hm | hm
    · cases b
      · simp at hm
        rcases hm with e | e <;> rw [e] <;> assumption
      · simp at hm
        rcases hm with e | e <;> rw [e] <;> assumption
    · split at hm
      · simp at hm
        rw [hm]; exact h5
      · simp at hm
  | halves u bits =>
    have hu : 0 < u := h.dur
    unfold settle
    dsimp only
    intro d hm
    split at hm
    · split at hm
      · simp at hm
        rcases hm with e | e <;> omega
      · simp at hm
        omega
    · split at hm
      · simp at hm
        omega
      · simp at hm
        omega

/-! ### the frame from a place, by the bits that are left -/
def frmW (t : Tb) : Nat → Op → List Bool → List Int
  | _, _, [] => []
  | k, op, b :: w => (settle t k op b).rest ++ frmW t (k + 1) (settle t k op b).op w
def frm (t : Tb) (p : Pl) (w : List Bool) : List Int := p.rest ++ frmW t p.known p.op w
/-- the bits that a step leaves -/
def cons? (b : Option Bool) (w : List Bool) : List Bool := match b with
  | none => w
  | some b => b :: w

theorem isEnd_iff {t : Tb} {p : Pl} : isEnd t p = true ↔ p.known = t.bits ∧ p.rest = [] := by
  unfold isEnd
  simp
theorem frm_end {t : Tb} {p : Pl} {w : List Bool} (he : isEnd t p = true) (hw : p.known + w.length = t.bits) : w = [] ∧ frm t p w = [] := by
  obtain ⟨h1, h2⟩ := isEnd_iff.mp he
  have e : w = [] := List.eq_nil_of_length_eq_zero (by omega)
  subst e
  exact ⟨rfl, by unfold frm frmW; rw [h2]; rfl⟩
theorem frm_settle (t : Tb) (p : Pl) (b : Bool) (w : List Bool) (hr : p.rest = []) :
    frm t p (b :: w) = (take1 (some b) (settle t p.known p.op b)).2.1 :: frm t (take1 (some b) (settle t p.known p.op b)).2.2 w := by
  unfold frm take1
  rw [hr]
  show [] ++ ((settle t p.known p.op b).rest ++ frmW t (p.known + 1) (settle t p.known p.op b).op w) = _
  rw [List.nil_append, settle_known]
  cases e : (settle t p.known p.op b).rest with
  | nil => exact absurd e (settle_rest_ne t p.known p.op b)
  | cons d r => rfl
theorem frm_take (t : Tb) (p : Pl) (w : List Bool) (hr : p.rest ≠ []) :
    frm t p w = (take1 none p).2.1 :: frm t (take1 none p).2.2 w := by
  unfold frm take1
  cases e : p.rest with
  | nil => exact absurd e hr
  | cons d r => rfl
/-- a step and the bits behind it -/
theorem step_frm {t : Tb} {p : Pl} {s : Stp} (hs : s ∈ steps t p) (w : List Bool) : frm t p (cons? s.1 w) = s.2.1 :: frm t s.2.2 w := by
  unfold steps at hs
  split at hs
  · simp at hs
  · split at hs
    · rename_i hr
      simp only [List.mem_cons, List.not_mem_nil, or_false] at hs
      rcases hs with e | e <;> subst e
      · exact frm_settle t p false w hr
      · exact frm_settle t p true w hr
    · rename_i hr
      simp only [List.mem_cons, List.not_mem_nil, or_false] at hs
      subst hs
      exact frm_take t p w hr
theorem step_known {t : Tb} {p : Pl} {s : Stp} (hs : s ∈ steps t p) : s.2.2.known = p.known + (cons? s.1 []).length := by
  unfold steps at hs
  split at hs
  · simp at hs
  · split at hs
    · simp only [List.mem_cons, List.not_mem_nil, or_false] at hs
      rcases hs with e | e <;> subst e <;> exact settle_known _ _ _ _
    · simp only [List.mem_cons, List.not_mem_nil, or_false] at hs
      subst hs
      rfl
theorem cons?_length (b : Option Bool) (w : List Bool) : (cons? b w).length = (cons? b []).length + w.length := by
  cases b
  · simp [cons?]
  · simp [cons?]; omega
theorem step_ok {t : Tb} (h : t.Right) {p : Pl} (hp : PlOk t p) {s : Stp} (hs : s ∈ steps t p) : PlOk t s.2.2 ∧ 0 < s.2.1 := by
  unfold steps at hs
  split at hs
  · simp at hs
  · rename_i he
    split at hs
    · rename_i hr
      have hk : p.known ≠ t.bits := fun e => he (isEnd_iff.mpr ⟨e, hr⟩)
      have hk' := hp.known
      have go : ∀ b, PlOk t (take1 (some b) (settle t p.known p.op b)).2.2 ∧ 0 < (take1 (some b) (settle t p.known p.op b)).2.1 := fun b => by
        have hd := settle_dur h p.known p.op b
        unfold take1
        cases e : (settle t p.known p.op b).rest with
        | nil => exact absurd e (settle_rest_ne t p.known p.op b)
        | cons d r =>
          rw [e] at hd
          refine ⟨⟨?_, fun x hx => hd x (List.mem_cons_of_mem _ hx)⟩, hd d List.mem_cons_self⟩
          show (settle t p.known p.op b).known ≤ _
          rw [settle_known]
          omega
      simp only [List.mem_cons, List.not_mem_nil, or_false] at hs
      rcases hs with e | e <;> subst e <;> exact go _
    · rename_i hr
      simp only [List.mem_cons, List.not_mem_nil, or_false] at hs
      subst hs
      have hd := hp.dur
      unfold take1
      cases e : p.rest with
      | nil => exact absurd e hr
      | cons d r =>
        rw [e] at hd
        exact ⟨⟨hp.known, fun x hx => hd x (List.mem_cons_of_mem _ hx)⟩, hd d List.mem_cons_self⟩
/-- bits that are left, and something to read: a step with them -/
theorem step_of {t : Tb} {p : Pl} {w : List Bool} (hp : p.known ≤ t.bits) (hw : p.known + w.length = t.bits) (hn : frm t p w ≠ []) : ∃ s ∈ steps t p, ∃ w', w = cons? s.1 w' := by
  have he : isEnd t p ≠ true := fun e => hn (frm_end e hw).2
  unfold steps
  rw [if_neg he]
  by_cases hr : p.rest = []
  · rw [if_pos hr]
    cases w with
    | nil =>
      exfalso
      apply hn
      unfold frm frmW
      rw [hr]
      rfl
    | cons b w =>
      cases b
      · exact ⟨_, List.mem_cons_self, w, rfl⟩
      · exact ⟨_, List.mem_cons_of_mem _ List.mem_cons_self, w, rfl⟩
  · rw [if_neg hr]
    exact ⟨_, List.mem_cons_self, w, rfl⟩
end BF

namespace BF

/-! ### the law's frame is the frame from the begin -/
theorem frmW_pairs (h : List Int) (z o : Int × Int) (s : Int) (bits : Nat) : ∀ (w : List Bool) (k : Nat) (op : Op), k + w.length = bits →
    frmW (.pairs h z o s bits) k op w = (w.flatMap fun b => if b then [o.1, o.2] else [z.1, z.2]) ++ (if w = [] then [] else [s])
  | [], _, _, _ => by simp [frmW]
  | b :: w, k, op, hk => by
    rw [List.length_cons] at hk
    have ih := frmW_pairs h z o s bits w (k + 1) .no (by omega)
    have hne : ¬ (b :: w) = [] := by simp
    show (settle (.pairs h z o s bits) k op b).rest ++ frmW (.pairs h z o s bits) (k + 1) .no w = _
    rw [ih, List.flatMap_cons, if_neg hne]
    show ((if b then [o.1, o.2] else [z.1, z.2]) ++ (if k + 1 = bits then [s] else [])) ++ _ = _
    cases w with
    | nil =>
      have e : k + 1 = bits := by simpa using hk
      rw [if_pos e]
      simp
    | cons c w =>
      have e : ¬ k + 1 = bits := by rw [List.length_cons] at hk; omega
      have hn2 : ¬ (c :: w) = [] := by simp
      rw [if_neg e, if_neg hn2]
      simp
theorem foldl_app {α : Type} (f : α → List Int) : ∀ (w : List α) (acc : List Int), w.foldl (fun l b => l ++ f b) acc = acc ++ w.flatMap f
  | [], acc => by simp
  | b :: w, acc => by
    rw [List.foldl_cons, foldl_app f w, List.flatMap_cons, List.append_assoc]
theorem foldl_appB (f : Bool → List Bool) : ∀ (w : List Bool) (acc : List Bool), w.foldl (fun l b => l ++ f b) acc = acc ++ w.flatMap f
  | [], acc => by simp
  | b :: w, acc => by
    rw [List.foldl_cons, foldl_appB f w, List.flatMap_cons, List.append_assoc]

/-- halves: what is behind the done ones, the last of it under way; the level under way behind all -/
def hv (u : Int) : Bool → List Bool → List Int
  | _, [] => [u]
  | lv, b :: w => if b = lv then 2 * u :: hv u (!lv) w else u :: u :: hv u lv w
def fl : Bool → List Bool → Bool
  | lv, [] => lv
  | lv, b :: w => if b = lv then fl (!lv) w else fl lv w
theorem hv_ne (u : Int) : ∀ (w : List Bool) (lv : Bool), hv u lv w ≠ []
  | [], _ => by simp [hv]
  | b :: w, lv => by
    unfold hv
    split <;> simp
theorem lev_fold (u : Int) : ∀ (w : List Bool) (done : List Int) (lv : Bool),
    (w.flatMap fun b => [b, !b]).foldl (lev1 u) (done ++ [u], some lv) = (done ++ hv u lv w, some (fl lv w))
  | [], done, lv => by simp [hv, fl]
  | b :: w, done, lv => by
    rw [List.flatMap_cons, List.foldl_append]
    by_cases e : b = lv
    · subst e
      have e1 : [b, !b].foldl (lev1 u) (done ++ [u], some b) = ((done ++ [2 * u]) ++ [u], some (!b)) := by
        have hb : ¬ (some b = some (!b)) := by cases b <;> simp
        simp only [List.foldl_cons, List.foldl_nil, lev1, if_true]
        rw [if_neg hb]
        simp [List.getLastD_eq_getLast?]
        try omega
      rw [e1, lev_fold u w]
      simp [hv, fl]
    · have e1 : [b, !b].foldl (lev1 u) (done ++ [u], some lv) = ((done ++ [u, u]) ++ [u], some (!b)) := by
        have hb : ¬ (some b = some (!b)) := by cases b <;> simp
        have hl : ¬ (some lv = some b) := fun z => e (Option.some.inj z).symm
        simp only [List.foldl_cons, List.foldl_nil, lev1]
        rw [if_neg hl]
        rw [if_neg hb]
        simp
      have e2 : (!b) = lv := by cases b <;> cases lv <;> simp_all
      rw [e1, e2, lev_fold u w]
      simp [hv, fl, e]
def opOf (lv : Bool) : Op := if lv then .pulse else .gap
theorem fh_eq (b lv : Bool) : (fh b = opOf lv) ↔ b = lv := by cases b <;> cases lv <;> simp [fh, opOf]
theorem other_op (lv : Bool) : other (opOf lv) = opOf (!lv) := by cases lv <;> rfl
theorem frmW_halves (u : Int) (bits : Nat) : ∀ (w : List Bool) (k : Nat) (lv : Bool), k + w.length = bits → w ≠ [] →
    frmW (.halves u bits) k (opOf lv) w = if fl lv w = false then (hv u lv w).dropLast else hv u lv w
  | [], _, _, _, h => absurd rfl h
  | b :: w, k, lv, hk, _ => by
    show (settle (.halves u bits) k (opOf lv) b).rest ++ frmW (.halves u bits) (k + 1) (settle (.halves u bits) k (opOf lv) b).op w = _
    cases w with
    | nil =>
      have e : k + 1 = bits := by simpa using hk
      unfold frmW
      rw [List.append_nil]
      unfold settle
      dsimp only
      by_cases hb : b = lv
      · subst hb
        rw [if_pos ((fh_eq b b).mpr rfl), if_pos ((fh_eq b b).mpr rfl), other_op]
        cases b
        · rw [if_pos ⟨e, rfl⟩]
          simp [hv, fl]
        · rw [if_neg (fun z => by simp [opOf] at z)]
          simp [hv, fl]
      · have hf : ¬ fh b = opOf lv := fun z => hb ((fh_eq b lv).mp z)
        rw [if_neg hf, if_neg hf]
        cases lv
        · rw [if_neg (fun z => by simp [opOf] at z)]
          simp [hv, fl, hb]
        · rw [if_pos ⟨e, rfl⟩]
          simp [hv, fl, hb]
    | cons c w =>
      have e : ¬ k + 1 = bits := by simp only [List.length_cons] at hk; omega
      have hk' : k + 1 + (c :: w).length = bits := by simp only [List.length_cons] at hk ⊢; omega
      unfold settle
      dsimp only
      by_cases hb : b = lv
      · subst hb
        rw [if_pos ((fh_eq b b).mpr rfl), if_pos ((fh_eq b b).mpr rfl), other_op, if_neg (fun z => e z.1)]
        rw [frmW_halves u bits (c :: w) (k + 1) (!b) hk' (by simp)]
        have e1 : fl b (b :: c :: w) = fl (!b) (c :: w) := by rw [fl, if_pos rfl]
        have e2 : hv u b (b :: c :: w) = 2 * u :: hv u (!b) (c :: w) := by rw [hv, if_pos rfl]
        rw [e1, e2]
        split
        · rw [List.dropLast_cons_of_ne_nil (hv_ne u _ _)]
          rfl
        · rfl
      · have hf : ¬ fh b = opOf lv := fun z => hb ((fh_eq b lv).mp z)
        rw [if_neg hf, if_neg hf, if_neg (fun z => e z.1)]
        rw [frmW_halves u bits (c :: w) (k + 1) lv hk' (by simp)]
        have e1 : fl lv (b :: c :: w) = fl lv (c :: w) := by rw [fl, if_neg hb]
        have e2 : hv u lv (b :: c :: w) = u :: u :: hv u lv (c :: w) := by rw [hv, if_neg hb]
        rw [e1, e2]
        split
        · rw [List.dropLast_cons_of_ne_nil (by simp), List.dropLast_cons_of_ne_nil (hv_ne u _ _)]
          rfl
        · rfl
theorem levels_eq (w : List Bool) : levels w = [true, false] ++ w.flatMap fun b => [b, !b] := foldl_appB _ w _
theorem last_app : ∀ (w : List Bool) (lv : Bool) (l : List Bool), (l ++ [lv] ++ w.flatMap fun b => [b, !b]).getLastD false = match w.getLast? with | none => lv | some b => !b
  | [], lv, l => by simp [List.getLastD_eq_getLast?]
  | b :: w, lv, l => by
    have ih := last_app w (!b) (l ++ [lv, b])
    have e : l ++ [lv] ++ (b :: w).flatMap (fun b => [b, !b]) = (l ++ [lv, b]) ++ [!b] ++ w.flatMap fun b => [b, !b] := by simp
    rw [e, ih]
    cases w with
    | nil => simp
    | cons c w =>
      obtain ⟨x, hx⟩ : ∃ x, (c :: w).getLast? = some x := ⟨_, List.getLast?_eq_some_getLast (by simp)⟩
      rw [List.getLast?_cons_cons, hx]
theorem fl_last : ∀ (w : List Bool) (lv : Bool), fl lv w = match w.getLast? with | none => lv | some b => !b
  | [], lv => rfl
  | b :: w, lv => by
    have e0 : (if b = lv then (!lv) else lv) = !b := by cases b <;> cases lv <;> simp
    unfold fl
    have e : (if b = lv then fl (!lv) w else fl lv w) = fl (!b) w := by
      rw [← e0]
      split <;> rfl
    rw [e, fl_last w (!b)]
    cases w with
    | nil => simp
    | cons c w =>
      obtain ⟨x, hx⟩ : ∃ x, (c :: w).getLast? = some x := ⟨_, List.getLast?_eq_some_getLast (by simp)⟩
      rw [List.getLast?_cons_cons, hx]
theorem frameL_eq {t : Tb} (h : t.Right) {w : List Bool} (hw : w.length = t.bits) : frameL t w = frm t (begin_ t) w := by
  have hb := h.bits
  have hne : w ≠ [] := fun e => by rw [e] at hw; simp at hw; omega
  cases t with
  | pairs hd z o s bits =>
    unfold frm
    show (w.foldl (fun f b => f ++ (if b then [o.1, o.2] else [z.1, z.2])) hd) ++ [s] = hd ++ frmW (.pairs hd z o s bits) 0 .no w
    rw [frmW_pairs hd z o s bits w 0 .no (by simpa [Tb.bits] using hw), foldl_app, if_neg hne, List.append_assoc]
  | halves u bits =>
    unfold frm
    show (let f := ((levels w).foldl (lev1 u) ([], none)).1; if (levels w).getLastD false = false then f.dropLast else f) = [u] ++ frmW (.halves u bits) 0 (opOf false) w
    have e1 : (levels w).foldl (lev1 u) ([], none) = ([u] ++ hv u false w, some (fl false w)) := by
      rw [levels_eq, List.foldl_append]
      have e : [true, false].foldl (lev1 u) ([], none) = ([u] ++ [u], some false) := by simp [lev1]
      rw [e]
      exact lev_fold u w [u] false
    have e2 : (levels w).getLastD false = fl false w := by
      rw [levels_eq, fl_last]
      exact last_app w false [true]
    rw [frmW_halves u bits w 0 false (by simpa [Tb.bits] using hw) hne]
    dsimp only
    rw [e1, e2]
    split
    · show ([u] ++ hv u false w).dropLast = _
      rw [List.singleton_append, List.dropLast_cons_of_ne_nil (hv_ne u _ _)]
      rfl
    · rfl

/-! ### the least tolerance -/
theorem look_put (l : List (Pl × Part)) (k k' : Pl) (v : Part) : look (put l k v) k' = if k' = k then some v else look l k' := by
  unfold put
  by_cases ha : l.any (fun e => decide (e.1 = k)) = true
  · rw [if_pos ha]
    induction l with
    | nil => simp at ha
    | cons e l ih =>
      by_cases h1 : e.1 = k
      · by_cases h2 : k' = k
        · subst h2
          simp [look, h1]
        · have h3 : ¬ k = k' := fun z => h2 z.symm
          simp only [look, List.map_cons, List.find?_cons, h1, h3, decide_false, if_neg h2, if_true]
          by_cases hb : l.any (fun e => decide (e.1 = k)) = true
          · have := ih hb
            rw [if_neg h2] at this
            exact this
          · have e0 : l.map (fun e => if e.1 = k then (e.1, v) else e) = l := by
              have : ∀ x ∈ l, (if x.1 = k then (x.1, v) else x) = x := fun x hx => by
                by_cases hk : x.1 = k
                · exact absurd (List.any_eq_true.mpr ⟨x, hx, decide_eq_true hk⟩) hb
                · rw [if_neg hk]
              rw [List.map_congr_left this]
              simp
            rw [e0]
      · have hb : l.any (fun e => decide (e.1 = k)) = true := by simpa [h1] using ha
        have := ih hb
        by_cases h4 : e.1 = k'
        · have h2 : ¬ k' = k := fun z => h1 (h4.trans z)
          simp [look, h1, h4, h2]
        · simp only [look, List.map_cons, if_neg h1, List.find?_cons, h4, decide_false]
          exact this
  · rw [if_neg ha]
    unfold look
    rw [List.find?_append]
    by_cases h2 : k' = k
    · subst h2
      have e0 : l.find? (fun e => decide (e.1 = k')) = none := by
        rw [List.find?_eq_none]
        intro x hx hk
        exact ha (List.any_eq_true.mpr ⟨x, hx, hk⟩)
      simp [e0]
    · have h3 : ¬ k = k' := fun z => h2 z.symm
      simp [h2, h3]
theorem mem_put {l : List (Pl × Part)} {k : Pl} {v : Part} {e : Pl × Part} (h : e ∈ put l k v) : e ∈ l ∨ e = (k, v) := by
  unfold put at h
  split at h
  · obtain ⟨x, hx, q⟩ := List.mem_map.mp h
    by_cases hk : x.1 = k
    · rw [if_pos hk] at q
      exact .inr (by rw [← q, hk])
    · rw [if_neg hk] at q
      exact .inl (q ▸ hx)
  · rcases List.mem_append.mp h with h | h
    · exact .inl h
    · exact .inr (by simpa using h)
theorem look_mem {l : List (Pl × Part)} {k : Pl} {v : Part} (h : look l k = some v) : (k, v) ∈ l := by
  unfold look at h
  obtain ⟨e, he, rfl⟩ := Option.map_eq_some_iff.mp h
  have h1 := List.mem_of_find?_eq_some he
  have h2 := List.find?_some he
  have h3 : e.1 = k := by simpa using h2
  rw [← h3]
  exact h1
/-- the later places, told by what is put to them -/
def ins (later : List (Pl × Part)) (c : Pl × Part) : List (Pl × Part) :=
  match look later c.1 with
  | none => put later c.1 c.2
  | some v => if less c.2 v then put later c.1 c.2 else later
def cont (t : Tb) (it : Item) (e : Pl × Part) : List (Pl × Part) := (steps t e.1).map fun s => (s.2.2, wider e.2 (off it s.2.1))
theorem row_eq (t : Tb) (it : Item) (later : List (Pl × Part)) (e : Pl × Part) : row t it later e = (cont t it e).foldl ins later := by
  unfold row cont
  rw [List.foldl_map]
  rfl
theorem layer_eq (t : Tb) (best : List (Pl × Part)) (it : Item) : layer t best it = (best.flatMap (cont t it)).foldl ins [] := by
  unfold layer
  have go : ∀ (l : List (Pl × Part)) (acc : List (Pl × Part)), l.foldl (row t it) acc = (l.flatMap (cont t it)).foldl ins acc := by
    intro l
    induction l with
    | nil => intro acc; rfl
    | cons e l ih =>
      intro acc
      rw [List.foldl_cons, List.flatMap_cons, List.foldl_append, ih, row_eq]
  exact go best []
theorem ins_mem {later : List (Pl × Part)} {c e : Pl × Part} (h : e ∈ ins later c) : e ∈ later ∨ e = c := by
  unfold ins at h
  split at h
  · exact mem_put h
  · split at h
    · exact mem_put h
    · exact .inl h
theorem ins_look {later : List (Pl × Part)} {c : Pl × Part} : ∃ v, look (ins later c) c.1 = some v ∧ le v c.2 := by
  unfold ins
  split
  · exact ⟨c.2, by rw [look_put, if_pos rfl], le_refl _⟩
  · rename_i v hv
    split
    · exact ⟨c.2, by rw [look_put, if_pos rfl], le_refl _⟩
    · rename_i hl
      exact ⟨v, hv, less_false.mp (by simpa using hl)⟩
theorem ins_keep {later : List (Pl × Part)} {c : Pl × Part} {k : Pl} {v : Part} (h : look later k = some v) : ∃ v', look (ins later c) k = some v' ∧ le v' v := by
  unfold ins
  split
  · rename_i hn
    by_cases e : k = c.1
    · subst e
      rw [h] at hn
      cases hn
    · exact ⟨v, by rw [look_put, if_neg e]; exact h, le_refl _⟩
  · rename_i v0 h0
    split
    · rename_i hl
      by_cases e : k = c.1
      · subst e
        rw [h] at h0
        cases h0
        refine ⟨c.2, by rw [look_put, if_pos rfl], ?_⟩
        rcases le_total c.2 v with z | z
        · exact z
        · exact absurd z (less_true.mp hl)
      · exact ⟨v, by rw [look_put, if_neg e]; exact h, le_refl _⟩
    · exact ⟨v, h, le_refl _⟩
theorem fold_mem : ∀ {cs later : List (Pl × Part)} {e : Pl × Part}, e ∈ cs.foldl ins later → e ∈ later ∨ e ∈ cs
  | [], _, _, h => .inl h
  | c :: cs, later, e, h => by
    rcases fold_mem (cs := cs) h with h | h
    · rcases ins_mem h with h | h
      · exact .inl h
      · exact .inr (by rw [h]; exact List.mem_cons_self)
    · exact .inr (List.mem_cons_of_mem _ h)
theorem fold_keep : ∀ {cs later : List (Pl × Part)} {k : Pl} {v : Part}, (∀ e ∈ cs, Pos e.2) → (∀ e ∈ later, Pos e.2) → look later k = some v → ∃ v', look (cs.foldl ins later) k = some v' ∧ le v' v
  | [], _, _, v, _, _, h => ⟨v, h, le_refl _⟩
  | c :: cs, later, k, v, hc, hp, h => by
    obtain ⟨v1, h1, l1⟩ := ins_keep (c := c) h
    have hp' : ∀ e ∈ ins later c, Pos e.2 := fun e he => by
      rcases ins_mem he with z | z
      · exact hp e z
      · rw [z]; exact hc c List.mem_cons_self
    have hcs : ∀ e ∈ cs, Pos e.2 := fun e he => hc e (List.mem_cons_of_mem _ he)
    obtain ⟨v2, h2, l2⟩ := fold_keep (cs := cs) hcs hp' h1
    refine ⟨v2, h2, le_trans ?_ (hp' _ (look_mem h1)) (hp _ (look_mem h)) l2 l1⟩
    rcases fold_mem (look_mem h2) with z | z
    · exact hp' _ z
    · exact hcs _ z
theorem fold_look : ∀ {cs later : List (Pl × Part)} {c : Pl × Part}, (∀ e ∈ cs, Pos e.2) → (∀ e ∈ later, Pos e.2) → c ∈ cs → ∃ v', look (cs.foldl ins later) c.1 = some v' ∧ le v' c.2
  | [], _, _, _, _, h => by simp at h
  | c0 :: cs, later, c, hc, hp, h => by
    have hp' : ∀ e ∈ ins later c0, Pos e.2 := fun e he => by
      rcases ins_mem he with z | z
      · exact hp e z
      · rw [z]; exact hc c0 List.mem_cons_self
    have hcs : ∀ e ∈ cs, Pos e.2 := fun e he => hc e (List.mem_cons_of_mem _ he)
    rcases List.mem_cons.mp h with e | h
    · subst e
      obtain ⟨v1, h1, l1⟩ := ins_look (later := later) (c := c)
      obtain ⟨v2, h2, l2⟩ := fold_keep hcs hp' h1
      refine ⟨v2, h2, le_trans ?_ (hp' _ (look_mem h1)) (hc c List.mem_cons_self) l2 l1⟩
      rcases fold_mem (look_mem h2) with z | z
      · exact hp' _ z
      · exact hcs _ z
    · exact fold_look (cs := cs) (later := ins later c0) hcs hp' h
/-- all in order: places that are ok, parts above a line that is above 0 -/
def BOk (t : Tb) (best : List (Pl × Part)) : Prop := ∀ e ∈ best, PlOk t e.1 ∧ Pos e.2
theorem cont_ok {t : Tb} (h : t.Right) {it : Item} (hi : ItOk it) {best : List (Pl × Part)} (hb : BOk t best) : ∀ c ∈ best.flatMap (cont t it), PlOk t c.1 ∧ Pos c.2 := fun c hc => by
  obtain ⟨e, he, hm⟩ := List.mem_flatMap.mp hc
  obtain ⟨s, hs, rfl⟩ := List.mem_map.mp hm
  obtain ⟨h1, h2⟩ := hb e he
  obtain ⟨h3, h4⟩ := step_ok h h1 hs
  exact ⟨h3, wider_pos h2 (off_pos hi h4)⟩
theorem layer_ok {t : Tb} (h : t.Right) {it : Item} (hi : ItOk it) {best : List (Pl × Part)} (hb : BOk t best) : BOk t (layer t best it) := fun e he => by
  rw [layer_eq] at he
  rcases fold_mem he with z | z
  · simp at z
  · exact cont_ok h hi hb e z
theorem layer_from {t : Tb} {it : Item} {best : List (Pl × Part)} {e : Pl × Part} (he : e ∈ layer t best it) : ∃ e0 ∈ best, ∃ s ∈ steps t e0.1, e = (s.2.2, wider e0.2 (off it s.2.1)) := by
  rw [layer_eq] at he
  rcases fold_mem he with z | z
  · simp at z
  · obtain ⟨e0, h0, hm⟩ := List.mem_flatMap.mp z
    obtain ⟨s, hs, rfl⟩ := List.mem_map.mp hm
    exact ⟨e0, h0, s, hs, rfl⟩
theorem layer_to {t : Tb} (h : t.Right) {it : Item} (hi : ItOk it) {best : List (Pl × Part)} (hb : BOk t best) {e : Pl × Part} (he : e ∈ best) {s : Stp} (hs : s ∈ steps t e.1) : ∃ v, (s.2.2, v) ∈ layer t best it ∧ le v (wider e.2 (off it s.2.1)) := by
  have hm : (s.2.2, wider e.2 (off it s.2.1)) ∈ best.flatMap (cont t it) := List.mem_flatMap.mpr ⟨e, he, List.mem_map.mpr ⟨s, hs, rfl⟩⟩
  obtain ⟨v, h1, h2⟩ := fold_look (later := []) (fun e he => (cont_ok h hi hb e he).2) (fun e he => by simp at he) hm
  exact ⟨v, by rw [layer_eq]; exact look_mem h1, h2⟩

/-- the part of a frame from a place, an elder part ahead -/
def val (t : Tb) (v : Part) (p : Pl) (w : List Bool) (its : List Item) : Part := (its.zip (frm t p w)).foldl (fun p x => wider p (off x.1 x.2)) v
theorem val_pos {its : List Item} : ∀ {ds : List Int} {v : Part}, (∀ i ∈ its, ItOk i) → (∀ d ∈ ds, 0 < d) → Pos v → Pos ((its.zip ds).foldl (fun p x => wider p (off x.1 x.2)) v) := by
  induction its with
  | nil => intro ds v _ _ hv; simpa using hv
  | cons it its ih =>
    intro ds v hi hd hv
    cases ds with
    | nil => simpa using hv
    | cons d ds =>
      rw [List.zip_cons_cons, List.foldl_cons]
      exact ih (fun i z => hi i (List.mem_cons_of_mem _ z)) (fun i z => hd i (List.mem_cons_of_mem _ z)) (wider_pos hv (off_pos (hi it List.mem_cons_self) (hd d List.mem_cons_self)))
theorem val_mono {its : List Item} : ∀ {ds : List Int} {v v' : Part}, (∀ i ∈ its, ItOk i) → (∀ d ∈ ds, 0 < d) → Pos v → Pos v' → le v v' →
    le ((its.zip ds).foldl (fun p x => wider p (off x.1 x.2)) v) ((its.zip ds).foldl (fun p x => wider p (off x.1 x.2)) v') := by
  induction its with
  | nil => intro ds v v' _ _ _ _ h; simpa using h
  | cons it its ih =>
    intro ds v v' hi hd hv hv' h
    cases ds with
    | nil => simpa using h
    | cons d ds =>
      have ho := off_pos (hi it List.mem_cons_self) (hd d List.mem_cons_self)
      rw [List.zip_cons_cons, List.foldl_cons, List.foldl_cons]
      exact ih (fun i z => hi i (List.mem_cons_of_mem _ z)) (fun i z => hd i (List.mem_cons_of_mem _ z)) (wider_pos hv ho) (wider_pos hv' ho) (wider_mono hv hv' ho h)
theorem frmW_dur {t : Tb} (h : t.Right) : ∀ (w : List Bool) (k : Nat) (op : Op), ∀ d ∈ frmW t k op w, 0 < d
  | [], _, _, d, hd => by simp [frmW] at hd
  | b :: w, k, op, d, hd => by
    rcases List.mem_append.mp hd with z | z
    · exact settle_dur h k op b d z
    · exact frmW_dur h w _ _ d z
theorem frm_dur {t : Tb} (h : t.Right) {p : Pl} (hp : PlOk t p) (w : List Bool) : ∀ d ∈ frm t p w, 0 < d := fun d hd => by
  rcases List.mem_append.mp hd with z | z
  · exact hp.dur d z
  · exact frmW_dur h w _ _ d z

/-! the end: the least part of the ends -/
theorem least1_cases (t : Tb) (l : Option Part) (e : Pl × Part) : (least1 t l e = some e.2 ∧ isEnd t e.1 = true ∧ ∀ v, l = some v → less e.2 v = true) ∨ (least1 t l e = l ∧ (isEnd t e.1 = true → ∃ v, l = some v ∧ less e.2 v = false)) := by
  cases l with
  | none =>
    cases he : isEnd t e.1 with
    | true =>
      refine .inl ⟨?_, rfl, fun v z => by cases z⟩
      show (if (isEnd t e.1 && true) = true then some e.2 else none) = _
      rw [he]; rfl
    | false =>
      refine .inr ⟨?_, fun z => by cases z⟩
      show (if (isEnd t e.1 && true) = true then some e.2 else none) = _
      rw [he]; rfl
  | some v =>
    cases he : isEnd t e.1 with
    | true =>
      cases hc : less e.2 v with
      | true =>
        refine .inl ⟨?_, rfl, fun v' z => by cases z; exact hc⟩
        show (if (isEnd t e.1 && less e.2 v) = true then some e.2 else some v) = _
        rw [he, hc]; rfl
      | false =>
        refine .inr ⟨?_, fun _ => ⟨v, rfl, hc⟩⟩
        show (if (isEnd t e.1 && less e.2 v) = true then some e.2 else some v) = _
        rw [he, hc]; rfl
    | false =>
      refine .inr ⟨?_, fun z => by cases z⟩
      show (if (isEnd t e.1 && less e.2 v) = true then some e.2 else some v) = _
      rw [he]; rfl
theorem least1_pos {t : Tb} {acc : Option Part} {e : Pl × Part} (he : Pos e.2) (ha : ∀ v, acc = some v → Pos v) : ∀ v, least1 t acc e = some v → Pos v := fun v hv => by
  rcases least1_cases t acc e with ⟨h, _⟩ | ⟨h, _⟩
  · rw [h] at hv
    cases hv
    exact he
  · rw [h] at hv
    exact ha v hv
theorem least1_mem {t : Tb} : ∀ {l : List (Pl × Part)} {acc : Option Part} {L : Part}, l.foldl (least1 t) acc = some L → acc = some L ∨ ∃ e ∈ l, isEnd t e.1 = true ∧ e.2 = L
  | [], acc, L, h => .inl h
  | e :: l, acc, L, h => by
    rcases least1_mem (l := l) (acc := least1 t acc e) h with z | ⟨x, hx, q⟩
    · rcases least1_cases t acc e with ⟨h, he, _⟩ | ⟨h, _⟩
      · rw [h] at z
        exact .inr ⟨e, List.mem_cons_self, he, Option.some.inj z⟩
      · rw [h] at z
        exact .inl z
    · exact .inr ⟨x, List.mem_cons_of_mem _ hx, q⟩
theorem least1_keep {t : Tb} : ∀ {l : List (Pl × Part)} {acc : Option Part}, (∀ e ∈ l, Pos e.2) → (∀ v, acc = some v → Pos v) → ∀ v, acc = some v → ∃ L, l.foldl (least1 t) acc = some L ∧ le L v
  | [], acc, _, _, v, h => ⟨v, h, le_refl _⟩
  | e :: l, acc, hp, ha, v, h => by
    have hl : ∀ e ∈ l, Pos e.2 := fun x z => hp x (List.mem_cons_of_mem _ z)
    have he := hp e List.mem_cons_self
    have ha' := least1_pos (t := t) he ha
    rw [List.foldl_cons]
    rcases least1_cases t acc e with ⟨h1, _, hv⟩ | ⟨h1, _⟩
    · obtain ⟨L, h2, h3⟩ := least1_keep hl ha' e.2 h1
      have hL : Pos L := by
        rcases least1_mem h2 with z | ⟨x, hx, _, q⟩
        · exact ha' L z
        · rw [← q]; exact hl x hx
      refine ⟨L, h2, le_trans hL he (ha v h) h3 ?_⟩
      rcases le_total e.2 v with z | z
      · exact z
      · exact absurd z (less_true.mp (hv v h))
    · exact least1_keep hl ha' v (h1.trans h)
theorem least1_le {t : Tb} : ∀ {l : List (Pl × Part)} {acc : Option Part}, (∀ e ∈ l, Pos e.2) → (∀ v, acc = some v → Pos v) → ∀ e ∈ l, isEnd t e.1 = true → ∃ L, l.foldl (least1 t) acc = some L ∧ le L e.2
  | [], acc, _, _, e, he, _ => by simp at he
  | e0 :: l, acc, hp, ha, e, he, hend => by
    have hl : ∀ e ∈ l, Pos e.2 := fun x z => hp x (List.mem_cons_of_mem _ z)
    have ha' := least1_pos (t := t) (hp e0 List.mem_cons_self) ha
    rw [List.foldl_cons]
    rcases List.mem_cons.mp he with z | z
    · subst z
      have : ∃ v, least1 t acc e = some v ∧ le v e.2 := by
        rcases least1_cases t acc e with ⟨h1, _⟩ | ⟨h1, h2⟩
        · exact ⟨_, h1, le_refl _⟩
        · obtain ⟨v, hv, hl⟩ := h2 hend
          exact ⟨v, h1.trans hv, less_false.mp hl⟩
      obtain ⟨v, h1, h2⟩ := this
      obtain ⟨L, h3, h4⟩ := least1_keep hl ha' v h1
      have hL : Pos L := by
        rcases least1_mem h3 with z | ⟨x, hx, _, q⟩
        · exact ha' L z
        · rw [← q]; exact hl x hx
      exact ⟨L, h3, le_trans hL (ha' v h1) (hp e List.mem_cons_self) h4 h2⟩
    · exact least1_le hl ha' e z hend

def leastFrom (t : Tb) (best : List (Pl × Part)) (its : List Item) : Option Part := (its.foldl (layer t) best).foldl (least1 t) none
theorem leastFrom_some {t : Tb} (h : t.Right) : ∀ {its : List Item} {best : List (Pl × Part)} {L : Part}, (∀ i ∈ its, ItOk i) → BOk t best → leastFrom t best its = some L →
    ∃ e ∈ best, ∃ w : List Bool, e.1.known + w.length = t.bits ∧ (frm t e.1 w).length = its.length ∧ val t e.2 e.1 w its = L
  | [], best, L, _, _, hL => by
    rcases least1_mem hL with z | ⟨e, he, hend, q⟩
    · cases z
    · have hk := (isEnd_iff.mp hend).1
      refine ⟨e, he, [], by simpa using hk, ?_, ?_⟩
      · rw [(frm_end hend (w := []) (by simpa using hk)).2]
        rfl
      · unfold val
        simpa using q
  | it :: its, best, L, hi, hb, hL => by
    have hii := hi it List.mem_cons_self
    obtain ⟨e, he, w, h1, h2, h3⟩ := leastFrom_some h (fun i z => hi i (List.mem_cons_of_mem _ z)) (layer_ok h hii hb) (show leastFrom t (layer t best it) its = some L from hL)
    obtain ⟨e0, he0, s, hs, rfl⟩ := layer_from he
    have hk := step_known hs
    refine ⟨e0, he0, cons? s.1 w, ?_, ?_, ?_⟩
    · rw [cons?_length]
      simp only at h1
      omega
    · rw [step_frm hs w]
      simp only [List.length_cons] at h2 ⊢
      omega
    · unfold val at h3 ⊢
      rw [step_frm hs w, List.zip_cons_cons, List.foldl_cons]
      exact h3
theorem leastFrom_le {t : Tb} (h : t.Right) : ∀ {its : List Item} {best : List (Pl × Part)}, (∀ i ∈ its, ItOk i) → BOk t best → ∀ e ∈ best, ∀ w : List Bool, e.1.known + w.length = t.bits → (frm t e.1 w).length = its.length →
    ∃ L, leastFrom t best its = some L ∧ le L (val t e.2 e.1 w its)
  | [], best, _, hb, e, he, w, h1, h2 => by
    have hr : frm t e.1 w = [] := List.eq_nil_of_length_eq_zero h2
    have hend : isEnd t e.1 = true := by
      cases q : isEnd t e.1 with
      | true => rfl
      | false =>
        exfalso
        unfold frm at hr
        obtain ⟨r1, r2⟩ := List.append_eq_nil_iff.mp hr
        cases w with
        | nil =>
          have : isEnd t e.1 = true := isEnd_iff.mpr ⟨by simpa using h1, r1⟩
          rw [q] at this
          cases this
        | cons b w =>
          unfold frmW at r2
          exact settle_rest_ne t _ _ b (List.append_eq_nil_iff.mp r2).1
    obtain ⟨L, hL, hle⟩ := least1_le (acc := none) (fun e he => (hb e he).2) (fun v z => by cases z) e he hend
    exact ⟨L, hL, by unfold val; simpa using hle⟩
  | it :: its, best, hi, hb, e, he, w, h1, h2 => by
    have hii := hi it List.mem_cons_self
    have his : ∀ i ∈ its, ItOk i := fun i z => hi i (List.mem_cons_of_mem _ z)
    obtain ⟨hpl, hpo⟩ := hb e he
    obtain ⟨s, hs, w', rfl⟩ := step_of hpl.known h1 (fun z => by rw [z] at h2; simp at h2)
    obtain ⟨v, hv, hle⟩ := layer_to h hii hb he hs
    have hk := step_known hs
    have hf := step_frm hs w'
    rw [cons?_length] at h1
    have hl : (frm t s.2.2 w').length = its.length := by
      rw [hf] at h2
      simpa using h2
    obtain ⟨L, hL, hLe⟩ := leastFrom_le h his (layer_ok h hii hb) (s.2.2, v) hv w' (by simp only; omega) hl
    refine ⟨L, hL, ?_⟩
    obtain ⟨h3, h4⟩ := step_ok h hpl hs
    have hdur := frm_dur h h3 w'
    have hvp := (layer_ok h hii hb _ hv).2
    have hwp := wider_pos hpo (off_pos hii h4)
    have hval : val t e.2 e.1 (cons? s.1 w') (it :: its) = val t (wider e.2 (off it s.2.1)) s.2.2 w' its := by
      unfold val
      rw [hf, List.zip_cons_cons, List.foldl_cons]
    rw [hval]
    have hLp : Pos L := by
      obtain ⟨e', he', w2, _, _, q⟩ := leastFrom_some h his (layer_ok h hii hb) hL
      rw [← q]
      obtain ⟨q1, q2⟩ := layer_ok h hii hb e' he'
      exact val_pos his (frm_dur h q1 w2) q2
    exact le_trans hLp (val_pos his hdur hvp) (val_pos his hdur hwp) hLe (val_mono his hdur hvp hwp hle)
end BF

namespace BF

/-! ### due: the first of the least -/
theorem far_eq {t : Tb} (h : t.Right) {w : List Bool} (hw : w.length = t.bits) (burst : List Item) : far burst (frameL t w) = val t (0, 1) (begin_ t) w burst := by
  rw [frameL_eq h hw]
  rfl
theorem words_length : ∀ {n : Nat} {w : List Bool}, w ∈ words n → w.length = n
  | 0, w, h => by
    have : w = [] := by simpa [words] using h
    rw [this]; rfl
  | n + 1, w, h => by
    rcases List.mem_append.mp h with h | h <;> obtain ⟨x, hx, rfl⟩ := List.mem_map.mp h <;> rw [List.length_cons, words_length hx]
theorem words_all : ∀ {n : Nat} {w : List Bool}, w.length = n → w ∈ words n
  | 0, w, h => by
    have : w = [] := List.eq_nil_of_length_eq_zero h
    rw [this]; exact List.mem_singleton.mpr rfl
  | n + 1, [], h => by simp at h
  | n + 1, b :: w, h => by
    have hw : w ∈ words n := words_all (by simpa using h)
    cases b
    · exact List.mem_append_left _ (List.mem_map.mpr ⟨w, hw, rfl⟩)
    · exact List.mem_append_right _ (List.mem_map.mpr ⟨w, hw, rfl⟩)
/-- the least part so far, and the first word with it -/
structure First (f : List Bool → Option Part) (ws : List (List Bool)) (P : Part) (w : List Bool) : Prop where
  at_ : f w = some P
  mem : w ∈ ws
  least : ∀ w' ∈ ws, ∀ P', f w' = some P' → le P P'
  first : ws.find? (fun w' => match f w' with | none => false | some P' => decide (P'.1 * P.2 ≤ P.1 * P'.2)) = some w
def fst1 (f : List Bool → Option Part) (best : Option (Part × List Bool)) (w : List Bool) : Option (Part × List Bool) :=
  match f w with
  | none => best
  | some P => match best with
    | none => some (P, w)
    | some b => if less P b.1 then some (P, w) else best
theorem first_fold (f : List Bool → Option Part) (hf : ∀ w P, f w = some P → Pos P) : ∀ (ws : List (List Bool)),
    (ws.foldl (fst1 f) none = none ∧ ∀ w ∈ ws, f w = none) ∨ ∃ P w, ws.foldl (fst1 f) none = some (P, w) ∧ First f ws P w := by
  intro ws
  have go : ∀ (r : List (List Bool)), ((r.reverse).foldl (fst1 f) none = none ∧ ∀ w ∈ r.reverse, f w = none) ∨ ∃ P w, (r.reverse).foldl (fst1 f) none = some (P, w) ∧ First f r.reverse P w := by
    intro r
    induction r with
    | nil => exact .inl ⟨rfl, fun w h => by simp at h⟩
    | cons x r ih =>
      rw [List.reverse_cons, List.foldl_append]
      simp only [List.foldl_cons, List.foldl_nil]
      generalize hws : r.reverse = ws at ih ⊢
      cases hx : f x with
      | none =>
        have e : ∀ b, fst1 f b x = b := fun b => by unfold fst1; rw [hx]
        rw [e]
        rcases ih with ⟨h1, h2⟩ | ⟨P, w, h1, F⟩
        · refine .inl ⟨h1, fun w hw => ?_⟩
          rcases List.mem_append.mp hw with z | z
          · exact h2 w z
          · have : w = x := by simpa using z
            rw [this]; exact hx
        · refine .inr ⟨P, w, h1, ⟨F.at_, List.mem_append_left _ F.mem, fun w' hw' P' hP' => ?_, ?_⟩⟩
          · rcases List.mem_append.mp hw' with z | z
            · exact F.least w' z P' hP'
            · have : w' = x := by simpa using z
              rw [this, hx] at hP'
              cases hP'
          · rw [List.find?_append, F.first]
            rfl
      | some Px =>
        rcases ih with ⟨h1, h2⟩ | ⟨P, w, h1, F⟩
        · right
          refine ⟨Px, x, by rw [h1]; unfold fst1; rw [hx], ⟨hx, List.mem_append_right _ (List.mem_singleton.mpr rfl), fun w' hw' P' hP' => ?_, ?_⟩⟩
          · rcases List.mem_append.mp hw' with z | z
            · rw [h2 w' z] at hP'
              cases hP'
            · have : w' = x := by simpa using z
              rw [this, hx] at hP'
              cases hP'
              exact le_refl _
          · rw [List.find?_append]
            have e0 : ws.find? (fun w' => match f w' with | none => false | some P' => decide (P'.1 * Px.2 ≤ Px.1 * P'.2)) = none := by
              rw [List.find?_eq_none]
              intro w hw
              rw [h2 w hw]
              simp
            rw [e0]
            simp [hx]
        · cases hl : less Px P with
          | true =>
            right
            refine ⟨Px, x, by rw [h1]; unfold fst1; rw [hx]; show (if less Px P = true then _ else _) = _; rw [hl]; rfl, ⟨hx, List.mem_append_right _ (List.mem_singleton.mpr rfl), fun w' hw' P' hP' => ?_, ?_⟩⟩
            · rcases List.mem_append.mp hw' with z | z
              · have hPx : le Px P := by
                  rcases le_total Px P with q | q
                  · exact q
                  · exact absurd q (less_true.mp hl)
                exact le_trans (hf x Px hx) (hf w P F.at_) (hf w' P' hP') hPx (F.least w' z P' hP')
              · have : w' = x := by simpa using z
                rw [this, hx] at hP'
                cases hP'
                exact le_refl _
            · rw [List.find?_append]
              have e0 : ws.find? (fun w' => match f w' with | none => false | some P' => decide (P'.1 * Px.2 ≤ Px.1 * P'.2)) = none := by
                rw [List.find?_eq_none]
                intro w' hw'
                cases hq : f w' with
                | none => simp
                | some P' =>
                  simp only [decide_eq_true_eq]
                  intro z
                  exact absurd (le_trans (hf w P F.at_) (hf w' P' hq) (hf x Px hx) (F.least w' hw' P' hq) z) (less_true.mp hl)
              rw [e0]
              simp [hx]
          | false =>
            right
            refine ⟨P, w, by rw [h1]; unfold fst1; rw [hx]; show (if less Px P = true then _ else _) = _; rw [hl]; rfl, ⟨F.at_, List.mem_append_left _ F.mem, fun w' hw' P' hP' => ?_, ?_⟩⟩
            · rcases List.mem_append.mp hw' with z | z
              · exact F.least w' z P' hP'
              · have : w' = x := by simpa using z
                rw [this, hx] at hP'
                cases hP'
                exact less_false.mp hl
            · rw [List.find?_append, F.first]
              rfl
  have := go ws.reverse
  rwa [List.reverse_reverse] at this

def fDue (t : Tb) (burst : List Item) (w : List Bool) : Option Part := if (frameL t w).length = burst.length then some (far burst (frameL t w)) else none
theorem due_eq (t : Tb) (burst : List Item) : due t burst = (words t.bits).foldl (fst1 (fDue t burst)) none := by
  unfold due
  have e : due1 t burst = fst1 (fDue t burst) := by
    funext best w
    unfold due1 fst1 fDue
    split <;> rfl
  rw [e]

/-! ### the least word -/
def okB (t : Tb) (tol : Part) (p : Pl) (its : List Item) (w : List Bool) : Bool := decide ((frm t p w).length = its.length) && (its.zip (frm t p w)).all fun x => !isOff tol x.1 x.2
def firstR (t : Tb) (tol : Part) : List Item → Pl → Option (List Bool)
  | [], p => if isEnd t p then some [] else none
  | it :: its, p => (steps t p).findSome? fun s => if isOff tol it s.2.1 then none else (firstR t tol its s.2.2).map (cons? s.1)
theorem find_and {α : Type} (c : Bool) (f : α → Bool) (l : List α) : l.find? (fun x => c && f x) = if c then l.find? f else none := by
  cases c <;> simp
theorem find_congr {α : Type} {f g : α → Bool} : ∀ {l : List α}, (∀ x ∈ l, f x = g x) → l.find? f = l.find? g
  | [], _ => rfl
  | x :: l, h => by
    rw [List.find?_cons, List.find?_cons, h x List.mem_cons_self, find_congr fun y hy => h y (List.mem_cons_of_mem _ hy)]
theorem okB_cons {t : Tb} {tol : Part} {p : Pl} {it : Item} {its : List Item} {s : Stp} (hs : s ∈ steps t p) (w : List Bool) : okB t tol p (it :: its) (cons? s.1 w) = (!isOff tol it s.2.1 && okB t tol s.2.2 its w) := by
  unfold okB
  rw [step_frm hs w, List.zip_cons_cons, List.all_cons, List.length_cons, List.length_cons]
  have e : decide ((frm t s.2.2 w).length + 1 = its.length + 1) = decide ((frm t s.2.2 w).length = its.length) := by
    by_cases q : (frm t s.2.2 w).length = its.length
    · simp [q]
    · simp [q]
  rw [e]
  cases decide ((frm t s.2.2 w).length = its.length) <;> cases isOff tol it s.2.1 <;> simp
theorem firstR_eq {t : Tb} (h : t.Right) {tol : Part} : ∀ {its : List Item} {p : Pl}, PlOk t p → firstR t tol its p = (words (t.bits - p.known)).find? (okB t tol p its)
  | [], p, hp => by
    unfold firstR
    cases he : isEnd t p with
    | true =>
      have hk := (isEnd_iff.mp he).1
      have e : t.bits - p.known = 0 := by omega
      rw [e, if_pos rfl]
      have e2 : okB t tol p [] [] = true := by
        unfold okB
        rw [(frm_end he (w := []) (by simpa using hk)).2]
        rfl
      simp [words, e2]
    | false =>
      rw [if_neg (by simp)]
      symm
      rw [List.find?_eq_none]
      intro w hw hok
      have hl := words_length hw
      have hk := hp.known
      unfold okB at hok
      obtain ⟨h1, _⟩ := Bool.and_eq_true_iff.mp hok
      have h2 : (frm t p w).length = 0 := by simpa using h1
      have hr : frm t p w = [] := List.eq_nil_of_length_eq_zero h2
      unfold frm at hr
      obtain ⟨r1, r2⟩ := List.append_eq_nil_iff.mp hr
      cases w with
      | nil =>
        have : isEnd t p = true := isEnd_iff.mpr ⟨by simp at hl; omega, r1⟩
        rw [he] at this
        cases this
      | cons b w =>
        unfold frmW at r2
        exact settle_rest_ne t _ _ b (List.append_eq_nil_iff.mp r2).1
  | it :: its, p, hp => by
    have hk := hp.known
    have ih : ∀ s ∈ steps t p, firstR t tol its s.2.2 = (words (t.bits - s.2.2.known)).find? (okB t tol s.2.2 its) := fun s hs => firstR_eq h (step_ok h hp hs).1
    unfold firstR
    by_cases he : isEnd t p = true
    · have hk := (isEnd_iff.mp he).1
      have e : t.bits - p.known = 0 := by omega
      have es : steps t p = [] := by unfold steps; rw [if_pos he]
      have e2 : okB t tol p (it :: its) [] = false := by
        unfold okB
        rw [(frm_end he (w := []) (by simpa using hk)).2]
        rfl
      rw [es, e]
      simp [words, e2]
    · by_cases hr : p.rest = []
      · have es : steps t p = [take1 (some false) (settle t p.known p.op false), take1 (some true) (settle t p.known p.op true)] := by
          unfold steps; rw [if_neg he, if_pos hr]
        have hkn : p.known ≠ t.bits := fun z => he (isEnd_iff.mpr ⟨z, hr⟩)
        obtain ⟨n, hn⟩ : ∃ n, t.bits - p.known = n + 1 := ⟨t.bits - p.known - 1, by omega⟩
        have go : ∀ b, take1 (some b) (settle t p.known p.op b) ∈ steps t p → ((words n).map (b :: ·)).find? (okB t tol p (it :: its)) =
            (if isOff tol it (take1 (some b) (settle t p.known p.op b)).2.1 then none else (firstR t tol its (take1 (some b) (settle t p.known p.op b)).2.2).map (cons? (some b))) := fun b hs => by
          have hkb : t.bits - (take1 (some b) (settle t p.known p.op b)).2.2.known = n := by
            have := step_known hs
            have e : (cons? (take1 (some b) (settle t p.known p.op b)).1 []).length = 1 := rfl
            omega
          rw [ih _ hs, hkb, List.find?_map]
          have e : (words n).find? ((okB t tol p (it :: its)) ∘ (b :: ·)) = (words n).find? (fun w => !isOff tol it (take1 (some b) (settle t p.known p.op b)).2.1 && okB t tol (take1 (some b) (settle t p.known p.op b)).2.2 its w) :=
            find_congr fun w _ => okB_cons hs w
          rw [e, find_and]
          cases isOff tol it (take1 (some b) (settle t p.known p.op b)).2.1 <;> rfl
        rw [hn]
        show _ = ((words n).map (false :: ·) ++ (words n).map (true :: ·)).find? _
        rw [List.find?_append, go false (by rw [es]; exact List.mem_cons_self), go true (by rw [es]; exact List.mem_cons_of_mem _ List.mem_cons_self), es]
        have eb : ∀ b, (take1 (some b) (settle t p.known p.op b)).1 = some b := fun _ => rfl
        simp only [List.findSome?_cons, List.findSome?_nil, eb]
        generalize (if isOff tol it (take1 (some true) (settle t p.known p.op true)).2.1 = true then none else Option.map (cons? (some true)) (firstR t tol its (take1 (some true) (settle t p.known p.op true)).2.2)) = y
        generalize (if isOff tol it (take1 (some false) (settle t p.known p.op false)).2.1 = true then none else Option.map (cons? (some false)) (firstR t tol its (take1 (some false) (settle t p.known p.op false)).2.2)) = x
        cases x <;> cases y <;> rfl
      · have es : steps t p = [take1 none p] := by unfold steps; rw [if_neg he, if_neg hr]
        have hs : take1 none p ∈ steps t p := by rw [es]; exact List.mem_singleton.mpr rfl
        have hkb : t.bits - (take1 none p).2.2.known = t.bits - p.known := rfl
        have e : (words (t.bits - p.known)).find? (okB t tol p (it :: its)) = (words (t.bits - p.known)).find? (fun w => !isOff tol it (take1 none p).2.1 && okB t tol (take1 none p).2.2 its w) :=
          find_congr fun w _ => okB_cons hs w
        rw [es, e, find_and]
        simp only [List.findSome?_cons, List.findSome?_nil]
        have hi := ih _ hs
        rw [hkb] at hi
        rw [← hi]
        have ec : (take1 none p).1 = none := rfl
        cases isOff tol it (take1 none p).2.1
        · simp only [ec]
          cases firstR t tol its (take1 none p).2.2 <;> rfl
        · rfl

/-! the layers back -/
def reach (t : Tb) (tol : Part) : List Item → Pl → Bool
  | [], p => isEnd t p
  | it :: its, p => (steps t p).any fun s => (!isOff tol it s.2.1) && reach t tol its s.2.2
theorem reach_first {t : Tb} {tol : Part} : ∀ {its : List Item} {p : Pl}, (firstR t tol its p).isSome = reach t tol its p
  | [], p => by
    unfold firstR reach
    cases isEnd t p <;> rfl
  | it :: its, p => by
    unfold firstR reach
    generalize steps t p = l
    induction l with
    | nil => rfl
    | cons s l ih =>
      rw [List.findSome?_cons, List.any_cons, ← ih, ← reach_first (its := its) (p := s.2.2)]
      cases isOff tol it s.2.1
      · cases firstR t tol its s.2.2 <;> simp
      · simp
theorem fit_fold_mem {tol : Part} {it : Item} : ∀ {ss : List Stp} {fs : List Pl} {q : Pl}, q ∈ fs → q ∈ ss.foldl (fit1 tol it) fs
  | [], _, _, h => h
  | s :: ss, fs, q, h => by
    refine fit_fold_mem (ss := ss) ?_
    unfold fit1
    split
    · exact List.mem_append_left _ h
    · exact h
theorem fit_fold_new {tol : Part} {it : Item} : ∀ {ss : List Stp} {fs : List Pl} {s : Stp}, s ∈ ss → isOff tol it s.2.1 = false → s.2.2 ∈ ss.foldl (fit1 tol it) fs
  | [], _, _, h, _ => by simp at h
  | s0 :: ss, fs, s, h, ho => by
    rcases List.mem_cons.mp h with e | h
    · subst e
      refine fit_fold_mem (ss := ss) ?_
      unfold fit1
      rw [ho]
      by_cases hc : fs.contains s.2.2 = true
      · rw [hc]
        exact List.contains_iff_mem.mp hc
      · have : fs.contains s.2.2 = false := by simpa using hc
        rw [this]
        exact List.mem_append_right _ (List.mem_singleton.mpr rfl)
    · exact fit_fold_new (ss := ss) h ho
theorem row_fold_mem {t : Tb} {tol : Part} {it : Item} : ∀ {ps : List Pl} {fs : List Pl} {q : Pl}, q ∈ fs → q ∈ ps.foldl (fitRow t tol it) fs
  | [], _, _, h => h
  | p :: ps, fs, q, h => row_fold_mem (ps := ps) (fit_fold_mem h)
theorem fits_mem {t : Tb} {tol : Part} {it : Item} : ∀ {ps : List Pl} {fs : List Pl} {p : Pl} {s : Stp}, p ∈ ps → s ∈ steps t p → isOff tol it s.2.1 = false → s.2.2 ∈ ps.foldl (fitRow t tol it) fs
  | [], _, _, _, h, _, _ => by simp at h
  | p0 :: ps, fs, p, s, h, hs, ho => by
    rcases List.mem_cons.mp h with e | h
    · subst e
      exact row_fold_mem (ps := ps) (fit_fold_new hs ho)
    · exact fits_mem (ps := ps) h hs ho
theorem fits_mem' {t : Tb} {tol : Part} {it : Item} {l : List Pl} {p : Pl} {s : Stp} (hp : p ∈ l) (hs : s ∈ steps t p) (ho : isOff tol it s.2.1 = false) : s.2.2 ∈ fits t tol it l := fits_mem (fs := []) hp hs ho
theorem any_congr {α : Type} {f g : α → Bool} : ∀ {l : List α}, (∀ x ∈ l, f x = g x) → l.any f = l.any g
  | [], _ => rfl
  | x :: l, h => by rw [List.any_cons, List.any_cons, h x List.mem_cons_self, any_congr fun y hy => h y (List.mem_cons_of_mem _ hy)]
theorem filter_congr {α : Type} {f g : α → Bool} : ∀ {l : List α}, (∀ x ∈ l, f x = g x) → l.filter f = l.filter g
  | [], _ => rfl
  | x :: l, h => by rw [List.filter_cons, List.filter_cons, h x List.mem_cons_self, filter_congr fun y hy => h y (List.mem_cons_of_mem _ hy)]
theorem contains_filter {l : List Pl} {f : Pl → Bool} {q : Pl} (h : q ∈ l) : (l.filter f).contains q = f q := by
  cases hf : f q with
  | true => exact List.contains_iff_mem.mpr (List.mem_filter.mpr ⟨h, hf⟩)
  | false =>
    cases hc : (l.filter f).contains q with
    | false => rfl
    | true =>
      have := (List.mem_filter.mp (List.contains_iff_mem.mp hc)).2
      rw [hf] at this
      cases this
theorem back_head {t : Tb} {tol : Part} : ∀ {its : List Item} {l : List Pl}, (back t tol its l).headD [] = l.filter (reach t tol its)
  | [], l => rfl
  | it :: its, l => by
    show l.filter (goodB t tol it ((back t tol its (fits t tol it l)).headD [])) = _
    rw [back_head (its := its)]
    refine filter_congr fun p hp => ?_
    show (steps t p).any _ = (steps t p).any _
    refine any_congr fun s hs => ?_
    cases ho : isOff tol it s.2.1 with
    | true => rfl
    | false =>
      rw [contains_filter (fits_mem' hp hs ho)]
theorem back_ne {t : Tb} {tol : Part} {its : List Item} {l : List Pl} : ∃ F Fs, back t tol its l = F :: Fs := by
  cases its with
  | nil => exact ⟨_, _, rfl⟩
  | cons it its => exact ⟨_, _, rfl⟩
theorem greedy_eq {t : Tb} {tol : Part} : ∀ {its : List Item} {l : List Pl} {p : Pl} {w g : List Bool}, p ∈ l → firstR t tol its p = some g → greedy t tol its (back t tol its l).tail p w = w ++ g
  | [], l, p, w, g, _, hg => by
    unfold firstR at hg
    split at hg
    · cases hg
      show w = w ++ []
      rw [List.append_nil]
    · cases hg
  | it :: its, l, p, w, g, hp, hg => by
    obtain ⟨F, Fs, hF⟩ := back_ne (t := t) (tol := tol) (its := its) (l := fits t tol it l)
    have hh := back_head (t := t) (tol := tol) (its := its) (l := fits t tol it l)
    have e0 : (back t tol (it :: its) l).tail = F :: Fs := by
      show back t tol its (fits t tol it l) = _
      rw [hF]
    have e1 : F = (fits t tol it l).filter (reach t tol its) := by
      rw [← hh, hF]
      rfl
    have e2 : Fs = (back t tol its (fits t tol it l)).tail := by rw [hF]; rfl
    rw [e0]
    unfold greedy
    have hfil : (steps t p).filter (fun s => (!isOff tol it s.2.1) && F.contains s.2.2) = (steps t p).filter (fun s => (!isOff tol it s.2.1) && (firstR t tol its s.2.2).isSome) := by
      refine filter_congr fun s hs => ?_
      cases ho : isOff tol it s.2.1 with
      | true => rfl
      | false =>
        rw [e1, contains_filter (fits_mem' hp hs ho), reach_first]
    rw [hfil]
    unfold firstR at hg
    have key : ∀ (ss : List Stp), (∀ s ∈ ss, s ∈ steps t p) → ss.findSome? (fun s => if isOff tol it s.2.1 then none else (firstR t tol its s.2.2).map (cons? s.1)) = some g →
        ∃ s r g', ss.filter (fun s => (!isOff tol it s.2.1) && (firstR t tol its s.2.2).isSome) = s :: r ∧ s ∈ steps t p ∧ isOff tol it s.2.1 = false ∧ firstR t tol its s.2.2 = some g' ∧ g = cons? s.1 g' := by
      intro ss
      induction ss with
      | nil => intro _ h; simp at h
      | cons s ss ih =>
        intro hm h
        rw [List.findSome?_cons] at h
        rw [List.filter_cons]
        cases ho : isOff tol it s.2.1 with
        | true =>
          rw [ho] at h
          exact ih (fun x z => hm x (List.mem_cons_of_mem _ z)) h
        | false =>
          rw [ho] at h
          cases hq : firstR t tol its s.2.2 with
          | none =>
            rw [hq] at h
            exact ih (fun x z => hm x (List.mem_cons_of_mem _ z)) h
          | some g' =>
            rw [hq] at h
            have e : g = cons? s.1 g' := by
              have h' : some (cons? s.1 g') = some g := h
              exact (Option.some.inj h').symm
            exact ⟨s, _, g', rfl, hm s List.mem_cons_self, ho, hq, e⟩
    obtain ⟨s, r, g', h1, h2, h3, h4, h5⟩ := key _ (fun _ z => z) hg
    rw [h1, h5]
    show greedy t tol its Fs s.2.2 _ = _
    rw [e2, greedy_eq (its := its) (fits_mem' hp h2 h3) h4]
    cases s.1 with
    | none => rfl
    | some b => simp [cons?]
theorem leastWord_eq {t : Tb} (h : t.Right) (tol : Part) (its : List Item) : leastWord t its tol = (words t.bits).find? (okB t tol (begin_ t) its) := by
  have hk : t.bits - (begin_ t).known = t.bits := by cases t <;> rfl
  have hf := firstR_eq h (tol := tol) (its := its) (begin_ok h)
  rw [hk] at hf
  rw [← hf]
  unfold leastWord
  have hh := back_head (t := t) (tol := tol) (its := its) (l := [begin_ t])
  have hr := reach_first (t := t) (tol := tol) (its := its) (p := begin_ t)
  dsimp only
  rw [hh]
  cases hq : firstR t tol its (begin_ t) with
  | none =>
    rw [hq] at hr
    have e : [begin_ t].filter (reach t tol its) = [] := by
      rw [List.filter_cons, ← hr]
      rfl
    rw [if_pos e]
  | some g =>
    rw [hq] at hr
    have e : [begin_ t].filter (reach t tol its) ≠ [] := by
      rw [List.filter_cons, ← hr]
      simp
    rw [if_neg e, greedy_eq List.mem_cons_self hq, List.nil_append]

/-! ### the plain law -/
theorem fold_le {its : List Item} {r : Part} (hi : ∀ i ∈ its, ItOk i) (hr : Pos r) : ∀ {ds : List Int} {v : Part}, (∀ d ∈ ds, 0 < d) → Pos v → (le ((its.zip ds).foldl (fun p x => wider p (off x.1 x.2)) v) r ↔ le v r ∧ ∀ x ∈ its.zip ds, le (off x.1 x.2) r) := by
  induction its with
  | nil => intro ds v _ _; simp
  | cons it its ih =>
    intro ds v hd hv
    cases ds with
    | nil => simp
    | cons d ds =>
      have ho := off_pos (hi it List.mem_cons_self) (hd d List.mem_cons_self)
      rw [List.zip_cons_cons, List.foldl_cons, ih (fun i z => hi i (List.mem_cons_of_mem _ z)) (fun i z => hd i (List.mem_cons_of_mem _ z)) (wider_pos hv ho)]
      constructor
      · rintro ⟨h1, h2⟩
        refine ⟨le_trans hv (wider_pos hv ho) hr (wider_left _ _) h1, fun x hx => ?_⟩
        rcases List.mem_cons.mp hx with e | hx
        · rw [e]
          exact le_trans ho (wider_pos hv ho) hr (wider_right _ _) h1
        · exact h2 x hx
      · rintro ⟨h1, h2⟩
        exact ⟨wider_le h1 (h2 _ List.mem_cons_self), fun x hx => h2 x (List.mem_cons_of_mem _ hx)⟩
theorem isOff_iff {tol : Part} {it : Item} {d : Int} : isOff tol it d = false ↔ le (off it d) tol := by
  unfold isOff le
  simp
theorem begin_known (t : Tb) : (begin_ t).known = 0 := by cases t <;> rfl
/-- a part that is worth the same -/
def Same (p q : Part) : Prop := p.1 * q.2 = q.1 * p.2
theorem Same.le1 {p q : Part} (h : Same p q) : le p q := Int.le_of_eq h
theorem Same.le2 {p q : Part} (h : Same p q) : le q p := Int.le_of_eq h.symm
theorem same_of {p q : Part} (h1 : le p q) (h2 : le q p) : Same p q := Int.le_antisymm h1 h2
theorem pos01 : Pos ((0, 1) : Part) := by
  show (0 : Int) < 1
  decide
/-- THE PLAIN LAW of nearest -/
theorem nearest_law {t : Tb} (h : t.Right) {its : List Item} (hi : ∀ i ∈ its, ItOk i) :
    match due t its with
    | none => least t its = none
    | some (P, w) => ∃ L, least t its = some L ∧ Pos L ∧ Same L P ∧ w.length = t.bits ∧ ∀ tol, Pos tol → 0 ≤ tol.1 → Same tol L → leastWord t its tol = some w := by
  have hbe := begin_ok h
  have hB : BOk t [(begin_ t, (0, 1))] := fun e he => by
    have : e = (begin_ t, (0, 1)) := by simpa using he
    rw [this]
    exact ⟨hbe, pos01⟩
  have hlen : ∀ w : List Bool, w.length = t.bits → (begin_ t).known + w.length = t.bits := fun w hw => by rw [begin_known]; omega
  have hfpos : ∀ w P, (fun w => if w.length = t.bits then fDue t its w else none) w = some P → Pos P := fun w P hw => by
    have hw : (if w.length = t.bits then fDue t its w else none) = some P := hw
    by_cases hl : w.length = t.bits
    · rw [if_pos hl] at hw
      unfold fDue at hw
      split at hw
      · cases hw
        rw [far_eq h hl]
        exact val_pos hi (frm_dur h hbe w) pos01
      · cases hw
    · rw [if_neg hl] at hw
      cases hw
  have hsame : ∀ (ws : List (List Bool)), (∀ w ∈ ws, w.length = t.bits) → ∀ acc, ws.foldl (fst1 (fDue t its)) acc = ws.foldl (fst1 (fun w => if w.length = t.bits then fDue t its w else none)) acc := by
    intro ws
    induction ws with
    | nil => intro _ _; rfl
    | cons w ws ih =>
      intro hw acc
      rw [List.foldl_cons, List.foldl_cons, ih fun x z => hw x (List.mem_cons_of_mem _ z)]
      congr 1
      unfold fst1
      simp only [if_pos (hw w List.mem_cons_self)]
  rw [due_eq, hsame _ (fun w hw => words_length hw)]
  rcases first_fold _ hfpos (words t.bits) with ⟨h1, h2⟩ | ⟨P, w, h1, F⟩
  · rw [h1]
    show least t its = none
    cases hL : least t its with
    | none => rfl
    | some L =>
      exfalso
      obtain ⟨e, he, w, h3, h4, h5⟩ := leastFrom_some h hi hB (show leastFrom t [(begin_ t, (0, 1))] its = some L from hL)
      have e0 : e = (begin_ t, (0, 1)) := by simpa using he
      subst e0
      have hl : w.length = t.bits := by
        have := h3
        simp only [begin_known] at this
        omega
      have := h2 w (words_all hl)
      simp only [if_pos hl] at this
      unfold fDue at this
      rw [frameL_eq h hl, if_pos h4] at this
      cases this
  · rw [h1]
    show ∃ L, least t its = some L ∧ Pos L ∧ Same L P ∧ w.length = t.bits ∧ ∀ tol, Pos tol → 0 ≤ tol.1 → Same tol L → leastWord t its tol = some w
    have hl : w.length = t.bits := words_length F.mem
    have hat := F.at_
    simp only [if_pos hl] at hat
    unfold fDue at hat
    have hfl : (frm t (begin_ t) w).length = its.length := by
      rw [← frameL_eq h hl]
      by_cases q : (frameL t w).length = its.length
      · exact q
      · rw [if_neg q] at hat
        cases hat
    have hP : P = val t (0, 1) (begin_ t) w its := by
      rw [frameL_eq h hl, if_pos hfl] at hat
      exact (Option.some.inj hat).symm
    obtain ⟨L, hL, hle⟩ := leastFrom_le h hi hB (begin_ t, (0, 1)) (List.mem_singleton.mpr rfl) w (hlen w hl) hfl
    obtain ⟨e, he, w', h3, h4, h5⟩ := leastFrom_some h hi hB hL
    have e0 : e = (begin_ t, (0, 1)) := by simpa using he
    subst e0
    have hl' : w'.length = t.bits := by
      have := h3
      simp only [begin_known] at this
      omega
    have hLpos : Pos L := by
      rw [← h5]
      exact val_pos hi (frm_dur h hbe w') pos01
    have hPpos : Pos P := hfpos w P F.at_
    have hPL : le P L := by
      refine F.least w' (words_all hl') L ?_
      simp only [if_pos hl']
      unfold fDue
      rw [frameL_eq h hl', if_pos h4]
      exact congrArg some h5
    rw [← hP] at hle
    refine ⟨L, hL, hLpos, same_of hle hPL, hl, fun tol ht h0 hs => ?_⟩
    rw [leastWord_eq h]
    have hfirst := F.first
    rw [← hfirst]
    refine find_congr fun x hx => ?_
    have hxl := words_length hx
    simp only [if_pos hxl]
    unfold fDue okB
    rw [frameL_eq h hxl]
    by_cases hq : (frm t (begin_ t) x).length = its.length
    · rw [if_pos hq, decide_eq_true hq, Bool.true_and]
      have hdur := frm_dur h hbe x
      have hfar : Pos (far its (frm t (begin_ t) x)) := val_pos hi hdur pos01
      have htP1 : le tol P := le_trans ht hLpos hPpos hs.le1 (same_of hle hPL).le1
      have htP2 : le P tol := le_trans hPpos hLpos ht (same_of hle hPL).le2 hs.le2
      have h01 : le ((0, 1) : Part) tol := by
        unfold le
        simp
        exact h0
      have iff1 := fold_le hi ht hdur (v := (0, 1)) pos01
      rw [Bool.eq_iff_iff, List.all_eq_true]
      simp only [decide_eq_true_eq]
      constructor
      · intro z
        have hz : le (far its (frm t (begin_ t) x)) tol := iff1.mpr ⟨h01, fun y hy => isOff_iff.mp (by have := z y hy; simpa using this)⟩
        exact le_trans hfar ht hPpos hz htP1
      · intro z y hy
        have hz : le (far its (frm t (begin_ t) x)) tol := le_trans hfar hPpos ht z htP2
        have := (iff1.mp hz).2 y hy
        rw [isOff_iff.mpr this]
        rfl
    · rw [if_neg hq, decide_eq_false hq, Bool.false_and]
end BF

namespace BF
/-! ### ratios in lowest terms -/
def gcd' (n d : Int) : Int := (Int.gcd d n : Nat)
def ratio (n d : Int) : Part := (n / gcd' n d, d / gcd' n d)
theorem gcd'_pos {n d : Int} (hd : 0 < d) : 0 < gcd' n d := by
  unfold gcd'
  have : 0 < Int.gcd d n := Int.gcd_pos_of_ne_zero_left _ (by omega)
  omega
theorem gcd'_dl (n d : Int) : gcd' n d ∣ d := Int.gcd_dvd_left d n
theorem gcd'_dr (n d : Int) : gcd' n d ∣ n := Int.gcd_dvd_right d n
theorem gcd'_le {n d : Int} (hd : 0 < d) : gcd' n d ≤ d := Int.le_of_dvd hd (gcd'_dl n d)
theorem ratio_pos {n d : Int} (hd : 0 < d) : Pos (ratio n d) := by
  show 0 < d / gcd' n d
  exact Int.ediv_pos_of_pos_of_dvd hd (Int.le_of_lt (gcd'_pos hd)) (gcd'_dl n d)
theorem ratio_nn {n d : Int} (hn : 0 ≤ n) (hd : 0 < d) : 0 ≤ (ratio n d).1 := Int.ediv_nonneg hn (Int.le_of_lt (gcd'_pos hd))
theorem ratio_same {n d : Int} (hd : 0 < d) : Same (ratio n d) (n, d) := by
  show n / gcd' n d * d = n * (d / gcd' n d)
  obtain ⟨a, ha⟩ := gcd'_dr n d
  obtain ⟨b, hb⟩ := gcd'_dl n d
  have hg := gcd'_pos (n := n) hd
  generalize gcd' n d = g at *
  subst ha hb
  have hg' : g ≠ 0 := by omega
  rw [Int.mul_ediv_cancel_left _ hg', Int.mul_ediv_cancel_left _ hg']
  rw [← Int.mul_assoc, Int.mul_comm a g]
theorem ratio_scale {k n d : Int} (hk : 0 < k) (hd : 0 < d) : ratio (k * n) (k * d) = ratio n d := by
  unfold ratio gcd'
  have e : Int.gcd (k * d) (k * n) = k.natAbs * Int.gcd d n := Int.gcd_mul_left k d n
  rw [e]
  have e2 : ((k.natAbs * Int.gcd d n : Nat) : Int) = k * (Int.gcd d n : Nat) := by
    rw [Int.natCast_mul, Int.natAbs_of_nonneg (Int.le_of_lt hk)]
  rw [e2, Int.mul_ediv_mul_of_pos _ _ hk, Int.mul_ediv_mul_of_pos _ _ hk]
theorem ratio_eq {a b c d : Int} (hb : 0 < b) (hd : 0 < d) (h : a * d = c * b) : ratio a b = ratio c d := by
  rw [← ratio_scale (k := d) hd hb, ← ratio_scale (k := b) (n := c) (d := d) hb hd, Int.mul_comm d a, h, Int.mul_comm c b, Int.mul_comm d b]
theorem ratio_den_le {n d : Int} (hd : 0 < d) : (ratio n d).2 ≤ d := by
  show d / gcd' n d ≤ d
  exact Int.ediv_le_self _ (Int.le_of_lt hd)
theorem ratio_num_le {n d : Int} (hn : 0 ≤ n) (hd : 0 < d) : (ratio n d).1 ≤ n := by
  show n / gcd' n d ≤ n
  exact Int.ediv_le_self _ hn
theorem ratio_num_pos {n d : Int} (hn : 0 < n) (hd : 0 < d) : 0 < (ratio n d).1 := by
  show 0 < n / gcd' n d
  exact Int.ediv_pos_of_pos_of_dvd hn (Int.le_of_lt (gcd'_pos hd)) (gcd'_dr n d)
/-- one turn of the divisor's loop -/
theorem gcd_turn {one oth : Int} (h : 0 < oth) (ho : 0 ≤ one) : Int.gcd oth (one % oth) = Int.gcd one oth := by
  have e : Int.gcd one oth = Int.gcd oth one := Int.gcd_comm one oth
  rw [e]
  unfold Int.gcd
  rw [Int.natAbs_emod_of_nonneg ho]
  rw [Nat.gcd_rec oth.natAbs one.natAbs, Nat.gcd_comm]
theorem gcd_end {one : Int} (ho : 0 ≤ one) : (Int.gcd one 0 : Int) = one := by
  rw [Int.gcd_zero_right]
  exact Int.natAbs_of_nonneg ho
end BF

/-! Beamframes, the layer: immutable data D, what the slots hold, and one rule a construct, by data alone. -/
namespace Bf
open PySem PySem.Spec PyProof.Rows L2

/-! ### heaps that grow; heaps whose immutable things stand -/
def Ex (H H' : Hp) : Prop := ∀ a o, H a = some o → H' a = some o
theorem Ex.refl (H : Hp) : Ex H H := fun _ _ h => h
theorem Ex.trans {H H1 H2 : Hp} (a : Ex H H1) (b : Ex H1 H2) : Ex H H2 := fun x o h => b x o (a x o h)
theorem Ex.new {H : Hp} {p : Addr} {o : HO} (h : H p = none) : Ex H (upd H p o) := fun a u e => by
  rw [upd_ne (ne_of_none e h)]
  exact e
theorem Ex.mut {H H' : Hp} {p : Addr} {o : HO} (e : Ex H H') (h : H p = none) : Ex H (upd H' p o) := fun a u ha => by
  rw [upd_ne (ne_of_none ha h)]
  exact e a u ha
theorem Ex.free {H H' : Hp} {p : Addr} (e : Ex H H') (h : H' p = none) : H p = none := by
  cases h1 : H p with
  | none => rfl
  | some o =>
    rw [e p o h1] at h
    cases h
def immO : HO → Bool
  | .tup _ => true
  | .ins _ _ _ => true
  | .own _ => true
  | .frz _ _ => true
  | _ => false
def Im (H H' : Hp) : Prop := ∀ a o, H a = some o → immO o = true → H' a = some o
theorem Im.refl (H : Hp) : Im H H := fun _ _ h _ => h
theorem Im.trans {H H1 H2 : Hp} (a : Im H H1) (b : Im H1 H2) : Im H H2 := fun x o h k => b x o (a x o h k) k
theorem Ex.im {H H' : Hp} (e : Ex H H') : Im H H' := fun a o h _ => e a o h
theorem Im.upd {H : Hp} {p : Addr} {o u : HO} (h : H p = some u) (hu : immO u = false) : Im H (upd H p o) := fun a v ha hv => by
  rw [upd_ne]
  · exact ha
  · rintro rfl
    rw [h] at ha
    cases ha
    rw [hu] at hv
    cases hv

/-! ### data -/
inductive D where
  | non
  | bl (b : Bool)
  | int (i : Int)
  | str (x : Str)
  | tup (ds : List D)
  | rat (n d : Int)
  | lst (ds : List D)

/-- the attributes of a Ratio -/
def rfs (n d : Int) : List (Str × V) := putF "own_den" (.int d) (putF "own_num" (.int n) [])

mutual
inductive Rep (K : PySem.W.Frag) (C : Addr) (B H : Hp) : V → D → Prop
  | non : Rep K C B H .non .non
  | bl (b : Bool) : Rep K C B H (.bl b) (.bl b)
  | int (i : Int) : Rep K C B H (.int i) (.int i)
  | str (x : Str) : Rep K C B H (.str x) (.str x)
  | tup {a : Addr} {xs : List V} {ds : List D} : SqT K H a xs → Reps K C B H xs ds → Rep K C B H (.ref a) (.tup ds)
  | rat {a dx : Addr} {n d : Int} : H a = some (.ins C dx (rfs n d)) → Rep K C B H (.ref a) (.rat n d)
  | lst {a : Addr} {xs : List V} {ds : List D} : SqL K B a xs → Reps K C B H xs ds → Rep K C B H (.ref a) (.lst ds)
inductive Reps (K : PySem.W.Frag) (C : Addr) (B H : Hp) : List V → List D → Prop
  | nil : Reps K C B H [] []
  | cons {v : V} {vs : List V} {d : D} {ds : List D} : Rep K C B H v d → Reps K C B H vs ds → Reps K C B H (v :: vs) (d :: ds)
end

section
variable {K : PySem.W.Frag} {C : Addr} {B B' H H' : Hp}
theorem sqT_im {a : Addr} {xs : List V} (e : Im H H') (h : SqT K H a xs) : SqT K H' a xs := by
  rcases h with (h | ⟨o, h⟩) | h
  · exact .inl (.inl (e _ _ h rfl))
  · exact .inl (.inr ⟨o, e _ _ h rfl⟩)
  · exact .inr h
theorem sqL_ex {a : Addr} {xs : List V} (e : Ex H H') (h : SqL K H a xs) : SqL K H' a xs := by
  rcases h with (h | ⟨o, h⟩) | h
  · exact .inl (.inl (e _ _ h))
  · exact .inl (.inr ⟨o, e _ _ h⟩)
  · exact .inr h
mutual
theorem Rep.im (e : Im H H') : ∀ (d : D) (v : V), Rep K C B H v d → Rep K C B H' v d
  | .non, _, h => by cases h; exact .non
  | .bl b, _, h => by cases h; exact .bl b
  | .int i, _, h => by cases h; exact .int i
  | .str x, _, h => by cases h; exact .str x
  | .tup ds, _, h => by
    cases h with
    | tup h1 h2 => exact .tup (sqT_im e h1) (Reps.im e ds _ h2)
  | .rat n d, _, h => by
    cases h with
    | rat h1 => exact .rat (e _ _ h1 rfl)
  | .lst ds, _, h => by
    cases h with
    | lst h1 h2 => exact .lst h1 (Reps.im e ds _ h2)
theorem Reps.im (e : Im H H') : ∀ (ds : List D) (vs : List V), Reps K C B H vs ds → Reps K C B H' vs ds
  | [], _, h => by cases h; exact .nil
  | d :: ds, _, h => by
    cases h with
    | cons h1 h2 => exact .cons (Rep.im e d _ h1) (Reps.im e ds _ h2)
end
mutual
/-- the base grows -/
theorem Rep.gr (e : Ex B B') : ∀ (d : D) (v : V), Rep K C B H v d → Rep K C B' H v d
  | .non, _, h => by cases h; exact .non
  | .bl b, _, h => by cases h; exact .bl b
  | .int i, _, h => by cases h; exact .int i
  | .str x, _, h => by cases h; exact .str x
  | .tup ds, _, h => by
    cases h with
    | tup h1 h2 => exact .tup h1 (Reps.gr e ds _ h2)
  | .rat n d, _, h => by
    cases h with
    | rat h1 => exact .rat h1
  | .lst ds, _, h => by
    cases h with
    | lst h1 h2 => exact .lst (sqL_ex e h1) (Reps.gr e ds _ h2)
theorem Reps.gr (e : Ex B B') : ∀ (ds : List D) (vs : List V), Reps K C B H vs ds → Reps K C B' H vs ds
  | [], _, h => by cases h; exact .nil
  | d :: ds, _, h => by
    cases h with
    | cons h1 h2 => exact .cons (Rep.gr e d _ h1) (Reps.gr e ds _ h2)
end
mutual
/-- no lists in it -/
def D.flat : D → Bool
  | .lst _ => false
  | .tup ds => D.flats ds
  | _ => true
def D.flats : List D → Bool
  | [] => true
  | d :: ds => D.flat d && D.flats ds
end
mutual
theorem Rep.fl : ∀ (d : D) (v : V), d.flat = true → Rep K C B H v d → Rep K C B' H v d
  | .non, _, _, h => by cases h; exact .non
  | .bl b, _, _, h => by cases h; exact .bl b
  | .int i, _, _, h => by cases h; exact .int i
  | .str x, _, _, h => by cases h; exact .str x
  | .tup ds, _, f, h => by
    cases h with
    | tup h1 h2 => exact .tup h1 (Reps.fl ds _ f h2)
  | .rat n d, _, _, h => by
    cases h with
    | rat h1 => exact .rat h1
  | .lst ds, _, f, _ => by cases f
theorem Reps.fl : ∀ (ds : List D) (vs : List V), D.flats ds = true → Reps K C B H vs ds → Reps K C B' H vs ds
  | [], _, _, h => by cases h; exact .nil
  | d :: ds, _, f, h => by
    obtain ⟨f1, f2⟩ := Bool.and_eq_true_iff.mp f
    cases h with
    | cons h1 h2 => exact .cons (Rep.fl d _ f1 h1) (Reps.fl ds _ f2 h2)
end
theorem flats_map {α : Type} {f : α → D} (h : ∀ x, (f x).flat = true) : ∀ l : List α, D.flats (l.map f) = true
  | [] => rfl
  | x :: l => by rw [List.map_cons, D.flats, h x, flats_map h l]; rfl
theorem Rep.ex (e : Ex H H') {d : D} {v : V} (h : Rep K C B H v d) : Rep K C B H' v d := Rep.im e.im d v h
theorem Reps.ex (e : Ex H H') {ds : List D} {vs : List V} (h : Reps K C B H vs ds) : Reps K C B H' vs ds := Reps.im e.im ds vs h
theorem Reps.length : ∀ {ds : List D} {vs : List V}, Reps K C B H vs ds → vs.length = ds.length
  | [], _, h => by cases h; rfl
  | _ :: _, _, h => by
    cases h with
    | cons h1 h2 => rw [List.length_cons, List.length_cons, Reps.length h2]
theorem Reps.get : ∀ {ds : List D} {vs : List V} {i : Nat} {d : D}, Reps K C B H vs ds → ds[i]? = some d → ∃ v, vs[i]? = some v ∧ Rep K C B H v d
  | [], _, _, _, _, h => by simp at h
  | _ :: _, _, 0, _, h, e => by
    cases h with
    | cons h1 h2 =>
      simp at e
      subst e
      exact ⟨_, rfl, h1⟩
  | _ :: ds, _, i + 1, d, h, e => by
    cases h with
    | cons h1 h2 =>
      obtain ⟨v, hv, r⟩ := Reps.get (i := i) h2 (by simpa using e)
      exact ⟨v, by simpa using hv, r⟩
theorem Reps.getV : ∀ {ds : List D} {vs : List V} {i : Nat} {v : V}, Reps K C B H vs ds → vs[i]? = some v → ∃ d, ds[i]? = some d ∧ Rep K C B H v d
  | [], _, _, _, h, e => by cases h; simp at e
  | _ :: _, _, 0, _, h, e => by
    cases h with
    | cons h1 h2 =>
      simp at e
      subst e
      exact ⟨_, rfl, h1⟩
  | _ :: ds, _, i + 1, v, h, e => by
    cases h with
    | cons h1 h2 =>
      obtain ⟨d, hd, r⟩ := Reps.getV (i := i) h2 (by simpa using e)
      exact ⟨d, by simpa using hd, r⟩
theorem Reps.append : ∀ {ds es : List D} {vs us : List V}, Reps K C B H vs ds → Reps K C B H us es → Reps K C B H (vs ++ us) (ds ++ es)
  | [], _, _, _, h, g => by cases h; exact g
  | _ :: _, _, _, _, h, g => by
    cases h with
    | cons h1 h2 => exact .cons h1 (Reps.append h2 g)
theorem Reps.one {v : V} {d : D} (h : Rep K C B H v d) : Reps K C B H [v] [d] := .cons h .nil
theorem Reps.drop : ∀ {ds : List D} {vs : List V} (n : Nat), Reps K C B H vs ds → Reps K C B H (vs.drop n) (ds.drop n)
  | _, _, 0, h => h
  | [], _, n + 1, h => by cases h; exact .nil
  | _ :: _, _, n + 1, h => by
    cases h with
    | cons h1 h2 => exact Reps.drop n h2
theorem Reps.take : ∀ {ds : List D} {vs : List V} (n : Nat), Reps K C B H vs ds → Reps K C B H (vs.take n) (ds.take n)
  | _, _, 0, h => by exact .nil
  | [], _, n + 1, h => by cases h; exact .nil
  | _ :: _, _, n + 1, h => by
    cases h with
    | cons h1 h2 => exact .cons h1 (Reps.take n h2)
theorem Reps.set : ∀ {ds : List D} {vs : List V} (n : Nat) {v : V} {d : D}, Reps K C B H vs ds → Rep K C B H v d → Reps K C B H (vs.set n v) (ds.set n d)
  | [], _, n, _, _, h, r => by cases h; exact .nil
  | _ :: _, _, 0, _, _, h, r => by
    cases h with
    | cons h1 h2 => exact .cons r h2
  | _ :: _, _, n + 1, _, _, h, r => by
    cases h with
    | cons h1 h2 => exact .cons h1 (Reps.set n h2 r)
theorem Rep.int_inv {v : V} {i : Int} (h : Rep K C B H v (.int i)) : v = .int i := by cases h; rfl
theorem Rep.bl_inv {v : V} {i : Bool} (h : Rep K C B H v (.bl i)) : v = .bl i := by cases h; rfl
theorem Rep.str_inv {v : V} {i : Str} (h : Rep K C B H v (.str i)) : v = .str i := by cases h; rfl
theorem Rep.non_inv {v : V} (h : Rep K C B H v .non) : v = .non := by cases h; rfl
theorem Rep.tup_inv {v : V} {ds : List D} (h : Rep K C B H v (.tup ds)) : ∃ a xs, v = .ref a ∧ SqT K H a xs ∧ Reps K C B H xs ds := by
  cases h with
  | tup h1 h2 => exact ⟨_, _, rfl, h1, h2⟩
theorem Rep.lst_inv {v : V} {ds : List D} (h : Rep K C B H v (.lst ds)) : ∃ a xs, v = .ref a ∧ SqL K B a xs ∧ Reps K C B H xs ds := by
  cases h with
  | lst h1 h2 => exact ⟨_, _, rfl, h1, h2⟩
theorem Rep.rat_inv {v : V} {n d : Int} (h : Rep K C B H v (.rat n d)) : ∃ a dx, v = .ref a ∧ H a = some (.ins C dx (rfs n d)) := by
  cases h with
  | rat h1 => exact ⟨_, _, rfl, h1⟩
end

/-! ### what the slots hold -/
/-- an own thing that is no list -/
structure OwnO where
  ok : Hp → Hp → Addr → Prop
  keep : ∀ {B B' H H' : Hp} {p : Addr}, ok B H p → Ex B B' → Im H H' → H' p = H p → ok B' H' p
  one : ∀ {B H : Hp} {p : Addr}, ok B H p → ∃ o, H p = some o ∧ immO o = false ∧ ∀ xs, o ≠ .lst xs
inductive Sl where
  | un
  | im (d : D)
  | ow (ds : List D)
  | ob (O : OwnO)
structure RS (K : PySem.W.Frag) (C : Addr) (H0 H : Hp) (σ : L2.St) (ρ : List Sl) : Prop where
  base : Ex H0 H
  len : σ.length = ρ.length
  im : ∀ (i : Nat) (d : D), ρ[i]? = some (Sl.im d) → ∃ v, σ[i]? = some (some v) ∧ Rep K C H0 H v d
  ow : ∀ (i : Nat) (ds : List D), ρ[i]? = some (Sl.ow ds) → ∃ (p : Addr) (xs : List V), σ[i]? = some (some (V.ref p)) ∧ H0 p = none ∧ H p = some (.lst xs) ∧ Reps K C H0 H xs ds
  df : ∀ (i j : Nat) (ds es : List D) (p : Addr), i ≠ j → ρ[i]? = some (Sl.ow ds) → ρ[j]? = some (Sl.ow es) → σ[i]? = some (some (V.ref p)) → σ[j]? ≠ some (some (V.ref p))
  ob : ∀ (i : Nat) (O : OwnO), ρ[i]? = some (Sl.ob O) → ∃ p : Addr, σ[i]? = some (some (V.ref p)) ∧ H0 p = none ∧ O.ok H0 H p
  dd : ∀ (i j : Nat) (O U : OwnO) (p : Addr), i ≠ j → ρ[i]? = some (Sl.ob O) → ρ[j]? = some (Sl.ob U) → σ[i]? = some (some (V.ref p)) → σ[j]? ≠ some (some (V.ref p))
theorem ex_same {H H' : Hp} {p : Addr} {o : HO} (e : Ex H H') (h : H p = some o) : H' p = H p := by rw [e p o h, h]
theorem OwnO.ex {O : OwnO} {B H H' : Hp} {p : Addr} (e : Ex H H') (h : O.ok B H p) : O.ok B H' p := by
  obtain ⟨o, ho, _⟩ := O.one h
  exact O.keep h (Ex.refl B) e.im (ex_same e ho)
section
variable {K : PySem.W.Frag} {C : Addr} {H0 H H' B : Hp} {σ : L2.St} {ρ : List Sl}
theorem set_some {α : Type} {i j : Nat} {ρ : List α} {w u : α} (h : (ρ.set i w)[j]? = some u) : (i = j ∧ w = u ∧ i < ρ.length) ∨ (i ≠ j ∧ ρ[j]? = some u) := by
  by_cases hij : i = j
  · subst hij
    have hl : i < ρ.length := by
      obtain ⟨h1, _⟩ := List.getElem?_eq_some_iff.mp h
      simpa using h1
    rw [List.getElem?_set_self hl] at h
    exact .inl ⟨rfl, Option.some.inj h, hl⟩
  · rw [List.getElem?_set_ne hij] at h
    exact .inr ⟨hij, h⟩
theorem RS.ex (e : Ex H H') (r : RS K C H0 H σ ρ) : RS K C H0 H' σ ρ :=
  ⟨r.base.trans e, r.len, fun i d h => let ⟨v, h1, h2⟩ := r.im i d h; ⟨v, h1, h2.ex e⟩, fun i ds h => let ⟨p, xs, h1, h2, h3, h4⟩ := r.ow i ds h; ⟨p, xs, h1, h2, e _ _ h3, h4.ex e⟩, r.df, fun i O h => let ⟨p, h1, h2, h3⟩ := r.ob i O h; ⟨p, h1, h2, O.ex e h3⟩, r.dd⟩
/-- a slot takes data -/
theorem RS.set {i : Nat} {v : V} {d : D} (r : RS K C H0 H σ ρ) (h : Rep K C H0 H v d) : RS K C H0 H (σ.set i (some v)) (ρ.set i (.im d)) := by
  have key : ∀ (m : Nat) (w : Sl), (ρ.set i (.im d))[m]? = some w → (∀ d, w ≠ .im d) → i ≠ m ∧ ρ[m]? = some w := fun m w hm hw => by
    rcases set_some hm with ⟨_, e, _⟩ | q
    · exact absurd e.symm (hw d)
    · exact q
  refine ⟨r.base, by rw [List.length_set, List.length_set, r.len], fun j e hj => ?_, fun j ds hj => ?_, fun j k ds es p hne h1 h2 h3 => ?_, fun j O hj => ?_, fun j k O U p hne h1 h2 h3 => ?_⟩
  · rcases set_some hj with ⟨rfl, e, hl⟩ | ⟨hij, hj⟩
    · cases e
      exact ⟨v, by rw [List.getElem?_set_self (by rw [r.len]; exact hl)], h⟩
    · obtain ⟨v', h1, h2⟩ := r.im j e hj
      exact ⟨v', by rw [List.getElem?_set_ne hij]; exact h1, h2⟩
  · obtain ⟨hij, hj⟩ := key j _ hj (fun _ z => by cases z)
    obtain ⟨p, xs, h1, h2⟩ := r.ow j ds hj
    exact ⟨p, xs, by rw [List.getElem?_set_ne hij]; exact h1, h2⟩
  · obtain ⟨a1, a2⟩ := key j _ h1 (fun _ z => by cases z)
    obtain ⟨b1, b2⟩ := key k _ h2 (fun _ z => by cases z)
    rw [List.getElem?_set_ne a1] at h3
    rw [List.getElem?_set_ne b1]
    exact r.df j k ds es p hne a2 b2 h3
  · obtain ⟨hij, hj⟩ := key j _ hj (fun _ z => by cases z)
    obtain ⟨p, h1, h2⟩ := r.ob j O hj
    exact ⟨p, by rw [List.getElem?_set_ne hij]; exact h1, h2⟩
  · obtain ⟨a1, a2⟩ := key j _ h1 (fun _ z => by cases z)
    obtain ⟨b1, b2⟩ := key k _ h2 (fun _ z => by cases z)
    rw [List.getElem?_set_ne a1] at h3
    rw [List.getElem?_set_ne b1]
    exact r.dd j k O U p hne a2 b2 h3
/-- a slot is forgotten -/
theorem RS.un (k : Nat) (w : Option V) (rs : RS K C H0 H σ ρ) : RS K C H0 H (σ.set k w) (ρ.set k .un) := by
  have key : ∀ (j : Nat) (w : Sl), (ρ.set k .un)[j]? = some w → w ≠ .un → k ≠ j ∧ ρ[j]? = some w := fun j w hj hw => by
    rcases set_some hj with ⟨_, e, _⟩ | q
    · exact absurd e.symm hw
    · exact q
  refine ⟨rs.base, by rw [List.length_set, List.length_set]; exact rs.len, fun j d hj => ?_, fun j es hj => ?_, fun j j2 es fs p' hne h1 h2 h3 => ?_, fun j O hj => ?_, fun j j2 O U p' hne h1 h2 h3 => ?_⟩
  · obtain ⟨n1, h1⟩ := key j _ hj (fun z => by cases z)
    rw [List.getElem?_set_ne n1]
    exact rs.im j d h1
  · obtain ⟨n1, h1⟩ := key j _ hj (fun z => by cases z)
    rw [List.getElem?_set_ne n1]
    exact rs.ow j es h1
  · obtain ⟨n1, h1⟩ := key j _ h1 (fun z => by cases z)
    obtain ⟨n2, h2⟩ := key j2 _ h2 (fun z => by cases z)
    rw [List.getElem?_set_ne n1] at h3
    rw [List.getElem?_set_ne n2]
    exact rs.df j j2 es fs p' hne h1 h2 h3
  · obtain ⟨n1, h1⟩ := key j _ hj (fun z => by cases z)
    rw [List.getElem?_set_ne n1]
    exact rs.ob j O h1
  · obtain ⟨n1, h1⟩ := key j _ h1 (fun z => by cases z)
    obtain ⟨n2, h2⟩ := key j2 _ h2 (fun z => by cases z)
    rw [List.getElem?_set_ne n1] at h3
    rw [List.getElem?_set_ne n2]
    exact rs.dd j j2 O U p' hne h1 h2 h3
/-- forgotten, the value stays -/
theorem RS.un' (k : Nat) (rs : RS K C H0 H σ ρ) : RS K C H0 H σ (ρ.set k .un) := by
  have key : ∀ (j : Nat) (w : Sl), (ρ.set k .un)[j]? = some w → w ≠ .un → k ≠ j ∧ ρ[j]? = some w := fun j w hj hw => by
    rcases set_some hj with ⟨_, e, _⟩ | q
    · exact absurd e.symm hw
    · exact q
  exact ⟨rs.base, by rw [List.length_set]; exact rs.len, fun j d hj => rs.im j d (key j _ hj (fun z => by cases z)).2, fun j es hj => rs.ow j es (key j _ hj (fun z => by cases z)).2, fun j j2 es fs p' hne h1 h2 => rs.df j j2 es fs p' hne (key j _ h1 (fun z => by cases z)).2 (key j2 _ h2 (fun z => by cases z)).2, fun j O hj => rs.ob j O (key j _ hj (fun z => by cases z)).2, fun j j2 O U p' hne h1 h2 => rs.dd j j2 O U p' hne (key j _ h1 (fun z => by cases z)).2 (key j2 _ h2 (fun z => by cases z)).2⟩
/-- a slot takes a new list -/
theorem RS.setL {i : Nat} {p : Addr} {xs : List V} {ds : List D} (r : RS K C H0 H σ ρ) (hp : H p = none) (e : Ex H H') (h : H' p = some (.lst xs)) (hx : Reps K C H0 H' xs ds) : RS K C H0 H' (σ.set i (some (.ref p))) (ρ.set i (.ow ds)) := by
  have r' := r.ex e
  have own : ∀ (j : Nat) (es : List D) (q : Addr), ρ[j]? = some (Sl.ow es) → σ[j]? = some (some (V.ref q)) → q ≠ p := fun j es q hj hs => by
    obtain ⟨q', xs', h1, _, h3, _⟩ := r.ow j es hj
    rw [hs] at h1
    cases h1
    exact ne_of_none h3 hp
  refine ⟨r'.base, by rw [List.length_set, List.length_set, r.len], fun j d hj => ?_, fun j es hj => ?_, fun j k es fs q' hne h1 h2 h3 => ?_, fun j O hj => ?_, fun j k O U q' hne h1 h2 h3 => ?_⟩
  · rcases set_some hj with ⟨rfl, e, hl⟩ | ⟨hij, hj⟩
    · cases e
    · obtain ⟨v', h1, h2⟩ := r'.im j d hj
      exact ⟨v', by rw [List.getElem?_set_ne hij]; exact h1, h2⟩
  · rcases set_some hj with ⟨rfl, e, hl⟩ | ⟨hij, hj⟩
    · cases e
      exact ⟨p, xs, by rw [List.getElem?_set_self (by rw [r.len]; exact hl)], r.base.free hp, h, hx⟩
    · obtain ⟨q, ys, h1, h2⟩ := r'.ow j es hj
      exact ⟨q, ys, by rw [List.getElem?_set_ne hij]; exact h1, h2⟩
  · rcases set_some h1 with ⟨rfl, e1, hl⟩ | ⟨hij, hj⟩
    · rcases set_some h2 with ⟨e2, _, _⟩ | ⟨hik, hk⟩
      · exact absurd e2 hne
      · rw [List.getElem?_set_ne hne]
        intro z
        rw [List.getElem?_set_self (by rw [r.len]; exact hl)] at h3
        cases h3
        exact own k fs p hk z rfl
    · rw [List.getElem?_set_ne hij] at h3
      rcases set_some h2 with ⟨rfl, _, hl⟩ | ⟨hik, hk⟩
      · rw [List.getElem?_set_self (by rw [r.len]; exact hl)]
        intro z
        cases z
        exact own j es _ hj h3 rfl
      · rw [List.getElem?_set_ne hik]
        exact r.df j k es fs q' hne hj hk h3
  · rcases set_some hj with ⟨rfl, e, hl⟩ | ⟨hij, hj⟩
    · cases e
    · obtain ⟨q, h1, h2⟩ := r'.ob j O hj
      exact ⟨q, by rw [List.getElem?_set_ne hij]; exact h1, h2⟩
  · rcases set_some h1 with ⟨_, e, _⟩ | ⟨n1, h1⟩
    · cases e
    · rcases set_some h2 with ⟨_, e, _⟩ | ⟨n2, h2⟩
      · cases e
      · rw [List.getElem?_set_ne n1] at h3
        rw [List.getElem?_set_ne n2]
        exact r.dd j k O U q' hne h1 h2 h3
/-- a slot takes an own thing that is new -/
theorem RS.setB {i : Nat} {p : Addr} {O : OwnO} (r : RS K C H0 H σ ρ) (hp : H0 p = none) (h : O.ok H0 H p) (hnew : ∀ (j : Nat) (U : OwnO), ρ[j]? = some (.ob U) → σ[j]? ≠ some (some (V.ref p))) : RS K C H0 H (σ.set i (some (.ref p))) (ρ.set i (.ob O)) := by
  have key : ∀ (m : Nat) (w : Sl), (ρ.set i (.ob O))[m]? = some w → (∀ d, w ≠ .ob d) → i ≠ m ∧ ρ[m]? = some w := fun m w hm hw => by
    rcases set_some hm with ⟨_, e, _⟩ | q
    · exact absurd e.symm (hw O)
    · exact q
  refine ⟨r.base, by rw [List.length_set, List.length_set, r.len], fun j e hj => ?_, fun j ds hj => ?_, fun j k ds es p hne h1 h2 h3 => ?_, fun j O2 hj => ?_, fun j k O2 U q hne h1 h2 h3 => ?_⟩
  · obtain ⟨hij, hj⟩ := key j _ hj (fun _ z => by cases z)
    obtain ⟨v', h1, h2⟩ := r.im j e hj
    exact ⟨v', by rw [List.getElem?_set_ne hij]; exact h1, h2⟩
  · obtain ⟨hij, hj⟩ := key j _ hj (fun _ z => by cases z)
    obtain ⟨p, xs, h1, h2⟩ := r.ow j ds hj
    exact ⟨p, xs, by rw [List.getElem?_set_ne hij]; exact h1, h2⟩
  · obtain ⟨a1, a2⟩ := key j _ h1 (fun _ z => by cases z)
    obtain ⟨b1, b2⟩ := key k _ h2 (fun _ z => by cases z)
    rw [List.getElem?_set_ne a1] at h3
    rw [List.getElem?_set_ne b1]
    exact r.df j k ds es p hne a2 b2 h3
  · rcases set_some hj with ⟨rfl, e, hl⟩ | ⟨hij, hj⟩
    · cases e
      exact ⟨p, by rw [List.getElem?_set_self (by rw [r.len]; exact hl)], hp, h⟩
    · obtain ⟨q, h1, h2⟩ := r.ob j O2 hj
      exact ⟨q, by rw [List.getElem?_set_ne hij]; exact h1, h2⟩
  · rcases set_some h1 with ⟨rfl, e, hl⟩ | ⟨n1, h1⟩
    · rcases set_some h2 with ⟨e2, _, _⟩ | ⟨n2, h2⟩
      · exact absurd e2 hne
      · rw [List.getElem?_set_ne n2]
        rw [List.getElem?_set_self (by rw [r.len]; exact hl)] at h3
        cases h3
        exact hnew k U h2
    · rw [List.getElem?_set_ne n1] at h3
      rcases set_some h2 with ⟨rfl, e, hl⟩ | ⟨n2, h2⟩
      · rw [List.getElem?_set_self (by rw [r.len]; exact hl)]
        intro z
        cases z
        exact hnew j O2 h1 h3
      · rw [List.getElem?_set_ne n2]
        exact r.dd j k O2 U q hne h1 h2 h3
/-- an address that is new is no slot's -/
theorem RS.fresh (r : RS K C H0 H σ ρ) {p : Addr} (hp : H p = none) : ∀ (j : Nat) (U : OwnO), ρ[j]? = some (.ob U) → σ[j]? ≠ some (some (V.ref p)) := fun j U hj z => by
  obtain ⟨q, h1, _, h3⟩ := r.ob j U hj
  rw [z] at h1
  cases h1
  obtain ⟨o, ho, _⟩ := U.one h3
  rw [hp] at ho
  cases ho
/-- an own list changes -/
theorem RS.mut {i : Nat} {p : Addr} {xs ys : List V} {ds es : List D} (r : RS K C H0 H σ ρ) (hi : ρ[i]? = some (.ow ds)) (hs : σ[i]? = some (some (.ref p))) (hp : H p = some (.lst xs)) (hy : Reps K C H0 H ys es) :
    RS K C H0 (upd H p (.lst ys)) σ (ρ.set i (.ow es)) := by
  have im : Im H (upd H p (.lst ys)) := Im.upd hp rfl
  have hl : i < ρ.length := (List.getElem?_eq_some_iff.mp hi).1
  have h0 : H0 p = none := by
    obtain ⟨q, zs, h1, h2, _⟩ := r.ow i ds hi
    rw [hs] at h1
    cases h1
    exact h2
  refine ⟨Ex.mut r.base h0, by rw [List.length_set, r.len], fun j d hj => ?_, fun j fs hj => ?_, fun j k fs gs q hne h1 h2 h3 => ?_, fun j O hj => ?_, fun j k O U q hne h1 h2 => ?_⟩
  · rcases set_some hj with ⟨rfl, e, _⟩ | ⟨hij, hj⟩
    · cases e
    · obtain ⟨v', h1, h2⟩ := r.im j d hj
      exact ⟨v', h1, Rep.im im d v' h2⟩
  · rcases set_some hj with ⟨rfl, e, _⟩ | ⟨hij, hj⟩
    · cases e
      exact ⟨p, ys, hs, h0, upd_same, Reps.im im _ _ hy⟩
    · obtain ⟨q, zs, h1, h2, h3, h4⟩ := r.ow j fs hj
      have hqp : q ≠ p := fun z => by
        subst z
        exact r.df i j ds fs q hij hi hj hs h1
      exact ⟨q, zs, h1, h2, by rw [upd_ne hqp]; exact h3, Reps.im im _ _ h4⟩
  · have key : ∀ (m : Nat) (gs : List D), (ρ.set i (.ow es))[m]? = some (Sl.ow gs) → ∃ gs' : List D, ρ[m]? = some (Sl.ow gs') := fun m gs hm => by
      rcases set_some hm with ⟨rfl, e, _⟩ | ⟨_, hm⟩
      · exact ⟨_, hi⟩
      · exact ⟨_, hm⟩
    obtain ⟨_, a⟩ := key j fs h1
    obtain ⟨_, b⟩ := key k gs h2
    exact r.df j k _ _ q hne a b h3
  · rcases set_some hj with ⟨rfl, e, _⟩ | ⟨hij, hj⟩
    · cases e
    · obtain ⟨q, h1, h2, h3⟩ := r.ob j O hj
      obtain ⟨o, ho, hio, hno⟩ := O.one h3
      have hqp : q ≠ p := fun z => by
        subst z
        rw [hp] at ho
        exact hno xs (Option.some.inj ho).symm
      exact ⟨q, h1, h2, O.keep h3 (Ex.refl H0) im (by rw [upd_ne hqp])⟩
  · rcases set_some h1 with ⟨_, e, _⟩ | ⟨n1, h1⟩
    · cases e
    · rcases set_some h2 with ⟨_, e, _⟩ | ⟨n2, h2⟩
      · cases e
      · exact r.dd j k O U q hne h1 h2
/-- the one own thing changes -/
theorem RS.mutB {i : Nat} {p : Addr} {O O' : OwnO} (r : RS K C H0 H σ ρ) (hi : ρ[i]? = some (.ob O)) (hs : σ[i]? = some (some (.ref p))) (ex : ∀ b o, b ≠ p → H b = some o → H' b = some o) (hO : O'.ok H0 H' p) :
    RS K C H0 H' σ (ρ.set i (.ob O')) := by
  have hl : i < ρ.length := (List.getElem?_eq_some_iff.mp hi).1
  obtain ⟨q, hs', h0, hok⟩ := r.ob i O hi
  rw [hs] at hs'
  cases hs'
  obtain ⟨o, ho, hio, hno⟩ := O.one hok
  have im : Im H H' := fun a v ha hv => by
    by_cases e : a = p
    · subst e
      rw [ho] at ha
      cases ha
      rw [hio] at hv
      cases hv
    · exact ex a v e ha
  refine ⟨fun a v ha => ?_, by rw [List.length_set, r.len], fun j d hj => ?_, fun j fs hj => ?_, fun j k fs gs q hne h1 h2 h3 => ?_, fun j U hj => ?_, fun j k U W q hne h1 h2 h3 => ?_⟩
  · exact ex a v (ne_of_none ha h0) (r.base a v ha)
  · rcases set_some hj with ⟨rfl, e, _⟩ | ⟨hij, hj⟩
    · cases e
    · obtain ⟨v', h1, h2⟩ := r.im j d hj
      exact ⟨v', h1, Rep.im im d v' h2⟩
  · rcases set_some hj with ⟨rfl, e, _⟩ | ⟨hij, hj⟩
    · cases e
    · obtain ⟨q, zs, h1, h2, h3, h4⟩ := r.ow j fs hj
      have hqp : q ≠ p := fun z => by
        subst z
        rw [ho] at h3
        exact hno zs (Option.some.inj h3)
      exact ⟨q, zs, h1, h2, ex q _ hqp h3, Reps.im im _ _ h4⟩
  · have key : ∀ (m : Nat) (gs : List D), (ρ.set i (.ob O'))[m]? = some (Sl.ow gs) → ρ[m]? = some (Sl.ow gs) := fun m gs hm => by
      rcases set_some hm with ⟨rfl, e, _⟩ | ⟨_, hm⟩
      · cases e
      · exact hm
    exact r.df j k _ _ q hne (key j fs h1) (key k gs h2) h3
  · rcases set_some hj with ⟨rfl, e, _⟩ | ⟨hij, hj⟩
    · cases e
      exact ⟨p, hs, h0, hO⟩
    · obtain ⟨q, h1, h2, h3⟩ := r.ob j U hj
      have hqp : q ≠ p := fun z => by
        subst z
        exact r.dd i j O U q hij hi hj hs h1
      obtain ⟨o', ho', _⟩ := U.one h3
      exact ⟨q, h1, h2, U.keep h3 (Ex.refl H0) im (by rw [ex q o' hqp ho', ho'])⟩
  · have key : ∀ (m : Nat) (V : OwnO), (ρ.set i (.ob O'))[m]? = some (Sl.ob V) → ∃ V', ρ[m]? = some (Sl.ob V') := fun m V hm => by
      rcases set_some hm with ⟨rfl, e, _⟩ | ⟨_, hm⟩
      · exact ⟨_, hi⟩
      · exact ⟨_, hm⟩
    obtain ⟨_, a⟩ := key j U h1
    obtain ⟨_, b⟩ := key k W h2
    exact r.dd j k _ _ q hne a b h3
/-- the base takes an own list in -/
theorem RS.freeze {k : Nat} {p : Addr} {xs : List V} {ds : List D} (rs : RS K C H0 H σ ρ) (hi : ρ[k]? = some (.ow ds)) (hs : σ[k]? = some (some (.ref p))) (hp : H p = some (.lst xs)) (hx : Reps K C H0 H xs ds) :
    Ex H0 (upd H0 p (.lst xs)) ∧ RS K C (upd H0 p (.lst xs)) H σ (ρ.set k (.im (.lst ds))) := by
  have h0 : H0 p = none := by
    obtain ⟨q, zs, h1, h2, _⟩ := rs.ow k ds hi
    rw [hs] at h1
    cases h1
    exact h2
  have e2 : Ex H0 (upd H0 p (.lst xs)) := Ex.new h0
  have key : ∀ (m : Nat) (w : Sl), (ρ.set k (.im (.lst ds)))[m]? = some w → (∀ d, w ≠ .im d) → k ≠ m ∧ ρ[m]? = some w := fun m w hm hw => by
    rcases set_some hm with ⟨_, e, _⟩ | q
    · exact absurd e.symm (hw _)
    · exact q
  refine ⟨e2, fun a o ha => ?_, by rw [List.length_set]; exact rs.len, fun j d hj => ?_, fun j es hj => ?_, fun j j2 es fs p' hne h1 h2 => rs.df j j2 es fs p' hne (key j _ h1 (fun _ z => by cases z)).2 (key j2 _ h2 (fun _ z => by cases z)).2, fun j O hj => ?_, fun j j2 O U p' hne h1 h2 => rs.dd j j2 O U p' hne (key j _ h1 (fun _ z => by cases z)).2 (key j2 _ h2 (fun _ z => by cases z)).2⟩
  · by_cases hap : a = p
    · subst hap
      rw [upd_same] at ha
      cases ha
      exact hp
    · rw [upd_ne hap] at ha
      exact rs.base a o ha
  · rcases set_some hj with ⟨rfl, e, _⟩ | ⟨hij, hj⟩
    · cases e
      exact ⟨_, hs, .lst (SqL.of upd_same) (Reps.gr e2 _ _ hx)⟩
    · obtain ⟨v', h1, h2⟩ := rs.im j d hj
      exact ⟨v', h1, Rep.gr e2 d v' h2⟩
  · obtain ⟨hkj, hj⟩ := key j _ hj (fun _ z => by cases z)
    obtain ⟨p', ys, h1, h2, h3, h4⟩ := rs.ow j es hj
    have hne : p' ≠ p := fun z => by
      subst z
      exact rs.df k j ds es p' hkj hi hj hs h1
    exact ⟨p', ys, h1, by rw [upd_ne hne]; exact h2, h3, Reps.gr e2 _ _ h4⟩
  · obtain ⟨hkj, hj⟩ := key j _ hj (fun _ z => by cases z)
    obtain ⟨q, h1, h2, h3⟩ := rs.ob j O hj
    obtain ⟨o, ho, _, hno⟩ := O.one h3
    have hne : q ≠ p := fun z => by
      subst z
      rw [hp] at ho
      exact hno xs (Option.some.inj ho).symm
    exact ⟨q, h1, by rw [upd_ne hne]; exact h2, O.keep h3 e2 (Im.refl H) rfl⟩
/-- the base takes a new list in -/
theorem RS.freezeN {p : Addr} {xs : List V} (rs : RS K C H0 H σ ρ) (h0 : H p = none) (e : Ex H H') (hp : H' p = some (.lst xs)) :
    Ex H0 (upd H0 p (.lst xs)) ∧ RS K C (upd H0 p (.lst xs)) H' σ ρ := by
  have e2 : Ex H0 (upd H0 p (.lst xs)) := Ex.new (rs.base.free h0)
  have r1 := rs.ex e
  refine ⟨e2, fun a o ha => ?_, rs.len, fun j d hj => ?_, fun j es hj => ?_, rs.df, fun j O hj => ?_, rs.dd⟩
  · by_cases hap : a = p
    · subst hap
      rw [upd_same] at ha
      cases ha
      exact hp
    · rw [upd_ne hap] at ha
      exact r1.base a o ha
  · obtain ⟨v', h1, h2⟩ := r1.im j d hj
    exact ⟨v', h1, Rep.gr e2 d v' h2⟩
  · obtain ⟨p', ys, h1, h2, h3, h4⟩ := rs.ow j es hj
    have hne : p' ≠ p := ne_of_none h3 h0
    exact ⟨p', ys, h1, by rw [upd_ne hne]; exact h2, e _ _ h3, Reps.gr e2 _ _ (h4.ex e)⟩
  · obtain ⟨q, h1, h2, h3⟩ := rs.ob j O hj
    obtain ⟨o, ho, _, hno⟩ := O.one h3
    have hne : q ≠ p := ne_of_none ho h0
    exact ⟨q, h1, by rw [upd_ne hne]; exact h2, O.keep h3 e2 e.im (ex_same e ho)⟩
end

/-! ### the judgements, as they are -/
def EE (X : Cx) (e : Expr) (σ : L2.St) (H : Hp) (Q : VK) : Prop := ∀ (pins : List (Addr × Obj)) (s : Shared), Inv X pins σ H s → wpAny (model X.prog X.w) X.A (eval e X.env) (EP X pins σ Q) X.xe s
def ET (X : Cx) (e : Expr) (σ : L2.St) (H : Hp) (Q : Bool → Hp → Prop) : Prop := ∀ (pins : List (Addr × Obj)) (s : Shared), Inv X pins σ H s → wpAny (model X.prog X.w) X.A (isTrue e X.env (eval e X.env)) (TP X pins σ Q) X.xe s
def EW (X : Cx) (e : Expr) (σ : L2.St) (H : Hp) (Q : Bool → Hp → Prop) : Prop := ∀ (whole : Sem Value) (pins : List (Addr × Obj)) (s : Shared), Inv X pins σ H s → wpAny (model X.prog X.w) X.A (isTrue e X.env whole) (TP X pins σ Q) X.xe s
def EA (X : Cx) (es : List Expr) (σ : L2.St) (H : Hp) (Q : List V → Hp → Prop) : Prop := ∀ (pos : Pos) (pins : List (Addr × Obj)) (s : Shared), Inv X pins σ H s → wpAny (model X.prog X.w) X.A (spliced (backTo pos (starEach es X.env))) (AP X pins σ Q) X.xe s
def ES (X : Cx) (st : Stmt) (σ : L2.St) (H : Hp) (D : Ends) : Prop := ∀ (pins : List (Addr × Obj)) (s : Shared), Inv X pins σ H s → wpAny (model X.prog X.w) X.A (exec st X.env) (SP X pins D) X.xe s
def ESs (X : Cx) (sts : List Stmt) (σ : L2.St) (H : Hp) (D : Ends) : Prop := ∀ (pins : List (Addr × Obj)) (s : Shared), Inv X pins σ H s → wpAny (model X.prog X.w) X.A (execs sts X.env) (SP X pins D) X.xe s
section
variable {X : Cx}
theorem pe (X : Cx) (e : Expr) : PE X e (EE X e) := ⟨fun pins s σ H Q I h => h pins s I⟩
theorem pt (X : Cx) (e : Expr) : PT X e (ET X e) := ⟨fun pins s σ H Q I h => h pins s I⟩
theorem pw (X : Cx) (e : Expr) : PW X e (EW X e) := ⟨fun wh pins s σ H Q I h => h wh pins s I⟩
theorem pa (X : Cx) (es : List Expr) : PA X es (EA X es) := ⟨fun pos pins s σ H Q I h => h pos pins s I⟩
theorem ps (X : Cx) (st : Stmt) : PS X st (fun D σ H => ES X st σ H D) := ⟨fun pins s σ H D I h => h pins s I⟩
theorem pss (X : Cx) (sts : List Stmt) : PSs X sts (fun D σ H => ESs X sts σ H D) := ⟨fun pins s σ H D I h => h pins s I⟩
theorem ee {e : Expr} {t : TE} (h : PE X e t) {σ : L2.St} {H : Hp} {Q : VK} (q : t σ H Q) : EE X e σ H Q := fun pins s I => h.run pins s σ H Q I q
theorem et {e : Expr} {t : TT} (h : PT X e t) {σ : L2.St} {H : Hp} {Q : Bool → Hp → Prop} (q : t σ H Q) : ET X e σ H Q := fun pins s I => h.run pins s σ H Q I q
theorem ew {e : Expr} {t : TT} (h : PW X e t) {σ : L2.St} {H : Hp} {Q : Bool → Hp → Prop} (q : t σ H Q) : EW X e σ H Q := fun wh pins s I => h.run wh pins s σ H Q I q
theorem ea {es : List Expr} {t : TA} (h : PA X es t) {σ : L2.St} {H : Hp} {Q : List V → Hp → Prop} (q : t σ H Q) : EA X es σ H Q := fun pos pins s I => h.run pos pins s σ H Q I q
theorem es {st : Stmt} {t : TS} (h : PS X st t) {σ : L2.St} {H : Hp} {D : Ends} (q : t D σ H) : ES X st σ H D := fun pins s I => h.run pins s σ H D I q
theorem ess {sts : List Stmt} {t : TS} (h : PSs X sts t) {σ : L2.St} {H : Hp} {D : Ends} (q : t D σ H) : ESs X sts σ H D := fun pins s I => h.run pins s σ H D I q
theorem ess_cons {st : Stmt} {rest : List Stmt} {σ : L2.St} {H : Hp} {D : Ends} (h : ES X st σ H { D with nx := fun σ' H' => ESs X rest σ' H' D }) : ESs X (st :: rest) σ H D :=
  ess (pss_cons (ps X st) (pss X rest)) h
theorem ess_nil {σ : L2.St} {H : Hp} {D : Ends} (h : D.nx σ H) : ESs X [] σ H D := ess pss_nil h
end
end Bf

namespace Bf
open PySem PySem.Spec PyProof.Rows L2

/-! ### the judgements by data -/
def PV (X : Cx) (C : Addr) (e : Expr) (ρ : List Sl) (d : D) : Prop := ∀ (σ : L2.St) (H0 H : Hp), RS X.K C H0 H σ ρ → ∀ Q : VK, (∀ (v : V) (H' : Hp), Ex H H' → Rep X.K C H0 H' v d → Q v H') → EE X e σ H Q
def PVs (X : Cx) (C : Addr) (es : List Expr) (ρ : List Sl) (ds : List D) : Prop := ∀ (σ : L2.St) (H0 H : Hp), RS X.K C H0 H σ ρ → ∀ Q : List V → Hp → Prop, (∀ (vs : List V) (H' : Hp), Ex H H' → Reps X.K C H0 H' vs ds → Q vs H') → EA X es σ H Q
/-- a test -/
def PTt (X : Cx) (C : Addr) (e : Expr) (ρ : List Sl) (b : Bool) : Prop := ∀ (σ : L2.St) (H0 H : Hp), RS X.K C H0 H σ ρ → ∀ Q : Bool → Hp → Prop, (∀ (H' : Hp), Ex H H' → Q b H') → ET X e σ H Q
def PWt (X : Cx) (C : Addr) (e : Expr) (ρ : List Sl) (b : Bool) : Prop := ∀ (σ : L2.St) (H0 H : Hp), RS X.K C H0 H σ ρ → ∀ Q : Bool → Hp → Prop, (∀ (H' : Hp), Ex H H' → Q b H') → EW X e σ H Q
/-- a new list; a list of one's own (a slot's, or new); a list that is read -/
def PL (X : Cx) (C : Addr) (e : Expr) (ρ : List Sl) (ds : List D) : Prop := ∀ (σ : L2.St) (H0 H : Hp), RS X.K C H0 H σ ρ → ∀ Q : VK, (∀ (p : Addr) (xs : List V) (H' : Hp), H p = none → Ex H H' → H' p = some (.lst xs) → Reps X.K C H0 H' xs ds → Q (.ref p) H') → EE X e σ H Q
def PO (X : Cx) (C : Addr) (e : Expr) (ρ : List Sl) (ds : List D) : Prop := ∀ (σ : L2.St) (H0 H : Hp), RS X.K C H0 H σ ρ → ∀ Q : VK, (∀ (p : Addr) (xs : List V) (H' : Hp), H0 p = none → Ex H H' → H' p = some (.lst xs) → Reps X.K C H0 H' xs ds → Q (.ref p) H') → EE X e σ H Q
def PR (X : Cx) (C : Addr) (e : Expr) (ρ : List Sl) (ds : List D) : Prop := ∀ (σ : L2.St) (H0 H : Hp), RS X.K C H0 H σ ρ → ∀ Q : VK, (∀ (p : Addr) (xs : List V) (H' : Hp), Ex H H' → SqL X.K H' p xs → Reps X.K C H0 H' xs ds → Q (.ref p) H') → EE X e σ H Q
/-- what a def hands back: data, or a list of its own -/
inductive Wv where
  | im (d : D)
  | ow (ds : List D)
def RepW (K : PySem.W.Frag) (C : Addr) (B H : Hp) (v : V) : Wv → Prop
  | .im d => Rep K C B H v d
  | .ow ds => ∃ p xs, v = .ref p ∧ B p = none ∧ H p = some (.lst xs) ∧ Reps K C B H xs ds
section
variable {X : Cx} {C : Addr} {ρ ρ' : List Sl} {e a b c : Expr} {es : List Expr} {d da db : D} {ds : List D} {pos : Pos} {x y : Bool} {i j : Int} {rest : List Expr}

theorem ex_cut {H0 H H' : Hp} {σ : L2.St} (r : RS X.K C H0 H σ ρ) (e : Ex H H') : RS X.K C H0 H' σ ρ := r.ex e

/-! ### names, constants -/
theorem pv_var (i : Nat) {x : Str} (hd : ρ[i]? = some (Sl.im d) := by rfl) (hN : X.N[i]? = some x := by rfl) (hv : Vis X.env.scope x := by first | exact Or.inl rfl | exact Or.inr (Or.inl rfl) | exact Or.inr (Or.inr rfl))
    (h1 : (x == ("__debug__" : Str)) = false := by decide) (h2 : (x == ("__classdict__" : Str)) = false := by decide) : PV X C (.Name x pos) ρ d := fun σ H0 H r Q q => by
  obtain ⟨v, hs, hr⟩ := r.im i d hd
  exact ee (pe_var hN hv h1 h2) ⟨v, hs, q v H (Ex.refl H) hr⟩
theorem po_var (i : Nat) {x : Str} (hd : ρ[i]? = some (Sl.ow ds) := by rfl) (hN : X.N[i]? = some x := by rfl) (hv : Vis X.env.scope x := by first | exact Or.inl rfl | exact Or.inr (Or.inl rfl) | exact Or.inr (Or.inr rfl))
    (h1 : (x == ("__debug__" : Str)) = false := by decide) (h2 : (x == ("__classdict__" : Str)) = false := by decide) : PO X C (.Name x pos) ρ ds := fun σ H0 H r Q q => by
  obtain ⟨p, xs, hs, h0, hp, hr⟩ := r.ow i ds hd
  exact ee (pe_var hN hv h1 h2) ⟨.ref p, hs, q p xs H h0 (Ex.refl H) hp hr⟩
theorem PL.po (h : PL X C e ρ ds) : PO X C e ρ ds := fun σ H0 H r Q q => h σ H0 H r Q fun p xs H' hp e1 hx hr => q p xs H' (r.base.free hp) e1 hx hr
theorem PO.pr (h : PO X C e ρ ds) : PR X C e ρ ds := fun σ H0 H r Q q => h σ H0 H r Q fun p xs H' _ e1 hx hr => q p xs H' e1 (SqL.of hx) hr
theorem PL.pr (h : PL X C e ρ ds) : PR X C e ρ ds := h.po.pr
theorem pr_var (i : Nat) {x : Str} (hd : ρ[i]? = some (Sl.ow ds) := by rfl) (hN : X.N[i]? = some x := by rfl) (hv : Vis X.env.scope x := by first | exact Or.inl rfl | exact Or.inr (Or.inl rfl) | exact Or.inr (Or.inr rfl))
    (h1 : (x == ("__debug__" : Str)) = false := by decide) (h2 : (x == ("__classdict__" : Str)) = false := by decide) : PR X C (.Name x pos) ρ ds := (po_var i hd hN hv h1 h2).pr
theorem pv_int {k} : PV X C (.Constant (.int i) k pos) ρ (.int i) := fun σ H0 H r Q q => ee pe_int (q _ H (Ex.refl H) (.int i))
theorem pv_bl {k} : PV X C (.Constant (.bool x) k pos) ρ (.bl x) := fun σ H0 H r Q q => ee pe_bl (q _ H (Ex.refl H) (.bl x))
theorem pv_non {k} : PV X C (.Constant .none k pos) ρ .non := fun σ H0 H r Q q => ee pe_non (q _ H (Ex.refl H) .non)
theorem pv_str {z : Str} {k} : PV X C (.Constant (.str z) k pos) ρ (.str z) := fun σ H0 H r Q q => ee pe_str (q _ H (Ex.refl H) (.str z))
theorem pv_globI {z : Str} {t : Tok} (hm : X.mg z = some (.int i t)) (hg : Gl X z := by rfl) (hd : (z == ("__debug__" : Str)) = false := by decide) : PV X C (.Name z pos) ρ (.int i) := fun σ H0 H r Q q => ee (pe_glob (v := .int i) hg hm ⟨t, rfl⟩ hd) (q _ H (Ex.refl H) (.int i))
theorem pv_globS {z y : Str} {t : Tok} (hm : X.mg z = some (.str y t)) (hg : Gl X z := by rfl) (hd : (z == ("__debug__" : Str)) = false := by decide) : PV X C (.Name z pos) ρ (.str y) := fun σ H0 H r Q q => ee (pe_glob (v := .str y) hg hm ⟨t, rfl⟩ hd) (q _ H (Ex.refl H) (.str y))
/-- a tuple of the module that is written out -/
theorem pv_globT {z : Str} {t : Addr} (hm : X.mg z = some (.ref t)) (ht : ∀ B H, Rep X.K C B H (.ref t) d) (hg : Gl X z := by rfl) (hd : (z == ("__debug__" : Str)) = false := by decide) : PV X C (.Name z pos) ρ d := fun σ H0 H r Q q => ee (pe_glob (v := .ref t) hg hm rfl hd) (q _ H (Ex.refl H) (ht H0 H))
theorem PV.is (h : PV X C e ρ da) (e1 : da = d) : PV X C e ρ d := e1 ▸ h
theorem PTt.is (h : PTt X C e ρ x) (e1 : x = y) : PTt X C e ρ y := e1 ▸ h
theorem PL.is {es : List D} (h : PL X C e ρ ds) (e1 : ds = es) : PL X C e ρ es := e1 ▸ h

/-! ### operators -/
theorem pv_op {op : Operator} {r : R2} (ho : OpR X (binaryOp op) r) (ha : PV X C a ρ da) (hb : PV X C b ρ db)
    (hr : ∀ {B : Hp} (v u : V) (H : Hp) (Q : VK), Rep X.K C B H v da → Rep X.K C B H u db → (∀ (z : V) (H' : Hp), Ex H H' → Rep X.K C B H' z d → Q z H') → r v u H Q) : PV X C (.BinOp a op b pos) ρ d := fun σ H0 H rs Q q =>
  ee (pe_op ho (pe X a) (pe X b)) (ha σ H0 H rs _ fun v H1 e1 r1 => hb σ H0 H1 (rs.ex e1) _ fun u H2 e2 r2 => hr v u H2 Q (r1.ex e2) r2 fun z H3 e3 r3 => q z H3 ((e1.trans e2).trans e3) r3)
theorem pv_opI {op : Operator} {g : Int → Int → Int} (ho : OpR X (binaryOp op) (rI0 fun i j => .int (g i j))) (ha : PV X C a ρ (.int i)) (hb : PV X C b ρ (.int j)) : PV X C (.BinOp a op b pos) ρ (.int (g i j)) :=
  pv_op ho ha hb fun v u H Q r1 r2 q => ⟨i, j, r1.int_inv, r2.int_inv, q _ H (Ex.refl H) (.int _)⟩
theorem pv_opC {op : Operator} {c : Int → Int → Prop} {g : Int → Int → Int} (ho : OpR X (binaryOp op) (rI c fun i j => .int (g i j))) (hc : c i j) (ha : PV X C a ρ (.int i)) (hb : PV X C b ρ (.int j)) : PV X C (.BinOp a op b pos) ρ (.int (g i j)) :=
  pv_op ho ha hb fun v u H Q r1 r2 q => ⟨i, j, r1.int_inv, r2.int_inv, hc, q _ H (Ex.refl H) (.int _)⟩
theorem pv_add (ha : PV X C a ρ (.int i)) (hb : PV X C b ρ (.int j)) : PV X C (.BinOp a .Add b pos) ρ (.int (i + j)) := pv_opI op_add ha hb
theorem pv_sub (ha : PV X C a ρ (.int i)) (hb : PV X C b ρ (.int j)) : PV X C (.BinOp a .Sub b pos) ρ (.int (i - j)) := pv_opI op_sub ha hb
theorem pv_mul (ha : PV X C a ρ (.int i)) (hb : PV X C b ρ (.int j)) (hc : CMul i j) : PV X C (.BinOp a .Mult b pos) ρ (.int (i * j)) := pv_opC op_mul hc ha hb
theorem pv_mod (ha : PV X C a ρ (.int i)) (hb : PV X C b ρ (.int j)) (hc : 0 < j) : PV X C (.BinOp a .Mod b pos) ρ (.int (i % j)) := pv_opC op_mod hc ha hb
theorem pv_fdiv (ha : PV X C a ρ (.int i)) (hb : PV X C b ρ (.int j)) (hc : CDiv i j) : PV X C (.BinOp a .FloorDiv b pos) ρ (.int (i / j)) := pv_opC op_fdiv hc ha hb
theorem pv_neg (ha : PV X C a ρ (.int i)) : PV X C (.UnaryOp .USub a pos) ρ (.int (-i)) := fun σ H0 H rs Q q =>
  ee (pe_un un_neg (pe X a)) (ha σ H0 H rs _ fun v H1 e1 r1 => ⟨i, r1.int_inv, q _ H1 e1 (.int _)⟩)

/-! ### comparisons, tests -/
theorem pt_cmp2 {op : CmpOp} {r : R2} (ho : OpR X (compareOp op) r) (hm : behindInMarks op b = false) (ha : PV X C a ρ da) (hb : PV X C b ρ db)
    (hr : ∀ {B : Hp} (v u : V) (H : Hp) (Q : VK), Rep X.K C B H v da → Rep X.K C B H u db → (∀ (H' : Hp), Ex H H' → Q (.bl x) H') → r v u H Q) : PTt X C (.Compare a [op] [b] pos) ρ x := fun σ H0 H rs Q q =>
  et (pt_cmpR ho (pe X a) (pe X b) hm) (ha σ H0 H rs _ fun v H1 e1 r1 => hb σ H0 H1 (rs.ex e1) _ fun u H2 e2 r2 => hr v u H2 _ (r1.ex e2) r2 fun H3 e3 => ⟨x, rfl, q H3 ((e1.trans e2).trans e3)⟩)
theorem pv_cmp2 {op : CmpOp} {r : R2} (ho : OpR X (compareOp op) r) (hm : behindInMarks op b = false) (ha : PV X C a ρ da) (hb : PV X C b ρ db)
    (hr : ∀ {B : Hp} (v u : V) (H : Hp) (Q : VK), Rep X.K C B H v da → Rep X.K C B H u db → (∀ (H' : Hp), Ex H H' → Q (.bl x) H') → r v u H Q) : PV X C (.Compare a [op] [b] pos) ρ (.bl x) := fun σ H0 H rs Q q =>
  ee (pe_cmpR ho (pe X a) (pe X b) hm) (ha σ H0 H rs _ fun v H1 e1 r1 => hb σ H0 H1 (rs.ex e1) _ fun u H2 e2 r2 => hr v u H2 _ (r1.ex e2) r2 fun H3 e3 => q _ H3 ((e1.trans e2).trans e3) (.bl x))
section
variable {g : Int → Int → Bool} {op : CmpOp}
theorem pt_cI (ho : OpR X (compareOp op) (rI0 fun i j => .bl (g i j))) (hm : behindInMarks op b = false) (ha : PV X C a ρ (.int i)) (hb : PV X C b ρ (.int j)) : PTt X C (.Compare a [op] [b] pos) ρ (g i j) :=
  pt_cmp2 ho hm ha hb fun v u H Q r1 r2 q => ⟨i, j, r1.int_inv, r2.int_inv, q H (Ex.refl H)⟩
theorem pv_cI (ho : OpR X (compareOp op) (rI0 fun i j => .bl (g i j))) (hm : behindInMarks op b = false) (ha : PV X C a ρ (.int i)) (hb : PV X C b ρ (.int j)) : PV X C (.Compare a [op] [b] pos) ρ (.bl (g i j)) :=
  pv_cmp2 ho hm ha hb fun v u H Q r1 r2 q => ⟨i, j, r1.int_inv, r2.int_inv, q H (Ex.refl H)⟩
end
theorem pt_lt (ha : PV X C a ρ (.int i)) (hb : PV X C b ρ (.int j)) : PTt X C (.Compare a [.Lt] [b] pos) ρ (decide (i < j)) := pt_cI op_lt (nomark _) ha hb
theorem pt_le (ha : PV X C a ρ (.int i)) (hb : PV X C b ρ (.int j)) : PTt X C (.Compare a [.LtE] [b] pos) ρ (decide (i ≤ j)) := pt_cI op_le (nomark _) ha hb
theorem pt_gt (ha : PV X C a ρ (.int i)) (hb : PV X C b ρ (.int j)) : PTt X C (.Compare a [.Gt] [b] pos) ρ (decide (j < i)) := pt_cI op_gt (nomark _) ha hb
theorem pt_ge (ha : PV X C a ρ (.int i)) (hb : PV X C b ρ (.int j)) : PTt X C (.Compare a [.GtE] [b] pos) ρ (decide (j ≤ i)) := pt_cI op_ge (nomark _) ha hb
theorem pv_lt (ha : PV X C a ρ (.int i)) (hb : PV X C b ρ (.int j)) : PV X C (.Compare a [.Lt] [b] pos) ρ (.bl (decide (i < j))) := pv_cI op_lt (nomark _) ha hb
theorem pv_le (ha : PV X C a ρ (.int i)) (hb : PV X C b ρ (.int j)) : PV X C (.Compare a [.LtE] [b] pos) ρ (.bl (decide (i ≤ j))) := pv_cI op_le (nomark _) ha hb
theorem pv_gt (ha : PV X C a ρ (.int i)) (hb : PV X C b ρ (.int j)) : PV X C (.Compare a [.Gt] [b] pos) ρ (.bl (decide (j < i))) := pv_cI op_gt (nomark _) ha hb
theorem pv_ge (ha : PV X C a ρ (.int i)) (hb : PV X C b ρ (.int j)) : PV X C (.Compare a [.GtE] [b] pos) ρ (.bl (decide (j ≤ i))) := pv_cI op_ge (nomark _) ha hb
/-- == and != of ints, of texts -/
theorem pt_eqI (ha : PV X C a ρ (.int i)) (hb : PV X C b ρ (.int j)) : PTt X C (.Compare a [.Eq] [b] pos) ρ (decide (i = j)) :=
  pt_cmp2 op_eq (nomark _) ha hb fun v u H Q r1 r2 q => by
    rw [r1.int_inv, r2.int_inv]
    exact ⟨rfl, by rw [show decide (V.int i = V.int j) = decide (i = j) by rw [dec_int, Bool.beq_eq_decide_eq]]; exact q H (Ex.refl H)⟩
theorem pv_eqI (ha : PV X C a ρ (.int i)) (hb : PV X C b ρ (.int j)) : PV X C (.Compare a [.Eq] [b] pos) ρ (.bl (decide (i = j))) :=
  pv_cmp2 op_eq (nomark _) ha hb fun v u H Q r1 r2 q => by
    rw [r1.int_inv, r2.int_inv]
    exact ⟨rfl, by rw [show decide (V.int i = V.int j) = decide (i = j) by rw [dec_int, Bool.beq_eq_decide_eq]]; exact q H (Ex.refl H)⟩
theorem pt_neI (ha : PV X C a ρ (.int i)) (hb : PV X C b ρ (.int j)) : PTt X C (.Compare a [.NotEq] [b] pos) ρ (!decide (i = j)) :=
  pt_cmp2 op_ne (nomark _) ha hb fun v u H Q r1 r2 q => by
    rw [r1.int_inv, r2.int_inv]
    exact ⟨rfl, by rw [show decide (V.int i = V.int j) = decide (i = j) by rw [dec_int, Bool.beq_eq_decide_eq]]; exact q H (Ex.refl H)⟩
section
variable {s1 s2 : Str}
theorem dec_strV : decide (V.str s1 = V.str s2) = decide (s1 = s2) := by
  by_cases h : s1 = s2
  · rw [h]; simp
  · have : ¬ V.str s1 = V.str s2 := fun z => h (by cases z; rfl)
    rw [decide_eq_false h, decide_eq_false this]
theorem pt_eqS (ha : PV X C a ρ (.str s1)) (hb : PV X C b ρ (.str s2)) : PTt X C (.Compare a [.Eq] [b] pos) ρ (decide (s1 = s2)) :=
  pt_cmp2 op_eq (nomark _) ha hb fun v u H Q r1 r2 q => by
    rw [r1.str_inv, r2.str_inv]
    exact ⟨rfl, by rw [dec_strV]; exact q H (Ex.refl H)⟩
theorem pt_neS (ha : PV X C a ρ (.str s1)) (hb : PV X C b ρ (.str s2)) : PTt X C (.Compare a [.NotEq] [b] pos) ρ (!decide (s1 = s2)) :=
  pt_cmp2 op_ne (nomark _) ha hb fun v u H Q r1 r2 q => by
    rw [r1.str_inv, r2.str_inv]
    exact ⟨rfl, by rw [dec_strV]; exact q H (Ex.refl H)⟩
theorem pv_eqS (ha : PV X C a ρ (.str s1)) (hb : PV X C b ρ (.str s2)) : PV X C (.Compare a [.Eq] [b] pos) ρ (.bl (decide (s1 = s2))) :=
  pv_cmp2 op_eq (nomark _) ha hb fun v u H Q r1 r2 q => by
    rw [r1.str_inv, r2.str_inv]
    exact ⟨rfl, by rw [dec_strV]; exact q H (Ex.refl H)⟩
end
/-- is None -/
def D.isN : D → Bool
  | .non => true
  | _ => false
theorem rep_non {K : PySem.W.Frag} {B H : Hp} {v : V} (h : Rep K C B H v d) : decide (v = .non) = d.isN := by cases h <;> rfl
theorem pt_isN {k} {pos' : Pos} (ha : PV X C a ρ d) : PTt X C (.Compare a [.Is] [.Constant .none k pos'] pos) ρ d.isN :=
  pt_cmp2 (db := .non) op_isN (nomark _) ha pv_non fun v u H Q r1 r2 q => ⟨r2.non_inv, by rw [rep_non r1]; exact q H (Ex.refl H)⟩
theorem pt_notN {k} {pos' : Pos} (ha : PV X C a ρ d) : PTt X C (.Compare a [.IsNot] [.Constant .none k pos'] pos) ρ (!d.isN) :=
  pt_cmp2 (db := .non) op_notN (nomark _) ha pv_non fun v u H Q r1 r2 q => ⟨r2.non_inv, by rw [rep_non r1]; exact q H (Ex.refl H)⟩
/-- a < b < c -/
theorem pv_chain {op op' : CmpOp} {g g' : Int → Int → Bool} {k : Int} (ho : OpR X (compareOp op) (rI0 fun i j => .bl (g i j))) (ho' : OpR X (compareOp op') (rI0 fun i j => .bl (g' i j))) (ha : PV X C a ρ (.int i)) (hb : PV X C b ρ (.int j)) (hc : PV X C c ρ (.int k))
    (hm : lastMarks [op, op'] [b, c] = false) : PV X C (.Compare a [op, op'] [b, c] pos) ρ (.bl (g i j && g' j k)) := fun σ H0 H rs Q q =>
  ee (pe_chain ho ho' (pe X a) (pe X b) (pe X c) hm) (ha σ H0 H rs _ fun v H1 e1 r1 => hb σ H0 H1 (rs.ex e1) _ fun u H2 e2 r2 => ⟨i, j, r1.int_inv, r2.int_inv, g i j, rfl, by
    cases hg : g i j with
    | true =>
      refine iteT ?_
      exact hc σ H0 H2 (rs.ex (e1.trans e2)) _ fun z H3 e3 r3 => ⟨j, k, r2.int_inv, r3.int_inv, q _ H3 ((e1.trans e2).trans e3) (by rw [hg, Bool.true_and]; exact .bl _)⟩
    | false =>
      refine iteF ?_
      exact q _ H2 (e1.trans e2) (by rw [hg, Bool.false_and]; exact .bl _)⟩)
theorem pt_chain' {op op' : CmpOp} {g g' : Int → Int → Bool} {k : Int} (ho : OpR X (compareOp op) (rI0 fun i j => .bl (g i j))) (ho' : OpR X (compareOp op') (rI0 fun i j => .bl (g' i j))) (ha : PV X C a ρ (.int i)) (hb : PV X C b ρ (.int j)) (hc : PV X C c ρ (.int k))
    (hm : lastMarks [op, op'] [b, c] = false) : PTt X C (.Compare a [op, op'] [b, c] pos) ρ (g i j && g' j k) := fun σ H0 H rs Q q =>
  et (pt_chain ho ho' (pe X a) (pe X b) (pe X c) hm) (ha σ H0 H rs _ fun v H1 e1 r1 => hb σ H0 H1 (rs.ex e1) _ fun u H2 e2 r2 => ⟨i, j, r1.int_inv, r2.int_inv, g i j, rfl, by
    cases hg : g i j with
    | true =>
      refine iteT ?_
      exact hc σ H0 H2 (rs.ex (e1.trans e2)) _ fun z H3 e3 r3 => ⟨j, k, r2.int_inv, r3.int_inv, ⟨_, rfl, by have z := q H3 ((e1.trans e2).trans e3); rw [hg, Bool.true_and] at z; exact z⟩⟩
    | false =>
      refine iteF ?_
      exact ⟨_, rfl, by have z := q H2 (e1.trans e2); rw [hg, Bool.false_and] at z; exact z⟩⟩)
/-- a value as a test -/
theorem pt_pv (h : PV X C e ρ (.bl x)) (he : ∀ whole, isTrue e X.env whole = (do let v ← whole; standAt e.pos; holding [v] (truthy v)) := by intro _; rfl) : PTt X C e ρ x := fun σ H0 H rs Q q =>
  et (pt_val (pe X e) he) (h σ H0 H rs _ fun v H1 e1 r1 => ⟨x, r1.bl_inv, q H1 e1⟩)
theorem PWt.pt (h : PWt X C e ρ x) : PTt X C e ρ x := fun σ H0 H rs Q q pins s I => h σ H0 H rs Q q _ pins s I
theorem pw_a1 {p : Pos} (h : PTt X C a ρ x) : PWt X C (.BoolOp .And [a] p) ρ x := fun σ H0 H rs Q q => ew (pw_and1 (pt X a)) (h σ H0 H rs Q q)
theorem pw_o1 {p : Pos} (h : PTt X C a ρ x) : PWt X C (.BoolOp .Or [a] p) ρ x := fun σ H0 H rs Q q => ew (pw_or1 (pt X a)) (h σ H0 H rs Q q)
theorem pw_a {p : Pos} (h : PTt X C a ρ x) (k : x = true → PWt X C (.BoolOp .And (b :: rest) p) ρ y) : PWt X C (.BoolOp .And (a :: b :: rest) p) ρ (x && y) := fun σ H0 H rs Q q =>
  ew (pw_and (pt X a) (pw X _)) (h σ H0 H rs _ fun H1 e1 => by
    cases x with
    | true =>
      refine iteT ?_
      exact k rfl σ H0 H1 (rs.ex e1) Q fun H2 e2 => q H2 (e1.trans e2)
    | false =>
      refine iteF ?_
      exact q H1 e1)
theorem pw_o {p : Pos} (h : PTt X C a ρ x) (k : x = false → PWt X C (.BoolOp .Or (b :: rest) p) ρ y) : PWt X C (.BoolOp .Or (a :: b :: rest) p) ρ (x || y) := fun σ H0 H rs Q q =>
  ew (pw_or (pt X a) (pw X _)) (h σ H0 H rs _ fun H1 e1 => by
    cases x with
    | false =>
      refine iteF ?_
      exact k rfl σ H0 H1 (rs.ex e1) Q fun H2 e2 => q H2 (e1.trans e2)
    | true =>
      refine iteT ?_
      exact q H1 e1)
/-- a test that is decided by its head -/
theorem pw_a0 {p : Pos} (h : PTt X C a ρ false) : PWt X C (.BoolOp .And (a :: b :: rest) p) ρ false := pw_a (y := false) h fun z => by cases z
theorem pw_o0 {p : Pos} (h : PTt X C a ρ true) : PWt X C (.BoolOp .Or (a :: b :: rest) p) ρ true := pw_o (y := true) h fun z => by cases z
theorem pt_no (h : PTt X C a ρ x) : PTt X C (.UnaryOp .Not a pos) ρ (!x) := fun σ H0 H rs Q q => et (pt_not (pt X a)) (h σ H0 H rs _ q)
theorem pv_1 {op p} (h : PV X C a ρ d) : PV X C (.BoolOp op [a] p) ρ d := fun σ H0 H rs Q q => ee (pe_one (pe X a)) (h σ H0 H rs Q q)
theorem pv_and {p : Pos} (h : PV X C a ρ (.bl x)) (k : x = true → PV X C (.BoolOp .And (b :: rest) p) ρ (.bl y)) : PV X C (.BoolOp .And (a :: b :: rest) p) ρ (.bl (x && y)) := fun σ H0 H rs Q q =>
  ee (pe_and (pe X a) (pe X _)) (h σ H0 H rs _ fun v H1 e1 r1 => ⟨x, r1.bl_inv, by
    cases x with
    | true =>
      refine iteT ?_
      exact k rfl σ H0 H1 (rs.ex e1) Q fun u H2 e2 r2 => q u H2 (e1.trans e2) r2
    | false =>
      refine iteF ?_
      exact q _ H1 e1 (.bl _)⟩)
theorem pv_no (h : PV X C a ρ (.bl x)) : PV X C (.UnaryOp .Not a pos) ρ (.bl (!x)) := fun σ H0 H rs Q q =>
  ee (pe_not (pe X a)) (h σ H0 H rs _ fun v H1 e1 r1 => ⟨x, r1.bl_inv, q _ H1 e1 (.bl _)⟩)
theorem pv_ite {b' : Expr} (hc : PTt X C c ρ x) (h1 : x = true → PV X C a ρ d) (h2 : x = false → PV X C b' ρ d) : PV X C (.IfExp c a b' pos) ρ d := fun σ H0 H rs Q q =>
  ee (pe_ifExp (pt X c) (pe X a) (pe X b')) (hc σ H0 H rs _ fun H1 e1 => by
    cases x with
    | true =>
      refine iteT ?_
      exact h1 rfl σ H0 H1 (rs.ex e1) Q fun u H2 e2 r2 => q u H2 (e1.trans e2) r2
    | false =>
      refine iteF ?_
      exact h2 rfl σ H0 H1 (rs.ex e1) Q fun u H2 e2 r2 => q u H2 (e1.trans e2) r2)
theorem po_ite {b' : Expr} (hc : PTt X C c ρ x) (h1 : x = true → PO X C a ρ ds) (h2 : x = false → PO X C b' ρ ds) : PO X C (.IfExp c a b' pos) ρ ds := fun σ H0 H rs Q q =>
  ee (pe_ifExp (pt X c) (pe X a) (pe X b')) (hc σ H0 H rs _ fun H1 e1 => by
    cases x with
    | true =>
      refine iteT ?_
      exact h1 rfl σ H0 H1 (rs.ex e1) Q fun p xs H2 h0 e2 h3 r2 => q p xs H2 h0 (e1.trans e2) h3 r2
    | false =>
      refine iteF ?_
      exact h2 rfl σ H0 H1 (rs.ex e1) Q fun p xs H2 h0 e2 h3 r2 => q p xs H2 h0 (e1.trans e2) h3 r2)

/-! ### arguments, tuples, lists -/
theorem pvs_nil : PVs X C [] ρ [] := fun σ H0 H rs Q q => ea pa_nil (q [] H (Ex.refl H) .nil)
theorem pvs_cons (h : PV X C e ρ d) (hr : PVs X C es ρ ds) (hs : starEach (e :: es) X.env = (false, eval e X.env) :: starEach es X.env := by rfl) : PVs X C (e :: es) ρ (d :: ds) := fun σ H0 H rs Q q =>
  ea (pa_cons (pe X e) (pa X es) hs) (h σ H0 H rs _ fun v H1 e1 r1 => hr σ H0 H1 (rs.ex e1) _ fun vs H2 e2 r2 => q _ H2 (e1.trans e2) (.cons (r1.ex e2) r2))
theorem small' {n : Nat} (h : n ≤ 1000) : n ≤ sizeLine := Nat.le_of_lt (small1000 h)
theorem pv_tup {k} (h : PVs X C es ρ ds) (hl : ds.length ≤ 1000 := by simp) : PV X C (.Tuple es k pos) ρ (.tup ds) := fun σ H0 H rs Q q =>
  ee (pe_tup (pa X es)) (h σ H0 H rs _ fun vs H1 e1 r1 => ⟨by rw [r1.length]; exact small' hl, fun p hp => q _ _ (e1.trans (Ex.new hp)) (.tup (SqT.of upd_same) (r1.ex (Ex.new hp)))⟩)
theorem pl_lst (h : PVs X C es ρ ds) (hl : ds.length ≤ 1000 := by simp) : PL X C (.List es pos) ρ ds := fun σ H0 H rs Q q =>
  ee (pe_lst (pa X es)) (h σ H0 H rs _ fun vs H1 e1 r1 => ⟨by rw [r1.length]; exact small' hl, fun p hp => q p vs _ (e1.free hp) (e1.trans (Ex.new hp)) upd_same (r1.ex (Ex.new hp))⟩)
theorem atI_rep {K : PySem.W.Frag} {B H : Hp} {xs : List V} {k : Int} (r : Reps K C B H xs ds) (h : atI ds k = some d) : ∃ v, atI xs k = some v ∧ Rep K C B H v d := by
  unfold atI at h ⊢
  rw [r.length]
  cases q : ixN ds.length k with
  | none => rw [q] at h; cases h
  | some j =>
    rw [q] at h
    exact r.get h
theorem pv_ix {k : Int} (ha : PV X C a ρ (.tup ds)) (hb : PV X C b ρ (.int k)) (h : atI ds k = some d) (hs : PlainIx b := by intro _ _; rfl) : PV X C (.Subscript a b pos) ρ d := fun σ H0 H rs Q q =>
  ee (pe_ix ix_tup (pe X a) (pe X b) hs) (ha σ H0 H rs _ fun v H1 e1 r1 => hb σ H0 H1 (rs.ex e1) _ fun u H2 e2 r2 => by
    obtain ⟨p, xs, e3, h3, h4⟩ := (r1.ex e2).tup_inv
    obtain ⟨z, h5, h6⟩ := atI_rep h4 h
    exact ⟨p, xs, k, z, e3, r2.int_inv, h3, h5, q z H2 (e1.trans e2) h6⟩)
theorem pv_ixL {k : Int} (ha : PR X C a ρ ds) (hb : PV X C b ρ (.int k)) (h : atI ds k = some d) (hs : PlainIx b := by intro _ _; rfl) : PV X C (.Subscript a b pos) ρ d := fun σ H0 H rs Q q =>
  ee (pe_ix ix_list (pe X a) (pe X b) hs) (ha σ H0 H rs _ fun p xs H1 e1 h1 r1 => hb σ H0 H1 (rs.ex e1) _ fun u H2 e2 r2 => by
    obtain ⟨z, h5, h6⟩ := atI_rep (r1.ex e2) h
    exact ⟨p, xs, k, z, rfl, r2.int_inv, sqL_ex e2 h1, h5, q z H2 (e1.trans e2) h6⟩)

/-! ### calls -/
theorem pv_callB {id : String} {r : List V → Hp → VK → Prop} {z : Str} {p : Pos} (hc : CallR X (.builtin id) r) (hm : X.mg z = none) (hv : bootBuiltins z = some (.builtin id)) (ha : PVs X C (e :: es) ρ ds)
    (hr : ∀ {B : Hp} (vs : List V) (H : Hp) (Q : VK), Reps X.K C B H vs ds → (∀ (v : V) (H' : Hp), Ex H H' → Rep X.K C B H' v d → Q v H') → r vs H Q) (hg : Gl X z := by rfl)
    (hn : z ≠ "__name__" := by decide) (hdb : (z == ("__debug__" : Str)) = false := by decide) (he : starEach (e :: es) X.env = (false, eval e X.env) :: starEach es X.env := by rfl) (hpl : (backTo pos (starEach es X.env)).any (·.1) = false := by rfl) :
    PV X C (.Call (.Name z p) (e :: es) [] pos) ρ d := fun σ H0 H rs Q q =>
  ee (pe_callB hc hg hm hv (pa X (e :: es)) hn hdb he hpl) (ha σ H0 H rs _ fun vs H1 e1 r1 => hr vs H1 Q r1 fun v H2 e2 r2 => q v H2 (e1.trans e2) r2)
theorem pv_callTy {T : String} {r : List V → Hp → VK → Prop} {z : Str} {p : Pos} (hc : CallR X (.type T) r) (hm : X.mg z = none) (hv : bootBuiltins z = some (.type T)) (ha : PVs X C (e :: es) ρ ds)
    (hr : ∀ {B : Hp} (vs : List V) (H : Hp) (Q : VK), Reps X.K C B H vs ds → (∀ (v : V) (H' : Hp), Ex H H' → Rep X.K C B H' v d → Q v H') → r vs H Q) (hg : Gl X z := by rfl)
    (hn : z ≠ "__name__" := by decide) (hdb : (z == ("__debug__" : Str)) = false := by decide) (he : starEach (e :: es) X.env = (false, eval e X.env) :: starEach es X.env := by rfl) (hpl : (backTo pos (starEach es X.env)).any (·.1) = false := by rfl) :
    PV X C (.Call (.Name z p) (e :: es) [] pos) ρ d := fun σ H0 H rs Q q =>
  ee (pe_callTy hc hg hm hv (pa X (e :: es)) hn hdb he hpl) (ha σ H0 H rs _ fun vs H1 e1 r1 => hr vs H1 Q r1 fun v H2 e2 r2 => q v H2 (e1.trans e2) r2)
theorem reps1 {K : PySem.W.Frag} {B H : Hp} {vs : List V} (h : Reps K C B H vs [d]) : ∃ v, vs = [v] ∧ Rep K C B H v d := by
  cases h with
  | cons h1 h2 => cases h2; exact ⟨_, rfl, h1⟩
theorem reps2 {K : PySem.W.Frag} {B H : Hp} {vs : List V} (h : Reps K C B H vs [da, db]) : ∃ v u, vs = [v, u] ∧ Rep K C B H v da ∧ Rep K C B H u db := by
  cases h with
  | cons h1 h2 =>
    obtain ⟨u, e, h3⟩ := reps1 h2
    subst e
    exact ⟨_, u, rfl, h1, h3⟩
theorem pv_lenT {p : Pos} (hm : X.mg "len" = none) (ha : PV X C a ρ (.tup ds)) (hg : Gl X "len" := by rfl) (he : starEach [a] X.env = (false, eval a X.env) :: starEach [] X.env := by rfl) : PV X C (.Call (.Name "len" p) [a] [] pos) ρ (.int (ds.length : Int)) :=
  pv_callB call_len_seq hm PySem.boot_len (pvs_cons ha pvs_nil he) (fun vs H Q r q => by
    obtain ⟨v, e, r1⟩ := reps1 r
    subst e
    obtain ⟨t, xs, e, h3, h4⟩ := r1.tup_inv
    subst e
    exact ⟨t, xs, rfl, .inr h3, by rw [h4.length]; exact q _ H (Ex.refl H) (.int _)⟩) hg (by decide) (by decide) he rfl
theorem pv_lenL {p : Pos} (hm : X.mg "len" = none) (ha : PR X C a ρ ds) (hg : Gl X "len" := by rfl) (he : starEach [a] X.env = (false, eval a X.env) :: starEach [] X.env := by rfl) : PV X C (.Call (.Name "len" p) [a] [] pos) ρ (.int (ds.length : Int)) := fun σ H0 H rs Q q =>
  ee (pe_callB call_len_seq hg hm PySem.boot_len (pa_cons (pe X a) pa_nil he) (by decide) (by decide) he rfl) (ha σ H0 H rs _ fun t xs H1 e1 h3 h4 => ⟨t, xs, rfl, .inl h3, by rw [h4.length]; exact q _ H1 e1 (.int _)⟩)

/-- isinstance(x, T), T a built-in type -/
def D.ty : D → String
  | .non => "NoneType"
  | .bl _ => "bool"
  | .int _ => "int"
  | .str _ => "str"
  | .tup _ => "tuple"
  | .lst _ => "list"
  | .rat _ _ => "?"
def D.flatTy : D → Bool
  | .rat _ _ => false
  | .lst _ => false
  | _ => true
theorem rep_ty {K : PySem.W.Frag} {B H : Hp} {v : V} (h : Rep K C B H v d) (hf : d.flatTy = true) : TyX K H v (.type d.ty) := by
  cases h with
  | non => exact .base .non
  | bl b => exact .base (.bl b)
  | int i => exact .base (.int i)
  | str x => exact .base (.str x)
  | tup h1 h2 =>
    rcases h1 with (h | ⟨o, h⟩) | ⟨o, its, n, h, hc, _⟩
    · exact .base (.tup h)
    · exact .fTuple h
    · exact .kTuple h hc
  | rat h => cases hf
  | lst h => cases hf
theorem pv_isi {p p2 : Pos} {T : Str} {N : String} (hm : X.mg "isinstance" = none) (hmT : X.mg T = none) (hv : bootBuiltins T = some (.type N)) (ha : PV X C a ρ d) (hk : kitB d.ty N = some x) (hf : d.flatTy = true := by rfl) (hg : Gl X "isinstance" := by rfl) (hgT : Gl X T := by rfl)
    (hn : T ≠ "__name__" := by decide) (hdb : (T == ("__debug__" : Str)) = false := by decide)
    (he : starEach [a, .Name T p2] X.env = (false, eval a X.env) :: starEach [.Name T p2] X.env := by rfl) : PV X C (.Call (.Name "isinstance" p) [a, .Name T p2] [] pos) ρ (.bl x) := fun σ H0 H rs Q q =>
  ee (pe_callB call_isi hg hm (by decide +kernel) (pa_cons (pe X a) (pa_cons (pe_bltn (v := .ty N) hgT hmT hv rfl hn hdb) pa_nil) he) (by decide) (by decide) he rfl) (ha σ H0 H rs _ fun v H1 e1 r1 =>
    ⟨v, .ty N, .type d.ty, .type N, x, rfl, .ty N, rep_ty r1 hf, kit_ty hk, q _ H1 e1 (.bl x)⟩)

/-! ### the own class Ratio -/
/-- what is known of the class at C -/
structure Rat (K : PySem.W.Frag) (mg : Str → Option Value) (C : Addr) : Prop where
  cl : Cls K C
  nN : NoAttr K C "own_num"
  nD : NoAttr K C "own_den"
  gl : mg "Ratio" = some (.ref C)
  ha : PySem.W.findIn K (.ref C) "__class__" = some (some (.builtin "object.__class__"))
  hn : PySem.W.specialIn K (.builtin "object.__class__") "__get__" = some (some (.builtin "getset_descriptor.__get__"))
  htk : PySem.W.takesIn K (.builtin "object.__class__") = some true
  hm : PySem.W.mroIn K C (.type "object") = some true
  k1 : PySem.W.kitOne K (.ref C) (.ref C) = some true
theorem rfs_num (n d : Int) : (rfs n d).lookup ("own_num" : Str) = some (.int n) := by
  unfold rfs
  rw [lookup_putF, if_neg (by decide +kernel), lookup_putF, if_pos rfl]
theorem rfs_den (n d : Int) : (rfs n d).lookup ("own_den" : Str) = some (.int d) := by
  unfold rfs
  rw [lookup_putF, if_pos rfl]
theorem pv_isR {p p2 : Pos} {n m : Int} (R : Rat X.K X.mg C) (hm : X.mg "isinstance" = none) (ha : PV X C a ρ (.rat n m)) (hg : Gl X "isinstance" := by rfl) (hgT : Gl X "Ratio" := by rfl)
    (he : starEach [a, .Name "Ratio" p2] X.env = (false, eval a X.env) :: starEach [.Name "Ratio" p2] X.env := by rfl) : PV X C (.Call (.Name "isinstance" p) [a, .Name "Ratio" p2] [] pos) ρ (.bl true) := fun σ H0 H rs Q q =>
  ee (pe_callB call_isi hg hm (by decide +kernel) (pa_cons (pe X a) (pa_cons (pe_glob (v := .ref C) hgT R.gl rfl) pa_nil) he) (by decide) (by decide) he rfl) (ha σ H0 H rs _ fun v H1 e1 r1 => by
    obtain ⟨t, dx, e, h⟩ := r1.rat_inv
    subst e
    exact ⟨.ref t, .ref C, .ref C, .ref C, true, rfl, .own C, .base (.ins h R.cl R.ha R.hn R.htk R.hm), R.k1, q _ H1 e1 (.bl true)⟩)
/-- self.own_num, self.own_den -/
theorem pv_fldN {n m : Int} (R : Rat X.K X.mg C) (ha : PV X C a ρ (.rat n m)) (hb : attributeBase a "own_num" X.env (eval a X.env) = eval a X.env := by rfl) : PV X C (.Attribute a "own_num" pos) ρ (.int n) := fun σ H0 H rs Q q =>
  ee (pe_fld (pe X a) hb) (ha σ H0 H rs _ fun v H1 e1 r1 => by
    obtain ⟨t, dx, e, h⟩ := r1.rat_inv
    exact ⟨t, C, dx, _, _, e, h, R.cl, R.nN, rfs_num n m, q _ H1 e1 (.int n)⟩)
theorem pv_fldD {n m : Int} (R : Rat X.K X.mg C) (ha : PV X C a ρ (.rat n m)) (hb : attributeBase a "own_den" X.env (eval a X.env) = eval a X.env := by rfl) : PV X C (.Attribute a "own_den" pos) ρ (.int m) := fun σ H0 H rs Q q =>
  ee (pe_fld (pe X a) hb) (ha σ H0 H rs _ fun v H1 e1 r1 => by
    obtain ⟨t, dx, e, h⟩ := r1.rat_inv
    exact ⟨t, C, dx, _, _, e, h, R.cl, R.nD, rfs_den n m, q _ H1 e1 (.int m)⟩)
end
end Bf

namespace Bf
open PySem PySem.Spec PyProof.Rows L2

/-! ### targets: js, the slots they touch -/
def PTg (X : Cx) (C : Addr) (tg : Expr) (js : List Nat) (ρ : List Sl) (d : D) (ρ' : List Sl) : Prop := ∀ (σ : L2.St) (H0 H : Hp) (v : V), RS X.K C H0 H σ ρ → Rep X.K C H0 H v d → ∀ (pins : List (Addr × Obj)) (s : Shared) (u : Value) (Q : L2.St → Hp → Prop), Inv X pins σ H s → RelV v u →
  (∀ σ' : L2.St, RS X.K C H0 H σ' ρ' → σ'.length = σ.length → (∀ j, j ∉ js → σ'[j]? = σ[j]?) → Q σ' H) →
  wpAny (model X.prog X.w) X.A (assign tg X.env u) (fun _ s' => ∃ σ' H', Inv X pins σ' H' s' ∧ Q σ' H') X.xe s
def PTgs (X : Cx) (C : Addr) (ts : List Expr) (js : List Nat) (ρ : List Sl) (ds : List D) (ρ' : List Sl) : Prop := ∀ (σ : L2.St) (H0 H : Hp) (vs : List V), RS X.K C H0 H σ ρ → Reps X.K C H0 H vs ds → ∀ (pins : List (Addr × Obj)) (s : Shared) (us : List Value) (Q : L2.St → Hp → Prop), Inv X pins σ H s → Vals vs us →
  (∀ σ' : L2.St, RS X.K C H0 H σ' ρ' → σ'.length = σ.length → (∀ j, j ∉ js → σ'[j]? = σ[j]?) → Q σ' H) →
  wpAny (model X.prog X.w) X.A (assignInOrder ((assignEach ts X.env).map (·.2)) us) (fun _ s' => ∃ σ' H', Inv X pins σ' H' s' ∧ Q σ' H') X.xe s
section
variable {X : Cx} {C : Addr} {ρ ρ' ρ1 : List Sl} {e a b c tg : Expr} {es ts : List Expr} {d da db : D} {ds : List D} {pos : Pos} {x y : Bool} {i j : Int} {js ks : List Nat}
theorem ptg_name (i : Nat) {z : Str} (hN : X.N.Nodup) (hi : X.N[i]? = some z := by rfl) (hx : Loc X.env.scope z := by first | exact Or.inl rfl | exact Or.inr rfl) (hf : X.fn z = true ∨ X.env.scope.names.lookup z = some .local := by first | exact .inl rfl | exact .inr rfl) :
    PTg X C (.Name z pos) [i] ρ d (ρ.set i (.im d)) := fun σ H0 H v rs r pins s u Q I rv q =>
  (pg_name (pos := pos) hN hi hx hf).run pins s σ H v u Q I rv (q _ (rs.set r) (by rw [List.length_set]) fun j hj => by
    rw [List.getElem?_set_ne]
    intro z
    exact hj (by rw [z]; exact List.mem_singleton.mpr rfl))
theorem ptgs_nil : PTgs X C [] [] ρ [] ρ := fun σ H0 H vs rs r pins s us Q I rv q => by
  cases r
  exact pgs_nil.run pins s σ H [] us Q I rv ⟨rfl, q σ rs rfl fun _ _ => rfl⟩
theorem ptgs_cons (h1 : PTg X C e js ρ d ρ1) (h2 : PTgs X C ts ks ρ1 ds ρ') (hs : (assignEach (e :: ts) X.env).map (·.2) = assign e X.env :: (assignEach ts X.env).map (·.2) := by rfl) : PTgs X C (e :: ts) (js ++ ks) ρ (d :: ds) ρ' := fun σ H0 H vs rs r pins s us Q I rv q => by
  cases r with
  | cons r1 r2 =>
    cases rv with
    | cons rv rr =>
      rw [hs]
      refine assignInOrder_cons (thn (h1 σ H0 H _ rs r1 pins s _ (fun σ' H' => H' = H ∧ RS X.K C H0 H σ' ρ1 ∧ σ'.length = σ.length ∧ ∀ j, j ∉ js → σ'[j]? = σ[j]?) I rv (fun σ' a b c => ⟨rfl, a, b, c⟩)) fun _ s1 q1 => ?_)
      obtain ⟨σ1, H1, I1, e1, rs1, l1, k1⟩ := q1
      subst e1
      refine h2 σ1 H0 H1 _ rs1 r2 pins s1 _ Q I1 rr fun σ2 rs2 l2 k2 => q σ2 rs2 (l2.trans l1) fun j hj => ?_
      rw [List.mem_append] at hj
      rw [k2 j fun z => hj (.inr z), k1 j fun z => hj (.inl z)]
theorem ptg_tup {k : Nat} (h : PTgs X C ts js ρ ds ρ') (hc : X.calm = true := by rfl) (hn : (assignEach ts X.env).length = ds.length := by rfl) (hst : (assignEach ts X.env).findIdx? (·.1) = none := by rfl) : PTg X C (.Tuple ts k pos) js ρ (.tup ds) ρ' := fun σ H0 H v rs r pins s u Q I rv q => by
  obtain ⟨t, xs, e1, hq, hx⟩ := r.tup_inv
  subst e1
  cases rv
  obtain ⟨its, rv, ht, hz⟩ := I.tuple hq
  refine assign_Tuple_tuple (I.ok.hd hc) ht (by rw [hn, ← hx.length, rv.length]; simp) hst fun h' hx' => ?_
  have I1 : Inv X pins σ H { s with heap := h' } := I.kept (t' := s.toks) fun b o e => hx' b o (Nat.ne_of_lt (Heap.lt_size e)) e
  exact h σ H0 H xs rs hx pins _ _ Q I1 (by simpa using rv) q

/-! ### what is walked -/
def EI (X : Cx) (tg iter : Expr) (σ : L2.St) (H : Hp) (R : It → Hp → Prop) : Prop := ∀ (pins : List (Addr × Obj)) (s : Shared), Inv X pins σ H s → wpAny (model X.prog X.w) X.A (eval iter X.env) (fun v s1 => wpAny (model X.prog X.w) X.A (pyIter v) (PIE X pins σ tg R) X.xe s1) X.xe s
theorem ei {iter : Expr} {wi : TI} (h : PI X tg iter wi) {σ : L2.St} {H : Hp} {R : It → Hp → Prop} (q : wi σ H R) : EI X tg iter σ H R := fun pins s I => h.run pins s σ H R I q
theorem pi (X : Cx) (tg iter : Expr) : PI X tg iter (EI X tg iter) := ⟨fun pins s σ H R I h => h pins s I⟩
/-- a walk: while a loop's body runs (the base may grow); over what stands in the base; while nothing changes -/
def PIt (X : Cx) (C : Addr) (tg iter : Expr) (ρ ρ' : List Sl) (n : Nat) (f : Nat → D) : Prop := ∀ (σ : L2.St) (H0 H : Hp), RS X.K C H0 H σ ρ → ∀ R : It → Hp → Prop,
  (∀ (J : It) (H1 H2 : Hp) (G : Hp → Prop) (Y : Nat → Hp → V → Hp → Prop), Walk J n G Y → Ex H H1 → Ex H0 H2 → RS X.K C H2 H1 σ ρ' → (∀ H', Ex H2 H' → Im H1 H' → G H') →
    (∀ i Ha x Hb, i < n → Ex H2 Ha → Im H1 Ha → Y i Ha x Hb → Ex Ha Hb ∧ Rep X.K C H2 Hb x (f i)) → R J H1) → EI X tg iter σ H R
def PIs (X : Cx) (C : Addr) (tg iter : Expr) (ρ : List Sl) (n : Nat) (f : Nat → D) : Prop := ∀ (σ : L2.St) (H0 H : Hp), RS X.K C H0 H σ ρ → ∀ R : It → Hp → Prop,
  (∀ (J : It) (H1 : Hp) (G : Hp → Prop) (Y : Nat → Hp → V → Hp → Prop), Walk J n G Y → Ex H H1 → (∀ H', Ex H0 H' → Im H1 H' → G H') →
    (∀ i Ha x Hb, i < n → Ex H0 Ha → Im H1 Ha → Y i Ha x Hb → Ex Ha Hb ∧ Rep X.K C H0 Hb x (f i)) → R J H1) → EI X tg iter σ H R
def PIc (X : Cx) (C : Addr) (tg iter : Expr) (ρ : List Sl) (n : Nat) (f : Nat → D) : Prop := ∀ (σ : L2.St) (H0 H : Hp), RS X.K C H0 H σ ρ → ∀ R : It → Hp → Prop,
  (∀ (J : It) (H1 : Hp) (G : Hp → Prop) (Y : Nat → Hp → V → Hp → Prop), Walk J n G Y → Ex H H1 → (∀ H', Ex H1 H' → G H') →
    (∀ i Ha x Hb, i < n → Ex H1 Ha → Y i Ha x Hb → Ex Ha Hb ∧ Rep X.K C H0 Hb x (f i)) → R J H1) → EI X tg iter σ H R
theorem PIs.tt {n : Nat} {f : Nat → D} (h : PIs X C tg e ρ n f) : PIt X C tg e ρ ρ n f := fun σ H0 H rs R q =>
  h σ H0 H rs R fun J H1 G Y hw e1 hG hY => q J H1 H0 G Y hw e1 (Ex.refl H0) (rs.ex e1) hG hY
theorem PIs.cc {n : Nat} {f : Nat → D} (h : PIs X C tg e ρ n f) : PIc X C tg e ρ n f := fun σ H0 H rs R q =>
  h σ H0 H rs R fun J H1 G Y hw e1 hG hY => q J H1 G Y hw e1 (fun H' ea => hG H' ((rs.base.trans e1).trans ea) ea.im) fun i Ha x Hb hi ea y => hY i Ha x Hb hi ((rs.base.trans e1).trans ea) ea.im y
theorem getD_some {n : Nat} {ds : List D} (h : n < ds.length) : ds[n]? = some (ds.getD n .non) := by
  rw [List.getD_eq_getElem?_getD, List.getElem?_eq_getElem h]
  rfl
theorem reps_at {K : PySem.W.Frag} {B H : Hp} {xs : List V} {n : Nat} {v : V} (r : Reps K C B H xs ds) (h : xs[n]? = some v) : Rep K C B H v (ds.getD n .non) := by
  obtain ⟨d, hd, rd⟩ := r.getV h
  rw [List.getD_eq_getElem?_getD, hd]
  exact rd
theorem pis_tup (h : PV X C e ρ (.tup ds)) : PIs X C tg e ρ ds.length (fun i => ds.getD i .non) := fun σ H0 H rs R q =>
  ei (pi_tup (pe X e)) (h σ H0 H rs _ fun v H1 e1 r1 => by
    obtain ⟨t, xs, e2, hq, hx⟩ := r1.tup_inv
    subst e2
    refine ⟨t, rfl, ⟨xs, hq⟩, ?_⟩
    have hw := walk_tup (K := X.K) (a := t) (xs := xs)
    rw [hx.length] at hw
    exact q _ H1 _ _ hw e1 (fun H' _ im => sqT_im im hq) fun i Ha x Hb hi ea im y => by
      obtain ⟨e3, h3⟩ := y
      subst e3
      exact ⟨Ex.refl _, Rep.im im _ _ (reps_at hx h3)⟩)
theorem pis_lst (h : PV X C e ρ (.lst ds)) : PIs X C tg e ρ ds.length (fun i => ds.getD i .non) := fun σ H0 H rs R q =>
  ei (pi_list (pe X e)) (h σ H0 H rs _ fun v H1 e1 r1 => by
    obtain ⟨t, xs, e2, hq, hx⟩ := r1.lst_inv
    subst e2
    refine ⟨t, rfl, ⟨xs, sqL_ex (rs.base.trans e1) hq⟩, ?_⟩
    have hw := walk_list (K := X.K) (a := t) (xs := xs)
    rw [hx.length] at hw
    exact q _ H1 _ _ hw e1 (fun H' eb im => sqL_ex eb hq) fun i Ha x Hb hi ea im y => by
      obtain ⟨e3, h3⟩ := y
      subst e3
      exact ⟨Ex.refl _, Rep.im im _ _ (reps_at hx h3)⟩)
theorem pic_ro (h : PR X C e ρ ds) : PIc X C tg e ρ ds.length (fun i => ds.getD i .non) := fun σ H0 H rs R q =>
  ei (pi_list (pe X e)) (h σ H0 H rs _ fun p xs H1 e1 hl hx => by
    refine ⟨p, rfl, ⟨xs, hl⟩, ?_⟩
    have hw := walk_list (K := X.K) (a := p) (xs := xs)
    rw [hx.length] at hw
    refine q _ H1 _ _ hw e1 (fun H' eb => sqL_ex eb hl) fun i Ha x Hb hi ea y => ?_
    obtain ⟨e3, h3⟩ := y
    subst e3
    exact ⟨Ex.refl _, (reps_at hx h3).ex ea⟩)
theorem pit_new (h : PL X C e ρ ds) : PIt X C tg e ρ ρ ds.length (fun i => ds.getD i .non) := fun σ H0 H rs R q =>
  ei (pi_list (pe X e)) (h σ H0 H rs _ fun p xs H1 hp e1 hl hx => by
    refine ⟨p, rfl, ⟨xs, SqL.of hl⟩, ?_⟩
    have hw := walk_list (K := X.K) (a := p) (xs := xs)
    rw [hx.length] at hw
    obtain ⟨e2, rs1⟩ := rs.freezeN hp e1 hl
    refine q _ H1 (upd H0 p (.lst xs)) _ _ hw e1 e2 rs1 (fun H' eb im => SqL.of (eb p _ upd_same)) fun i Ha x Hb hi ea im y => ?_
    obtain ⟨e3, h3⟩ := y
    subst e3
    exact ⟨Ex.refl _, Rep.im im _ _ (Rep.gr e2 _ _ (reps_at hx h3))⟩)
/-- a slot's list, that nobody may change any more -/
theorem pit_slot (k : Nat) {z : Str} (hd : ρ[k]? = some (Sl.ow ds) := by rfl) (hN : X.N[k]? = some z := by rfl) (hv : Vis X.env.scope z := by first | exact Or.inl rfl | exact Or.inr (Or.inl rfl) | exact Or.inr (Or.inr rfl))
    (h1 : (z == ("__debug__" : Str)) = false := by decide) (h2 : (z == ("__classdict__" : Str)) = false := by decide) : PIt X C tg (.Name z pos) ρ (ρ.set k (.im (.lst ds))) ds.length (fun i => ds.getD i .non) := fun σ H0 H rs R q => by
  obtain ⟨p, xs, hs, h0, hp, hx⟩ := rs.ow k ds hd
  refine ei (pi_list (pe_var hN hv h1 h2)) ⟨.ref p, hs, p, rfl, ⟨xs, SqL.of hp⟩, ?_⟩
  have hw := walk_list (K := X.K) (a := p) (xs := xs)
  rw [hx.length] at hw
  obtain ⟨e2, rs1⟩ := rs.freeze hd hs hp hx
  refine q _ H (upd H0 p (.lst xs)) _ _ hw (Ex.refl H) e2 rs1 (fun H' eb im => SqL.of (eb p _ upd_same)) fun i Ha x Hb hi ea im y => ?_
  obtain ⟨e3, h3⟩ := y
  subst e3
  exact ⟨Ex.refl _, Rep.im im _ _ (Rep.gr e2 _ _ (reps_at hx h3))⟩
theorem pis_range {p : Pos} (hm : X.mg "range" = none) (h : PV X C a ρ (.int i)) (h1 : 0 ≤ i ∧ i ≤ 100000) (hg : Gl X "range" := by rfl) (hs : starEach [a] X.env = [(false, eval a X.env)] := by rfl) : PIs X C tg (.Call (.Name "range" p) [a] [] pos) ρ i.toNat (fun k => .int (k : Int)) := fun σ H0 H rs R q =>
  ei (pi_range1 hg hm (pa X [a]) hs) (pvs_cons h pvs_nil hs σ H0 H rs _ fun vs H1 e1 r1 => by
    obtain ⟨v, e2, r2⟩ := reps1 r1
    subst e2
    refine ⟨i, by rw [r2.int_inv], by omega, by omega, ?_⟩
    exact q _ H1 _ _ walk_range e1 (fun _ _ _ => trivial) fun k Ha x Hb hi ea im y => by
      obtain ⟨e3, e4⟩ := y
      subst e3 e4
      refine ⟨Ex.refl _, ?_⟩
      show Rep X.K C _ _ (V.int (0 + (k : Int))) (D.int k)
      rw [Int.zero_add]
      exact .int _)
/-- zip of two tuples -/
theorem walk_zipT {K : PySem.W.Frag} {a b : Addr} {xs ys : List V} {n : Nat} (hn : n = min xs.length ys.length) : Walk (RZ.ItzT K a b) n (fun H => SqT K H a xs ∧ SqT K H b ys) (YPair (fun i => xs[i]?) (fun i => ys[i]?)) := by
  subst hn
  refine ⟨fun i _ hi q => ?_, fun _ q => ⟨xs, ys, q.1, q.2, by omega⟩, fun i H v H' _ q y => ?_⟩
  · have h1 : i < xs.length := by omega
    have h2 : i < ys.length := by omega
    exact ⟨xs, ys, xs[i], ys[i], q.1, q.2, by simp [h1], by simp [h2]⟩
  · obtain ⟨T, x, z, h1, h2, h3, h4, h5⟩ := y
    exact ⟨T, x, z, h1, h2, h3, h4 xs q.1, h5 ys q.2⟩
theorem pis_zipT {p tpos : Pos} {kk : Nat} {elts : List Expr} {es : List D} (hm : X.mg "zip" = none) (ha : PV X C a ρ (.tup ds)) (hb : PV X C b ρ (.tup es)) (hg : Gl X "zip" := by rfl)
    (hs : starEach [a, b] X.env = (false, eval a X.env) :: starEach [b] X.env := by rfl) (hs2 : starEach [b] X.env = (false, eval b X.env) :: starEach [] X.env := by rfl) (hpl : (backTo pos (starEach [b] X.env)).any (·.1) = false := by rfl) :
    PIs X C (.Tuple elts kk tpos) (.Call (.Name "zip" p) [a, b] [] pos) ρ (min ds.length es.length) (fun i => .tup [ds.getD i .non, es.getD i .non]) := fun σ H0 H rs R q =>
  ei (RZ.pi_zipA hg hm (pa X [a, b]) hs hpl) (pvs_cons ha (pvs_cons hb pvs_nil hs2) hs σ H0 H rs _ fun vs H1 e1 r1 => by
    obtain ⟨v, u, e2, r2, r3⟩ := reps2 r1
    subst e2
    obtain ⟨t, xs, e4, hq, hx⟩ := r2.tup_inv
    obtain ⟨t2, ys, e5, hq2, hx2⟩ := r3.tup_inv
    subst e4 e5
    refine ⟨t, t2, xs, ys, rfl, .inr ⟨hq, hq2, ?_⟩⟩
    have hw := walk_zipT (K := X.K) (a := t) (b := t2) (xs := xs) (ys := ys) (n := min ds.length es.length) (by rw [hx.length, hx2.length])
    exact q _ H1 _ _ hw e1 (fun H' _ im => ⟨sqT_im im hq, sqT_im im hq2⟩) fun i Ha x Hb hi ea im y => by
      obtain ⟨T, x1, y1, e6, hT, e7, h8, h9⟩ := y
      subst e6 e7
      exact ⟨Ex.new hT, .tup (SqT.of upd_same) (.cons (Rep.im (im.trans (Ex.new hT).im) _ _ (reps_at hx h8)) (.cons (Rep.im (im.trans (Ex.new hT).im) _ _ (reps_at hx2 h9)) .nil))⟩)
end
end Bf

namespace Bf
open PySem PySem.Spec PyProof.Rows L2

/-! ### comprehensions -/
def wipeS (ρ : List Sl) : List Nat → List Sl
  | [] => ρ
  | v :: vs => (wipeS ρ vs).set v .un
section
variable {K : PySem.W.Frag} {C : Addr} {H0 H : Hp} {σ : L2.St} {ρ : List Sl}
theorem RS.wipe (rs : RS K C H0 H σ ρ) : ∀ vs : List Nat, RS K C H0 H (wipe σ vs) (wipeS ρ vs)
  | [] => rs
  | v :: vs => (RS.wipe rs vs).un v none
theorem wipe_get : ∀ (vs : List Nat) (σ : L2.St) (j : Nat), (wipe σ vs)[j]? = if j ∈ vs then (if j < σ.length then some none else none) else σ[j]?
  | [], σ, j => by simp [L2.wipe]
  | v :: vs, σ, j => by
    unfold L2.wipe
    by_cases hv : v = j
    · subst hv
      rw [List.getElem?_set, wipe_length]
      simp
    · rw [List.getElem?_set_ne hv, wipe_get vs σ j]
      have : (j ∈ v :: vs) ↔ j ∈ vs := by
        rw [List.mem_cons]
        constructor
        · rintro (z | z)
          · exact absurd z.symm hv
          · exact z
        · exact .inr
      simp only [this]
theorem wipe_eq {σ σ' : L2.St} {vs js : List Nat} (hl : σ'.length = σ.length) (h : ∀ j, j ∉ js → σ'[j]? = σ[j]?) (hs : ∀ j ∈ js, j ∈ vs) : wipe σ' vs = wipe σ vs := by
  refine List.ext_getElem? fun j => ?_
  rw [wipe_get, wipe_get, hl]
  by_cases hj : j ∈ vs
  · rw [if_pos hj, if_pos hj]
  · rw [if_neg hj, if_neg hj]
    exact h j fun z => hj (hs j z)
theorem wipe_wipe {σ σ' : L2.St} {vs js : List Nat} (hl : σ'.length = (wipe σ vs).length) (h : ∀ j, j ∉ js → σ'[j]? = (wipe σ vs)[j]?) (hs : ∀ j ∈ js, j ∈ vs) : wipe σ' vs = wipe σ vs := by
  rw [wipe_eq hl h hs]
  refine List.ext_getElem? fun j => ?_
  rw [wipe_get, wipe_length, wipe_get]
  by_cases hj : j ∈ vs
  · rw [if_pos hj, if_pos hj]
  · rw [if_neg hj, if_neg hj]
end
/-- what is kept of n turns -/
def kept (kp : Nat → Bool) (g : Nat → D) (n : Nat) : List D := ((List.range n).filter kp).map g
theorem kept_zero {kp : Nat → Bool} {g : Nat → D} : kept kp g 0 = [] := rfl
theorem kept_yes {kp : Nat → Bool} {g : Nat → D} {n : Nat} (h : kp n = true) : kept kp g (n + 1) = kept kp g n ++ [g n] := by
  unfold kept
  rw [List.range_succ, List.filter_append, List.map_append, List.filter_cons, if_pos h]
  rfl
theorem kept_no {kp : Nat → Bool} {g : Nat → D} {n : Nat} (h : kp n = false) : kept kp g (n + 1) = kept kp g n := by
  unfold kept
  rw [List.range_succ, List.filter_append, List.map_append, List.filter_cons, if_neg (by rw [h]; decide)]
  show _ ++ [] = _
  rw [List.append_nil]
theorem kept_len (kp : Nat → Bool) (g : Nat → D) (n : Nat) : (kept kp g n).length ≤ n := by
  unfold kept
  rw [List.length_map]
  have h := List.length_filter_le kp (List.range n)
  rw [List.length_range] at h
  exact h
theorem kept_all (g : Nat → D) (n : Nat) : kept (fun _ => true) g n = (List.range n).map g := by
  unfold kept
  rw [List.filter_eq_self.mpr fun _ _ => rfl]
theorem getD_map {ds : List D} (f : D → D) : (List.range ds.length).map (fun i => f (ds.getD i .non)) = ds.map f := by
  refine List.ext_getElem (by simp) fun i h1 h2 => ?_
  simp at h1
  simp [List.getD_eq_getElem?_getD, h1]

section
variable {X : Cx} {C : Addr} {ρ ρ' ρ1 : List Sl} {e a b c tg elt iter : Expr} {es ts ifs : List Expr} {d da db : D} {ds : List D} {pos : Pos} {x y : Bool} {i j : Int} {js ks : List Nat} {scope : Scope} {own : List (Str × Nat)}
/-- the context of a comprehension's block -/
abbrev bX (X : Cx) (scope : Scope) (s : Shared) (H : Hp) (Ca : Addr) (cl : List (Str × Addr)) (fp : List Addr) : Cx := X.blk s H scope (compEnvC scope cl Ca X.env) fp
def gSem (X : Cx) (scope : Scope) (tg : Expr) : TG := fun v σ H Q => ∀ (s : Shared) (H0 : Hp) (Ca : Addr) (cl : List (Str × Addr)) (fp : List Addr) (pins : List (Addr × Obj)) (s1 : Shared) (u : Value), Inv (bX X scope s H0 Ca cl fp) pins σ H s1 → RelV v u →
  wpAny (model X.prog X.w) X.A (assign tg (bX X scope s H0 Ca cl fp).env u) (fun _ s' => ∃ σ' H', Inv (bX X scope s H0 Ca cl fp) pins σ' H' s' ∧ Q σ' H') (bX X scope s H0 Ca cl fp).xe s1
def eSem (X : Cx) (scope : Scope) (e : Expr) : TE := fun σ H Q => ∀ (s : Shared) (H0 : Hp) (Ca : Addr) (cl : List (Str × Addr)) (fp : List Addr), EE (bX X scope s H0 Ca cl fp) e σ H Q
def tSem (X : Cx) (scope : Scope) (e : Expr) : TT := fun σ H Q => ∀ (s : Shared) (H0 : Hp) (Ca : Addr) (cl : List (Str × Addr)) (fp : List Addr), ET (bX X scope s H0 Ca cl fp) e σ H Q
theorem gSem_ok (scope : Scope) (tg : Expr) (s : Shared) (H0 : Hp) (Ca : Addr) (cl : List (Str × Addr)) (fp : List Addr) : PG (bX X scope s H0 Ca cl fp) tg (gSem X scope tg) :=
  ⟨fun pins s1 σ H v u Q I r h => h s H0 Ca cl fp pins s1 u I r⟩
theorem eSem_ok (scope : Scope) (e : Expr) (s : Shared) (H0 : Hp) (Ca : Addr) (cl : List (Str × Addr)) (fp : List Addr) : PE (bX X scope s H0 Ca cl fp) e (eSem X scope e) :=
  ⟨fun pins s1 σ H Q I h => h s H0 Ca cl fp pins s1 I⟩
theorem tSem_ok (scope : Scope) (e : Expr) (s : Shared) (H0 : Hp) (Ca : Addr) (cl : List (Str × Addr)) (fp : List Addr) : PT (bX X scope s H0 Ca cl fp) e (tSem X scope e) :=
  ⟨fun pins s1 σ H Q I h => h s H0 Ca cl fp pins s1 I⟩
/-- the turns of a comprehension, as data -/
structure Turns (X : Cx) (C : Addr) (scope : Scope) (own : List (Str × Nat)) (tg elt : Expr) (tt : TT) (ρ : List Sl) (n : Nat) (f : Nat → D) (kp : Nat → Bool) (g : Nat → D) : Prop where
  small : n ≤ 100000
  turn : ∀ i, i < n → ∃ (js : List Nat) (ρ2 : List Sl), (∀ j ∈ js, j ∈ own.map (·.2)) ∧ (∀ (s : Shared) (H0 : Hp) (Ca : Addr) (cl : List (Str × Addr)) (fp : List Addr), PTg (bX X scope s H0 Ca cl fp) C tg js (wipeS ρ (own.map (·.2))) (f i) ρ2) ∧
    (∀ (σ : L2.St) (H0 H : Hp), RS X.K C H0 H σ ρ2 → ∀ Q : Bool → Hp → Prop, (∀ H', Ex H H' → Q (kp i) H') → tt σ H Q) ∧
    (kp i = true → ∀ (s : Shared) (H0 : Hp) (Ca : Addr) (cl : List (Str × Addr)) (fp : List Addr), PV (bX X scope s H0 Ca cl fp) C elt ρ2 (g i))
theorem lc_turns {tt : TT} {n : Nat} {f g : Nat → D} {kp : Nat → Bool} (hi : PIc X C tg iter ρ n f) (T : Turns X C scope own tg elt tt ρ n f kp g) {σ : L2.St} {H0 H : Hp} (rs : RS X.K C H0 H σ ρ) {Q : VK}
    (q : ∀ (p : Addr) (xs : List V) (H' : Hp), H p = none → Ex H H' → H' p = some (.lst xs) → Reps X.K C H0 H' xs (kept kp g n) → Q (.ref p) H')
    {R : It → Hp → Prop} (hR : ∀ J H1, (∀ D, H1 D = none → ∃ W : Nat → Nat → Hp → Prop, (∃ m, W 0 m (upd H1 D (.lst []))) ∧ ∀ i m H, W i m H →
  (J.stop i H ∧ Q (.ref D) H) ∨ (J.go i H ∧ ∃ Nx : Hp → Prop, (∀ H', Nx H' → ∃ m', m' < m ∧ W (i + 1) m' H') ∧ ∀ x H', J.yld i H x H' → gSem X scope tg x (wipe σ (own.map (·.2))) H' fun σ2 H2 => wipe σ2 (own.map (·.2)) = wipe σ (own.map (·.2)) ∧ tt σ2 H2 fun b H3 =>
    if b = true then eSem X scope elt σ2 H3 fun y H4 => ∃ acc, H4 D = some (.lst acc) ∧ acc.length < sizeLine ∧ Nx (upd H4 D (.lst (acc ++ [y]))) else Nx H3)) → R J H1) : EI X tg iter σ H R := by
  refine hi σ H0 H rs R fun J H1 G Y hw e1 hG hY => hR J H1 fun Dl hD => ?_
  have hDH : H Dl = none := e1.free hD
  have rs1 := rs.ex e1
  refine lc_it hw (fun i H' => Ex H1 H' ∧ ∃ acc, H' Dl = some (.lst acc) ∧ Reps X.K C H0 H' acc (kept kp g i)) ⟨Ex.new hD, [], upd_same, .nil⟩ (fun i H' _ p => hG H' p.1) (fun i x Ha Hb hlt p y => ?_) fun H' p => ?_
  · obtain ⟨ea, acc, ha, hr⟩ := p
    obtain ⟨eb, rx⟩ := hY i Ha x Hb hlt ea y
    obtain ⟨js, ρ2, hjs, htg, htt, hel⟩ := T.turn i hlt
    intro s0 H00 Ca cl fp pins s1 u I rv
    have rsw : RS X.K C H0 Hb (wipe σ (own.map (·.2))) (wipeS ρ (own.map (·.2))) := (rs1.ex (ea.trans eb)).wipe _
    refine htg s0 H00 Ca cl fp _ H0 Hb x rsw rx pins s1 u _ I rv fun σ' rs' hl hk => ⟨wipe_wipe hl hk hjs, ?_⟩
    refine htt σ' H0 Hb rs' _ fun H3 e3 => ?_
    cases hkp : kp i with
    | true =>
      refine iteT ?_
      intro s2 H02 Ca2 cl2 fp2
      refine hel hkp s2 H02 Ca2 cl2 fp2 σ' H0 H3 (rs'.ex e3) _ fun v H4 e4 r4 => ?_
      have hD4 : H4 Dl = some (.lst acc) := e4 _ _ (e3 _ _ (eb _ _ ha))
      have hk := kept_len kp g i
      refine ⟨acc, hD4, ?_, ?_, acc ++ [v], upd_same, ?_⟩
      · rw [hr.length]
        have h100 : (100000 : Nat) < sizeLine := by rw [sizeLine_eq]; decide
        have := T.small
        omega
      · exact Ex.mut (((ea.trans eb).trans e3).trans e4) hD
      · rw [kept_yes hkp]
        have im : Im H4 (upd H4 Dl (.lst (acc ++ [v]))) := Im.upd hD4 rfl
        exact Reps.im im _ _ ((hr.ex ((eb.trans e3).trans e4)).append (.one r4))
    | false =>
      refine iteF ?_
      refine ⟨(ea.trans eb).trans e3, acc, e3 _ _ (eb _ _ ha), ?_⟩
      rw [kept_no hkp]
      exact hr.ex (eb.trans e3)
  · obtain ⟨ea, acc, ha, hr⟩ := p
    exact q Dl acc H' hDH (e1.trans ea) ha hr
theorem pl_lcG {tt : TT} {n : Nat} {f g : Nat → D} {kp : Nat → Bool} (hN : X.N.Nodup) (hi : PIc X C tg iter ρ n f) (ok : BlkOk X.N X.env.scope scope own) (T : Turns X C scope own tg elt tt ρ n f kp g)
    (ht : ∀ (s : Shared) (H : Hp) (Ca : Addr) (cl : List (Str × Addr)) (fp : List Addr), PTs (bX X scope s H Ca cl fp) ifs tt) (hc : X.calm = true := by rfl) (hs : ∀ x, foldedSetIterable iter X.env x = pure x := by intro _; rfl) : PL X C (.ListComp elt [⟨tg, iter, ifs, 0⟩] scope pos) ρ (kept kp g n) := fun σ H0 H rs Q q =>
  ee (pe_lc (own := own) hc hN (pi X tg iter) ok (gSem_ok scope tg) ht (eSem_ok scope elt) hs) (lc_turns hi T rs q fun J H1 h => h)
theorem pts_n (scope : Scope) (s : Shared) (H : Hp) (Ca : Addr) (cl : List (Str × Addr)) (fp : List Addr) : PTs (bX X scope s H Ca cl fp) [] tYes := pts_nil
theorem pts_1 (scope : Scope) (s : Shared) (H : Hp) (Ca : Addr) (cl : List (Str × Addr)) (fp : List Addr) : PTs (bX X scope s H Ca cl fp) [c] (tSem X scope c) := pts_one (tSem_ok scope c s H Ca cl fp)
/-- without a test -/
theorem turns_n {n : Nat} {f g : Nat → D} (hn : n ≤ 100000) (h : ∀ i, i < n → ∃ (js : List Nat) (ρ2 : List Sl), (∀ j ∈ js, j ∈ own.map (·.2)) ∧ (∀ (s : Shared) (H0 : Hp) (Ca : Addr) (cl : List (Str × Addr)) (fp : List Addr), PTg (bX X scope s H0 Ca cl fp) C tg js (wipeS ρ (own.map (·.2))) (f i) ρ2) ∧
    (∀ (s : Shared) (H0 : Hp) (Ca : Addr) (cl : List (Str × Addr)) (fp : List Addr), PV (bX X scope s H0 Ca cl fp) C elt ρ2 (g i))) : Turns X C scope own tg elt tYes ρ n f (fun _ => true) g :=
  ⟨hn, fun i hi => let ⟨js, ρ2, h1, h2, h3⟩ := h i hi; ⟨js, ρ2, h1, h2, fun σ H0 H rs Q q => q H (Ex.refl H), fun _ => h3⟩⟩
/-- with one -/
theorem turns_1 {n : Nat} {f g : Nat → D} {kp : Nat → Bool} (hn : n ≤ 100000) (h : ∀ i, i < n → ∃ (js : List Nat) (ρ2 : List Sl), (∀ j ∈ js, j ∈ own.map (·.2)) ∧ (∀ (s : Shared) (H0 : Hp) (Ca : Addr) (cl : List (Str × Addr)) (fp : List Addr), PTg (bX X scope s H0 Ca cl fp) C tg js (wipeS ρ (own.map (·.2))) (f i) ρ2) ∧
    (∀ (s : Shared) (H0 : Hp) (Ca : Addr) (cl : List (Str × Addr)) (fp : List Addr), PTt (bX X scope s H0 Ca cl fp) C c ρ2 (kp i)) ∧
    (kp i = true → ∀ (s : Shared) (H0 : Hp) (Ca : Addr) (cl : List (Str × Addr)) (fp : List Addr), PV (bX X scope s H0 Ca cl fp) C elt ρ2 (g i))) : Turns X C scope own tg elt (tSem X scope c) ρ n f kp g :=
  ⟨hn, fun i hi => let ⟨js, ρ2, h1, h2, h3, h4⟩ := h i hi; ⟨js, ρ2, h1, h2, fun σ H0 H rs Q q s H00 Ca cl fp => h3 s H00 Ca cl fp σ H0 H rs Q q, h4⟩⟩

/-! ### blocks -/
def PBd (X : Cx) (C : Addr) (sts : List Stmt) (ρ : List Sl) (N : List Sl → Prop) (R : Wv → List Sl → Prop) : Prop := ∀ (σ : L2.St) (H0 H : Hp), RS X.K C H0 H σ ρ → ∀ D : Ends, (∀ (σ' : L2.St) (H' B : Hp) (ρ' : List Sl), Ex H0 B → Im H H' → RS X.K C B H' σ' ρ' → N ρ' → D.nx σ' H') →
  (∀ (v : V) (H' B : Hp) (w : Wv) (σ' : L2.St) (ρ' : List Sl), Ex H0 B → RS X.K C B H' σ' ρ' → RepW X.K C B H' v w → R w ρ' → D.rt v H') → ESs X sts σ H D
abbrev PBk (X : Cx) (C : Addr) (sts : List Stmt) (ρ : List Sl) (N : List Sl → Prop) (R : Wv → Prop) : Prop := PBd X C sts ρ N fun w _ => R w
section
variable {N : List Sl → Prop} {R : Wv → List Sl → Prop} {rest body els : List Stmt} {pos' : Pos} {z : Str}
theorem pb_nil (h : N ρ) : PBd X C [] ρ N R := fun σ H0 H rs D nx rt => ess_nil (nx σ H H0 ρ (Ex.refl H0) (Im.refl H) rs h)
theorem pb_ret (h : PV X C e ρ d) (hR : R (.im d) ρ) : PBd X C (.Return (some e) pos :: rest) ρ N R := fun σ H0 H rs D nx rt =>
  ess_cons (es (ps_ret (pe X e)) (h σ H0 H rs _ fun v H1 e1 r1 => rt v H1 H0 (.im d) σ ρ (Ex.refl H0) (rs.ex e1) r1 hR))
theorem pb_retL (h : PO X C e ρ ds) (hR : R (.ow ds) ρ) : PBd X C (.Return (some e) pos :: rest) ρ N R := fun σ H0 H rs D nx rt =>
  ess_cons (es (ps_ret (pe X e)) (h σ H0 H rs _ fun p xs H1 h0 e1 hp r1 => rt _ H1 H0 (.ow ds) σ ρ (Ex.refl H0) (rs.ex e1) ⟨p, xs, rfl, h0, hp, r1⟩ hR))
theorem pb_set (i : Nat) (hN : X.N.Nodup) (h : PV X C e ρ d) (k : PBd X C rest (ρ.set i (.im d)) N R) (hi : X.N[i]? = some z := by rfl) (hx : Loc X.env.scope z := by first | exact Or.inl rfl | exact Or.inr rfl) (hs : swapsWith e (some (.Name z pos')) pos.line X.env = pure false := by rfl)
    (hf : X.fn z = true ∨ X.env.scope.names.lookup z = some .local := by first | exact .inl rfl | exact .inr rfl) : PBd X C (.Assign [.Name z pos'] e pos :: rest) ρ N R := fun σ H0 H rs D nx rt =>
  ess_cons (es (ps_set hN hi hx (pe X e) hs hf) (h σ H0 H rs _ fun v H1 e1 r1 => k _ H0 H1 ((rs.ex e1).set r1) D (fun σ' H' B ρ' eB im => nx σ' H' B ρ' eB (e1.im.trans im)) rt))
theorem pb_setL (i : Nat) (hN : X.N.Nodup) (h : PL X C e ρ ds) (k : PBd X C rest (ρ.set i (.ow ds)) N R) (hi : X.N[i]? = some z := by rfl) (hx : Loc X.env.scope z := by first | exact Or.inl rfl | exact Or.inr rfl) (hs : swapsWith e (some (.Name z pos')) pos.line X.env = pure false := by rfl)
    (hf : X.fn z = true ∨ X.env.scope.names.lookup z = some .local := by first | exact .inl rfl | exact .inr rfl) : PBd X C (.Assign [.Name z pos'] e pos :: rest) ρ N R := fun σ H0 H rs D nx rt =>
  ess_cons (es (ps_set hN hi hx (pe X e) hs hf) (h σ H0 H rs _ fun p xs H1 hp e1 hl r1 => k _ H0 H1 (rs.setL hp e1 hl r1) D (fun σ' H' B ρ' eB im => nx σ' H' B ρ' eB (e1.im.trans im)) rt))
/-- y = [.. for ..] -/
theorem pb_setLc {tt : TT} {n : Nat} {f g : Nat → D} {kp : Nat → Bool} {cpos : Pos} (i : Nat) (hN : X.N.Nodup) (hi : PIc X C tg iter ρ n f) (ok : BlkOk X.N X.env.scope scope own) (T : Turns X C scope own tg elt tt ρ n f kp g)
    (ht : ∀ (s : Shared) (H : Hp) (Ca : Addr) (cl : List (Str × Addr)) (fp : List Addr), PTs (bX X scope s H Ca cl fp) ifs tt) (hds : kept kp g n = ds) (k : PBd X C rest (ρ.set i (.ow ds)) N R) (hy : X.N[i]? = some z := by rfl) (hyl : X.env.scope.names.lookup z = some .local := by rfl)
    (hsw : swapsWith (.ListComp elt [⟨tg, iter, ifs, 0⟩] scope cpos) (some (.Name z pos')) pos.line X.env = pure true := by exact sw_true rfl rfl rfl (by decide +kernel)) (hc : X.calm = true := by rfl) (hs : ∀ x, foldedSetIterable iter X.env x = pure x := by intro _; rfl) :
    PBd X C (.Assign [.Name z pos'] (.ListComp elt [⟨tg, iter, ifs, 0⟩] scope cpos) pos :: rest) ρ N R := fun σ H0 H rs D nx rt => by
  subst hds
  exact ess_cons (es (ps_setLc (own := own) hc hN hy hyl hsw (pi X tg iter) ok (gSem_ok scope tg) ht (eSem_ok scope elt) hs) (lc_turns hi T rs (Q := fun x H1 => ESs X rest (σ.set i (some x)) H1 D) (fun p xs H1 hp e1 hl r1 => k _ H0 H1 (rs.setL hp e1 hl r1) D (fun σ' H' B ρ' eB im => nx σ' H' B ρ' eB (e1.im.trans im)) rt) fun J H1 h => h))
theorem pb_asg (h : PV X C e ρ d) (hg : PTg X C tg js ρ d ρ1) (k : PBd X C rest ρ1 N R) (hs : swapsWithSole [tg] e pos.line X.env = pure false := by rfl) (hw : swappedStores [tg] e X.env = pure none := by rfl)
    (h1 : (assignEach [tg] X.env).map (·.2) = [assign tg X.env] := by rfl) : PBd X C (.Assign [tg] e pos :: rest) ρ N R := fun σ H0 H rs D nx rt =>
  ess_cons fun pins s I => by
    refine wpAny_Assign_stores (thn ((h σ H0 H rs (fun v H1 => Ex H H1 ∧ Rep X.K C H0 H1 v d) fun v H1 e1 r1 => ⟨e1, r1⟩) pins s I) fun u s1 ⟨v, H1, I1, rv, e1, r1⟩ => ?_) hs hw
    rw [h1]
    exact hg σ H0 H1 v (rs.ex e1) r1 pins s1 u _ I1 rv fun σ' rs' _ _ => k σ' H0 H1 rs' D (fun σ' H' B ρ' eB im => nx σ' H' B ρ' eB (e1.im.trans im)) rt
/-- a, b = x, y -/
theorem pb_par (i j : Nat) {zx zy : Str} {px py pt : Pos} {kt k2 : Nat} {pt2 : Pos} (hN : X.N.Nodup) (h : PVs X C [a, b] ρ [da, db]) (k : PBd X C rest ((ρ.set i (.im da)).set j (.im db)) N R) (hi : X.N[i]? = some zx := by rfl) (hj : X.N[j]? = some zy := by rfl) (hij : i ≠ j := by decide)
    (hx : X.env.scope.names.lookup zx = some .local := by rfl) (hy : X.env.scope.names.lookup zy = some .local := by rfl) (hw : swappedStores [.Tuple [.Name zx px, .Name zy py] kt pt] (.Tuple [a, b] k2 pt2) X.env = pure (some [zx, zy]) := by rfl)
    (hs : swapsWithSole [.Tuple [.Name zx px, .Name zy py] kt pt] (.Tuple [a, b] k2 pt2) pos.line X.env = pure false := by rfl) (hc : X.calm = true := by rfl) : PBd X C (.Assign [.Tuple [.Name zx px, .Name zy py] kt pt] (.Tuple [a, b] k2 pt2) pos :: rest) ρ N R := fun σ H0 H rs D nx rt =>
  ess_cons (es (ps_par hc hN hi hj hij hx hy (pa X [a, b]) hw hs) (h σ H0 H rs _ fun vs H1 e1 r1 => by
    obtain ⟨v, u, e2, r2, r3⟩ := reps2 r1
    exact ⟨v, u, e2, k _ H0 H1 (((rs.ex e1).set r2).set r3) D (fun σ' H' B ρ' eB im => nx σ' H' B ρ' eB (e1.im.trans im)) rt⟩))
/-- if -/
theorem pb_if {N1 : List Sl → Prop} (hc : PTt X C c ρ x) (h1 : x = true → PBd X C body ρ N1 R) (h2 : x = false → PBd X C els ρ N1 R) (k : ∀ ρ', N1 ρ' → PBd X C rest ρ' N R) : PBd X C (.If c body els pos :: rest) ρ N R := fun σ H0 H rs D nx rt =>
  ess_cons (es (ps_if (pt X c) (pss X body) (pss X els)) (hc σ H0 H rs _ fun H1 e1 => by
    cases x with
    | true =>
      refine iteT ?_
      exact h1 rfl σ H0 H1 (rs.ex e1) _ (fun σ' H' B ρ' eB im rs' n => k ρ' n σ' B H' rs' D (fun σ2 H2 B2 ρ2 eB2 im2 => nx σ2 H2 B2 ρ2 (eB.trans eB2) ((e1.im.trans im).trans im2)) fun v H2 B2 w σ2 ρ2 eB2 => rt v H2 B2 w σ2 ρ2 (eB.trans eB2)) rt
    | false =>
      refine iteF ?_
      exact h2 rfl σ H0 H1 (rs.ex e1) _ (fun σ' H' B ρ' eB im rs' n => k ρ' n σ' B H' rs' D (fun σ2 H2 B2 ρ2 eB2 im2 => nx σ2 H2 B2 ρ2 (eB.trans eB2) ((e1.im.trans im).trans im2)) fun v H2 B2 w σ2 ρ2 eB2 => rt v H2 B2 w σ2 ρ2 (eB.trans eB2)) rt))
/-- an if that is not gone into -/
theorem pb_ifF (hc : PTt X C c ρ false) (k : PBd X C rest ρ N R) : PBd X C (.If c body [] pos :: rest) ρ N R :=
  pb_if (N1 := fun ρ' => ρ' = ρ) hc (fun z => by cases z) (fun _ => pb_nil rfl) fun ρ' e => by rw [e]; exact k
end
end
end Bf

namespace Bf
open PySem PySem.Spec PyProof.Rows L2

section
variable {X : Cx} {C : Addr} {ρ ρ' ρ1 : List Sl} {e a b c tg elt iter : Expr} {es ts ifs : List Expr} {d da db : D} {ds : List D} {pos : Pos} {x y : Bool} {i j : Int} {js ks : List Nat} {scope : Scope} {own : List (Str × Nat)}
variable {N : List Sl → Prop} {R : Wv → List Sl → Prop} {rest body els : List Stmt} {pos' : Pos} {z : Str}
/-- a target, as it is -/
def gS (X : Cx) (tg : Expr) : TG := fun v σ H Q => ∀ (pins : List (Addr × Obj)) (s : Shared) (u : Value), Inv X pins σ H s → RelV v u → wpAny (model X.prog X.w) X.A (assign tg X.env u) (fun _ s' => ∃ σ' H', Inv X pins σ' H' s' ∧ Q σ' H') X.xe s
theorem gS_ok (X : Cx) (tg : Expr) : PG X tg (gS X tg) := ⟨fun pins s σ H v u Q I r h => h pins s u I r⟩
/-- for -/
theorem pb_for {n : Nat} {f : Nat → D} (hi : PIt X C tg iter ρ ρ1 n f) (Pv : Nat → List Sl → Prop) (h0 : Pv 0 ρ1) (hs : ∀ i ρ', i < n → Pv i ρ' → ∃ js ρ2, PTg X C tg js ρ' (f i) ρ2 ∧ PBd X C body ρ2 (Pv (i + 1)) R) (k : ∀ ρ', Pv n ρ' → PBd X C rest ρ' N R)
    (hp : PassesOwn (model X.prog X.w) X.A X.env X.xe := by exact PassesOwn.never) (hc : X.calm = true := by rfl) (hf : ∀ x, foldedSetIterable iter X.env x = pure x := by intro _; rfl) : PBd X C (.For tg iter body [] pos :: rest) ρ N R := fun σ H0 H rs D nx rt => by
  refine ess_cons (es (ps_for hp hc (pi X tg iter) (gS_ok X tg) (pss X body) hf) ?_)
  refine hi σ H0 H rs _ fun J H1 H2 G Y hw e1 e2 rs1 hG hY => ?_
  refine for_it (g := gS X tg) (tb := fun D σ H => ESs X body σ H D) (D := { D with nx := fun σ' H' => ESs X rest σ' H' D }) hw (fun i σ' H' => Im H1 H' ∧ ∃ B ρ', Ex H2 B ∧ RS X.K C B H' σ' ρ' ∧ Pv i ρ') ⟨Im.refl H1, H2, ρ1, Ex.refl H2, rs1, h0⟩ (fun i σ' H' _ p => ?_) (fun i v σ' Ha Hb hlt p y => ?_) fun σ' H' p => ?_
  · obtain ⟨im, B, ρ', eB, rs', _⟩ := p
    exact hG H' (eB.trans rs'.base) im
  · obtain ⟨im, B, ρ', eB, rs', pv⟩ := p
    obtain ⟨eb, rv⟩ := hY i Ha v Hb hlt (eB.trans rs'.base) im y
    obtain ⟨js, ρ2, htg, hb⟩ := hs i ρ' hlt pv
    intro pins s u I ru
    refine htg σ' B Hb v (rs'.ex eb) (Rep.gr eB _ _ rv) pins s u _ I ru fun σ2 rs2 _ _ => ?_
    exact hb σ2 B Hb rs2 _ (fun σ3 H3 B3 ρ3 eB3 im3 rs3 p3 => ⟨(im.trans eb.im).trans im3, B3, ρ3, eB.trans eB3, rs3, p3⟩) fun v H3 B3 w σ3 ρ3 eB3 => rt v H3 B3 w σ3 ρ3 ((e2.trans eB).trans eB3)
  · obtain ⟨im, B, ρ', eB, rs', pv⟩ := p
    exact k ρ' pv σ' B H' rs' D (fun σ3 H3 B3 ρ3 eB3 im3 => nx σ3 H3 B3 ρ3 ((e2.trans eB).trans eB3) ((e1.im.trans im).trans im3)) fun v H3 B3 w σ3 ρ3 eB3 => rt v H3 B3 w σ3 ρ3 ((e2.trans eB).trans eB3)
theorem pb_mono {N' : List Sl → Prop} {R' : Wv → List Sl → Prop} {sts : List Stmt} (h : PBd X C sts ρ N R) (hn : ∀ ρ', N ρ' → N' ρ') (hR : ∀ w ρ', R w ρ' → R' w ρ') : PBd X C sts ρ N' R' := fun σ H0 H rs D nx rt =>
  h σ H0 H rs D (fun σ' H' B ρ' eB im rs' n => nx σ' H' B ρ' eB im rs' (hn ρ' n)) fun v H' B w σ' ρ' eB rs' r q => rt v H' B w σ' ρ' eB rs' r (hR w ρ' q)
/-- if c: .. return -/
theorem pb_ifR (hc : PTt X C c ρ x) (h1 : x = true → PBd X C body ρ (fun _ => False) R) (h2 : x = false → PBd X C rest ρ N R) : PBd X C (.If c body [] pos :: rest) ρ N R :=
  pb_if (N1 := fun ρ' => x = false ∧ ρ' = ρ) hc (fun hx => pb_mono (h1 hx) (fun _ z => z.elim) fun _ _ z => z) (fun hx => pb_nil ⟨hx, rfl⟩) fun ρ' q => by
    obtain ⟨hx, rfl⟩ := q
    exact h2 hx
/-- x.append(e), x a slot's list -/
theorem pb_append (k : Nat) {apos cpos p2 : Pos} (hd : ρ[k]? = some (Sl.ow ds)) (hl : ds.length ≤ 1000) (h : PV X C e ρ d) (hk : PBd X C rest (ρ.set k (.ow (ds ++ [d]))) N R) (hN : X.N[k]? = some z := by rfl) (hv : Vis X.env.scope z := by first | exact Or.inl rfl | exact Or.inr (Or.inl rfl))
    (h1 : (z == ("__debug__" : Str)) = false := by decide) (h2 : (z == ("__classdict__" : Str)) = false := by decide)
    (hpe : PE X (.Call (.Attribute (.Name z p2) "append" apos) [e] [] cpos) (tBM X.K "list" rAppend (tVar k) (tCons (EE X e) tNil)) := by exact pe_bm PySem.F.plainAttrs_list PySem.F.slot_list_append PySem.F.type_list_append mt_append (pv _) (pa_cons (pe _ _) pa_nil))
    (hsw : swapsWith (.Call (.Attribute (.Name z p2) "append" apos) [e] [] cpos) none pos.line X.env = pure false := by rfl) : PBd X C (.Expr (.Call (.Attribute (.Name z p2) "append" apos) [e] [] cpos) pos :: rest) ρ N R := fun σ H0 H rs D nx rt => by
  obtain ⟨p, xs, hs, h0, hp, hx⟩ := rs.ow k ds hd
  refine ess_cons (es (ps_expr hpe hsw) ⟨.ref p, hs, .inl ⟨rfl, _, SqL.of hp⟩, ?_⟩)
  refine h σ H0 H rs _ fun v H1 e1 r1 => ?_
  have hp1 := e1 _ _ hp
  refine ⟨p, xs, v, rfl, rfl, hp1, ?_, ?_⟩
  · rw [hx.length]
    exact small1000 hl
  · have rs1 := (rs.ex e1).mut hd hs hp1 ((hx.ex e1).append (.one r1))
    exact hk _ H0 _ rs1 D (fun σ' H' B ρ' eB im => nx σ' H' B ρ' eB ((e1.im.trans (Im.upd hp1 rfl)).trans im)) rt

/-! ### slices, sums of tuples, of lists -/
theorem pv_cat (ha : PV X C a ρ (.tup ds)) {es : List D} (hb : PV X C b ρ (.tup es)) (hl : ds.length + es.length ≤ 1000) : PV X C (.BinOp a .Add b pos) ρ (.tup (ds ++ es)) :=
  pv_op op_catA ha hb fun v u H Q r1 r2 q => by
    obtain ⟨t, xs, e1, h1, g1⟩ := r1.tup_inv
    obtain ⟨t2, ys, e2, h2, g2⟩ := r2.tup_inv
    subst e1 e2
    refine ⟨t, t2, xs, ys, rfl, rfl, h1, h2, by rw [g1.length, g2.length]; exact small' hl, fun hx => ?_, fun _ hy => ?_, fun _ _ p hp => ?_⟩
    · subst hx
      have : ds = [] := List.eq_nil_of_length_eq_zero (by rw [← g1.length]; rfl)
      subst this
      exact q _ H (Ex.refl H) (.tup h2 g2)
    · subst hy
      have : es = [] := List.eq_nil_of_length_eq_zero (by rw [← g2.length]; rfl)
      subst this
      rw [List.append_nil] at q
      exact q _ H (Ex.refl H) (.tup h1 g1)
    · exact q _ _ (Ex.new hp) (.tup (SqT.of upd_same) ((g1.append g2).ex (Ex.new hp)))
theorem cut_rep {K : PySem.W.Frag} {B H : Hp} {xs : List V} {lo hi : Option Int} (r : Reps K C B H xs ds) : Reps K C B H (cutV xs lo hi) ((ds.drop (HT.sIx ds.length 0 lo)).take (HT.sIx ds.length ds.length hi - HT.sIx ds.length 0 lo)) := by
  unfold cutV
  rw [r.length]
  exact (r.drop _).take _
/-- an end of a slice -/
def PO1 (X : Cx) (C : Addr) (o : Option Expr) (ρ : List Sl) (k : Option Int) : Prop := match o, k with
  | none, none => True
  | some e, some k => PV X C e ρ (.int k)
  | _, _ => False
theorem pv_sliceT {lo hi : Option Expr} {p2 : Pos} {kl kh : Option Int} (ha : PV X C a ρ (.tup ds)) (hl : PO1 X C lo ρ kl) (hh : PO1 X C hi ρ kh) : PV X C (.Subscript a (.Slice lo hi none p2) pos) ρ (.tup ((ds.drop (HT.sIx ds.length 0 kl)).take (HT.sIx ds.length ds.length kh - HT.sIx ds.length 0 kl))) := fun σ H0 H rs Q q => by
  have fin : ∀ v H1, Ex H H1 → Rep X.K C H0 H1 v (.tup ds) → rSlA X.K v kl kh H1 Q := fun v H1 e1 r1 => by
    obtain ⟨t, xs, e2, h1, g1⟩ := r1.tup_inv
    subst e2
    refine ⟨t, xs, rfl, h1, fun hw => ?_, fun _ p hp => ?_⟩
    · refine q _ H1 e1 (.tup h1 ?_)
      rw [g1.length] at hw
      rw [hw.1, hw.2]
      have : (List.drop 0 ds).take (ds.length - 0) = ds := by simp
      rw [this]
      exact g1
    · exact q _ _ (e1.trans (Ex.new hp)) (.tup (SqT.of upd_same) ((cut_rep g1).ex (Ex.new hp)))
  cases lo with
  | none =>
    cases kl with
    | none =>
      cases hi with
      | none =>
        cases kh with
        | none => exact ee (pe_slice sl_tupA (pe X a) po_none po_none) (ha σ H0 H rs _ fun v H1 e1 r1 => fin v H1 e1 r1)
        | some k => exact hh.elim
      | some eh =>
        cases kh with
        | none => exact hh.elim
        | some k => exact ee (pe_slice sl_tupA (pe X a) po_none (po_some (pe X eh))) (ha σ H0 H rs _ fun v H1 e1 r1 => hh σ H0 H1 (rs.ex e1) _ fun u H2 e2 r2 => ⟨k, r2.int_inv, fin v H2 (e1.trans e2) (r1.ex e2)⟩)
    | some k => exact hl.elim
  | some el =>
    cases kl with
    | none => exact hl.elim
    | some k =>
      cases hi with
      | none =>
        cases kh with
        | none => exact ee (pe_slice sl_tupA (pe X a) (po_some (pe X el)) po_none) (ha σ H0 H rs _ fun v H1 e1 r1 => hl σ H0 H1 (rs.ex e1) _ fun u H2 e2 r2 => ⟨k, r2.int_inv, fin v H2 (e1.trans e2) (r1.ex e2)⟩)
        | some k => exact hh.elim
      | some eh =>
        cases kh with
        | none => exact hh.elim
        | some k2 => exact ee (pe_slice sl_tupA (pe X a) (po_some (pe X el)) (po_some (pe X eh))) (ha σ H0 H rs _ fun v H1 e1 r1 => hl σ H0 H1 (rs.ex e1) _ fun u H2 e2 r2 => ⟨k, r2.int_inv, hh σ H0 H2 (rs.ex (e1.trans e2)) _ fun u3 H3 e3 r3 => ⟨k2, r3.int_inv, fin v H3 ((e1.trans e2).trans e3) ((r1.ex e2).ex e3)⟩⟩)
/-- t[1:] -/
theorem pv_tail {p2 : Pos} {k} {p3 : Pos} (ha : PV X C a ρ (.tup (d :: ds))) : PV X C (.Subscript a (.Slice (some (.Constant (.int 1) k p3)) none none p2) pos) ρ (.tup ds) :=
  (pv_sliceT (kl := some 1) (kh := none) ha (show PO1 X C (some _) ρ (some 1) from pv_int (i := 1)) (show PO1 X C none ρ none from trivial)).is (by
    have e1 : HT.sIx (d :: ds).length 0 (some 1) = 1 := by
      show HT.sIx (d :: ds).length 0 (some ((1 : Nat) : Int)) = 1
      rw [HT.sIx_nat]
      simp
    have e2 : HT.sIx (d :: ds).length (d :: ds).length none = (d :: ds).length := rfl
    rw [e1, e2]
    simp)

/-! ### calls of the text's own -/
/-- a promise: arguments by y, data back; a new list back -/
def spF {α : Type} (K : PySem.W.Frag) (C : Addr) (arg : α → List D) (pre : α → Prop) (res : α → D) : Sp := fun vs H Q _ => ∃ y : α, Reps K C H H vs (arg y) ∧ pre y ∧ ∀ (v : V) (H' : Hp), Ex H H' → (∀ B, Rep K C B H' v (res y)) → Q v H'
def spL {α : Type} (K : PySem.W.Frag) (C : Addr) (arg : α → List D) (pre : α → Prop) (res : α → List D) : Sp := fun vs H Q _ => ∃ y : α, Reps K C H H vs (arg y) ∧ pre y ∧ ∀ (p : Addr) (xs : List V) (H' : Hp), H p = none → Ex H H' → H' p = some (.lst xs) → (∀ B, Reps K C B H' xs (res y)) → Q (.ref p) H'
/-- a def of the module, with its promise -/
structure GFn (P : Program) (w : World) (K : PySem.W.Frag) (mg : Str → Option Value) (base : Heap) (x : Str) (k : Nat) (sp : Sp) : Prop where
  ex : ∃ (f : Addr) (fd : FuncData) (ps : List Str), FnOk P w K mg base CX0 k f fd ps sp ∧ mg x = some (.ref f) ∧ PySem.W.keepIn K (.ref f) = true ∧ Binds K fd ps []
theorem pe_g {k : Nat} {sp : Sp} {t : TA} {p : Pos} {z : Str} (G : GFn X.prog X.w X.K X.mg X.base z k sp) (hr : Room k X.A) (ha : PA X (e :: es) t) (hg : Gl X z := by rfl) (hdb : (z == ("__debug__" : Str)) = false := by decide)
    (he : starEach (e :: es) X.env = (false, eval e X.env) :: starEach es X.env := by rfl) (hpl : (backTo pos (starEach es X.env)).any (·.1) = false := by rfl) : PE X (.Call (.Name z p) (e :: es) [] pos) (tCall sp [] E0 t) := by
  obtain ⟨f, fd, ps, F, hm, hk, hb⟩ := G.ex
  exact pe_call F hr hg hm hk hb .nil pass0 ha hdb he hpl
theorem pv_call {α : Type} {arg : α → List D} {pre : α → Prop} {res : α → D} {k : Nat} {p : Pos} {z : Str} (G : GFn X.prog X.w X.K X.mg X.base z k (spF X.K C arg pre res)) (hr : Room k X.A) (y : α) (hp : pre y) (ha : PVs X C (e :: es) ρ (arg y)) (hg : Gl X z := by rfl) (hdb : (z == ("__debug__" : Str)) = false := by decide)
    (he : starEach (e :: es) X.env = (false, eval e X.env) :: starEach es X.env := by rfl) (hpl : (backTo pos (starEach es X.env)).any (·.1) = false := by rfl) : PV X C (.Call (.Name z p) (e :: es) [] pos) ρ (res y) := fun σ H0 H rs Q q =>
  ee (pe_g G hr (pa X (e :: es)) hg hdb he hpl) (ha σ H0 H rs _ fun vs H1 e1 r1 => by
    show spF X.K C arg pre res (vs ++ []) H1 Q E0
    rw [List.append_nil]
    exact ⟨y, Reps.gr (rs.base.trans e1) _ _ r1, hp, fun v H2 e2 r2 => q v H2 (e1.trans e2) (r2 _)⟩)
theorem pl_call {α : Type} {arg : α → List D} {pre : α → Prop} {res : α → List D} {k : Nat} {p : Pos} {z : Str} (G : GFn X.prog X.w X.K X.mg X.base z k (spL X.K C arg pre res)) (hr : Room k X.A) (y : α) (hp : pre y) (ha : PVs X C (e :: es) ρ (arg y)) (hg : Gl X z := by rfl) (hdb : (z == ("__debug__" : Str)) = false := by decide)
    (he : starEach (e :: es) X.env = (false, eval e X.env) :: starEach es X.env := by rfl) (hpl : (backTo pos (starEach es X.env)).any (·.1) = false := by rfl) : PL X C (.Call (.Name z p) (e :: es) [] pos) ρ (res y) := fun σ H0 H rs Q q =>
  ee (pe_g G hr (pa X (e :: es)) hg hdb he hpl) (ha σ H0 H rs _ fun vs H1 e1 r1 => by
    show spL X.K C arg pre res (vs ++ []) H1 Q E0
    rw [List.append_nil]
    exact ⟨y, Reps.gr (rs.base.trans e1) _ _ r1, hp, fun p xs H2 h0 e2 hl r2 => q p xs H2 (e1.free h0) (e1.trans e2) hl (r2 _)⟩)
end

/-! ### a def keeps its promise -/
/-- the context of a def's body -/
abbrev fX (P : Program) (w : World) (K : PySem.W.Frag) (mg : Str → Option Value) (base : Heap) (N : List Str) (qual : Str) (st : Stmt) (f : Addr) (cdv : Value) (A : Around) (outer : List Env) (s : Shared) (H : Hp) (E : XK) : Cx := (cxOf CX0 P w K mg base N qual (defScope st) f cdv A outer s H E).nox
def start' (N : List Str) (ds : List D) : List Sl := ds.map Sl.im ++ List.replicate (N.length - ds.length) Sl.un
theorem rs_start {K : PySem.W.Frag} {C : Addr} {H : Hp} {N : List Str} {vs : List V} {ds : List D} (r : Reps K C H H vs ds) : RS K C H H (L2.start N vs) (start' N ds) := by
  have hl := r.length
  refine ⟨Ex.refl H, by unfold L2.start start'; simp [hl], fun i d hi => ?_, fun i es hi => ?_, fun i j es fs p _ hi => ?_, fun i O hi => ?_, fun i j O U p _ hi => ?_⟩
  · unfold start' at hi
    rw [List.getElem?_append] at hi
    split at hi
    · rename_i hlt
      rw [List.getElem?_map] at hi
      cases hd : ds[i]? with
      | none => rw [hd] at hi; cases hi
      | some d' =>
        rw [hd] at hi
        cases hi
        obtain ⟨v, hv, rv⟩ := r.get hd
        refine ⟨v, ?_, rv⟩
        unfold L2.start
        have hvl := (List.getElem?_eq_some_iff.mp hv).1
        rw [List.getElem?_append_left (by simpa using hvl), List.getElem?_map, hv]
        rfl
    · rw [List.getElem?_replicate] at hi
      split at hi <;> cases hi
  · unfold start' at hi
    rw [List.getElem?_append] at hi
    split at hi
    · rw [List.getElem?_map] at hi
      cases hd : ds[i]? with
      | none => rw [hd] at hi; cases hi
      | some d' => rw [hd] at hi; cases hi
    · rw [List.getElem?_replicate] at hi
      split at hi <;> cases hi
  · unfold start' at hi
    rw [List.getElem?_append] at hi
    split at hi
    · rw [List.getElem?_map] at hi
      cases hd : ds[i]? with
      | none => rw [hd] at hi; cases hi
      | some d' => rw [hd] at hi; cases hi
    · rw [List.getElem?_replicate] at hi
      split at hi <;> cases hi
  · unfold start' at hi
    rw [List.getElem?_append] at hi
    split at hi
    · rw [List.getElem?_map] at hi
      cases hd : ds[i]? with
      | none => rw [hd] at hi; cases hi
      | some d' => rw [hd] at hi; cases hi
    · rw [List.getElem?_replicate] at hi
      split at hi <;> cases hi
  · unfold start' at hi
    rw [List.getElem?_append] at hi
    split at hi
    · rw [List.getElem?_map] at hi
      cases hd : ds[i]? with
      | none => rw [hd] at hi; cases hi
      | some d' => rw [hd] at hi; cases hi
    · rw [List.getElem?_replicate] at hi
      split at hi <;> cases hi
section
variable {P : Program} {w : World} {K : PySem.W.Frag} {mg : Str → Option Value} {base : Heap} {C : Addr}
theorem okF {α : Type} {arg : α → List D} {pre : α → Prop} {res : α → D} {x qual : Str} {st : Stmt} {f : Addr} {fd : FuncData} {N ps : List Str} {k : Nat} (F : Fun K x qual st f fd) (S : FnScope N ps (defScope st)) (hlen : ∀ y, (arg y).length = ps.length)
    (body : ∀ (y : α), pre y → ∀ (cdv : Value) (A : Around) (outer : List Env) (s : Shared) (H : Hp) (E : XK), Room k (A.deeper (envOfC qual (defScope st) s.heap.objs.size f cdv)) → PBk (fX P w K mg base N qual st f cdv A outer s H E) C (defBody st) (start' N (arg y)) (fun _ => False) (fun w => w = .im (res y))) (hflat : ∀ y, (res y).flat = true := by intro _; rfl) :
    FnOk P w K mg base CX0 (k + 1) f fd ps (spF K C arg pre res) := by
  refine F.ok S (fun vs H Q E h => ?_) (fun cdv A outer s H vs Q E hr h => ?_)
  · obtain ⟨y, r, _⟩ := h
    rw [r.length, hlen]
  · obtain ⟨y, r, hp, q⟩ := h
    refine ⟨_, pss _ (defBody st), ?_⟩
    exact body y hp cdv A outer s H E hr _ H H (rs_start r) _ (fun _ _ _ _ _ _ _ z => z.elim) fun v H' B w σ' ρ' eB rs' rw' hw => by
      have hw : w = .im (res y) := hw
      subst hw
      exact q v H' (eB.trans rs'.base) fun B' => Rep.fl _ _ (hflat y) rw'
theorem okL {α : Type} {arg : α → List D} {pre : α → Prop} {res : α → List D} {x qual : Str} {st : Stmt} {f : Addr} {fd : FuncData} {N ps : List Str} {k : Nat} (F : Fun K x qual st f fd) (S : FnScope N ps (defScope st)) (hlen : ∀ y, (arg y).length = ps.length)
    (body : ∀ (y : α), pre y → ∀ (cdv : Value) (A : Around) (outer : List Env) (s : Shared) (H : Hp) (E : XK), Room k (A.deeper (envOfC qual (defScope st) s.heap.objs.size f cdv)) → PBk (fX P w K mg base N qual st f cdv A outer s H E) C (defBody st) (start' N (arg y)) (fun _ => False) (fun w => w = .ow (res y))) (hflat : ∀ y, D.flats (res y) = true := by intro _; rfl) :
    FnOk P w K mg base CX0 (k + 1) f fd ps (spL K C arg pre res) := by
  refine F.ok S (fun vs H Q E h => ?_) (fun cdv A outer s H vs Q E hr h => ?_)
  · obtain ⟨y, r, _⟩ := h
    rw [r.length, hlen]
  · obtain ⟨y, r, hp, q⟩ := h
    refine ⟨_, pss _ (defBody st), ?_⟩
    exact body y hp cdv A outer s H E hr _ H H (rs_start r) _ (fun _ _ _ _ _ _ _ z => z.elim) fun v H' B w σ' ρ' eB rs' rw' hw => by
      have hw : w = .ow (res y) := hw
      subst hw
      obtain ⟨p, xs, h1, h2, h3, h4⟩ := rw'
      subst h1
      exact q p xs H' (eB.free h2) (eB.trans rs'.base) h3 fun B' => Reps.fl _ _ (hflat y) h4
end
end Bf

/-! The text by places, and what the top has written. -/
namespace Bf
open PySem PySem.Spec PyProof.Rows L2
def topS (i : Nat) : Stmt := PySem.Challenge.pw_beamframes_k08_whole_nearest.main.body.getD i (.Pass ⟨0, 0, 0, 0⟩)
abbrev s_is_integer : Stmt := topS 8
abbrev s_is_whole : Stmt := topS 9
abbrev s_shared_by : Stmt := topS 10
abbrev s_R_init : Stmt := inClass (topS 12) 0
abbrev s_R_num : Stmt := inClass (topS 12) 2
abbrev s_R_den : Stmt := inClass (topS 12) 3
abbrev s_R_eq : Stmt := inClass (topS 12) 6
abbrev s_is_at_most : Stmt := topS 13
abbrev s_is_lesser : Stmt := topS 14
abbrev s_is_duration : Stmt := topS 20
abbrev s_are_durations : Stmt := topS 21
abbrev s_wrong_part : Stmt := topS 22
abbrev s_need_table : Stmt := topS 23
abbrev s_bits_of : Stmt := topS 24
abbrev s_begin_in : Stmt := topS 30
abbrev s_is_end_in : Stmt := topS 31
abbrev s_settle : Stmt := topS 32
abbrev s_steps_in : Stmt := topS 33
abbrev s_need_burst : Stmt := topS 36
abbrev s_off_parts : Stmt := topS 37
abbrev s_is_off : Stmt := topS 38
abbrev s_ends_left : Stmt := topS 39
abbrev s_least_word : Stmt := topS 40
abbrev s_least_tolerance : Stmt := topS 41
abbrev s_nearest : Stmt := topS 42
abbrev s_law_begin : Stmt := topS 44
abbrev s_law_next : Stmt := topS 45
abbrev s_law_pick : Stmt := topS 46
abbrev s_law_size : Stmt := topS 47
abbrev s_law_table : Stmt := topS 48
abbrev s_law_like : Stmt := topS 49
abbrev s_law_words : Stmt := topS 50
abbrev s_law_frame : Stmt := topS 51
abbrev s_law_off : Stmt := topS 52
abbrev s_law_is_less : Stmt := topS 53
abbrev s_law_farthest : Stmt := topS 54
abbrev s_law_moved : Stmt := topS 57
abbrev s_law_due : Stmt := topS 58
abbrev s_law_burst : Stmt := topS 59
abbrev s_law : Stmt := topS 60

/-- a def of the module, where it stands -/
structure DefAt (K : PySem.W.Frag) (mg : Str → Option Value) (x : Str) (st : Stmt) : Prop where
  ex : ∃ (f : Addr) (fd : FuncData), Fun K x x st f fd ∧ mg x = some (.ref f)
/-- how a def's arguments bind -/
def BindsOk (x : Str) (st : Stmt) (ps : List Str) : Prop := ∀ (kV doc pm : Value) (an : Option Addr) (cdv ct : Value) (us : List Value), us.length = ps.length → bindArgs (PySem.W.fnOf x x (defArgs st) (defBody st) (defScope st) .none kV doc pm an cdv ct) ⟨us, []⟩ = pure (ps.zip us)
section
variable {P : Program} {w : World} {K : PySem.W.Frag} {mg : Str → Option Value} {base : Heap} {C : Addr}
theorem gF {α : Type} {arg : α → List D} {pre : α → Prop} {res : α → D} {x : Str} {st : Stmt} {N ps : List Str} {k : Nat} (T : DefAt K mg x st) (S : FnScope N ps (defScope st)) (hlen : ∀ y, (arg y).length = ps.length) (hb : BindsOk x st ps)
    (body : ∀ (f : Addr) (y : α), pre y → ∀ (cdv : Value) (A : Around) (outer : List Env) (s : Shared) (H : Hp) (E : XK), Room k (A.deeper (envOfC x (defScope st) s.heap.objs.size f cdv)) → PBk (fX P w K mg base N x st f cdv A outer s H E) C (defBody st) (start' N (arg y)) (fun _ => False) (fun w => w = .im (res y))) (hflat : ∀ y, (res y).flat = true := by intro _; rfl) :
    GFn P w K mg base x (k + 1) (spF K C arg pre res) := by
  obtain ⟨f, fd, F, hm⟩ := T.ex
  exact ⟨f, fd, ps, okF F S hlen (body f) hflat, hm, F.kp, F.binds hb⟩
theorem gL {α : Type} {arg : α → List D} {pre : α → Prop} {res : α → List D} {x : Str} {st : Stmt} {N ps : List Str} {k : Nat} (T : DefAt K mg x st) (S : FnScope N ps (defScope st)) (hlen : ∀ y, (arg y).length = ps.length) (hb : BindsOk x st ps)
    (body : ∀ (f : Addr) (y : α), pre y → ∀ (cdv : Value) (A : Around) (outer : List Env) (s : Shared) (H : Hp) (E : XK), Room k (A.deeper (envOfC x (defScope st) s.heap.objs.size f cdv)) → PBk (fX P w K mg base N x st f cdv A outer s H E) C (defBody st) (start' N (arg y)) (fun _ => False) (fun w => w = .ow (res y))) (hflat : ∀ y, D.flats (res y) = true := by intro _; rfl) :
    GFn P w K mg base x (k + 1) (spL K C arg pre res) := by
  obtain ⟨f, fd, F, hm⟩ := T.ex
  exact ⟨f, fd, ps, okL F S hlen (body f) hflat, hm, F.kp, F.binds hb⟩
end
end Bf

namespace Bf
open PySem PySem.Spec PyProof.Rows L2

/-! ### while -/
section
variable {X : Cx} {C : Addr} {ρ ρ' ρ1 : List Sl} {e a b c tg elt iter : Expr} {es ts ifs : List Expr} {d da db : D} {ds : List D} {pos : Pos} {x y : Bool} {i j : Int} {js ks : List Nat} {scope : Scope} {own : List (Str × Nat)}
variable {N : List Sl → Prop} {R : Wv → List Sl → Prop} {rest body els : List Stmt} {pos' : Pos} {z : Str}
theorem pb_while (Wv' : Nat → List Sl → Prop) (m0 : Nat) (h0 : Wv' m0 ρ) (hs : ∀ m ρ', Wv' m ρ' → ∃ x, PTt X C c ρ' x ∧ (x = true → PBd X C body ρ' (fun ρ2 => ∃ m', m' < m ∧ Wv' m' ρ2) R) ∧ (x = false → PBd X C rest ρ' N R))
    (hp : PassesOwn (model X.prog X.w) X.A X.env X.xe := by exact PassesOwn.never) : PBd X C (.While c body [] pos :: rest) ρ N R := fun σ H0 H rs D nx rt => by
  refine ess_cons (es (ps_while hp (pt X c) (pss X body)) ?_)
  refine ⟨fun m σ' H' => Im H H' ∧ ∃ B ρ', Ex H0 B ∧ RS X.K C B H' σ' ρ' ∧ Wv' m ρ', ⟨m0, Im.refl H, H0, ρ, Ex.refl H0, rs, h0⟩, fun m σ' H' p => ?_⟩
  obtain ⟨im, B, ρ', eB, rs', hw⟩ := p
  obtain ⟨x, hc, h1, h2⟩ := hs m ρ' hw
  refine hc σ' B H' rs' _ fun H1 e1 => ?_
  cases x with
  | true =>
    refine iteT ?_
    refine ⟨fun σ2 H2 => ∃ m', m' < m ∧ (Im H H2 ∧ ∃ B2 ρ2, Ex H0 B2 ∧ RS X.K C B2 H2 σ2 ρ2 ∧ Wv' m' ρ2), fun σ2 H2 q => q, ?_⟩
    exact h1 rfl σ' B H1 (rs'.ex e1) _ (fun σ2 H2 B2 ρ2 eB2 im2 rs2 q => let ⟨m', hm, hw'⟩ := q; ⟨m', hm, (im.trans e1.im).trans im2, B2, ρ2, eB.trans eB2, rs2, hw'⟩) fun v H2 B2 w σ2 ρ2 eB2 => rt v H2 B2 w σ2 ρ2 (eB.trans eB2)
  | false =>
    refine iteF ?_
    exact h2 rfl σ' B H1 (rs'.ex e1) D (fun σ2 H2 B2 ρ2 eB2 im2 => nx σ2 H2 B2 ρ2 (eB.trans eB2) ((im.trans e1.im).trans im2)) fun v H2 B2 w σ2 ρ2 eB2 => rt v H2 B2 w σ2 ρ2 (eB.trans eB2)

/-! ### == of data at any depth -/
mutual
def D.py : D → PyData
  | .non => .none
  | .bl b => .bool b
  | .int i => .int i
  | .str x => .str x
  | .tup ds => .tuple (D.pys ds)
  | .rat _ _ => .none
  | .lst ds => .list (D.pys ds)
def D.pys : List D → List PyData
  | [] => []
  | d :: ds => D.py d :: D.pys ds
end
mutual
def D.plain : D → Bool
  | .rat _ _ => false
  | .lst _ => false
  | .tup ds => D.plains ds
  | _ => true
def D.plains : List D → Bool
  | [] => true
  | d :: ds => D.plain d && D.plains ds
end
mutual
theorem rep_dp {K : PySem.W.Frag} {B H : Hp} : ∀ (d : D) (v : V), Rep K C B H v d → d.plain = true → Dp K H v d.py
  | .non, _, h, _ => by cases h; exact .non
  | .bl b, _, h, _ => by cases h; exact .bl b
  | .int i, _, h, _ => by cases h; exact .int i
  | .str x, _, h, _ => by cases h; exact .str x
  | .tup ds, _, h, p => by
    cases h with
    | tup h1 h2 => exact .tup h1 (reps_dp ds _ h2 p)
  | .rat n d, _, _, p => by cases p
  | .lst ds, _, _, p => by cases p
theorem reps_dp {K : PySem.W.Frag} {B H : Hp} : ∀ (ds : List D) (vs : List V), Reps K C B H vs ds → D.plains ds = true → DpAll K H vs (D.pys ds)
  | [], _, h, _ => by cases h; exact .nil
  | d :: ds, _, h, p => by
    cases h with
    | cons h1 h2 =>
      obtain ⟨p1, p2⟩ := Bool.and_eq_true_iff.mp p
      exact .cons (rep_dp d _ h1 p1) (reps_dp ds _ h2 p2)
end
/-- data that may be compared -/
structure Cmp (d : D) : Prop where
  plain : d.plain = true
  shaped : SeqAt.shaped d.py = true
theorem pv_eqD (hu : X.A.units + 64 < cLine) (ha : PV X C a ρ da) (hb : PV X C b ρ db) (h1 : Cmp da) (h2 : Cmp db) : PV X C (.Compare a [.Eq] [b] pos) ρ (.bl (PyData.eqv da.py db.py)) :=
  pv_cmp2 (op_eqD hu) (nomark _) ha hb fun v u H Q r1 r2 q => ⟨da.py, db.py, rep_dp _ _ r1 h1.plain, rep_dp _ _ r2 h2.plain, h1.shaped, h2.shaped, q H (Ex.refl H)⟩
theorem pt_eqD (hu : X.A.units + 64 < cLine) (ha : PV X C a ρ da) (hb : PV X C b ρ db) (h1 : Cmp da) (h2 : Cmp db) : PTt X C (.Compare a [.Eq] [b] pos) ρ (PyData.eqv da.py db.py) :=
  pt_cmp2 (op_eqD hu) (nomark _) ha hb fun v u H Q r1 r2 q => ⟨da.py, db.py, rep_dp _ _ r1 h1.plain, rep_dp _ _ r2 h2.plain, h1.shaped, h2.shaped, q H (Ex.refl H)⟩
theorem pv_neD (hu : X.A.units + 64 < cLine) (ha : PV X C a ρ da) (hb : PV X C b ρ db) (h1 : Cmp da) (h2 : Cmp db) : PV X C (.Compare a [.NotEq] [b] pos) ρ (.bl (!PyData.eqv da.py db.py)) :=
  pv_cmp2 (op_neD hu) (nomark _) ha hb fun v u H Q r1 r2 q => ⟨da.py, db.py, rep_dp _ _ r1 h1.plain, rep_dp _ _ r2 h2.plain, h1.shaped, h2.shaped, q H (Ex.refl H)⟩
theorem pt_neD (hu : X.A.units + 64 < cLine) (ha : PV X C a ρ da) (hb : PV X C b ρ db) (h1 : Cmp da) (h2 : Cmp db) : PTt X C (.Compare a [.NotEq] [b] pos) ρ (!PyData.eqv da.py db.py) :=
  pt_cmp2 (op_neD hu) (nomark _) ha hb fun v u H Q r1 r2 q => ⟨da.py, db.py, rep_dp _ _ r1 h1.plain, rep_dp _ _ r2 h2.plain, h1.shaped, h2.shaped, q H (Ex.refl H)⟩
theorem dp_list {K : PySem.W.Frag} {B H : Hp} {p : Addr} {xs : List V} (h : SqL K H p xs) (r : Reps K C B H xs ds) (hp : D.plains ds = true) : Dp K H (.ref p) (.list (D.pys ds)) := .lst h (reps_dp ds xs r hp)
/-- d in l, d not in l -/
theorem pt_inL (hu : X.A.units + 65 < cLine) (ha : PV X C a ρ d) (hb : PR X C b ρ ds) (h1 : Cmp d) (h2 : D.plains ds = true) (h3 : SeqAt.shaped (.list (D.pys ds)) = true) (hm : behindInMarks .In b = false := by rfl) : PTt X C (.Compare a [.In] [b] pos) ρ ((D.pys ds).any fun z => PyData.eqv z d.py) := fun σ H0 H rs Q q =>
  et (pt_cmpR (op_inD hu) (pe X a) (pe X b) hm) (ha σ H0 H rs _ fun v H1 e1 r1 => hb σ H0 H1 (rs.ex e1) _ fun p xs H2 e2 hp r2 => ⟨d.py, D.pys ds, rep_dp _ _ (r1.ex e2) h1.plain, dp_list hp r2 h2, h1.shaped, h3, ⟨_, rfl, q H2 (e1.trans e2)⟩⟩)
theorem pv_inL (hu : X.A.units + 65 < cLine) (ha : PV X C a ρ d) (hb : PR X C b ρ ds) (h1 : Cmp d) (h2 : D.plains ds = true) (h3 : SeqAt.shaped (.list (D.pys ds)) = true) (hm : behindInMarks .In b = false := by rfl) : PV X C (.Compare a [.In] [b] pos) ρ (.bl ((D.pys ds).any fun z => PyData.eqv z d.py)) := fun σ H0 H rs Q q =>
  ee (pe_cmpR (op_inD hu) (pe X a) (pe X b) hm) (ha σ H0 H rs _ fun v H1 e1 r1 => hb σ H0 H1 (rs.ex e1) _ fun p xs H2 e2 hp r2 => ⟨d.py, D.pys ds, rep_dp _ _ (r1.ex e2) h1.plain, dp_list hp r2 h2, h1.shaped, h3, q _ H2 (e1.trans e2) (.bl _)⟩)
theorem pt_notInL (hu : X.A.units + 65 < cLine) (ha : PV X C a ρ d) (hb : PR X C b ρ ds) (h1 : Cmp d) (h2 : D.plains ds = true) (h3 : SeqAt.shaped (.list (D.pys ds)) = true) (hm : behindInMarks .NotIn b = false := by rfl) : PTt X C (.Compare a [.NotIn] [b] pos) ρ (!(D.pys ds).any fun z => PyData.eqv z d.py) := fun σ H0 H rs Q q =>
  et (pt_cmpR (op_notInD hu) (pe X a) (pe X b) hm) (ha σ H0 H rs _ fun v H1 e1 r1 => hb σ H0 H1 (rs.ex e1) _ fun p xs H2 e2 hp r2 => ⟨d.py, D.pys ds, rep_dp _ _ (r1.ex e2) h1.plain, dp_list hp r2 h2, h1.shaped, h3, ⟨_, rfl, q H2 (e1.trans e2)⟩⟩)
/-- == of lists -/
theorem pt_neLL {es : List D} (hu : X.A.units + 64 < cLine) (ha : PR X C a ρ ds) (hb : PR X C b ρ es) (h1 : D.plains ds = true) (h2 : D.plains es = true) (h3 : SeqAt.shaped (.list (D.pys ds)) = true) (h4 : SeqAt.shaped (.list (D.pys es)) = true) : PTt X C (.Compare a [.NotEq] [b] pos) ρ (!PyData.eqv (.list (D.pys ds)) (.list (D.pys es))) := fun σ H0 H rs Q q =>
  et (pt_cmpR (op_neD hu) (pe X a) (pe X b) (nomark _)) (ha σ H0 H rs _ fun p xs H1 e1 hp r1 => hb σ H0 H1 (rs.ex e1) _ fun p2 ys H2 e2 hp2 r2 => ⟨_, _, dp_list (sqL_ex e2 hp) (r1.ex e2) h1, dp_list hp2 r2 h2, h3, h4, ⟨_, rfl, q H2 (e1.trans e2)⟩⟩)
theorem pt_eqLL {es : List D} (hu : X.A.units + 64 < cLine) (ha : PR X C a ρ ds) (hb : PR X C b ρ es) (h1 : D.plains ds = true) (h2 : D.plains es = true) (h3 : SeqAt.shaped (.list (D.pys ds)) = true) (h4 : SeqAt.shaped (.list (D.pys es)) = true) : PTt X C (.Compare a [.Eq] [b] pos) ρ (PyData.eqv (.list (D.pys ds)) (.list (D.pys es))) := fun σ H0 H rs Q q =>
  et (pt_cmpR (op_eqD hu) (pe X a) (pe X b) (nomark _)) (ha σ H0 H rs _ fun p xs H1 e1 hp r1 => hb σ H0 H1 (rs.ex e1) _ fun p2 ys H2 e2 hp2 r2 => ⟨_, _, dp_list (sqL_ex e2 hp) (r1.ex e2) h1, dp_list hp2 r2 h2, h3, h4, ⟨_, rfl, q H2 (e1.trans e2)⟩⟩)
end

/-! ### data of the program -/
open BF
abbrev iTup (l : List Int) : D := .tup (l.map D.int)
theorem pys_map {α : Type} (f : α → D) : ∀ l : List α, D.pys (l.map f) = l.map fun x => (f x).py
  | [] => rfl
  | x :: l => by rw [List.map_cons, D.pys, pys_map f l]; rfl
theorem plains_map {α : Type} {f : α → D} (h : ∀ x, (f x).plain = true) : ∀ l : List α, D.plains (l.map f) = true
  | [] => rfl
  | x :: l => by rw [List.map_cons, D.plains, h x, plains_map h l]; rfl
theorem lay_all {α : Type} {f : α → PyData} (h : ∀ x, (f x).canLay0 = true) : ∀ l : List α, PyData.canLayAll0 (l.map f) = true
  | [] => by simp [PyData.canLayAll0]
  | x :: l => by simp [PyData.canLayAll0, h x, lay_all h l]
theorem depth_all {α : Type} {f : α → PyData} {n : Nat} (h : ∀ x, (f x).depth ≤ n) : ∀ l : List α, PyData.depthAll (l.map f) ≤ n
  | [] => by simp [PyData.depthAll]
  | x :: l => by
    have h1 := h x
    have h2 := depth_all h l
    simp only [List.map_cons, PyData.depthAll]
    omega
theorem shaped_of {d : PyData} (h1 : d.canLay0 = true) (h2 : d.depth ≤ 64) : SeqAt.shaped d = true := Bool.and_eq_true_iff.mpr ⟨h1, decide_eq_true h2⟩
theorem iTup_py (l : List Int) : (iTup l).py = .tuple (l.map PyData.int) := by
  show PyData.tuple (D.pys (l.map D.int)) = _
  rw [pys_map]
  rfl
theorem iTup_lay (l : List Int) : (iTup l).py.canLay0 = true := by
  rw [iTup_py]
  simp only [PyData.canLay0]
  exact lay_all (fun _ => by simp [PyData.canLay0]) l
theorem iTup_depth (l : List Int) : (iTup l).py.depth ≤ 1 := by
  rw [iTup_py]
  simp only [PyData.depth]
  have := depth_all (f := PyData.int) (n := 0) (fun _ => by simp [PyData.depth]) l
  omega
theorem iTup_cmp (l : List Int) : Cmp (iTup l) := ⟨plains_map (fun _ => rfl) l, shaped_of (iTup_lay l) (Nat.le_trans (iTup_depth l) (by decide))⟩
theorem eqvAll_iTup : ∀ l m : List Int, PyData.eqvAll (l.map PyData.int) (m.map PyData.int) = decide (l = m)
  | [], [] => by simp [PyData.eqvAll]
  | [], _ :: _ => by simp [PyData.eqvAll]
  | _ :: _, [] => by simp [PyData.eqvAll]
  | x :: l, y :: m => by
    simp only [List.map_cons, PyData.eqvAll, PyData.eqv, eqvAll_iTup l m]
    by_cases h1 : x = y
    · by_cases h2 : l = m
      · simp [h1, h2]
      · simp [h1, h2]
    · simp [h1]
theorem eqv_iTup (l m : List Int) : PyData.eqv (iTup l).py (iTup m).py = decide (l = m) := by
  rw [iTup_py, iTup_py, PyData.eqv, eqvAll_iTup]
def opS : Op → Str
  | .no => ""
  | .gap => "gap"
  | .pulse => "pulse"
theorem opS_inj : ∀ a b : Op, (opS a == opS b) = decide (a = b) := by
  intro a b
  cases a <;> cases b <;> decide +kernel
/-- a place -/
def plD (p : Pl) : D := .tup [.int (p.known : Int), iTup p.rest, .str (opS p.op)]
theorem plD_py (p : Pl) : (plD p).py = .tuple [.int (p.known : Int), (iTup p.rest).py, .str (opS p.op)] := rfl
theorem plD_lay (p : Pl) : (plD p).py.canLay0 = true := by
  rw [plD_py]
  have h : PyData.strOk (opS p.op) = true := by cases p.op <;> decide +kernel
  simp [PyData.canLay0, PyData.canLayAll0, iTup_lay, h]
theorem plD_depth (p : Pl) : (plD p).py.depth ≤ 2 := by
  rw [plD_py]
  have := iTup_depth p.rest
  simp only [PyData.depth, PyData.depthAll]
  omega
theorem plD_plain (p : Pl) : (plD p).plain = true := by
  show (true && (D.plain (iTup p.rest) && (true && true))) = true
  rw [(iTup_cmp p.rest).plain]
  rfl
theorem plD_cmp (p : Pl) : Cmp (plD p) := ⟨plD_plain p, shaped_of (plD_lay p) (Nat.le_trans (plD_depth p) (by decide))⟩
theorem plD_eqv (p q : Pl) : PyData.eqv (plD p).py (plD q).py = decide (p = q) := by
  rw [plD_py, plD_py]
  simp only [PyData.eqv, PyData.eqvAll]
  rw [eqv_iTup, opS_inj]
  obtain ⟨a, b, c⟩ := p
  obtain ⟨a', b', c'⟩ := q
  simp only [Pl.mk.injEq]
  by_cases h1 : a = a'
  · by_cases h2 : b = b'
    · by_cases h3 : c = c'
      · simp [h1, h2, h3]
      · simp [h1, h2, h3]
    · simp [h1, h2]
  · have : ((a : Int) == (a' : Int)) = false := beq_eq_false_iff_ne.mpr (by omega)
    simp [h1, this]
theorem plDs_any (l : List Pl) (p : Pl) : ((D.pys (l.map plD)).any fun z => PyData.eqv z (plD p).py) = l.contains p := by
  rw [pys_map, List.any_map]
  rw [Bool.eq_iff_iff, List.any_eq_true, List.contains_iff_mem]
  constructor
  · rintro ⟨q, hq, h⟩
    have h' : PyData.eqv (plD q).py (plD p).py = true := h
    rw [plD_eqv] at h'
    rw [← of_decide_eq_true h']
    exact hq
  · intro h
    exact ⟨p, h, by show PyData.eqv (plD p).py (plD p).py = true; rw [plD_eqv]; simp⟩
theorem plDs_plain (l : List Pl) : D.plains (l.map plD) = true := plains_map plD_plain l
theorem plDs_shaped (l : List Pl) : SeqAt.shaped (.list (D.pys (l.map plD))) = true := by
  rw [pys_map]
  refine shaped_of ?_ ?_
  · simp only [PyData.canLay0]
    exact lay_all plD_lay l
  · simp only [PyData.depth]
    have := depth_all plD_depth l
    omega
theorem iTup_flat (l : List Int) : (iTup l).flat = true := flats_map (fun _ => rfl) l
theorem plD_flat (p : Pl) : (plD p).flat = true := by
  show (true && (D.flat (iTup p.rest) && (true && true))) = true
  rw [iTup_flat]
  rfl
/-- a table -/
def tD : Tb → D
  | .pairs h z o s b => .tup [.str "pairs", iTup h, iTup [z.1, z.2], iTup [o.1, o.2], .int s, .int (b : Int)]
  | .halves u b => .tup [.str "halves", .int u, .int (b : Int)]
theorem tD_flat (t : Tb) : (tD t).flat = true := by
  cases t with
  | pairs h z o s b =>
    show (true && (D.flat (iTup h) && true)) = true
    rw [iTup_flat]
    rfl
  | halves u b => rfl
/-- a bit -/
def bI : Bool → Int
  | false => 0
  | true => 1
def bD (b : Bool) : D := .int (bI b)
def obD : Option Bool → D
  | none => .non
  | some b => bD b
/-- a step -/
def stD (s : Stp) : D := .tup [obD s.1, .int s.2.1, plD s.2.2]
def wD (w : List Bool) : D := .tup (w.map bD)
theorem wD_flat (w : List Bool) : (wD w).flat = true := flats_map (fun _ => rfl) w
theorem obD_flat (b : Option Bool) : (obD b).flat = true := by cases b <;> rfl
theorem stD_flat (s : Stp) : (stD s).flat = true := by
  show (D.flat (obD s.1) && (true && (D.flat (plD s.2.2) && true))) = true
  rw [plD_flat, obD_flat]
  rfl
def itD (it : Item) : D := .rat it.1 it.2
end Bf

/-! What the walk asks of the top. -/
namespace Bf
open PySem PySem.Spec PyProof.Rows L2
structure Tx (w : World) (K : PySem.W.Frag) (mg : Str → Option Value) (C : Addr) : Prop where
  R : Rat K mg C
  d_is_integer : DefAt K mg "is_integer" s_is_integer
  d_is_whole : DefAt K mg "is_whole" s_is_whole
  d_shared_by : DefAt K mg "shared_by" s_shared_by
  d_is_at_most : DefAt K mg "is_at_most" s_is_at_most
  d_is_lesser : DefAt K mg "is_lesser" s_is_lesser
  d_is_duration : DefAt K mg "is_duration" s_is_duration
  d_are_durations : DefAt K mg "are_durations" s_are_durations
  d_wrong_part : DefAt K mg "wrong_part" s_wrong_part
  d_need_table : DefAt K mg "need_table" s_need_table
  d_bits_of : DefAt K mg "bits_of" s_bits_of
  d_begin_in : DefAt K mg "begin_in" s_begin_in
  d_is_end_in : DefAt K mg "is_end_in" s_is_end_in
  d_settle : DefAt K mg "settle" s_settle
  d_steps_in : DefAt K mg "steps_in" s_steps_in
  d_need_burst : DefAt K mg "need_burst" s_need_burst
  d_off_parts : DefAt K mg "off_parts" s_off_parts
  d_is_off : DefAt K mg "is_off" s_is_off
  d_ends_left : DefAt K mg "ends_left" s_ends_left
  d_least_word : DefAt K mg "least_word" s_least_word
  d_least_tolerance : DefAt K mg "least_tolerance" s_least_tolerance
  d_nearest : DefAt K mg "nearest" s_nearest
  d_law_begin : DefAt K mg "_law_begin" s_law_begin
  d_law_next : DefAt K mg "_law_next" s_law_next
  d_law_pick : DefAt K mg "_law_pick" s_law_pick
  d_law_size : DefAt K mg "_law_size" s_law_size
  d_law_table : DefAt K mg "_law_table" s_law_table
  d_law_like : DefAt K mg "_law_like" s_law_like
  d_law_words : DefAt K mg "_law_words" s_law_words
  d_law_frame : DefAt K mg "_law_frame" s_law_frame
  d_law_off : DefAt K mg "_law_off" s_law_off
  d_law_is_less : DefAt K mg "_law_is_less" s_law_is_less
  d_law_farthest : DefAt K mg "_law_farthest" s_law_farthest
  d_law_moved : DefAt K mg "_law_moved" s_law_moved
  d_law_due : DefAt K mg "_law_due" s_law_due
  d_law_burst : DefAt K mg "_law_burst" s_law_burst
  d_law : DefAt K mg "law" s_law
  b_isinstance : mg "isinstance" = none
  b_int : mg "int" = none
  b_bool : mg "bool" = none
  b_tuple : mg "tuple" = none
  b_str : mg "str" = none
  b_len : mg "len" = none
  b_all : mg "all" = none
  b_any : mg "any" = none
  b_list : mg "list" = none
  b_zip : mg "zip" = none
  b_range : mg "range" = none
  b_reversed : mg "reversed" = none
  b_enumerate : mg "enumerate" = none
  b_repr : mg "repr" = none
  c_LONGEST : ∃ t, mg "LONGEST" = some (.int 99999 t)
  c_MOST_BITS : ∃ t, mg "MOST_BITS" = some (.int 8 t)
  c_MOST_ITEMS : ∃ t, mg "MOST_ITEMS" = some (.int 63 t)
  c_PAIRS : ∃ t, mg "PAIRS" = some (.str "pairs" t)
  c_HALVES : ∃ t, mg "HALVES" = some (.str "halves" t)
  c_PULSE : ∃ t, mg "PULSE" = some (.str "pulse" t)
  c_GAP : ∃ t, mg "GAP" = some (.str "gap" t)
  c_FIRST : ∃ a, mg "FIRST_HALVES" = some (.ref a) ∧ ∀ B H, Rep K C B H (.ref a) (.tup [.str "gap", .str "pulse"])
  c_OTHERS : ∃ a, mg "OTHERS" = some (.ref a) ∧ KDct K w a "gap" (.str "pulse") ∧ KDct K w a "pulse" (.str "gap")
  r_init : ∃ f fd, FunD K "__init__" "Ratio.__init__" (defArgs s_R_init) (defBody s_R_init) (defScope s_R_init) [.int 1] [] f fd ∧ Mk K C f
  r_num : ∃ p g fd, PropOf K C "num" p g ∧ Fun K "num" "Ratio.num" s_R_num g fd
  r_den : ∃ p g fd, PropOf K C "den" p g ∧ Fun K "den" "Ratio.den" s_R_den g fd
  r_eq : ∃ f fd, Fun K "__eq__" "Ratio.__eq__" s_R_eq f fd ∧ PySem.W.findIn K (.ref C) "__eq__" = some (some (.ref f)) ∧ PySem.W.isFn K (.ref f) = true
end Bf

namespace Bf
open PySem PySem.Spec PyProof.Rows L2 BF
section
variable {P : Program} {w : World} {K : PySem.W.Frag} {mg : Str → Option Value} {base : Heap} {C : Addr}
theorem boot_isi : bootBuiltins "isinstance" = some (.builtin "isinstance") := by decide +kernel
theorem boot_int' : bootBuiltins "int" = some (.type "int") := by decide +kernel
theorem boot_bool' : bootBuiltins "bool" = some (.type "bool") := by decide +kernel
theorem boot_tuple' : bootBuiltins "tuple" = some (.type "tuple") := by decide +kernel
theorem boot_str' : bootBuiltins "str" = some (.type "str") := by decide +kernel
theorem boot_list' : bootBuiltins "list" = some (.type "list") := by decide +kernel
theorem boot_all' : bootBuiltins "all" = some (.builtin "all") := by decide +kernel
theorem boot_any' : bootBuiltins "any" = some (.builtin "any") := by decide +kernel
theorem k_ii : kitB "int" "int" = some true := by decide +kernel
theorem k_ib : kitB "int" "bool" = some false := by decide +kernel
theorem k_tt : kitB "tuple" "tuple" = some true := by decide +kernel
theorem k_ss : kitB "str" "str" = some true := by decide +kernel

theorem sc_is_integer : FnScope ["thing"] ["thing"] (defScope s_is_integer) := ⟨rfl, rfl, rfl, by decide +kernel, rfl, by decide +kernel, by decide +kernel⟩
abbrev sp_is_integer (K : PySem.W.Frag) (C : Addr) : Sp := spF K C (fun i : Int => [.int i]) (fun _ => True) (fun _ => .bl true)
theorem g_is_integer (T : Tx w K mg C) : GFn P w K mg base "is_integer" 1 (sp_is_integer K C) :=
  gF T.d_is_integer sc_is_integer (fun _ => rfl) (fun _ _ _ _ _ _ us hl => match us, hl with | [_], _ => rfl) fun f y hy cdv A outer s H E hr => by
    exact pb_ret (pv_and (pv_isi (d := .int y) T.b_isinstance T.b_int boot_int' (pv_var 0) k_ii) fun _ => pv_1 (pv_no (pv_isi (d := .int y) T.b_isinstance T.b_bool boot_bool' (pv_var 0) k_ib))) rfl

theorem sc_is_whole : FnScope ["thing", "least", "most"] ["thing", "least", "most"] (defScope s_is_whole) := ⟨rfl, rfl, rfl, by decide +kernel, rfl, by decide +kernel, by decide +kernel⟩
abbrev sp_is_whole (K : PySem.W.Frag) (C : Addr) : Sp := spF K C (fun y : Int × Int × Int => [.int y.1, .int y.2.1, .int y.2.2]) (fun _ => True) (fun y => .bl (decide (y.2.1 ≤ y.1) && decide (y.1 ≤ y.2.2)))
theorem g_is_whole (T : Tx w K mg C) : GFn P w K mg base "is_whole" 2 (sp_is_whole K C) :=
  gF T.d_is_whole sc_is_whole (fun _ => rfl) (fun _ _ _ _ _ _ us hl => match us, hl with | [_, _, _], _ => rfl) fun f y hy cdv A outer s H E hr => by
    refine pb_ret (pv_and (pv_call (g_is_integer T) hr y.1 trivial (pvs_cons (pv_var 0) pvs_nil)) fun _ => pv_1 (pv_chain op_le op_le (pv_var 1) (pv_var 0) (pv_var 2) (by with_unfolding_all rfl))) ?_
    rw [Bool.true_and]

theorem sc_is_duration : FnScope ["thing"] ["thing"] (defScope s_is_duration) := ⟨rfl, rfl, rfl, by decide +kernel, rfl, by decide +kernel, by decide +kernel⟩
abbrev sp_is_duration (K : PySem.W.Frag) (C : Addr) : Sp := spF K C (fun i : Int => [.int i]) (fun i => 1 ≤ i ∧ i ≤ 99999) (fun _ => .bl true)
theorem g_is_duration (T : Tx w K mg C) : GFn P w K mg base "is_duration" 3 (sp_is_duration K C) :=
  gF T.d_is_duration sc_is_duration (fun _ => rfl) (fun _ _ _ _ _ _ us hl => match us, hl with | [_], _ => rfl) fun f y hy cdv A outer s H E hr => by
    obtain ⟨t, hc⟩ := T.c_LONGEST
    refine pb_ret (pv_call (g_is_whole T) hr (y, 1, 99999) trivial (pvs_cons (pv_var 0) (pvs_cons pv_int (pvs_cons (pv_globI hc) pvs_nil)))) ?_
    simp [hy.1, hy.2]

theorem sc_shared_by : FnScope ["one", "other"] ["one", "other"] (defScope s_shared_by) := ⟨rfl, rfl, rfl, by decide +kernel, rfl, by decide +kernel, by decide +kernel⟩
abbrev sp_shared_by (K : PySem.W.Frag) (C : Addr) : Sp := spF K C (fun y : Int × Int => [.int y.1, .int y.2]) (fun y => 0 ≤ y.1 ∧ 0 ≤ y.2) (fun y => .int (Int.gcd y.1 y.2 : Nat))
theorem g_shared_by (T : Tx w K mg C) : GFn P w K mg base "shared_by" 1 (sp_shared_by K C) :=
  gF T.d_shared_by sc_shared_by (fun _ => rfl) (fun _ _ _ _ _ _ us hl => match us, hl with | [_, _], _ => rfl) fun f y hy cdv A outer s H E hr => by
    refine pb_while (fun m ρ => ∃ a b : Int, ρ = [.im (.int a), .im (.int b)] ∧ 0 ≤ a ∧ 0 ≤ b ∧ m = b.toNat ∧ Int.gcd a b = Int.gcd y.1 y.2) y.2.toNat ⟨y.1, y.2, rfl, hy.1, hy.2, rfl, rfl⟩ fun m ρ hw => ?_
    obtain ⟨a, b, rfl, ha, hb, rfl, hg⟩ := hw
    refine ⟨_, pt_gt (pv_var 1) pv_int, fun hx => ?_, fun hx => ?_⟩
    · have hb' : 0 < b := of_decide_eq_true hx
      refine pb_par 0 1 sc_shared_by.nd (pvs_cons (pv_var 1) (pvs_cons (pv_mod (pv_var 0) (pv_var 1) hb') pvs_nil)) (pb_nil ?_)
      have h1 := Int.emod_lt_of_pos a hb'
      have h2 := Int.emod_nonneg a (show b ≠ 0 by omega)
      exact ⟨(a % b).toNat, by omega, b, a % b, rfl, hb, h2, rfl, (gcd_turn hb' ha).trans hg⟩
    · have hb' : b = 0 := by have := of_decide_eq_false hx; omega
      subst hb'
      refine pb_ret (pv_var 0) ?_
      rw [← hg, gcd_end ha]

def big (i : Int) : Prop := -(2 ^ 64) < i ∧ i < 2 ^ 64
/-- a part -/
abbrev pD (p : Int × Int) : D := .tup [.int p.1, .int p.2]
theorem sc_is_lesser : FnScope ["one", "other"] ["one", "other"] (defScope s_is_lesser) := ⟨rfl, rfl, rfl, by decide +kernel, rfl, by decide +kernel, by decide +kernel⟩
abbrev sp_is_lesser (K : PySem.W.Frag) (C : Addr) : Sp := spF K C (fun y : Part × Part => [pD y.1, pD y.2]) (fun y => big y.1.1 ∧ big y.2.1) (fun y => .bl (less y.1 y.2))
theorem g_is_lesser (T : Tx w K mg C) : GFn P w K mg base "is_lesser" 1 (sp_is_lesser K C) :=
  gF T.d_is_lesser sc_is_lesser (fun _ => rfl) (fun _ _ _ _ _ _ us hl => match us, hl with | [_, _], _ => rfl) fun f y hy cdv A outer s H E hr => by
    obtain ⟨h1, h2⟩ := hy
    exact pb_ret (pv_lt (pv_mul (pv_ix (pv_var 0) pv_int rfl) (pv_ix (pv_var 1) pv_int rfl) (.inl h1)) (pv_mul (pv_ix (pv_var 1) pv_int rfl) (pv_ix (pv_var 0) pv_int rfl) (.inl h2))) rfl
theorem sc_law_is_less : FnScope ["one", "other"] ["one", "other"] (defScope s_law_is_less) := ⟨rfl, rfl, rfl, by decide +kernel, rfl, by decide +kernel, by decide +kernel⟩
theorem g_law_is_less (T : Tx w K mg C) : GFn P w K mg base "_law_is_less" 1 (sp_is_lesser K C) :=
  gF T.d_law_is_less sc_law_is_less (fun _ => rfl) (fun _ _ _ _ _ _ us hl => match us, hl with | [_, _], _ => rfl) fun f y hy cdv A outer s H E hr => by
    obtain ⟨h1, h2⟩ := hy
    exact pb_ret (pv_lt (pv_mul (pv_ix (pv_var 0) pv_int rfl) (pv_ix (pv_var 1) pv_int rfl) (.inl h1)) (pv_mul (pv_ix (pv_var 1) pv_int rfl) (pv_ix (pv_var 0) pv_int rfl) (.inl h2))) rfl

/-! ### properties num, den -/
section
variable {X : Cx} {ρ : List Sl} {a : Expr} {pos : Pos}
theorem pv_num {n d : Int} {k : Nat} (T : Tx X.w X.K X.mg C) (hr : Room (k + 2) X.A) (ha : PV X C a ρ (.rat n d)) (hab : attributeBase a "num" X.env (eval a X.env) = eval a X.env := by rfl) : PV X C (.Attribute a "num" pos) ρ (.int n) := fun σ H0 H rs Q q => by
  obtain ⟨p, g, fd, hp, F⟩ := T.r_num
  obtain ⟨oc, od, kV, doc, pm, an, cdv, ct, osl, e, lk, hcd⟩ := F.ex
  have G : FnOk X.prog X.w X.K X.mg X.base CX0 1 g fd ["self"] (getSp C "own_num") := by
    subst e
    exact fn_getter (k := 0) (N := ["self"]) lk hcd ⟨rfl, rfl, rfl, by decide +kernel, rfl, by decide +kernel, by decide +kernel⟩ rfl rfl T.R.cl T.R.nN
  have b := F.binds (ps := ["self"]) fun _ _ _ _ _ _ us hl => match us, hl with | [_], _ => rfl
  exact ee (pe_prop (pe X a) T.R.cl hp G (hr.mono (by omega)) b .nil (E := E0) pass0 hab) (ha σ H0 H rs _ fun v H1 e1 r1 => by
    obtain ⟨t, dx, e2, h⟩ := r1.rat_inv
    subst e2
    exact ⟨t, dx, _, rfl, h, t, dx, _, _, rfl, h, rfs_num n d, q _ H1 e1 (.int n)⟩)
theorem pv_den {n d : Int} {k : Nat} (T : Tx X.w X.K X.mg C) (hr : Room (k + 2) X.A) (ha : PV X C a ρ (.rat n d)) (hab : attributeBase a "den" X.env (eval a X.env) = eval a X.env := by rfl) : PV X C (.Attribute a "den" pos) ρ (.int d) := fun σ H0 H rs Q q => by
  obtain ⟨p, g, fd, hp, F⟩ := T.r_den
  obtain ⟨oc, od, kV, doc, pm, an, cdv, ct, osl, e, lk, hcd⟩ := F.ex
  have G : FnOk X.prog X.w X.K X.mg X.base CX0 1 g fd ["self"] (getSp C "own_den") := by
    subst e
    exact fn_getter (k := 0) (N := ["self"]) lk hcd ⟨rfl, rfl, rfl, by decide +kernel, rfl, by decide +kernel, by decide +kernel⟩ rfl rfl T.R.cl T.R.nD
  have b := F.binds (ps := ["self"]) fun _ _ _ _ _ _ us hl => match us, hl with | [_], _ => rfl
  exact ee (pe_prop (pe X a) T.R.cl hp G (hr.mono (by omega)) b .nil (E := E0) pass0 hab) (ha σ H0 H rs _ fun v H1 e1 r1 => by
    obtain ⟨t, dx, e2, h⟩ := r1.rat_inv
    subst e2
    exact ⟨t, dx, _, rfl, h, t, dx, _, _, rfl, h, rfs_den n d, q _ H1 e1 (.int d)⟩)
end

theorem sc_is_at_most : FnScope ["parts", "tolerance"] ["parts", "tolerance"] (defScope s_is_at_most) := ⟨rfl, rfl, rfl, by decide +kernel, rfl, by decide +kernel, by decide +kernel⟩
abbrev sp_is_at_most (K : PySem.W.Frag) (C : Addr) : Sp := spF K C (fun y : Part × Part => [pD y.1, .rat y.2.1 y.2.2]) (fun y => big y.1.1 ∧ big y.2.1) (fun y => .bl (decide (y.1.1 * y.2.2 ≤ y.2.1 * y.1.2)))
theorem g_is_at_most (T : Tx w K mg C) : GFn P w K mg base "is_at_most" 3 (sp_is_at_most K C) :=
  gF T.d_is_at_most sc_is_at_most (fun _ => rfl) (fun _ _ _ _ _ _ us hl => match us, hl with | [_, _], _ => rfl) fun f y hy cdv A outer s H E hr => by
    obtain ⟨h1, h2⟩ := hy
    exact pb_ret (pv_le (pv_mul (pv_ix (pv_var 0) pv_int rfl) (pv_den T (k := 0) hr (pv_var 1)) (.inl h1)) (pv_mul (pv_num T (k := 0) hr (pv_var 1)) (pv_ix (pv_var 0) pv_int rfl) (.inl h2))) rfl

/-- items, durations within bounds -/
def ItB (it : Item) : Prop := 0 < it.1 ∧ it.1 < 2 ^ 40 ∧ 0 < it.2 ∧ it.2 ≤ 5000
def DuB (d : Int) : Prop := 0 < d ∧ d < 200000
theorem off_big {it : Item} {d : Int} (h : ItB it) (hd : DuB d) : 0 ≤ (off it d).1 ∧ (off it d).1 < 2 ^ 42 ∧ 0 < (off it d).2 ∧ (off it d).2 ≤ 1000000000 := by
  obtain ⟨h1, h2, h3, h4⟩ := h
  obtain ⟨h5, h6⟩ := hd
  have m1 : 0 < d * it.2 := Int.mul_pos h5 h3
  have m2 : d * it.2 ≤ 200000 * 5000 := Int.mul_le_mul (by omega) h4 (by omega) (by omega)
  have e : it.2 * d = d * it.2 := Int.mul_comm _ _
  unfold off
  dsimp only
  rw [e]
  split <;> omega
theorem sc_off_parts : FnScope ["item", "duration", "gap"] ["item", "duration"] (defScope s_off_parts) := ⟨rfl, rfl, rfl, by decide +kernel, rfl, by decide +kernel, by decide +kernel⟩
abbrev sp_off_parts (K : PySem.W.Frag) (C : Addr) : Sp := spF K C (fun y : Item × Int => [itD y.1, .int y.2]) (fun y => ItB y.1 ∧ DuB y.2) (fun y => pD (off y.1 y.2))
theorem ite_int {c : Prop} [Decidable c] {i j : Int} : (if c then D.int i else D.int j) = D.int (if c then i else j) := by split <;> rfl
theorem g_off_parts (T : Tx w K mg C) : GFn P w K mg base "off_parts" 3 (sp_off_parts K C) :=
  gF T.d_off_parts sc_off_parts (fun _ => rfl) (fun _ _ _ _ _ _ us hl => match us, hl with | [_, _], _ => rfl) fun f y hy cdv A outer s H E hr => by
    obtain ⟨⟨h1, h2, h3, h4⟩, h5, h6⟩ := hy
    have hb : CMul y.2 y.1.2 := .inl ⟨by omega, by omega⟩
    refine pb_set 2 sc_off_parts.nd (pv_sub (pv_num T (k := 0) hr (pv_var 0)) (pv_mul (pv_var 1) (pv_den T (k := 0) hr (pv_var 0)) hb)) ?_
    refine pb_ret (pv_tup (pvs_cons (pv_ite (d := .int (if y.1.1 - y.2 * y.1.2 > 0 then y.1.1 - y.2 * y.1.2 else -(y.1.1 - y.2 * y.1.2))) (pt_gt (pv_var 2) pv_int) (fun h => ?_) (fun h => ?_)) (pvs_cons (pv_mul (pv_den T (k := 0) hr (pv_var 0)) (pv_var 1) (.inl ⟨by omega, by omega⟩)) pvs_nil))) rfl
    · rw [if_pos (of_decide_eq_true h)]
      exact pv_var 2
    · rw [if_neg (of_decide_eq_false h)]
      exact pv_neg (pv_var 2)
theorem sc_law_off : FnScope ["item", "size", "gap"] ["item", "size"] (defScope s_law_off) := ⟨rfl, rfl, rfl, by decide +kernel, rfl, by decide +kernel, by decide +kernel⟩
theorem g_law_off (T : Tx w K mg C) : GFn P w K mg base "_law_off" 3 (sp_off_parts K C) :=
  gF T.d_law_off sc_law_off (fun _ => rfl) (fun _ _ _ _ _ _ us hl => match us, hl with | [_, _], _ => rfl) fun f y hy cdv A outer s H E hr => by
    obtain ⟨⟨h1, h2, h3, h4⟩, h5, h6⟩ := hy
    have hb : CMul y.2 y.1.2 := .inl ⟨by omega, by omega⟩
    refine pb_set 2 sc_law_off.nd (pv_sub (pv_num T (k := 0) hr (pv_var 0)) (pv_mul (pv_var 1) (pv_den T (k := 0) hr (pv_var 0)) hb)) ?_
    refine pb_ret (pv_tup (pvs_cons (pv_ite (d := .int (if y.1.1 - y.2 * y.1.2 > 0 then y.1.1 - y.2 * y.1.2 else -(y.1.1 - y.2 * y.1.2))) (pt_gt (pv_var 2) pv_int) (fun h => ?_) (fun h => ?_)) (pvs_cons (pv_mul (pv_den T (k := 0) hr (pv_var 0)) (pv_var 1) (.inl ⟨by omega, by omega⟩)) pvs_nil))) rfl
    · rw [if_pos (of_decide_eq_true h)]
      exact pv_var 2
    · rw [if_neg (of_decide_eq_false h)]
      refine (pv_sub pv_int (pv_var 2)).is ?_
      rw [Int.zero_sub]
theorem sc_is_off : FnScope ["item", "duration", "tolerance"] ["item", "duration", "tolerance"] (defScope s_is_off) := ⟨rfl, rfl, rfl, by decide +kernel, rfl, by decide +kernel, by decide +kernel⟩
abbrev sp_is_off (K : PySem.W.Frag) (C : Addr) : Sp := spF K C (fun y : Item × Int × Part => [itD y.1, .int y.2.1, .rat y.2.2.1 y.2.2.2]) (fun y => ItB y.1 ∧ DuB y.2.1 ∧ big y.2.2.1) (fun y => .bl (isOff y.2.2 y.1 y.2.1))
theorem g_is_off (T : Tx w K mg C) : GFn P w K mg base "is_off" 4 (sp_is_off K C) :=
  gF T.d_is_off sc_is_off (fun _ => rfl) (fun _ _ _ _ _ _ us hl => match us, hl with | [_, _, _], _ => rfl) fun f y hy cdv A outer s H E hr => by
    obtain ⟨h1, h2, h3⟩ := hy
    have hb := off_big h1 h2
    exact pb_ret (pv_no (pv_call (g_is_at_most T) hr (off y.1 y.2.1, y.2.2) ⟨⟨by show _ < (off y.1 y.2.1).1; omega, by show (off y.1 y.2.1).1 < _; omega⟩, h3⟩ (pvs_cons (pv_call (g_off_parts T) hr (y.1, y.2.1) ⟨h1, h2⟩ (pvs_cons (pv_var 0) (pvs_cons (pv_var 1) pvs_nil))) (pvs_cons (pv_var 2) pvs_nil)))) rfl
end
end Bf

namespace Bf
open PySem PySem.Spec PyProof.Rows L2 BF
section
variable {P : Program} {w : World} {K : PySem.W.Frag} {mg : Str → Option Value} {base : Heap} {C : Addr}
theorem sc_bits_of : FnScope ["table"] ["table"] (defScope s_bits_of) := ⟨rfl, rfl, rfl, by decide +kernel, rfl, by decide +kernel, by decide +kernel⟩
abbrev sp_bits_of (K : PySem.W.Frag) (C : Addr) : Sp := spF K C (fun t : Tb => [tD t]) (fun _ => True) (fun t => .int (t.bits : Int))
theorem g_bits_of (T : Tx w K mg C) : GFn P w K mg base "bits_of" 1 (sp_bits_of K C) :=
  gF T.d_bits_of sc_bits_of (fun _ => rfl) (fun _ _ _ _ _ _ us hl => match us, hl with | [_], _ => rfl) fun f t hy cdv A outer s H E hr => by
    cases t with
    | pairs h z o st b => exact pb_ret (pv_ix (pv_var 0) (pv_neg pv_int) rfl) rfl
    | halves u b => exact pb_ret (pv_ix (pv_var 0) (pv_neg pv_int) rfl) rfl

theorem sc_begin_in : FnScope ["table"] ["table"] (defScope s_begin_in) := ⟨rfl, rfl, rfl, by decide +kernel, rfl, by decide +kernel, by decide +kernel⟩
abbrev sp_begin_in (K : PySem.W.Frag) (C : Addr) : Sp := spF K C (fun t : Tb => [tD t]) (fun _ => True) (fun t => plD (begin_ t))
theorem ne_ph : decide (("pairs" : Str) = "halves") = false := by decide +kernel
theorem eq_hh : decide (("halves" : Str) = "halves") = true := by decide +kernel
theorem g_begin_in (T : Tx w K mg C) : GFn P w K mg base "begin_in" 1 (sp_begin_in K C) :=
  gF (hflat := fun _ => plD_flat _) T.d_begin_in sc_begin_in (fun _ => rfl) (fun _ _ _ _ _ _ us hl => match us, hl with | [_], _ => rfl) fun f t hy cdv A outer s H E hr => by
    obtain ⟨t1, hH⟩ := T.c_HALVES
    obtain ⟨t2, hG⟩ := T.c_GAP
    cases t with
    | pairs h z o st b =>
      exact pb_ret (pv_ite (x := false) ((pt_eqS (s1 := "pairs") (s2 := "halves") (pv_ix (pv_var 0) pv_int rfl) (pv_globS hH)).is ne_ph) (fun z => by cases z) fun _ => pv_tup (pvs_cons pv_int (pvs_cons (pv_ix (pv_var 0) pv_int rfl) (pvs_cons pv_str pvs_nil)))) rfl
    | halves u b =>
      exact pb_ret (pv_ite (x := true) ((pt_eqS (s1 := "halves") (s2 := "halves") (pv_ix (pv_var 0) pv_int rfl) (pv_globS hH)).is eq_hh) (fun _ => pv_tup (pvs_cons pv_int (pvs_cons (pv_tup (pvs_cons (pv_ix (pv_var 0) pv_int rfl) pvs_nil)) (pvs_cons (pv_globS hG) pvs_nil)))) (fun z => by cases z)) rfl

theorem dec_nat {a b : Nat} : decide ((a : Int) = (b : Int)) = decide (a = b) := by
  by_cases h : a = b
  · rw [h]; simp
  · have : ¬ (a : Int) = (b : Int) := by omega
    rw [decide_eq_false h, decide_eq_false this]
theorem sc_is_end_in : FnScope ["table", "place"] ["table", "place"] (defScope s_is_end_in) := ⟨rfl, rfl, rfl, by decide +kernel, rfl, by decide +kernel, by decide +kernel⟩
abbrev sp_is_end_in (K : PySem.W.Frag) (C : Addr) : Sp := spF K C (fun y : Tb × Pl => [tD y.1, plD y.2]) (fun _ => True) (fun y => .bl (isEnd y.1 y.2))
theorem g_is_end_in (T : Tx w K mg C) : GFn P w K mg base "is_end_in" 2 (sp_is_end_in K C) :=
  gF T.d_is_end_in sc_is_end_in (fun _ => rfl) (fun _ _ _ _ _ _ us hl => match us, hl with | [_, _], _ => rfl) fun f y hy cdv A outer s H E hr => by
    refine pb_ret (pv_and (pv_eqI (pv_ix (pv_var 1) pv_int rfl) (pv_call (g_bits_of T) hr y.1 trivial (pvs_cons (pv_var 0) pvs_nil))) fun _ => pv_1 (pv_eqD (da := iTup y.2.rest) (db := iTup []) hr.units (pv_ix (pv_var 1) pv_int rfl) (pv_tup pvs_nil) (iTup_cmp _) (iTup_cmp _))) ?_
    rw [eqv_iTup, dec_nat]
    rfl

theorem sc_settle : FnScope ["table", "known", "under_way", "bit", "is_last", "unit", "rest"] ["table", "known", "under_way", "bit"] (defScope s_settle) := ⟨rfl, rfl, rfl, by decide +kernel, rfl, by decide +kernel, by decide +kernel⟩
abbrev sp_settle (K : PySem.W.Frag) (C : Addr) : Sp := spF K C (fun y : Tb × Nat × Op × Bool => [tD y.1, .int (y.2.1 : Int), .str (opS y.2.2.1), bD y.2.2.2]) (fun _ => True) (fun y => plD (settle y.1 y.2.1 y.2.2.1 y.2.2.2))
theorem dec_last {k b : Nat} : decide ((k : Int) + 1 = (b : Int)) = decide (k + 1 = b) := by
  by_cases h : k + 1 = b
  · rw [decide_eq_true h]; exact decide_eq_true (by omega)
  · rw [decide_eq_false h]; exact decide_eq_false (by omega)
theorem fh_str (b : Bool) (op : Op) : decide (opS (fh b) = opS op) = decide (fh b = op) := by cases b <;> cases op <;> decide +kernel
theorem pulse_str (op : Op) : decide (opS op = "pulse") = decide (op = .pulse) := by cases op <;> decide +kernel
/-- OTHERS[..] -/
theorem pv_others {X : Cx} {ρ : List Sl} {e : Expr} {p pos : Pos} {op : Op} (T : Tx X.w X.K X.mg C) (h : PV X C e ρ (.str (opS op))) (ho : op ≠ .no) (hg : Gl X "OTHERS" := by rfl) (hs : PlainIx e := by intro _ _; rfl) : PV X C (.Subscript (.Name "OTHERS" p) e pos) ρ (.str (opS (other op))) := fun σ H0 H rs Q q => by
  obtain ⟨a, hm, h1, h2⟩ := T.c_OTHERS
  exact ee (pe_ix ix_kdict (pe_glob (v := .ref a) hg hm rfl) (pe X e) hs) (h σ H0 H rs _ fun v H1 e1 r1 => by
    rw [r1.str_inv]
    refine ⟨a, opS op, .str (opS (other op)), rfl, rfl, ?_, q _ H1 e1 (.str _)⟩
    cases op with
    | no => exact absurd rfl ho
    | gap => exact h1
    | pulse => exact h2)
theorem g_settle (T : Tx w K mg C) : GFn P w K mg base "settle" 2 (sp_settle K C) :=
  gF (hflat := fun _ => plD_flat _) T.d_settle sc_settle (fun _ => rfl) (fun _ _ _ _ _ _ us hl => match us, hl with | [_, _, _, _], _ => rfl) fun f y hy cdv A outer s H E hr => by
    obtain ⟨t, k, op, b⟩ := y
    obtain ⟨t1, hH⟩ := T.c_HALVES
    obtain ⟨t2, hG⟩ := T.c_GAP
    obtain ⟨t3, hP⟩ := T.c_PULSE
    obtain ⟨fa, hF, hFr⟩ := T.c_FIRST
    refine pb_set 4 sc_settle.nd ((pv_eqI (pv_add (pv_var 1) pv_int) (pv_call (g_bits_of T) hr t trivial (pvs_cons (pv_var 0) pvs_nil))).is (congrArg D.bl dec_last)) ?_
    cases t with
    | pairs h z o st bits =>
      refine pb_ifR (x := true) ((pt_neS (s1 := "pairs") (s2 := "halves") (pv_ix (pv_var 0) pv_int rfl) (pv_globS hH)).is (by rw [ne_ph]; rfl)) (fun _ => ?_) (fun z => by cases z)
      refine pb_ret (d := plD (BF.settle (.pairs h z o st bits) k op b)) (pv_tup (ds := [.int ((k : Int) + 1), iTup (BF.settle (.pairs h z o st bits) k op b).rest, .str ""]) (pvs_cons (pv_add (pv_var 1) pv_int) (pvs_cons ?_ (pvs_cons pv_str pvs_nil)))) rfl
      have e1 : (BF.settle (.pairs h z o st bits) k op b).rest = (if b then [o.1, o.2] else [z.1, z.2]) ++ (if k + 1 = bits then [st] else []) := rfl
      rw [e1]
      refine (pv_cat (ds := (if b then [o.1, o.2] else [z.1, z.2]).map D.int) (es := (if k + 1 = bits then [st] else []).map D.int) ?_ (pv_ite (pt_pv (pv_var 4)) (fun hx => ?_) fun hx => ?_) ?_).is ?_
      · cases b
        · exact pv_ix (pv_var 0) (pv_add pv_int (pv_var 3)) rfl
        · exact pv_ix (pv_var 0) (pv_add pv_int (pv_var 3)) rfl
      · have hx : k + 1 = bits := of_decide_eq_true hx
        rw [if_pos hx]
        exact pv_tup (pvs_cons (pv_ix (pv_var 0) pv_int rfl) pvs_nil)
      · have hx : ¬ k + 1 = bits := of_decide_eq_false hx
        rw [if_neg hx]
        exact pv_tup pvs_nil
      · cases b <;> by_cases hb : k + 1 = bits <;> simp [hb]
      · show D.tup _ = D.tup _
        rw [List.map_append]
    | halves u bits =>
      refine pb_ifF ((pt_neS (s1 := "halves") (s2 := "halves") (pv_ix (pv_var 0) pv_int rfl) (pv_globS hH)).is (by rw [eq_hh]; rfl)) ?_
      refine pb_set 5 sc_settle.nd (pv_ix (pv_var 0) pv_int rfl) ?_
      refine pb_if (N1 := fun ρ' => ∃ r4 : Sl, ρ' = [.im (tD (.halves u bits)), .im (.int (k : Int)), .im (.str (opS (if fh b = op then other op else op))), .im (bD b), .im (.bl (decide (k + 1 = bits))), .im (.int u), .im (iTup (if fh b = op then [2 * u] else [u, u]))]) ((pt_eqS (s1 := opS (fh b)) (s2 := opS op) (pv_ix (ds := [.str "gap", .str "pulse"]) (pv_globT hF hFr) (pv_var 3) (by cases b <;> rfl)) (pv_var 2)).is (fh_str b op)) (fun hx => ?_) (fun hx => ?_) fun ρ' hρ => ?_
      · have hx : fh b = op := of_decide_eq_true hx
        refine pb_par 6 2 sc_settle.nd (pvs_cons (pv_tup (pvs_cons (pv_mul pv_int (pv_var 5) (.inl ⟨by decide, by decide⟩)) pvs_nil)) (pvs_cons (pv_others T (pv_var 2) (by rw [← hx]; cases b <;> simp [fh])) pvs_nil)) (pb_nil ?_)
        rw [if_pos hx, if_pos hx]
        exact ⟨.un, rfl⟩
      · have hx : ¬ fh b = op := of_decide_eq_false hx
        refine pb_set 6 sc_settle.nd (pv_tup (pvs_cons (pv_var 5) (pvs_cons (pv_var 5) pvs_nil))) (pb_nil ?_)
        rw [if_neg hx, if_neg hx]
        exact ⟨.un, rfl⟩
      · obtain ⟨_, rfl⟩ := hρ
        generalize hop : (if fh b = op then other op else op) = op'
        generalize hre : (if fh b = op then [2 * u] else [u, u]) = re
        have hlen : re.length ≤ 2 := by rw [← hre]; split <;> simp
        have e1 : BF.settle (.halves u bits) k op b = if k + 1 = bits ∧ op' = .pulse then ⟨k + 1, re ++ [u], .gap⟩ else ⟨k + 1, re, op'⟩ := by
          unfold BF.settle
          dsimp only
          rw [hop, hre]
        rw [e1]
        refine pb_ifR (x := decide (k + 1 = bits) && decide (op' = .pulse)) (PWt.pt (pw_a (pt_pv (pv_var 4)) fun _ => pw_a1 ((pt_eqS (s1 := opS op') (s2 := "pulse") (pv_var 2) (pv_globS hP)).is (pulse_str op')))) (fun hx => ?_) (fun hx => ?_)
        · obtain ⟨x1, x2⟩ := Bool.and_eq_true_iff.mp hx
          rw [if_pos ⟨of_decide_eq_true x1, of_decide_eq_true x2⟩]
          refine pb_ret (d := plD ⟨k + 1, re ++ [u], .gap⟩) (pv_tup (ds := [.int ((k : Int) + 1), iTup (re ++ [u]), .str "gap"]) (pvs_cons (pv_add (pv_var 1) pv_int) (pvs_cons ?_ (pvs_cons (pv_globS hG) pvs_nil)))) rfl
          refine (pv_cat (ds := re.map D.int) (es := [.int u]) (pv_var 6) (pv_tup (pvs_cons (pv_var 5) pvs_nil)) ?_).is ?_
          · rw [List.length_map]
            simp
            omega
          · show D.tup _ = D.tup _
            rw [List.map_append]
            rfl
        · have hn : ¬ (k + 1 = bits ∧ op' = .pulse) := fun z => by
            rw [decide_eq_true z.1, decide_eq_true z.2] at hx
            cases hx
          rw [if_neg hn]
          exact pb_ret (d := plD ⟨k + 1, re, op'⟩) (pv_tup (ds := [.int ((k : Int) + 1), iTup re, .str (opS op')]) (pvs_cons (pv_add (pv_var 1) pv_int) (pvs_cons (pv_var 6) (pvs_cons (pv_var 2) pvs_nil)))) rfl

theorem sc_steps_in : FnScope ["table", "place", "known", "rest", "under_way", "ways", "bit", "there"] ["table", "place"] (defScope s_steps_in) := ⟨rfl, rfl, rfl, by decide +kernel, rfl, by decide +kernel, by decide +kernel⟩
abbrev sp_steps_in (K : PySem.W.Frag) (C : Addr) : Sp := spL K C (fun y : Tb × Pl => [tD y.1, plD y.2]) (fun _ => True) (fun y => (steps y.1 y.2).map stD)
/-- a way: the bit and the place -/
def wayD (q : Option Bool × Pl) : D := .tup [obD q.1, plD q.2]
theorem wayD_st (q : Option Bool × Pl) (h : q.2.rest ≠ []) : ∃ d ds, q.2.rest.map D.int = D.int d :: ds ∧ stD (take1 q.1 q.2) = .tup [obD q.1, .int d, .tup [.int (q.2.known : Int), .tup ds, .str (opS q.2.op)]] := by
  obtain ⟨b, k, r, op⟩ := q
  cases r with
  | nil => exact absurd rfl h
  | cons d r => exact ⟨d, r.map D.int, rfl, rfl⟩
theorem g_steps_in (T : Tx w K mg C) : GFn P w K mg base "steps_in" 3 (sp_steps_in K C) :=
  gL (hflat := fun _ => flats_map stD_flat _) T.d_steps_in sc_steps_in (fun _ => rfl) (fun _ _ _ _ _ _ us hl => match us, hl with | [_, _], _ => rfl) fun f y hy cdv A outer s H E hr => by
    obtain ⟨t, p⟩ := y
    refine pb_asg (pv_var 1) (ptg_tup (ptgs_cons (ptg_name 2 sc_steps_in.nd) (ptgs_cons (ptg_name 3 sc_steps_in.nd) (ptgs_cons (ptg_name 4 sc_steps_in.nd) ptgs_nil)))) ?_
    refine pb_ifR (pt_pv (pv_call (g_is_end_in T) hr (t, p) trivial (pvs_cons (pv_var 0) (pvs_cons (pv_var 1) pvs_nil)))) (fun hx => ?_) (fun hx => ?_)
    · have hx : isEnd t p = true := hx
      refine pb_retL (PL.po (pl_lst pvs_nil)) ?_
      show Wv.ow [] = Wv.ow ((steps t p).map stD)
      unfold steps
      rw [if_pos hx]
      rfl
    · have hx : isEnd t p = false := hx
      have go : ∀ (qs : List (Option Bool × Pl)), qs.length ≤ 2 → (∀ q ∈ qs, q.2.rest ≠ []) → steps t p = qs.map (fun q => take1 q.1 q.2) → ∀ ρ', ρ' = [.im (tD t), .im (plD p), .im (.int (p.known : Int)), .im (iTup p.rest), .im (.str (opS p.op)), .ow (qs.map wayD), .un, .un] →
          PBk (fX P w K mg base ["table", "place", "known", "rest", "under_way", "ways", "bit", "there"] "steps_in" s_steps_in f cdv A outer s H E) C ((defBody s_steps_in).drop 4) ρ' (fun _ => False) (fun w => w = .ow ((steps t p).map stD)) := fun qs hl hne hst ρ' hρ => by
        subst hρ
        have hn : (qs.map wayD).length = qs.length := List.length_map _
        refine pb_retL (PL.po (pl_lcG (own := [("bit", 6), ("there", 7)]) (kp := fun _ => true) (g := fun i => (((steps t p).map stD).getD i .non)) sc_steps_in.nd (pic_ro (pr_var 5)) (blkOk_by (N := ["table", "place", "known", "rest", "under_way", "ways", "bit", "there"]) (sc := defScope s_steps_in) (by decide +kernel)) (turns_n (by rw [hn]; omega) fun i hi => ?_) (pts_n _))) ?_
        · rw [hn] at hi
          have hq : qs[i]? = some qs[i] := List.getElem?_eq_getElem hi
          have e1 : (qs.map wayD).getD i .non = wayD qs[i] := by simp [List.getD_eq_getElem?_getD, hq]
          have e2 : ((steps t p).map stD).getD i .non = stD (take1 qs[i].1 qs[i].2) := by rw [hst]; simp [List.getD_eq_getElem?_getD, hq]
          obtain ⟨d, ds, h1, h2⟩ := wayD_st qs[i] (hne _ (List.getElem_mem hi))
          refine ⟨[6, 7], [.im (tD t), .im (plD p), .im (.int (p.known : Int)), .im (iTup p.rest), .im (.str (opS p.op)), .ow (qs.map wayD), .im (obD qs[i].1), .im (plD qs[i].2)], by decide, fun s0 H0 Ca cl fp => ?_, fun s0 H0 Ca cl fp => ?_⟩
          · show PTg _ C _ [6, 7] _ ((qs.map wayD).getD i .non) _
            rw [e1]
            exact ptg_tup (ptgs_cons (ptg_name 6 sc_steps_in.nd) (ptgs_cons (ptg_name 7 sc_steps_in.nd) ptgs_nil))
          · show PV _ C _ _ (((steps t p).map stD).getD i .non)
            rw [e2, h2]
            have h3 : atI [D.int (qs[i].2.known : Int), iTup qs[i].2.rest, .str (opS qs[i].2.op)] 1 = some (D.tup (D.int d :: ds)) := by
              show some (D.tup (qs[i].2.rest.map D.int)) = _
              rw [h1]
            exact pv_tup (pvs_cons (pv_var 6) (pvs_cons (pv_ix (pv_ix (pv_var 7) pv_int h3) pv_int (atI_nat (j := 0) rfl)) (pvs_cons (pv_tup (pvs_cons (pv_ix (pv_var 7) pv_int rfl) (pvs_cons (pv_tail (pv_ix (pv_var 7) pv_int h3)) (pvs_cons (pv_ix (pv_var 7) pv_int rfl) pvs_nil)))) pvs_nil)))
        · rw [kept_all, hn]
          have hl2 : ((steps t p).map stD).length = qs.length := by rw [hst]; simp
          rw [← hl2]
          have := getD_map (ds := (steps t p).map stD) id
          rw [List.map_id] at this
          simp only [id] at this
          rw [this]
      refine pb_setL 5 sc_steps_in.nd (pl_lst (pvs_cons (pv_tup (pvs_cons pv_non (pvs_cons (pv_var 1) pvs_nil))) pvs_nil)) ?_
      by_cases hr0 : p.rest = []
      · refine pb_if (N1 := fun ρ' => ρ' = [.im (tD t), .im (plD p), .im (.int (p.known : Int)), .im (iTup p.rest), .im (.str (opS p.op)), .ow ([(some false, settle t p.known p.op false), (some true, settle t p.known p.op true)].map wayD), .un, .un]) ((pt_eqD (da := iTup p.rest) (db := iTup []) hr.units (pv_var 3) (pv_tup pvs_nil) (iTup_cmp _) (iTup_cmp _)).is (show _ = true by rw [eqv_iTup]; exact decide_eq_true hr0)) (fun _ => ?_) (fun z => by cases z) (fun ρ' hρ => go _ (by simp) (fun q hq => ?_) ?_ ρ' hρ)
        · refine pb_setLc (own := [("bit", 6)]) (kp := fun _ => true) (g := fun i => wayD (some (i == 1), settle t p.known p.op (i == 1))) 5 sc_steps_in.nd (pis_tup (pv_tup (pvs_cons pv_int (pvs_cons pv_int pvs_nil)))).cc (blkOk_by (N := ["table", "place", "known", "rest", "under_way", "ways", "bit", "there"]) (sc := defScope s_steps_in) (by decide +kernel)) (turns_n (by simp) fun i hi => ?_) (pts_n _) rfl (pb_nil rfl)
          have hi : i < 2 := hi
          refine ⟨[6], [.im (tD t), .im (plD p), .im (.int (p.known : Int)), .im (iTup p.rest), .im (.str (opS p.op)), .ow _, .im (([D.int 0, D.int 1] : List D).getD i .non), .un], by decide, fun s0 H0 Ca cl fp => ptg_name 6 sc_steps_in.nd, fun s0 H0 Ca cl fp => ?_⟩
          match i, hi with
          | 0, _ => exact pv_tup (pvs_cons (pv_var 6) (pvs_cons (pv_call (g_settle T) (hr.mono (by decide)) (t, p.known, p.op, false) trivial (pvs_cons (pv_var 0) (pvs_cons (pv_var 2) (pvs_cons (pv_var 4) (pvs_cons (pv_var 6) pvs_nil))))) pvs_nil))
          | 1, _ => exact pv_tup (pvs_cons (pv_var 6) (pvs_cons (pv_call (g_settle T) (hr.mono (by decide)) (t, p.known, p.op, true) trivial (pvs_cons (pv_var 0) (pvs_cons (pv_var 2) (pvs_cons (pv_var 4) (pvs_cons (pv_var 6) pvs_nil))))) pvs_nil))
        · simp only [List.mem_cons, List.not_mem_nil, or_false] at hq
          rcases hq with e | e <;> subst e <;> exact settle_rest_ne _ _ _ _
        · unfold steps
          rw [if_neg (by rw [hx]; simp), if_pos hr0]
          rfl
      · refine pb_ifF ((pt_eqD (da := iTup p.rest) (db := iTup []) hr.units (pv_var 3) (pv_tup pvs_nil) (iTup_cmp _) (iTup_cmp _)).is (show _ = false by rw [eqv_iTup]; exact decide_eq_false hr0)) ?_
        refine go [(none, p)] (by simp) (fun q hq => ?_) ?_ _ rfl
        · have : q = (none, p) := by simpa using hq
          rw [this]
          exact hr0
        · unfold steps
          rw [if_neg (by rw [hx]; simp), if_neg hr0]
          rfl
end
end Bf

namespace Bf
open PySem PySem.Spec PyProof.Rows L2 BF
section
variable {X : Cx} {C : Addr} {ρ : List Sl} {e a b : Expr} {es : List Expr} {pos : Pos} {i : Int}
theorem reps_map_int {K : PySem.W.Frag} {B H : Hp} : ∀ {l : List Int} {xs : List V}, Reps K C B H xs (l.map D.int) → xs = l.map V.int
  | [], _, h => by cases h; rfl
  | i :: l, _, h => by
    cases h with
    | cons h1 h2 => rw [h1.int_inv, reps_map_int h2]; rfl
theorem reps_map_bl {K : PySem.W.Frag} {B H : Hp} : ∀ {l : List Bool} {xs : List V}, Reps K C B H xs (l.map D.bl) → xs = l.map V.bl
  | [], _, h => by cases h; rfl
  | i :: l, _, h => by
    cases h with
    | cons h1 h2 => rw [h1.bl_inv, reps_map_bl h2]; rfl
theorem inV_int (i : Int) : ∀ l : List Int, inV (.int i) (l.map V.int) = l.contains i
  | [] => rfl
  | j :: l => by
    have ih := inV_int i l
    unfold inV at ih ⊢
    rw [List.map_cons, List.any_cons, ih, List.contains_cons]
    congr 1
    show (j == i) = (i == j)
    rw [Bool.eq_iff_iff, beq_iff_eq, beq_iff_eq]
    exact eq_comm
theorem int_flat : ∀ l : List Int, (l.map V.int).all flatV = true
  | [] => rfl
  | _ :: l => by rw [List.map_cons, List.all_cons, int_flat l]; rfl
theorem pv_inT {l : List Int} (ha : PV X C a ρ (.int i)) (hb : PV X C b ρ (iTup l)) (hm : behindInMarks .In b = false := by rfl) : PV X C (.Compare a [.In] [b] pos) ρ (.bl (l.contains i)) :=
  pv_cmp2 op_in_seq hm ha hb fun v u H Q r1 r2 q => by
    obtain ⟨p, xs, e1, h1, h2⟩ := r2.tup_inv
    have e2 := reps_map_int h2
    subst e2
    rw [r1.int_inv]
    refine ⟨p, _, e1, .inr h1, rfl, int_flat l, ?_⟩
    rw [if_neg (by decide), inV_int]
    exact q H (Ex.refl H)
theorem pt_notInT {l : List Int} (ha : PV X C a ρ (.int i)) (hb : PV X C b ρ (iTup l)) (hm : behindInMarks .NotIn b = false := by rfl) : PTt X C (.Compare a [.NotIn] [b] pos) ρ (!l.contains i) :=
  pt_cmp2 op_notIn_seq hm ha hb fun v u H Q r1 r2 q => by
    obtain ⟨p, xs, e1, h1, h2⟩ := r2.tup_inv
    have e2 := reps_map_int h2
    subst e2
    rw [r1.int_inv]
    refine ⟨p, _, e1, .inr h1, rfl, int_flat l, ?_⟩
    rw [if_pos rfl, inV_int]
    exact q H (Ex.refl H)
theorem pv_all {p : Pos} {bs : List Bool} (hm : X.mg "all" = none) (ha : PL X C a ρ (bs.map D.bl)) (hg : Gl X "all" := by rfl) (hc : X.calm = true := by rfl) (he : starEach [a] X.env = (false, eval a X.env) :: starEach [] X.env := by rfl) : PV X C (.Call (.Name "all" p) [a] [] pos) ρ (.bl (bs.all id)) := fun σ H0 H rs Q q =>
  ee (pe_callB (cr_all hc) hg hm (by decide +kernel) (pa_cons (pe X a) pa_nil he) (by decide) (by decide) he rfl) (ha σ H0 H rs _ fun t xs H1 _ e1 h3 h4 => by
    have e2 := reps_map_bl h4
    subst e2
    exact ⟨t, bs, rfl, SqL.of h3, q _ H1 e1 (.bl _)⟩)
theorem pv_any {p : Pos} {bs : List Bool} (hm : X.mg "any" = none) (ha : PL X C a ρ (bs.map D.bl)) (hg : Gl X "any" := by rfl) (hc : X.calm = true := by rfl) (he : starEach [a] X.env = (false, eval a X.env) :: starEach [] X.env := by rfl) : PV X C (.Call (.Name "any" p) [a] [] pos) ρ (.bl (bs.any id)) := fun σ H0 H rs Q q =>
  ee (pe_callB (cr_any hc) hg hm (by decide +kernel) (pa_cons (pe X a) pa_nil he) (by decide) (by decide) he rfl) (ha σ H0 H rs _ fun t xs H1 _ e1 h3 h4 => by
    have e2 := reps_map_bl h4
    subst e2
    exact ⟨t, bs, rfl, SqL.of h3, q _ H1 e1 (.bl _)⟩)
end
/-- a table as need_table wants it -/
def du (d : Int) : Prop := 1 ≤ d ∧ d ≤ 99999
def TbOk : Tb → Prop
  | .pairs h z o s b => (h.length = 0 ∨ h.length = 2 ∨ h.length = 4) ∧ (∀ d ∈ h, du d) ∧ du z.1 ∧ du z.2 ∧ du o.1 ∧ du o.2 ∧ o ≠ z ∧ du s ∧ 1 ≤ b ∧ b ≤ 8
  | .halves u b => du u ∧ 1 ≤ b ∧ b ≤ 8
section
variable {P : Program} {w : World} {K : PySem.W.Frag} {mg : Str → Option Value} {base : Heap} {C : Addr}
theorem sc_are_durations : FnScope ["thing", "sizes", "one"] ["thing", "sizes"] (defScope s_are_durations) := ⟨rfl, rfl, rfl, by decide +kernel, rfl, by decide +kernel, by decide +kernel⟩
abbrev sp_are_durations (K : PySem.W.Frag) (C : Addr) : Sp := spF K C (fun y : List Int × List Int => [iTup y.1, iTup y.2]) (fun y => y.2.contains (y.1.length : Int) = true ∧ (∀ d ∈ y.1, du d) ∧ y.1.length ≤ 100) (fun _ => .bl true)
theorem map_const {n : Nat} : (List.range n).map (fun _ => D.bl true) = (List.replicate n true).map D.bl := by
  rw [List.map_replicate, List.map_const', List.length_range]
theorem all_rep (n : Nat) : (List.replicate n true).all id = true := by
  rw [List.all_eq_true]
  intro x hx
  rw [(List.mem_replicate.mp hx).2]
  rfl
theorem g_are_durations (T : Tx w K mg C) : GFn P w K mg base "are_durations" 4 (sp_are_durations K C) :=
  gF T.d_are_durations sc_are_durations (fun _ => rfl) (fun _ _ _ _ _ _ us hl => match us, hl with | [_, _], _ => rfl) fun f y hy cdv A outer s H E hr => by
    obtain ⟨l, sz⟩ := y
    obtain ⟨h1, h2, h3⟩ := hy
    refine pb_ret (pv_and (pv_isi (d := iTup l) T.b_isinstance T.b_tuple boot_tuple' (pv_var 0) k_tt) fun _ => pv_and (pv_inT (l := sz) (pv_lenT T.b_len (pv_var 0)) (pv_var 1)) fun _ => pv_1 (pv_all (bs := List.replicate l.length true) T.b_all (PL.is (pl_lcG (own := [("one", 2)]) (kp := fun _ => true) (g := fun _ => .bl true) sc_are_durations.nd (pis_tup (ds := l.map D.int) (pv_var 0)).cc (blkOk_by (N := ["thing", "sizes", "one"]) (sc := defScope s_are_durations) (by decide +kernel)) (turns_n (by rw [List.length_map]; exact Nat.le_trans h3 (by decide)) fun i hi => ?_) (pts_n _)) ?_))) ?_
    · rw [List.length_map] at hi
      have hq : l[i]? = some l[i] := List.getElem?_eq_getElem hi
      refine ⟨[2], [.im (iTup l), .im (iTup sz), .im (.int l[i])], by decide, fun s0 H0 Ca cl fp => ?_, fun s0 H0 Ca cl fp => ?_⟩
      · have e : (l.map D.int).getD i .non = .int l[i] := by simp [List.getD_eq_getElem?_getD, hq]
        show PTg _ C _ _ _ ((l.map D.int).getD i .non) _
        rw [e]
        exact ptg_name 2 sc_are_durations.nd
      · exact pv_call (g_is_duration T) hr l[i] (h2 _ (List.getElem_mem hi)) (pvs_cons (pv_var 2) pvs_nil)
    · rw [kept_all, List.length_map, map_const]
    · have e : (iTup l).flatTy = true := rfl
      have h1' : sz.contains ((l.map D.int).length : Int) = true := by rw [List.length_map]; exact h1
      rw [all_rep, h1']
      rfl

theorem sc_wrong_part : FnScope ["table", "name", "unit", "bits", "tests", "header", "zero", "one", "stop", "wrong", "part", "is_right"] ["table"] (defScope s_wrong_part) := ⟨rfl, rfl, rfl, by decide +kernel, rfl, by decide +kernel, by decide +kernel⟩
abbrev sp_wrong_part (K : PySem.W.Frag) (C : Addr) : Sp := spF K C (fun t : Tb => [tD t]) TbOk (fun _ => .non)
theorem two_contains {l : List Int} (h : l.length = 2) : ([2] : List Int).contains (l.length : Int) = true := by rw [h]; decide
theorem g_wrong_part (T : Tx w K mg C) : GFn P w K mg base "wrong_part" 5 (sp_wrong_part K C) :=
  gF T.d_wrong_part sc_wrong_part (fun _ => rfl) (fun _ _ _ _ _ _ us hl => match us, hl with | [_], _ => rfl) fun f t hy cdv A outer s H E hr => by
    obtain ⟨t1, hH⟩ := T.c_HALVES
    obtain ⟨t2, hM⟩ := T.c_MOST_BITS
    have nd := sc_wrong_part.nd
    -- behind the tests
    have go : ∀ (ρ' : List Sl), (∃ (t0 n0 u0 : Sl) (b : Nat) (names : List Str) (s5 s6 s7 s8 : Sl), ρ' = [t0, n0, u0, .im (.int (b : Int)), .ow (names.map fun x => .tup [.str x, .bl true]), s5, s6, s7, s8, .un, .un, .un] ∧ names.length ≤ 4 ∧ 1 ≤ b ∧ b ≤ 8) →
        PBk (fX P w K mg base ["table", "name", "unit", "bits", "tests", "header", "zero", "one", "stop", "wrong", "part", "is_right"] "wrong_part" s_wrong_part f cdv A outer s H E) C ((defBody s_wrong_part).drop 1) ρ' (fun _ => False) (fun w => w = .im .non) := fun ρ' hρ => by
      obtain ⟨t0, n0, u0, b, names, s5, s6, s7, s8, rfl, hn, hb1, hb2⟩ := hρ
      refine pb_append 4 rfl (by rw [List.length_map]; omega) (pv_tup (pvs_cons pv_str (pvs_cons ((pv_call (g_is_whole T) (hr.mono (by decide)) ((b : Int), 1, 8) trivial (pvs_cons (pv_var 3) (pvs_cons pv_int (pvs_cons (pv_globI hM) pvs_nil)))).is (congrArg D.bl (show _ = true by simp; omega))) pvs_nil))) ?_
      have hn2 : ((names ++ [("bits" : Str)]).map fun x : Str => D.tup [.str x, .bl true]).length = names.length + 1 := by simp
      have e1 : (names.map fun x : Str => D.tup [.str x, .bl true]) ++ [D.tup [.str "bits", .bl true]] = (names ++ [("bits" : Str)]).map fun x : Str => D.tup [.str x, .bl true] := by rw [List.map_append]; rfl
      rw [e1]
      generalize names ++ [("bits" : Str)] = ns at hn2 ⊢
      refine pb_setLc (own := [("part", 10), ("is_right", 11)]) (kp := fun _ => false) (g := fun _ => .non) (ds := []) 9 nd (pic_ro (pr_var 4)) (blkOk_by (N := ["table", "name", "unit", "bits", "tests", "header", "zero", "one", "stop", "wrong", "part", "is_right"]) (sc := defScope s_wrong_part) (by decide +kernel)) (turns_1 (by rw [hn2]; omega) fun i hi => ?_) (pts_1 _) (by unfold kept; simp) ?_
      · rw [List.length_map] at hi
        have hq : ns[i]? = some ns[i] := List.getElem?_eq_getElem hi
        refine ⟨[10, 11], [t0, n0, u0, .im (.int (b : Int)), .ow (ns.map fun x : Str => D.tup [.str x, .bl true]), s5, s6, s7, s8, .un, .im (.str ns[i]), .im (.bl true)], by decide, fun s0 H0 Ca cl fp => ?_, fun s0 H0 Ca cl fp => pt_no (x := true) (pt_pv (pv_var 11)), fun z => by cases z⟩
        have e : (ns.map fun x : Str => D.tup [.str x, .bl true]).getD i .non = .tup [.str ns[i], .bl true] := by simp [List.getD_eq_getElem?_getD, hq]
        show PTg _ C _ _ _ ((ns.map fun x : Str => D.tup [.str x, .bl true]).getD i .non) _
        rw [e]
        exact ptg_tup (ptgs_cons (ptg_name 10 nd) (ptgs_cons (ptg_name 11 nd) ptgs_nil))
      · refine pb_ret (pv_ite (x := false) ((pt_neLL (ds := []) (es := []) hr.units (pr_var 9) (PL.pr (pl_lst pvs_nil)) rfl rfl (by decide +kernel) (by decide +kernel)).is (by simp [PyData.eqv, PyData.eqvAll, D.pys])) (fun z => by cases z) fun _ => pv_non) rfl
    cases t with
    | pairs h z o st b =>
      obtain ⟨h1, h2, h3, h4, h5, h6, h7, h8, h9, h10⟩ := hy
      refine pb_if (N1 := fun ρ' => ∃ (t0 n0 u0 : Sl) (b : Nat) (names : List Str) (s5 s6 s7 s8 : Sl), ρ' = [t0, n0, u0, .im (.int (b : Int)), .ow (names.map fun x => .tup [.str x, .bl true]), s5, s6, s7, s8, .un, .un, .un] ∧ names.length ≤ 4 ∧ 1 ≤ b ∧ b ≤ 8) (x := false) ((pt_eqS (s1 := "pairs") (s2 := "halves") (pv_ix (pv_var 0) pv_int rfl) (pv_globS hH)).is ne_ph) (fun z => by cases z) (fun _ => ?_) go
      refine pb_asg (pv_var 0) (ptg_tup (ptgs_cons (ptg_name 1 nd) (ptgs_cons (ptg_name 5 nd) (ptgs_cons (ptg_name 6 nd) (ptgs_cons (ptg_name 7 nd) (ptgs_cons (ptg_name 8 nd) (ptgs_cons (ptg_name 3 nd) ptgs_nil))))))) ?_
      have two : ∀ (x y : Int), du x → du y → ∀ d ∈ [x, y], du d := fun x y hx hy d hd => by
        simp only [List.mem_cons, List.not_mem_nil, or_false] at hd
        rcases hd with e | e <;> rw [e] <;> assumption
      refine pb_setL 4 nd (pl_lst (pvs_cons (pv_tup (pvs_cons pv_str (pvs_cons (pv_call (g_are_durations T) (hr.mono (by decide)) (h, [0, 2, 4]) ⟨?_, h2, by show h.length ≤ 100; omega⟩ (pvs_cons (pv_var 5) (pvs_cons (pv_tup (pvs_cons pv_int (pvs_cons pv_int (pvs_cons pv_int pvs_nil)))) pvs_nil))) pvs_nil))) (pvs_cons (pv_tup (pvs_cons pv_str (pvs_cons (pv_call (g_are_durations T) (hr.mono (by decide)) ([z.1, z.2], [2]) ⟨show ([2] : List Int).contains ((2 : Nat) : Int) = true by decide, two _ _ h3 h4, by simp⟩ (pvs_cons (pv_var 6) (pvs_cons (pv_tup (pvs_cons pv_int pvs_nil)) pvs_nil))) pvs_nil))) pvs_nil))) ?_
      · rcases h1 with e | e | e <;> (show ([0, 2, 4] : List Int).contains (h.length : Int) = true; rw [e]; decide)
      refine pb_append 4 rfl (by simp) (pv_tup (pvs_cons pv_str (pvs_cons ((pv_and (pv_call (g_are_durations T) (hr.mono (by decide)) ([o.1, o.2], [2]) ⟨show ([2] : List Int).contains ((2 : Nat) : Int) = true by decide, two _ _ h5 h6, by simp⟩ (pvs_cons (pv_var 7) (pvs_cons (pv_tup (pvs_cons pv_int pvs_nil)) pvs_nil))) fun _ => pv_1 (pv_neD (da := iTup [o.1, o.2]) (db := iTup [z.1, z.2]) hr.units (pv_var 7) (pv_var 6) (iTup_cmp _) (iTup_cmp _))).is (congrArg D.bl (show _ = true by
        rw [eqv_iTup]
        have : ¬ [o.1, o.2] = [z.1, z.2] := fun e => h7 (by
          have e1 : o.1 = z.1 := by injection e
          have e2 : o.2 = z.2 := by injection e with _ e; injection e
          exact Prod.ext e1 e2)
        rw [decide_eq_false this]
        rfl))) pvs_nil))) ?_
      refine pb_append 4 rfl (by simp) (pv_tup (pvs_cons pv_str (pvs_cons (pv_call (g_is_duration T) (hr.mono (by decide)) st h8 (pvs_cons (pv_var 8) pvs_nil)) pvs_nil))) (pb_nil ?_)
      exact ⟨_, _, _, b, ["header", "zero", "one", "stop"], _, _, _, _, rfl, by simp, h9, h10⟩
    | halves u b =>
      obtain ⟨h1, h9, h10⟩ := hy
      refine pb_if (N1 := fun ρ' => ∃ (t0 n0 u0 : Sl) (b : Nat) (names : List Str) (s5 s6 s7 s8 : Sl), ρ' = [t0, n0, u0, .im (.int (b : Int)), .ow (names.map fun x => .tup [.str x, .bl true]), s5, s6, s7, s8, .un, .un, .un] ∧ names.length ≤ 4 ∧ 1 ≤ b ∧ b ≤ 8) (x := true) ((pt_eqS (s1 := "halves") (s2 := "halves") (pv_ix (pv_var 0) pv_int rfl) (pv_globS hH)).is eq_hh) (fun _ => ?_) (fun z => by cases z) go
      refine pb_asg (pv_var 0) (ptg_tup (ptgs_cons (ptg_name 1 nd) (ptgs_cons (ptg_name 2 nd) (ptgs_cons (ptg_name 3 nd) ptgs_nil)))) ?_
      refine pb_setL 4 nd (pl_lst (pvs_cons (pv_tup (pvs_cons pv_str (pvs_cons (pv_call (g_is_duration T) (hr.mono (by decide)) u h1 (pvs_cons (pv_var 2) pvs_nil)) pvs_nil))) pvs_nil)) (pb_nil ?_)
      exact ⟨_, _, _, b, ["unit"], _, _, _, _, rfl, by simp, h9, h10⟩
end
end Bf

namespace Bf
open PySem PySem.Spec PyProof.Rows L2 BF
section
variable {P : Program} {w : World} {K : PySem.W.Frag} {mg : Str → Option Value} {base : Heap} {C : Addr}
/-- the name that a length wants -/
def nameOf (n : Int) : Str := if n = 3 then "halves" else "pairs"
theorem pv_disp36 {X : Cx} {ρ : List Sl} {e : Expr} {n : Int} {p1 p2 p3 p4 pos pos' : Pos} {k1 k2} {z1 z2 : Str} {t1 t2 : Tok} (hu : X.A.units + 1 < cLine) (h1 : X.mg z1 = some (.str "halves" t1)) (h2 : X.mg z2 = some (.str "pairs" t2)) (he : PV X C e ρ (.int n)) (hn : n = 3 ∨ n = 6)
    (hg1 : Gl X z1 := by rfl) (hg2 : Gl X z2 := by rfl) (hd1 : (z1 == ("__debug__" : Str)) = false := by decide) (hd2 : (z2 == ("__debug__" : Str)) = false := by decide) (hs : NoSl e := by intro _ _; rfl) :
    PV X C (.Subscript (.Dict [some (.Constant (.int 3) k1 p1), some (.Constant (.int 6) k2 p2)] [.Name z1 p3, .Name z2 p4] pos) e pos') ρ (.str (nameOf n)) := fun σ H0 H rs Q q => by
  refine ee (pe_dget hu (pe_disp (pps_cons pe_int (pe_glob (v := .str "halves") hg1 h1 ⟨t1, rfl⟩ hd1) (pps_cons pe_int (pe_glob (v := .str "pairs") hg2 h2 ⟨t2, rfl⟩ hd2) pps_nil)) rfl rfl (fun z => by cases z) (by simp)) (pe X e) hs) ?_
  intro p hp
  refine ⟨upd_same, [(Sum.inl 3, .str "halves"), (Sum.inl 6, .str "pairs")], rfl, by simp, ?_⟩
  rw [upd_upd]
  have e1 := Ex.new (o := .dK (mergeK [] [(Sum.inl 3, V.str "halves"), (Sum.inl 6, V.str "pairs")])) hp
  refine he σ H0 _ (rs.ex e1) _ fun v H1 e2 r2 => ?_
  rw [r2.int_inv]
  have e0 := e2 p _ upd_same
  rcases hn with e | e
  · subst e
    exact ⟨p, .str "halves", rfl, DGet.k (k := Sum.inl 3) e0, q _ H1 (e1.trans e2) (.str _)⟩
  · subst e
    exact ⟨p, .str "pairs", rfl, DGet.k (k := Sum.inl 6) e0, q _ H1 (e1.trans e2) (.str _)⟩
theorem sc_need_table : FnScope ["thing", "part"] ["thing"] (defScope s_need_table) := ⟨rfl, rfl, rfl, by decide +kernel, rfl, by decide +kernel, by decide +kernel⟩
abbrev sp_need_table (K : PySem.W.Frag) (C : Addr) : Sp := spF K C (fun t : Tb => [tD t]) TbOk (fun t => tD t)
theorem tD_len (t : Tb) : ∃ ds, tD t = .tup ds ∧ ((ds.length : Int) = 3 ∨ (ds.length : Int) = 6) ∧ ∃ s, ds[0]? = some (.str s) ∧ s = nameOf (ds.length : Int) := by
  cases t with
  | pairs h z o s b => exact ⟨_, rfl, .inr rfl, _, rfl, rfl⟩
  | halves u b => exact ⟨_, rfl, .inl rfl, _, rfl, rfl⟩
theorem g_need_table (T : Tx w K mg C) : GFn P w K mg base "need_table" 6 (sp_need_table K C) :=
  gF (hflat := fun _ => tD_flat _) T.d_need_table sc_need_table (fun _ => rfl) (fun _ _ _ _ _ _ us hl => match us, hl with | [_], _ => rfl) fun f t hy cdv A outer s H E hr => by
    obtain ⟨t1, hH⟩ := T.c_HALVES
    obtain ⟨t2, hP⟩ := T.c_PAIRS
    obtain ⟨ds, ht, hlen, s0, h0, hs0⟩ := tD_len t
    have hw := pv_call (C := C) (ρ := (start' ["thing", "part"] [tD t])) (X := fX P w K mg base ["thing", "part"] "need_table" s_need_table f cdv A outer s H E) (es := []) (pos := ⟨115, 11, 115, 28⟩) (p := ⟨115, 11, 115, 21⟩) (e := .Name "thing" ⟨115, 22, 115, 27⟩) (g_wrong_part T) hr t hy (pvs_cons (pv_var 0) pvs_nil)
    have h0' : atI ds 0 = some (.str s0) := atI_nat (j := 0) h0
    refine pb_ifR (x := false) (PWt.pt (pw_o (x := false) (y := false) (pt_no (x := true) (pt_pv (pv_isi (d := tD t) T.b_isinstance T.b_tuple boot_tuple' (pv_var 0) (by rw [ht]; exact k_tt) (by rw [ht]; rfl)))) fun _ => pw_o (x := false) (y := false) ((pt_notInT (l := [3, 6]) (pv_lenT (ds := ds) T.b_len (ht ▸ pv_var 0)) (pv_tup (pvs_cons pv_int (pvs_cons pv_int pvs_nil)))).is ?_) fun _ => pw_o1 (pt_no (x := true) (pt_pv (pv_isi (d := .str s0) T.b_isinstance T.b_str boot_str' (pv_ix (ht ▸ pv_var 0) pv_int h0') k_ss))))) (fun z => by cases z) fun _ => ?_
    · rcases hlen with e | e <;> rw [e] <;> decide
    refine pb_ifR (x := false) ((pt_neS (s1 := s0) (s2 := nameOf (ds.length : Int)) (pv_ix (ht ▸ pv_var 0) pv_int h0') (pv_disp36 (hu_of hr) hH hP (pv_lenT (ds := ds) T.b_len (ht ▸ pv_var 0)) hlen)).is (by rw [hs0]; simp)) (fun z => by cases z) fun _ => ?_
    refine pb_set 1 sc_need_table.nd (pv_call (g_wrong_part T) hr t hy (pvs_cons (pv_var 0) pvs_nil)) ?_
    refine pb_ifR (x := false) (pt_notN (d := .non) (pv_var 1)) (fun z => by cases z) fun _ => ?_
    exact pb_ret (pv_var 0) rfl

/-! ### bursts -/
def buD (its : List Item) : D := .tup (its.map itD)
def BuOk (its : List Item) : Prop := its.length % 2 = 1 ∧ its.length ≤ 63 ∧ ∀ i ∈ its, ItB i
theorem sc_need_burst : FnScope ["thing", "item"] ["thing"] (defScope s_need_burst) := ⟨rfl, rfl, rfl, by decide +kernel, rfl, by decide +kernel, by decide +kernel⟩
abbrev sp_need_burst (K : PySem.W.Frag) (C : Addr) : Sp := spF K C (fun l : List Item => [buD l]) BuOk (fun l => buD l)
theorem g_need_burst (T : Tx w K mg C) : GFn P w K mg base "need_burst" 5 (sp_need_burst K C) :=
  gF (hflat := fun l => flats_map (f := itD) (fun _ => rfl) l) T.d_need_burst sc_need_burst (fun _ => rfl) (fun _ _ _ _ _ _ us hl => match us, hl with | [_], _ => rfl) fun f l hy cdv A outer s H E hr => by
    obtain ⟨h1, h2, h3⟩ := hy
    obtain ⟨t1, hM⟩ := T.c_MOST_ITEMS
    have hlen : (l.map itD).length = l.length := List.length_map _
    refine pb_ifR (x := false) (PWt.pt (pw_o (x := false) (y := false) (pt_no (x := true) (pt_pv (pv_isi (d := buD l) T.b_isinstance T.b_tuple boot_tuple' (pv_var 0) k_tt))) fun _ => pw_o (x := false) (y := false) (pt_no (x := true) ((pt_chain' (g := fun i j => decide (i ≤ j)) (g' := fun i j => decide (i ≤ j)) op_le op_le pv_int (pv_lenT (ds := l.map itD) T.b_len (pv_var 0)) (pv_globI hM) (by with_unfolding_all rfl)).is ?_)) fun _ => pw_o1 ((pt_eqI (pv_mod (pv_lenT (ds := l.map itD) T.b_len (pv_var 0)) pv_int (by decide)) pv_int).is ?_))) (fun z => by cases z) fun _ => ?_
    · rw [hlen]
      simp
      omega
    · rw [hlen]
      exact decide_eq_false (by omega)
    refine pb_ifR (x := false) (pt_no (x := true) ((pt_pv (pv_all (bs := List.replicate l.length true) T.b_all (PL.is (pl_lcG (own := [("item", 1)]) (kp := fun _ => true) (g := fun _ => .bl true) sc_need_burst.nd (pis_tup (ds := l.map itD) (pv_var 0)).cc (blkOk_by (N := ["thing", "item"]) (sc := defScope s_need_burst) (by decide +kernel)) (turns_n (by rw [hlen]; omega) fun i hi => ?_) (pts_n _)) ?_))).is ?_)) (fun z => by cases z) fun _ => ?_
    · rw [hlen] at hi
      have hq : l[i]? = some l[i] := List.getElem?_eq_getElem hi
      refine ⟨[1], [.im (buD l), .im (itD l[i])], by decide, fun s0 H0 Ca cl fp => ?_, fun s0 H0 Ca cl fp => ?_⟩
      · have e : (l.map itD).getD i .non = itD l[i] := by simp [List.getD_eq_getElem?_getD, hq]
        show PTg _ C _ _ _ ((l.map itD).getD i .non) _
        rw [e]
        exact ptg_name 1 sc_need_burst.nd
      · refine (pv_and (pv_isR T.R T.b_isinstance (pv_var 1)) fun _ => pv_1 (pv_gt (pv_num T (k := 2) hr (pv_var 1)) pv_int)).is ?_
        have := (h3 _ (List.getElem_mem hi)).1
        show D.bl (true && decide (0 < l[i].1)) = _
        rw [decide_eq_true this]
        rfl
    · rw [kept_all, hlen, map_const]
    · exact all_rep _
    exact pb_ret (pv_var 0) rfl
end
end Bf

namespace Bf
open BF
/-! ### the places of a table: few -/
def suff (p : Pl) : List Pl := (List.range 6).map fun i => ⟨p.known, p.rest.drop i, p.op⟩
def univ (t : Tb) : List Pl := suff (begin_ t) ++ (List.range t.bits).flatMap fun k => [Op.no, .gap, .pulse].flatMap fun op => [false, true].flatMap fun b => suff (settle t k op b)
theorem mem_suff {p q : Pl} : q ∈ suff p ↔ ∃ i, i < 6 ∧ q = ⟨p.known, p.rest.drop i, p.op⟩ := by
  unfold suff
  rw [List.mem_map]
  constructor
  · rintro ⟨i, hi, e⟩
    exact ⟨i, List.mem_range.mp hi, e.symm⟩
  · rintro ⟨i, hi, e⟩
    exact ⟨i, List.mem_range.mpr hi, e.symm⟩
theorem suff_self (p : Pl) : p ∈ suff p := mem_suff.mpr ⟨0, by decide, rfl⟩
theorem mem_univ {t : Tb} {q : Pl} : q ∈ univ t ↔ q ∈ suff (begin_ t) ∨ ∃ k op b, k < t.bits ∧ q ∈ suff (settle t k op b) := by
  unfold univ
  rw [List.mem_append]
  constructor
  · rintro (h | h)
    · exact .inl h
    · right
      obtain ⟨k, hk, h⟩ := List.mem_flatMap.mp h
      obtain ⟨op, _, h⟩ := List.mem_flatMap.mp h
      obtain ⟨b, _, h⟩ := List.mem_flatMap.mp h
      exact ⟨k, op, b, List.mem_range.mp hk, h⟩
  · rintro (h | ⟨k, op, b, hk, h⟩)
    · exact .inl h
    · right
      exact List.mem_flatMap.mpr ⟨k, List.mem_range.mpr hk, List.mem_flatMap.mpr ⟨op, by cases op <;> simp, List.mem_flatMap.mpr ⟨b, by cases b <;> simp, h⟩⟩⟩
theorem len_flat {α β : Type} {f : α → List β} {n : Nat} (h : ∀ x, (f x).length = n) : ∀ l : List α, (l.flatMap f).length = l.length * n
  | [] => by simp
  | x :: l => by rw [List.flatMap_cons, List.length_append, h x, len_flat h l, List.length_cons, Nat.succ_mul, Nat.add_comm]
theorem univ_len {t : Tb} (h : TbOk t) : (univ t).length ≤ 300 := by
  have hb : t.bits ≤ 8 := by
    cases t with
    | pairs hd z o s b => exact h.2.2.2.2.2.2.2.2.2
    | halves u b => exact h.2.2
  have e0 : ∀ p, (suff p).length = 6 := fun p => by simp [suff]
  unfold univ
  rw [List.length_append, e0, len_flat (n := 36) (fun k => by rw [len_flat (n := 12) (fun op => by rw [len_flat (n := 6) (fun b => e0 _)]; rfl)]; rfl), List.length_range]
  omega
theorem du_b {d : Int} (h : du d) : DuB d := ⟨by have := h.1; omega, by have := h.2; omega⟩
theorem begin_d {t : Tb} (h : TbOk t) : (∀ d ∈ (begin_ t).rest, DuB d) ∧ (begin_ t).rest.length ≤ 4 ∧ (begin_ t).known = 0 := by
  cases t with
  | pairs hd z o s b =>
    obtain ⟨h1, h2, _⟩ := h
    exact ⟨fun d hd => du_b (h2 d hd), by show hd.length ≤ 4; omega, rfl⟩
  | halves u b =>
    refine ⟨fun d hd => ?_, by show 1 ≤ 4; omega, rfl⟩
    have : d = u := List.mem_singleton.mp hd
    rw [this]
    exact du_b h.1
theorem settle_d {t : Tb} (h : TbOk t) (k : Nat) (op : Op) (b : Bool) : (∀ d ∈ (settle t k op b).rest, DuB d) ∧ (settle t k op b).rest.length ≤ 4 ∧ (settle t k op b).known = k + 1 := by
  cases t with
  | pairs hd z o s bt =>
    obtain ⟨_, _, h3, h4, h5, h6, _, h8, _⟩ := h
    have e : (settle (.pairs hd z o s bt) k op b).rest = (if b then [o.1, o.2] else [z.1, z.2]) ++ (if k + 1 = bt then [s] else []) := rfl
    refine ⟨fun d hd => ?_, ?_, rfl⟩
    · rw [e] at hd
      rcases List.mem_append.mp hd with hd | hd
      · cases b
        · simp at hd
          rcases hd with e | e <;> rw [e] <;> apply du_b <;> assumption
        · simp at hd
          rcases hd with e | e <;> rw [e] <;> apply du_b <;> assumption
      · split at hd
        · rw [List.mem_singleton.mp hd]
          exact du_b h8
        · cases hd
    · rw [e]
      cases b <;> by_cases hk : k + 1 = bt <;> simp [hk]
  | halves u bt =>
    have hu := h.1
    have hb := du_b hu
    have h2 : DuB (2 * u) := ⟨by have := hu.1; omega, by have := hu.2; omega⟩
    have hre : ∀ d ∈ (if fh b = op then [2 * u] else [u, u]), DuB d := fun d hd => by
      split at hd
      · rw [List.mem_singleton.mp hd]; exact h2
      · simp at hd; rw [hd]; exact hb
    have hl : (if fh b = op then [2 * u] else [u, u]).length ≤ 2 := by split <;> simp
    have e1 : (settle (.halves u bt) k op b) = (if k + 1 = bt ∧ (if fh b = op then other op else op) = .pulse then ⟨k + 1, (if fh b = op then [2 * u] else [u, u]) ++ [u], .gap⟩ else ⟨k + 1, if fh b = op then [2 * u] else [u, u], if fh b = op then other op else op⟩) := rfl
    rw [e1]
    generalize (if fh b = op then [2 * u] else [u, u]) = re at hre hl ⊢
    generalize (if fh b = op then other op else op) = op'
    split
    · refine ⟨fun d hd => ?_, by show (re ++ [u]).length ≤ 4; rw [List.length_append]; show re.length + 1 ≤ 4; omega, rfl⟩
      rcases List.mem_append.mp hd with hd | hd
      · exact hre d hd
      · rw [List.mem_singleton.mp hd]; exact hb
    · exact ⟨hre, by show re.length ≤ 4; omega, rfl⟩
theorem suff_d {p q : Pl} (hq : q ∈ suff p) (h : ∀ d ∈ p.rest, DuB d) : ∀ d ∈ q.rest, DuB d := fun d hd => by
  obtain ⟨i, _, e⟩ := mem_suff.mp hq
  subst e
  exact h d (List.mem_of_mem_drop hd)
theorem suff_tail {p q : Pl} (hq : q ∈ suff p) (hl : p.rest.length ≤ 4) (hne : q.rest ≠ []) : (⟨q.known, q.rest.tail, q.op⟩ : Pl) ∈ suff p := by
  obtain ⟨i, hi, e⟩ := mem_suff.mp hq
  subst e
  have h1 : i < p.rest.length := by
    rcases Nat.lt_or_ge i p.rest.length with h | h
    · exact h
    · exact absurd (List.drop_eq_nil_of_le h) hne
  exact mem_suff.mpr ⟨i + 1, by omega, by simp [List.tail_drop]⟩
theorem begin_u (t : Tb) : begin_ t ∈ univ t := mem_univ.mpr (.inl (suff_self _))
theorem univ_d {t : Tb} (h : TbOk t) {q : Pl} (hq : q ∈ univ t) : (∀ d ∈ q.rest, DuB d) ∧ q.known ≤ t.bits := by
  rcases mem_univ.mp hq with hq | ⟨k, op, b, hk, hq⟩
  · refine ⟨suff_d hq (begin_d h).1, ?_⟩
    obtain ⟨i, _, e⟩ := mem_suff.mp hq
    rw [e]
    show (begin_ t).known ≤ _
    rw [(begin_d h).2.2]
    exact Nat.zero_le _
  · refine ⟨suff_d hq (settle_d h k op b).1, ?_⟩
    obtain ⟨i, _, e⟩ := mem_suff.mp hq
    rw [e]
    show (settle t k op b).known ≤ _
    rw [(settle_d h k op b).2.2]
    exact hk
theorem univ_step {t : Tb} (h : TbOk t) {q : Pl} (hq : q ∈ univ t) {s : Stp} (hs : s ∈ steps t q) : DuB s.2.1 ∧ s.2.2 ∈ univ t := by
  unfold steps at hs
  split at hs
  · cases hs
  · rename_i he
    have tk : ∀ (b : Option Bool) (q' : Pl), s = take1 b q' → q' ∈ univ t → q'.rest ≠ [] → DuB s.2.1 ∧ s.2.2 ∈ univ t := fun b q' e hq' hne => by
      subst e
      refine ⟨?_, ?_⟩
      · show DuB (q'.rest.headD 0)
        cases hr : q'.rest with
        | nil => exact absurd hr hne
        | cons d r => exact (univ_d h hq').1 d (by rw [hr]; exact List.mem_cons_self ..)
      · show (⟨q'.known, q'.rest.tail, q'.op⟩ : Pl) ∈ univ t
        rcases mem_univ.mp hq' with h1 | ⟨k, op, b, hk, h1⟩
        · exact mem_univ.mpr (.inl (suff_tail h1 (begin_d h).2.1 hne))
        · exact mem_univ.mpr (.inr ⟨k, op, b, hk, suff_tail h1 (settle_d h k op b).2.1 hne⟩)
    split at hs
    · rename_i hr
      have hk : q.known < t.bits := by
        have h1 := (univ_d h hq).2
        have h2 : q.known ≠ t.bits := fun z => he (isEnd_iff.mpr ⟨z, hr⟩)
        omega
      simp only [List.mem_cons, List.not_mem_nil, or_false] at hs
      rcases hs with e | e
      · exact tk _ _ e (mem_univ.mpr (.inr ⟨q.known, q.op, false, hk, suff_self _⟩)) (settle_rest_ne _ _ _ _)
      · exact tk _ _ e (mem_univ.mpr (.inr ⟨q.known, q.op, true, hk, suff_self _⟩)) (settle_rest_ne _ _ _ _)
    · rename_i hr
      have e : s = take1 none q := by simpa using hs
      exact tk _ _ e hq hr
theorem nodup_len {α : Type} [DecidableEq α] : ∀ {l u : List α}, l.Nodup → (∀ x ∈ l, x ∈ u) → l.length ≤ u.length
  | [], _, _, _ => Nat.zero_le _
  | x :: l, u, hn, hs => by
    rw [List.nodup_cons] at hn
    have hx := hs x (List.mem_cons_self ..)
    have := nodup_len (l := l) (u := u.erase x) hn.2 fun y hy => by
      have hne : y ≠ x := fun e => hn.1 (e ▸ hy)
      exact (List.mem_erase_of_ne hne).mpr (hs y (List.mem_cons_of_mem _ hy))
    rw [List.length_erase_of_mem hx] at this
    have hpos : 0 < u.length := List.length_pos_of_mem hx
    rw [List.length_cons]
    omega
/-- a layer as it should be -/
structure LyOk (t : Tb) (l : List Pl) : Prop where
  nd : l.Nodup
  un : ∀ p ∈ l, p ∈ univ t
theorem LyOk.len {t : Tb} (h : TbOk t) {l : List Pl} (k : LyOk t l) : l.length ≤ 300 := Nat.le_trans (nodup_len k.nd k.un) (univ_len h)
theorem fit1_ok {t : Tb} (h : TbOk t) {tol : Part} {it : Item} {l : List Pl} (k : LyOk t l) {s : Stp} (hs : s.2.2 ∈ univ t) : LyOk t (fit1 tol it l s) := by
  unfold fit1
  split
  · rename_i hc
    obtain ⟨_, h2⟩ := Bool.and_eq_true_iff.mp hc
    have h3 : s.2.2 ∉ l := fun z => by
      have : l.contains s.2.2 = true := List.contains_iff_mem.mpr z
      rw [this] at h2
      cases h2
    refine ⟨List.nodup_append.mpr ⟨k.nd, by simp, ?_⟩, fun p hp => ?_⟩
    · intro a ha b hb e
      rw [List.mem_singleton.mp hb] at e
      exact h3 (e ▸ ha)
    · rcases List.mem_append.mp hp with hp | hp
      · exact k.un p hp
      · rw [List.mem_singleton.mp hp]; exact hs
  · exact k
theorem fold_take {α β : Type} (f : β → α → β) {l : List α} {i : Nat} {x : α} (h : l[i]? = some x) (b : β) : (l.take (i + 1)).foldl f b = f ((l.take i).foldl f b) x := by
  rw [List.take_succ, h, List.foldl_append]
  rfl
theorem fitFold_ok {t : Tb} (h : TbOk t) {tol : Part} {it : Item} : ∀ {ss : List Stp} {l : List Pl}, LyOk t l → (∀ s ∈ ss, s.2.2 ∈ univ t) → LyOk t (ss.foldl (fit1 tol it) l)
  | [], _, k, _ => k
  | s :: ss, _, k, hs => by
    rw [List.foldl_cons]
    exact fitFold_ok h (fit1_ok h k (hs s (List.mem_cons_self ..))) fun s' h' => hs s' (List.mem_cons_of_mem _ h')
theorem rowFold_ok {t : Tb} (h : TbOk t) {tol : Part} {it : Item} : ∀ {ps l : List Pl}, LyOk t l → (∀ p ∈ ps, p ∈ univ t) → LyOk t (ps.foldl (fitRow t tol it) l)
  | [], _, k, _ => k
  | p :: ps, _, k, hp => by
    rw [List.foldl_cons]
    exact rowFold_ok h (fitFold_ok h k fun s hs => (univ_step h (hp p (List.mem_cons_self ..)) hs).2) fun p' h' => hp p' (List.mem_cons_of_mem _ h')
theorem nil_ok (t : Tb) : LyOk t [] := ⟨List.nodup_nil, fun _ h => nomatch h⟩
theorem fits_ok {t : Tb} (h : TbOk t) {tol : Part} {it : Item} {l : List Pl} (k : LyOk t l) : LyOk t (fits t tol it l) := rowFold_ok h (nil_ok t) k.un
theorem take_ok {t : Tb} {l : List Pl} (k : LyOk t l) (i : Nat) : ∀ p ∈ l.take i, p ∈ univ t := fun p hp => k.un p (List.mem_of_mem_take hp)
/-- the layer ahead of item i -/
def lay (t : Tb) (tol : Part) (its : List Item) (i : Nat) : List Pl := (its.take i).foldl (fun l it => fits t tol it l) [begin_ t]
theorem lay_succ {t : Tb} {tol : Part} {its : List Item} {i : Nat} {it : Item} (h : its[i]? = some it) : lay t tol its (i + 1) = fits t tol it (lay t tol its i) := fold_take _ h _
theorem lay_ok {t : Tb} (h : TbOk t) {tol : Part} {its : List Item} : ∀ i, LyOk t (lay t tol its i) := fun i => by
  unfold lay
  have : ∀ (l : List Item) (a : List Pl), LyOk t a → LyOk t (l.foldl (fun l it => fits t tol it l) a) := fun l => by
    induction l with
    | nil => exact fun a k => k
    | cons it l ih => exact fun a k => ih _ (fits_ok h k)
  exact this _ _ ⟨by simp, fun p hp => by rw [List.mem_singleton.mp hp]; exact begin_u t⟩
/-- the back layers from item i on -/
def bk (t : Tb) (tol : Part) (its : List Item) (i : Nat) : List (List Pl) := back t tol (its.drop i) (lay t tol its i)
theorem bk_end {t : Tb} {tol : Part} {its : List Item} : bk t tol its its.length = [(lay t tol its its.length).filter (isEnd t)] := by
  unfold bk
  rw [List.drop_length]
  rfl
theorem bk_step {t : Tb} {tol : Part} {its : List Item} {i : Nat} {it : Item} (h : its[i]? = some it) : bk t tol its i = (lay t tol its i).filter (goodB t tol it ((bk t tol its (i + 1)).headD [])) :: bk t tol its (i + 1) := by
  unfold bk
  have e : its.drop i = it :: its.drop (i + 1) := by
    obtain ⟨hl, e⟩ := List.getElem?_eq_some_iff.mp h
    rw [List.drop_eq_getElem_cons hl, e]
  rw [e, lay_succ h]
  rfl
theorem bk_len {t : Tb} {tol : Part} {its : List Item} : ∀ {i : Nat}, i ≤ its.length → (bk t tol its i).length = its.length - i + 1 := fun {i} hi => by
  induction hn : its.length - i generalizing i with
  | zero =>
    have : i = its.length := by omega
    subst this
    rw [bk_end]
    rfl
  | succ n ih =>
    have hlt : i < its.length := by omega
    rw [bk_step (List.getElem?_eq_getElem hlt), List.length_cons, ih (by omega) (by omega)]
theorem goodB_any {t : Tb} {tol : Part} {it : Item} {nx : List Pl} {p : Pl} : goodB t tol it nx p = (((steps t p).filter fun s => !isOff tol it s.2.1).map (·.2.2)).any (fun q => nx.contains q) := by
  unfold goodB
  rw [List.any_map, List.any_filter]
  rfl
theorem filter_ok {t : Tb} {l : List Pl} (k : LyOk t l) (f : Pl → Bool) : LyOk t (l.filter f) := ⟨List.Pairwise.filter _ k.nd, fun p hp => k.un p (List.mem_filter.mp hp).1⟩
end Bf

namespace Bf
open PySem PySem.Spec PyProof.Rows L2

abbrev IsZipF (h : Heap) (z TI TO : Addr) (f0 : Value) (f : Bool) : Prop := h.get? z = some { cls := .type "zip", dict := none, data := .fields #[f0, .bool f, .bool false, .ref TI, .ref TO], slots := #[] }
section
variable {prog : Program} {w : World} {A : Around} {E : Value → Shared → Prop} {s : Shared} {z TI TO i1 i2 a : Addr} {fp1 fp2 : List Addr} {n1 n2 i : Nat} {P1 P2 : Nat → Value → Prop} {St1 St2 : Nat → Heap → Prop} {a1 a2 : Value} {f : Bool} {oa : Obj}
theorem ownFree_out {Q : Bool → Shared → Prop} (hz : IsZipF s.heap z TI TO (rawInt a) f) (ha : s.heap.get? a = some oa) (hQ : ∀ h', IsZipF h' z TI TO (rawInt a) true → Heap.SameBut z s.heap h' → Q false { s with heap := h' }) :
    wpAny (model prog w) A (Builtin.SmallTypes.ownedTupleIsFree (.ref z)) Q E s := by
  unfold Builtin.SmallTypes.ownedTupleIsFree
  refine wpAny_bind (wpAny_field hz rfl (x := rawInt a) rfl ?_)
  show wpAny _ _ (loadIfAlive ((a : Int).toNat) >>= _) _ _ _
  rw [Int.toNat_natCast]
  refine wpAny_bind (PySem.W.kdx_alive ha ?_)
  simp only [Option.isNone_some, Bool.false_eq_true, if_false]
  refine wpAny_bind (wpAny_field hz rfl (x := .bool f) rfl ?_)
  cases f with
  | true =>
    rw [if_neg (show ¬ ((Value.bool true != Value.bool true) = true) from Bool.false_ne_true)]
    exact wpAny_pure (hQ s.heap hz (Heap.SameBut.refl _ _))
  | false =>
    rw [if_pos (show (Value.bool false != Value.bool true) = true from rfl)]
    refine wpAny_bind (wpAny_setField_rec hz (by simp) fun h₃ he₃ hs₃ => ?_)
    exact wpAny_pure (hQ h₃ he₃ hs₃)
theorem zipO_next_item {Q : Value → Shared → Prop} (S : ZipSep2 z TI TO i1 i2 fp1 fp2) (D1 : Draws prog w A i1 fp1 n1 P1 St1) (D2 : Draws prog w A i2 fp2 n2 P2 St2)
    (hz : IsZipF s.heap z TI TO (rawInt a) f) (ha : s.heap.get? a = some oa) (hTI : IsTupOf2 s.heap TI (.ref i1) (.ref i2)) (st1 : St1 i s.heap) (st2 : St2 i s.heap) (hlt1 : i < n1) (hlt2 : i < n2)
    (hQ : ∀ x1 x2 h' tk, P1 i x1 → P2 i x2 → IsZipF h' z TI TO (rawInt a) true → St1 (i + 1) h' → St2 (i + 1) h' → IsTupOf2 h' s.heap.objs.size x1 x2 → h'.objs.size = s.heap.objs.size + 1 →
      (∀ c o, c ≠ z → c ≠ i1 → c ≠ i2 → s.heap.get? c = some o → h'.get? c = some o) → Q (.ref s.heap.objs.size) { s with heap := h', toks := tk }) :
    wpAny (model prog w) A (Builtin.«zip.__next__» ⟨[.ref z], []⟩) (fun fin s' => ∃ v, fin = .done (.ret v) ∧ Q v s') E s := by
  obtain ⟨hp, g, d, tk0, os⟩ := s
  show wpAny _ _ (field (.ref z) 2 >>= _) _ _ _
  refine wpAny_bind (wpAny_field hz rfl (x := .bool false) rfl ?_)
  show wpAny _ _ (field (.ref z) 3 >>= _) _ _ _
  refine wpAny_bind (wpAny_field hz rfl (x := .ref TI) rfl ?_)
  refine wpAny_bind (wpAny_seqItems hTI rfl ?_)
  show wpAny _ _ (Builtin.SmallTypes.ownedTupleIsFree (.ref z) >>= _) _ _ _
  refine wpAny_bind (ownFree_out hz ha fun g0 hz0 hs0 => ?_)
  replace hs0 : Heap.SameBut z hp g0 := hs0
  simp only [Bool.false_eq_true, if_false]
  rw [← Array.forIn_toList]
  simp only [List.forIn_cons, List.forIn_nil]
  refine wpAny_bind (wpAny_bind (wpAny_bind (wpAny_holding ?_)))
  show wpAny _ _ (Builtin.SmallTypes.nextOf (.ref i1) >>= _) _ _ ⟨g0, g, d, tk0, os⟩
  refine wpAny_bind (D1.item i _ _ _ hlt1 (D1.over st1 hs0 S.zf1) fun x1 p1 tk1 hx1 sn1 hp1 => wpAny_pure ?_)
  replace hp1 : Heap.SameBut i1 g0 p1 := hp1
  refine wpAny_pure ?_
  refine wpAny_bind (wpAny_bind (wpAny_holding ?_))
  show wpAny _ _ (Builtin.SmallTypes.nextOf (.ref i2) >>= _) _ _ ⟨p1, g, d, tk1, os⟩
  refine wpAny_bind (D2.item i _ _ _ hlt2 (D2.over (D2.over st2 hs0 S.zf2) hp1 S.sep1_2) fun x2 p2 tk2 hx2 sn2 hp2 => wpAny_pure ?_)
  replace hp2 : Heap.SameBut i2 p1 p2 := hp2
  refine wpAny_pure (wpAny_pure ?_)
  refine wpAny_bind (wpAny_newTuple ?_ (by show (2 : Nat) ≤ sizeLine; decide))
  refine wpAny_pure ⟨_, rfl, ?_⟩
  have hsz : p2.objs.size = hp.objs.size := by rw [hp2.1, hp1.1, hs0.1]
  show Q (.ref p2.objs.size) _
  rw [hsz]
  have up : ∀ c o, p2.get? c = some o → (p2.push { cls := .type "tuple", data := .seq #[x1, x2] }).get? c = some o := fun c o e => Heap.get?_push_of_some _ e
  refine hQ x1 x2 _ tk2 hx1 hx2 (up _ _ (hp2.extBut _ _ S.zi2 (hp1.extBut _ _ S.zi1 hz0))) (D1.frame _ _ _ (D1.over sn1 hp2 S.sep2_1) fun b _ o e => up b o e) (D2.frame _ _ _ sn2 fun b _ o e => up b o e) (by show Heap.get? _ hp.objs.size = _; rw [← hsz]; exact Heap.get?_push_size _ rfl) (by show (p2.push _).objs.size = _; rw [Heap.size_push, hsz]) fun c o cz c1 c2 e => up c o (hp2.extBut _ _ c2 (hp1.extBut _ _ c1 (hs0.extBut _ _ cz e)))
theorem zipO_next_end {Q : Fin → Shared → Prop} (S : ZipSep2 z TI TO i1 i2 fp1 fp2) (D1 : Draws prog w A i1 fp1 n1 P1 St1) (D2 : Draws prog w A i2 fp2 n2 P2 St2)
    (hz : IsZipF s.heap z TI TO (rawInt a) f) (ha : s.heap.get? a = some oa) (hTI : IsTupOf2 s.heap TI (.ref i1) (.ref i2)) (st1 : St1 i s.heap) (st2 : St2 i s.heap) (hle1 : i ≤ n1) (hle2 : i ≤ n2) (hend : i = n1 ∨ i = n2)
    (hE : ∀ h' tk e, (∀ c o, c ≠ z → c ≠ i1 → c ≠ i2 → s.heap.get? c = some o → h'.get? c = some o) → (∃ o, h'.get? e = some o ∧ o.cls = .type "StopIteration") → E (.ref e) { s with heap := h', toks := tk }) :
    wpAny (model prog w) A (Builtin.«zip.__next__» ⟨[.ref z], []⟩) Q E s := by
  obtain ⟨hp, g, d, tk0, os⟩ := s
  show wpAny _ _ (field (.ref z) 2 >>= _) _ _ _
  refine wpAny_bind (wpAny_field hz rfl (x := .bool false) rfl ?_)
  show wpAny _ _ (field (.ref z) 3 >>= _) _ _ _
  refine wpAny_bind (wpAny_field hz rfl (x := .ref TI) rfl ?_)
  refine wpAny_bind (wpAny_seqItems hTI rfl ?_)
  show wpAny _ _ (Builtin.SmallTypes.ownedTupleIsFree (.ref z) >>= _) _ _ _
  refine wpAny_bind (ownFree_out hz ha fun g0 hz0 hs0 => ?_)
  replace hs0 : Heap.SameBut z hp g0 := hs0
  simp only [Bool.false_eq_true, if_false]
  rw [← Array.forIn_toList]
  simp only [List.forIn_cons, List.forIn_nil]
  refine wpAny_bind (wpAny_bind (wpAny_bind (wpAny_holding ?_)))
  show wpAny _ _ (Builtin.SmallTypes.nextOf (.ref i1) >>= _) _ _ ⟨g0, g, d, tk0, os⟩
  by_cases hlt1 : i < n1
  · refine wpAny_bind (D1.item i _ _ _ hlt1 (D1.over st1 hs0 S.zf1) fun x1 p1 tk1 hx1 sn1 hp1 => wpAny_pure ?_)
    replace hp1 : Heap.SameBut i1 g0 p1 := hp1
    have hi2 : i = n2 := by omega
    refine wpAny_pure ?_
    refine wpAny_bind (wpAny_bind (wpAny_holding ?_))
    show wpAny _ _ (Builtin.SmallTypes.nextOf (.ref i2) >>= _) _ _ ⟨p1, g, d, tk1, os⟩
    refine wpAny_bind (D2.done ⟨p1, g, d, tk1, os⟩ _ _ (by rw [← hi2]; exact (D2.over (D2.over st2 hs0 S.zf2) hp1 S.sep1_2)) fun q e hq he => ?_)
    replace hq : Heap.ExtBut i2 p1 q := hq
    exact hE q tk1 e (fun c o cz c1 c2 x => hq _ _ c2 (hp1.extBut _ _ c1 (hs0.extBut _ _ cz x))) he
  · have hi1 : i = n1 := by omega
    refine wpAny_bind (D1.done ⟨g0, g, d, tk0, os⟩ _ _ (by rw [← hi1]; exact (D1.over st1 hs0 S.zf1)) fun q e hq he => ?_)
    replace hq : Heap.ExtBut i1 g0 q := hq
    exact hE q tk0 e (fun c o cz c1 c2 x => hq _ _ c1 (hs0.extBut _ _ cz x)) he
theorem pyNext_zipO_item {Q : Option Value → Shared → Prop} (S : ZipSep2 z TI TO i1 i2 fp1 fp2) (D1 : Draws prog w A.in1 i1 fp1 n1 P1 St1) (D2 : Draws prog w A.in1 i2 fp2 n2 P2 St2)
    (hz : IsZipF s.heap z TI TO (rawInt a) f) (ha : s.heap.get? a = some oa) (hTI : IsTupOf2 s.heap TI (.ref i1) (.ref i2)) (st1 : St1 i s.heap) (st2 : St2 i s.heap) (hlt1 : i < n1) (hlt2 : i < n2)
    (hQ : ∀ x1 x2 h' tk, P1 i x1 → P2 i x2 → IsZipF h' z TI TO (rawInt a) true → St1 (i + 1) h' → St2 (i + 1) h' → IsTupOf2 h' s.heap.objs.size x1 x2 → h'.objs.size = s.heap.objs.size + 1 →
      (∀ c o, c ≠ z → c ≠ i1 → c ≠ i2 → s.heap.get? c = some o → h'.get? c = some o) → Q (some (.ref s.heap.objs.size)) { s with heap := h', toks := tk }) :
    wpAny (model prog w) A (pyNext (.ref z)) Q E s := by
  have hT : s.TypeIs (.ref z) "zip" := ⟨_, hz, rfl⟩
  unfold pyNext
  exact wpAny_bind (wpAny_attempt (wpAny_callSpecial?_slot (name := Str.ofString "__next__") hT PySem.F.slot_zip_next
    (wpAny_call_entry PySem.F.slot_zip_next hT PySem.F.entry_zip_next
      (zipO_next_item S D1 D2 hz ha hTI st1 st2 hlt1 hlt2 fun x1 x2 h' tk y1 y2 b1 d1 d2 b5 b6 b7 => wpAny_pure (hQ x1 x2 h' tk y1 y2 b1 d1 d2 b5 b6 b7)) (PySem.F.args_zip_next_1 _))))
theorem pyNext_zipO_end {Q : Option Value → Shared → Prop} (S : ZipSep2 z TI TO i1 i2 fp1 fp2) (D1 : Draws prog w A.in1 i1 fp1 n1 P1 St1) (D2 : Draws prog w A.in1 i2 fp2 n2 P2 St2)
    (hz : IsZipF s.heap z TI TO (rawInt a) f) (ha : s.heap.get? a = some oa) (hTI : IsTupOf2 s.heap TI (.ref i1) (.ref i2)) (st1 : St1 i s.heap) (st2 : St2 i s.heap) (hle1 : i ≤ n1) (hle2 : i ≤ n2) (hend : i = n1 ∨ i = n2)
    (hQ : ∀ h' tk, (∀ c o, c ≠ z → c ≠ i1 → c ≠ i2 → s.heap.get? c = some o → h'.get? c = some o) → Q none { s with heap := h', toks := tk }) : wpAny (model prog w) A (pyNext (.ref z)) Q E s := by
  have hT : s.TypeIs (.ref z) "zip" := ⟨_, hz, rfl⟩
  unfold pyNext
  refine wpAny_bind (wpAny_attempt (wpAny_callSpecial?_slot (name := Str.ofString "__next__") hT PySem.F.slot_zip_next
    (wpAny_call_entry PySem.F.slot_zip_next hT PySem.F.entry_zip_next (zipO_next_end S D1 D2 hz ha hTI st1 st2 hle1 hle2 hend fun h' tk e hk he => ?_) (PySem.F.args_zip_next_1 _))))
  obtain ⟨o, ho, hc⟩ := he
  refine wpAny_bind (wpAny_isInstance (T := "StopIteration") (b := true) ⟨o, ho, hc⟩ isSubtype_stop ?_)
  exact wpAny_pure (hQ _ _ hk)

/-! ### list(zip(..)) -/
def ZSt (h : Heap) (z TI TO i1 i2 S : Addr) (St1 St2 : Nat → Heap → Prop) (i : Nat) : Prop :=
  IsTupOf2 h TI (.ref i1) (.ref i2) ∧ St1 i h ∧ St2 i h ∧ ((IsZip h z TI TO .none ∧ ∃ x y, IsTupOf2 h TO x y) ∨ ∃ (a : Addr) (f : Bool) (oa : Obj), IsZipF h z TI TO (rawInt a) f ∧ h.get? a = some oa ∧ a ≠ z ∧ a ≠ i1 ∧ a ≠ i2 ∧ a ≠ S)
theorem ZSt.keep {h h' : Heap} {S : Addr} (D1 : Draws prog w A i1 fp1 n1 P1 St1) (D2 : Draws prog w A i2 fp2 n2 P2 St2) (x : ZSt h z TI TO i1 i2 S St1 St2 i) (hk : ∀ b o, b ≠ S → h.get? b = some o → h'.get? b = some o) (h1 : S ∉ fp1) (h2 : S ∉ fp2) (hz : z ≠ S) (hTI : TI ≠ S) (hTO : TO ≠ S) : ZSt h' z TI TO i1 i2 S St1 St2 i := by
  obtain ⟨t, s1, s2, r⟩ := x
  refine ⟨hk _ _ hTI t, D1.frame _ _ _ s1 fun b hb o e => hk b o (fun q => h1 (q ▸ hb)) e, D2.frame _ _ _ s2 fun b hb o e => hk b o (fun q => h2 (q ▸ hb)) e, ?_⟩
  rcases r with ⟨z1, x, y, z2⟩ | ⟨a, f, oa, z1, z2, z3, z4, z5, z6⟩
  · exact .inl ⟨hk _ _ hz z1, x, y, hk _ _ hTO z2⟩
  · exact .inr ⟨a, f, oa, hk _ _ hz z1, hk _ _ z6 z2, z3, z4, z5, z6⟩
theorem zst_item {S : Addr} {Q : Option Value → Shared → Prop} (ap : ZipSep2 z TI TO i1 i2 fp1 fp2) (D1 : Draws prog w A.in1 i1 fp1 n1 P1 St1) (D2 : Draws prog w A.in1 i2 fp2 n2 P2 St2) (st : ZSt s.heap z TI TO i1 i2 S St1 St2 i) (hS : S < s.heap.objs.size) (hlt1 : i < n1) (hlt2 : i < n2)
    (hQ : ∀ x1 x2 h' tk, P1 i x1 → P2 i x2 → ZSt h' z TI TO i1 i2 S St1 St2 (i + 1) → IsTupOf2 h' s.heap.objs.size x1 x2 → h'.objs.size = s.heap.objs.size + 1 →
      (∀ c o, c ≠ z → c ≠ TO → c ≠ i1 → c ≠ i2 → s.heap.get? c = some o → h'.get? c = some o) → Q (some (.ref s.heap.objs.size)) { s with heap := h', toks := tk }) : wpAny (model prog w) A (pyNext (.ref z)) Q E s := by
  obtain ⟨t, s1, s2, r⟩ := st
  have lt : ∀ {c o}, s.heap.get? c = some o → s.heap.objs.size ≠ c := fun e => Nat.ne_of_gt (Heap.lt_size e)
  have l1 : s.heap.objs.size ≠ i1 := by obtain ⟨_, e⟩ := D1.live _ _ s1; exact lt e
  have l2 : s.heap.objs.size ≠ i2 := by obtain ⟨_, e⟩ := D2.live _ _ s2; exact lt e
  rcases r with ⟨z1, x, y, z2⟩ | ⟨a, f, oa, z1, z2, z3, z4, z5, z6⟩
  · refine wpAny_pyNext_zipD2_item ap D1 D2 z1 t z2 s1 s2 hlt1 hlt2 fun x1 x2 h' tk y1 y2 b1 b2 d1 d2 b5 b6 hk => ?_
    exact hQ x1 x2 h' tk y1 y2 ⟨hk _ _ ap.TIz ap.TITO ap.TIi1 ap.TIi2 t, d1, d2, .inr ⟨_, false, _, b1, b5, lt z1, l1, l2, Nat.ne_of_gt hS⟩⟩ b5 b6 hk
  · refine pyNext_zipO_item ap D1 D2 z1 z2 t s1 s2 hlt1 hlt2 fun x1 x2 h' tk y1 y2 b1 d1 d2 b5 b6 hk => ?_
    exact hQ x1 x2 h' tk y1 y2 ⟨hk _ _ ap.TIz ap.TIi1 ap.TIi2 t, d1, d2, .inr ⟨a, true, oa, b1, hk a _ z3 z4 z5 z2, z3, z4, z5, z6⟩⟩ b5 b6 fun c o c1 c2 c3 c4 e => hk c o c1 c3 c4 e
theorem zst_end {S : Addr} {Q : Option Value → Shared → Prop} (ap : ZipSep2 z TI TO i1 i2 fp1 fp2) (D1 : Draws prog w A.in1 i1 fp1 n1 P1 St1) (D2 : Draws prog w A.in1 i2 fp2 n2 P2 St2) (st : ZSt s.heap z TI TO i1 i2 S St1 St2 i) (hle1 : i ≤ n1) (hle2 : i ≤ n2) (hend : i = n1 ∨ i = n2)
    (hQ : ∀ h' tk, (∀ c o, c ≠ z → c ≠ TO → c ≠ i1 → c ≠ i2 → s.heap.get? c = some o → h'.get? c = some o) → Q none { s with heap := h', toks := tk }) : wpAny (model prog w) A (pyNext (.ref z)) Q E s := by
  obtain ⟨t, s1, s2, r⟩ := st
  rcases r with ⟨z1, x, y, z2⟩ | ⟨a, f, oa, z1, z2, z3, z4, z5, z6⟩
  · exact wpAny_pyNext_zipD2_end ap D1 D2 z1 t z2 s1 s2 hle1 hle2 hend hQ
  · exact pyNext_zipO_end ap D1 D2 z1 z2 t s1 s2 hle1 hle2 hend fun h' tk hk => hQ h' tk fun c o c1 c2 c3 c4 e => hk c o c1 c3 c4 e

/-- the pairs that were made -/
structure ZMade (P1 P2 : Nat → Value → Prop) (lo : Addr) (h : Heap) (as : List Addr) : Prop where
  rise : as.Pairwise (· < ·)
  above : ∀ a ∈ as, lo < a
  pairs : ∀ (j : Nat) (a : Addr), as[j]? = some a → ∃ x y, P1 j x ∧ P2 j y ∧ h.get? a = some { cls := .type "tuple", data := .seq #[x, y] }
theorem ZMade.there {lo : Addr} {h : Heap} {as : List Addr} (g : ZMade P1 P2 lo h as) {a : Addr} (ha : a ∈ as) : a < h.objs.size := by
  obtain ⟨j, hj⟩ := List.mem_iff_getElem?.mp ha
  obtain ⟨_, _, _, _, e⟩ := g.pairs j a hj
  exact Heap.lt_size e
theorem zloop {S : Addr} {R : Result → Shared → Prop} (ap : ZipSep2 z TI TO i1 i2 fp1 fp2) (D1 : Draws prog w A.in1.in1 i1 fp1 n1 P1 St1) (D2 : Draws prog w A.in1.in1 i2 fp2 n2 P2 St2) (hn : min n1 n2 ≤ sizeLine) (res : Value)
    (hS1 : S ∉ fp1) (hS2 : S ∉ fp2) (hSz : z < S) (hST : S ≠ TI) (hTO : TO < S) (hi1 : i1 < S) (hi2 : i2 < S) {h₁ : Heap}
    (hR : ∀ h' tk acc c as, (∀ b o, b ≠ S → b ≠ z → b ≠ TO → b ≠ i1 → b ≠ i2 → h₁.get? b = some o → h'.get? b = some o) → h'.get? S = some { cls := .type "list", dict := none, data := .seq acc c, slots := #[] } → as.length = min n1 n2 → ZMade P1 P2 S h' as →
      acc.toList = as.map Value.ref → R (.ok (.ret res)) { s with heap := h', toks := tk }) :
    ∀ (k i : Nat) (h : Heap) (tk c : Nat) (acc : Array Value) (as : List Addr), min n1 n2 - i = k → i ≤ min n1 n2 → ZSt h z TI TO i1 i2 S St1 St2 i → (∀ b o, b ≠ S → b ≠ z → b ≠ TO → b ≠ i1 → b ≠ i2 → h₁.get? b = some o → h.get? b = some o) →
      h.get? S = some { cls := .type "list", dict := none, data := .seq acc c, slots := #[] } → acc.toList = as.map Value.ref → as.length = i → ZMade P1 P2 S h as →
      codeAny (model prog w) A (.builtin "list.extend.loop" ⟨[.ref S, .ref z, res], []⟩) R { s with heap := h, toks := tk } := by
  have hne : S ≠ z := Nat.ne_of_gt hSz
  have hSO : S ≠ TO := Nat.ne_of_gt hTO
  have hSi1 : S ≠ i1 := fun e => hS1 (e ▸ ap.mem1)
  have hSi2 : S ≠ i2 := fun e => hS2 (e ▸ ap.mem2)
  intro k
  induction k with
  | zero =>
    intro i h tk c acc as hk hi hst hkeep hS hacc hal hG
    refine codeAny_builtin PySem.F.entry_extend_loop ?_
    rw [Around.under_plainId PySem.F.plain_extend_loop _]
    show wpAny _ A.in1 (pyNext (.ref z) >>= _) _ _ _
    refine wpAny_bind (zst_end (s := { s with heap := h, toks := tk }) (A := A.in1) ap D1 D2 hst (by omega) (by omega) (by omega) fun h' tk' he => ?_)
    refine wpAny_pure (hR h' tk' acc c as (fun b o h1 h2 h3 h4 h5 e => he b o h2 h3 h4 h5 (hkeep b o h1 h2 h3 h4 h5 e)) (he S _ hne hSO hSi1 hSi2 hS) (by omega) ⟨hG.rise, hG.above, fun j a hj => ?_⟩ hacc)
    obtain ⟨x, y, e1, e2, e3⟩ := hG.pairs j a hj
    have ab := hG.above a (List.mem_of_getElem? hj)
    exact ⟨x, y, e1, e2, he a _ (Nat.ne_of_gt (Nat.lt_trans hSz ab)) (Nat.ne_of_gt (Nat.lt_trans hTO ab)) (Nat.ne_of_gt (Nat.lt_trans hi1 ab)) (Nat.ne_of_gt (Nat.lt_trans hi2 ab)) e3⟩
  | succ k ih =>
    intro i h tk c acc as hk hi hst hkeep hS hacc hal hG
    have hsz : acc.size = i := by rw [← Array.length_toList, hacc, List.length_map, hal]
    refine codeAny_builtin PySem.F.entry_extend_loop ?_
    rw [Around.under_plainId PySem.F.plain_extend_loop _]
    show wpAny _ A.in1 (pyNext (.ref z) >>= _) _ _ _
    refine wpAny_bind (zst_item (s := { s with heap := h, toks := tk }) (S := S) (A := A.in1) ap D1 D2 hst (Heap.lt_size hS) (by omega) (by omega) fun x1 x2 h' tk' p1 p2 hst' ht hz hkp => ?_)
    dsimp only at ht hz hkp ⊢
    have hS' := hkp S _ hne hSO hSi1 hSi2 hS
    have up : ∀ b o, b ≠ S → h'.get? b = some o → (h'.update S (Obj.mapSeq (·.push (Value.ref h.objs.size)))).get? b = some o := fun b o hb e => (Heap.get?_update_other _ _ (Ne.symm hb)).trans e
    have hSl : S < h.objs.size := Heap.lt_size hS
    show wpAny _ A.in1 (updateSeq S (·.push (Value.ref h.objs.size)) >>= _) _ _ _
    refine wpAny_bind ?_
    refine wpAny_updateSeq hS' rfl (wpAny_pure ⟨plainId_quiet PySem.F.plain_extend_loop _, ih (i + 1) _ tk' _ (acc.push (Value.ref h.objs.size)) (as ++ [h.objs.size]) (by omega) (by omega) (hst'.keep D1 D2 up hS1 hS2 (Ne.symm hne) (Ne.symm hST) (Ne.symm hSO))
      (fun b o h1 h2 h3 h4 h5 e => up b o h1 (hkp b o h2 h3 h4 h5 (hkeep b o h1 h2 h3 h4 h5 e))) (Heap.get?_update_self _ hS' rfl) (by rw [Array.toList_push, hacc, List.map_append]; rfl) (by rw [List.length_append, hal]; rfl) ⟨?_, ?_, ?_⟩⟩) (by rw [hsz]; omega) (by show (acc.push (Value.ref h.objs.size)).size ≤ sizeLine + 1; rw [Array.size_push, hsz]; omega)
    · refine List.pairwise_append.mpr ⟨hG.rise, List.pairwise_singleton _ _, fun a ha b hb => ?_⟩
      rw [List.mem_singleton.mp hb]
      exact hG.there ha
    · intro a ha
      rcases List.mem_append.mp ha with ha | ha
      · exact hG.above a ha
      · rw [List.mem_singleton.mp ha]; exact hSl
    · intro j b hj
      rcases Nat.lt_trichotomy j as.length with h1 | h1 | h1
      · rw [List.getElem?_append_left h1] at hj
        obtain ⟨x, y, e1, e2, e3⟩ := hG.pairs j b hj
        have ab := hG.above b (List.mem_of_getElem? hj)
        exact ⟨x, y, e1, e2, up b _ (Nat.ne_of_gt ab) (hkp b _ (Nat.ne_of_gt (Nat.lt_trans hSz ab)) (Nat.ne_of_gt (Nat.lt_trans hTO ab)) (Nat.ne_of_gt (Nat.lt_trans hi1 ab)) (Nat.ne_of_gt (Nat.lt_trans hi2 ab)) e3)⟩
      · subst h1
        have hb : h.objs.size = b := by simpa using hj
        subst hb
        exact ⟨x1, x2, hal ▸ p1, hal ▸ p2, up _ _ (Nat.ne_of_gt hSl) ht⟩
      · have hnone : (as ++ [h.objs.size])[j]? = none := List.getElem?_eq_none (by rw [List.length_append, List.length_singleton]; omega)
        rw [hnone] at hj; cases hj
theorem zip_no_len : typeLookup (.type "zip") "__len__" = pure none := by rw [typeLookup_type, builtinLookup_eq_fast]; kernel_rfl
theorem zip_no_hint : typeLookup (.type "zip") "__length_hint__" = pure none := by rw [typeLookup_type, builtinLookup_eq_fast]; kernel_rfl
theorem zhint (hT : s.TypeIs (.ref z) "zip") {Q : Bool → Shared → Prop} (h : Q true s) : wpAny (model prog w) A (Builtin.List.listLengthHint (.ref z)) Q E s := by
  unfold Builtin.List.listLengthHint
  refine wpAny_bind (wpAny_specialOf hT zip_no_len ?_)
  show wpAny _ A (specialOf (Value.ref z) (Str.ofString "__length_hint__") >>= _) _ _ _
  refine wpAny_bind (wpAny_specialOf hT zip_no_hint ?_)
  exact wpAny_pure h
theorem zext {S : Addr} {R : Result → Shared → Prop} (ap : ZipSep2 z TI TO i1 i2 fp1 fp2) (D1 : Draws prog w A.in1.in1 i1 fp1 n1 P1 St1) (D2 : Draws prog w A.in1.in1 i2 fp2 n2 P2 St2) (hn : min n1 n2 ≤ sizeLine) (res : Value) (c₀ : Nat)
    (hS1 : S ∉ fp1) (hS2 : S ∉ fp2) (hSz : z < S) (hTI : TI < S) (hTO : TO < S) (hi1 : i1 < S) (hi2 : i2 < S) (hS : s.heap.get? S = some { cls := .type "list", data := .seq #[] c₀ })
    (hz : IsZip s.heap z TI TO .none) (hI : IsTupOf2 s.heap TI (.ref i1) (.ref i2)) (hO : ∃ x y, IsTupOf2 s.heap TO x y) (s1 : St1 0 s.heap) (s2 : St2 0 s.heap)
    (hR : ∀ h' tk acc c as, (∀ b o, b ≠ S → b ≠ z → b ≠ TO → b ≠ i1 → b ≠ i2 → s.heap.get? b = some o → h'.get? b = some o) → h'.get? S = some { cls := .type "list", dict := none, data := .seq acc c, slots := #[] } → as.length = min n1 n2 → ZMade P1 P2 S h' as →
      acc.toList = as.map Value.ref → R (.ok (.ret res)) { s with heap := h', toks := tk }) :
    wpAny (model prog w) A.in1 (Builtin.List.listExtendWith (.ref S) (.ref z) res)
      (fun fin s' => match fin with | .done f => R (.ok f) s' | .again c' => c'.quiet = true ∧ codeAny (model prog w) A c' R s') (fun e s' => R (.error e) s') s := by
  have hT : s.TypeIs (.ref z) "zip" := ⟨_, hz, rfl⟩
  have hne : S ≠ z := Nat.ne_of_gt hSz
  unfold Builtin.List.listExtendWith
  refine wpAny_bind (wpAny_typeOf (T := "zip") hT ?_)
  have h1 : Builtin.List.listSameRef (.ref S) (.ref z) = false := by simp [Builtin.List.listSameRef, hne]
  have h2 : (Value.type "zip" == Value.type "list") = false := by decide
  have h3 : (Value.type "zip" == Value.type "tuple") = false := by decide
  simp only [h1, h2, h3, Bool.or_false, Bool.false_eq_true, if_false]
  refine wpAny_bind (wpAny_pyIter_zip hz ?_)
  refine wpAny_bind (wpAny_holding (zhint hT ?_))
  rw [Bool.true_or, if_pos rfl]
  refine wpAny_bind (wpAny_rule ?_)
  refine wpAny_bind ?_
  show wpAny _ _ (updateSeq S (·.push .none) >>= fun _ => updateSeq S (·.pop)) _ _ _
  refine wpAny_bind (wpAny_updateSeq hS rfl ?_)
  have hS₂ := Heap.get?_update_self (Obj.mapSeq (·.push Value.none)) hS rfl
  refine wpAny_updateSeq (hz := by seq_fits) hS₂ rfl ?_
  have hS₃ := Heap.get?_update_self (Obj.mapSeq (·.pop)) hS₂ rfl
  have oth : ∀ b o, b ≠ S → s.heap.get? b = some o → ((s.heap.update S (Obj.mapSeq (·.push Value.none))).update S (Obj.mapSeq (·.pop))).get? b = some o :=
    fun b o hb e => (Heap.get?_update_other _ _ (Ne.symm hb)).trans ((Heap.get?_update_other _ _ (Ne.symm hb)).trans e)
  refine wpAny_pure ⟨plainId_quiet PySem.F.plain_extend_loop _, ?_⟩
  refine zloop (s := s) (h₁ := s.heap) ap D1 D2 hn res hS1 hS2 hSz (Nat.ne_of_gt hTI) hTO hi1 hi2 hR (min n1 n2) 0 _ s.toks _ #[] [] (Nat.sub_zero _) (Nat.zero_le _) (ZSt.keep D1 D2 ⟨hI, s1, s2, .inl ⟨hz, hO⟩⟩ oth hS1 hS2 (Ne.symm hne) (Nat.ne_of_lt hTI) (Nat.ne_of_lt hTO)) (fun b o hb _ _ _ _ e => oth b o hb e) hS₃ rfl rfl
    ⟨List.Pairwise.nil, (fun _ ha => nomatch ha), (fun j a hj => by simp at hj)⟩
theorem zcall {Q : Value → Shared → Prop} (ap : ZipSep2 z TI TO i1 i2 fp1 fp2) (D1 : Draws prog w A.in1.in1.in1 i1 fp1 n1 P1 St1) (D2 : Draws prog w A.in1.in1.in1 i2 fp2 n2 P2 St2) (hn : min n1 n2 ≤ sizeLine)
    (hf1 : ∀ b ∈ fp1, b < s.heap.objs.size) (hf2 : ∀ b ∈ fp2, b < s.heap.objs.size)
    (hz : IsZip s.heap z TI TO .none) (hI : IsTupOf2 s.heap TI (.ref i1) (.ref i2)) (hO : ∃ x y, IsTupOf2 s.heap TO x y) (s1 : St1 0 s.heap) (s2 : St2 0 s.heap)
    (hQ : ∀ h' tk acc c as, (∀ b o, b ≠ z → b ≠ TO → b ≠ i1 → b ≠ i2 → s.heap.get? b = some o → h'.get? b = some o) → h'.get? s.heap.objs.size = some { cls := .type "list", dict := none, data := .seq acc c, slots := #[] } → as.length = min n1 n2 → ZMade P1 P2 s.heap.objs.size h' as →
      acc.toList = as.map Value.ref → Q (.ref s.heap.objs.size) { s with heap := h', toks := tk }) :
    wpAny (model prog w) A (call (.type "list") [.ref z]) Q E s := by
  refine callType_codes (Q₁ := fun obj s₁ => obj = .ref s.heap.objs.size ∧ s₁ = { s with heap := s.heap.push { cls := .type "list", data := .seq #[] } }) PySem.F.called_list (PySem.F.typeCall_list_1 _) PySem.F.entry_list_init
    (code_list_new _ ⟨rfl, rfl⟩) fun obj s₁ h₁ => ?_
  obtain ⟨rfl, rfl⟩ := h₁
  have hS : (s.heap.push { cls := .type "list", data := .seq #[] }).get? s.heap.objs.size = some { cls := .type "list", data := .seq #[] } := Heap.get?_push_size _ rfl
  refine ⟨⟨_, hS, rfl⟩, PySem.F.args_list_init_2 _ _, ?_⟩
  show wpAny _ _ (do let old ← Builtin.List.listItems (.ref s.heap.objs.size); Builtin.List.listUpdate (.ref s.heap.objs.size) (fun _ => #[]); letGo old.toList.reverse; Builtin.List.listExtendWith (.ref s.heap.objs.size) (.ref z) .none) _ _ _
  refine wpAny_bind ?_
  unfold Builtin.List.listItems
  refine wpAny_bind (wpAny_seqItems hS rfl (wpAny_pure ?_))
  show wpAny _ _ (updateSeq s.heap.objs.size (fun _ => #[]) >>= fun _ => letGo (#[] : Array Value).toList.reverse >>= fun _ => Builtin.List.listExtendWith (.ref s.heap.objs.size) (.ref z) .none) _ _ _
  refine wpAny_bind (wpAny_updateSeq hS rfl ?_)
  have hS₂ := Heap.get?_update_self (Obj.mapSeq (fun _ => (#[] : Array Value))) hS rfl
  refine wpAny_bind (wpAny_letGo ?_)
  have oth : ∀ b o, s.heap.get? b = some o → ((s.heap.push { cls := .type "list", data := .seq #[] }).update s.heap.objs.size (Obj.mapSeq (fun _ => (#[] : Array Value)))).get? b = some o :=
    fun b o e => (Heap.get?_update_other _ _ (Nat.ne_of_gt (Heap.lt_size e))).trans (Heap.get?_push_of_some _ e)
  obtain ⟨x, y, hO⟩ := hO
  refine zext (A := A.in1) ap D1 D2 hn .none _ (fun h => Nat.lt_irrefl _ (hf1 _ h)) (fun h => Nat.lt_irrefl _ (hf2 _ h)) (Heap.lt_size hz) (Heap.lt_size hI) (Heap.lt_size hO) (hf1 _ ap.mem1) (hf2 _ ap.mem2) hS₂ (oth _ _ hz) (oth _ _ hI) ⟨x, y, oth _ _ hO⟩ (D1.frame _ _ _ s1 fun b _ o e => oth b o e) (D2.frame _ _ _ s2 fun b _ o e => oth b o e) fun h' tk acc c as hk hS' hl hG hacc => ?_
  exact ⟨rfl, hQ h' tk acc c as (fun b o h1 h2 h3 h4 e => hk b o (Nat.ne_of_lt (Heap.lt_size e)) h1 h2 h3 h4 (oth b o e)) hS' hl hG hacc⟩
end
end Bf

namespace Bf
open PySem PySem.Spec PyProof.Rows L2

def ItzM (K : PySem.W.Frag) (a b : Addr) : It :=
  ⟨fun i H => ∃ (xs ys : List V) (x y : V), SqT K H a xs ∧ SqL K H b ys ∧ xs[i]? = some x ∧ ys[i]? = some y,
    fun i H v H' => ∃ T x y, v = .ref T ∧ H T = none ∧ H' = upd H T (.tup [x, y]) ∧ (∀ xs, SqT K H a xs → xs[i]? = some x) ∧ ∀ ys, SqL K H b ys → ys[i]? = some y,
    fun i H => ∃ xs ys : List V, SqT K H a xs ∧ SqL K H b ys ∧ i ≤ xs.length ∧ i ≤ ys.length ∧ (i = xs.length ∨ i = ys.length)⟩
theorem turn_zipM {P : Program} {w : World} {K : PySem.W.Frag} {elts : List Expr} {kk : Nat} {tpos : Pos} {a b z TI TO i1 i2 : Addr} (S : ZipSep2 z TI TO i1 i2 [i1, a] [i2, b]) (ha : a ≠ i1) (hb : b ≠ i2) :
    Turn P w K (.Tuple elts kk tpos) (ItzM K a b) [z, TI, TO, i1, i2] z (fun i h => IsZip h z TI TO .none ∧ IsPair h TI (.ref i1) (.ref i2) ∧ (∃ x y, IsPair h TO x y) ∧ h.IsTupleIter i1 a i ∧ h.IsListIter i2 b i) where
  mem := by simp
  obj := fun i h st c hc => by
    obtain ⟨hz, hTI, ⟨x, y, hTO⟩, ⟨o1, e1, _, d1⟩, ⟨o2, e2, _, d2⟩⟩ := st
    have e' : c = z ∨ c = TI ∨ c = TO ∨ c = i1 ∨ c = i2 := by simpa using hc
    rcases e' with q | q | q | q | q
    · rw [q]; exact ⟨_, hz, fun v q => nomatch q⟩
    · rw [q]; exact ⟨_, hTI, fun v q => nomatch q⟩
    · rw [q]; exact ⟨_, hTO, fun v q => nomatch q⟩
    · rw [q]; exact ⟨o1, e1, fun v q => by rw [d1] at q; cases q⟩
    · rw [q]; exact ⟨o2, e2, fun v q => by rw [d2] at q; cases q⟩
  keep := fun i h h' st k => by
    obtain ⟨hz, hTI, ⟨x, y, hTO⟩, h1, h2⟩ := st
    exact ⟨k z (by simp) _ hz, k TI (by simp) _ hTI, ⟨x, y, k TO (by simp) _ hTO⟩, h1.at fun o q => k i1 (by simp) o q, h2.at fun o q => k i2 (by simp) o q⟩
  item := by
    intro X hP hw hK hc i pins s σ H E I hf st hg
    subst hP hw hK
    obtain ⟨hz, hTI, ⟨x0, y0, hTO⟩, h1, h2⟩ := st
    obtain ⟨xs, ys, x, y, hqx, hqy, hx, hy⟩ := hg
    obtain ⟨its, rv, p, _⟩ := I.tuple hqx
    obtain ⟨its2, rv2, p2, _⟩ := I.list hqy
    obtain ⟨u, hu, ru⟩ := rv.get hx
    obtain ⟨u2, hu2, ru2⟩ := rv2.get hy
    have hzl : z < s.heap.objs.size := Heap.lt_size hz
    have hh : X.A.in1.handled = none := I.ok.hd hc
    have lt1 : i < its.toArray.size := by simpa using (List.getElem?_eq_some_iff.mp hu).1
    have lt2 : i < its2.toArray.size := by simpa using (List.getElem?_eq_some_iff.mp hu2).1
    refine wpAny_pyNext_zipD2_item S (Draws.tuple hh i1 a ha its.toArray) (Draws.list hh i2 b hb its2.toArray) hz hTI hTO ⟨h1, show s.heap.IsTuple a its.toArray from p⟩ ⟨h2, p2.isList⟩ lt1 lt2 fun v1 v2 h' tk e1 e2 z' TO' h1' h2' hT hsz hk => ?_
    have e1' : u = v1 := by
      have : its[i]? = some v1 := by simpa using e1
      rw [hu] at this
      exact Option.some.inj this
    have e2' : u2 = v2 := by
      have : its2[i]? = some v2 := by simpa using e2
      rw [hu2] at this
      exact Option.some.inj this
    subst e1' e2'
    refine ⟨_, rfl, wpAny_letOwnedTupleGo_zip (s := { s with heap := h', toks := tk }) z' fun h'' z'' sb => ?_⟩
    have hT2 : h''.get? s.heap.objs.size = some { cls := .type "tuple", data := .seq #[u, u2] } := (sb.2 _ (Nat.ne_of_gt hzl)).trans hT
    have new : ObjOk X.prog X.w (upd H s.heap.objs.size (.tup [x, y])) h'' s.heap.objs.size (.tup [x, y]) :=
      ⟨by show 2 ≤ sizeLine; decide, [u, u2], .cons ru (.cons ru2 .nil), ⟨_, hT2, rfl, _, rfl⟩⟩
    have I1 : Inv X pins σ (upd H s.heap.objs.size (.tup [x, y])) { s with heap := h'', toks := tk } :=
      I.turnedNew (t' := tk) (ch := [z, TI, TO, i1, i2]) (fun c o hb q => (sb.2 c (fun q' => hb (by simp [q']))).trans (hk c o (fun q' => hb (by simp [q'])) (fun q' => hb (by simp [q'])) (fun q' => hb (by simp [q'])) (fun q' => hb (by simp [q'])) q)) hf (Nat.le_refl _) new
    refine ⟨.ref s.heap.objs.size, _, I1, rfl, ⟨_, x, y, rfl, I.hok.fresh (Nat.le_refl _), rfl, fun l hl => by rw [I.tuple_inj hl hqx]; exact hx, fun l hl => by rw [I.list_inj hl hqy]; exact hy⟩, ⟨z'', ?_, ⟨u, u2, ?_⟩, ?_, ?_⟩, fun c hcm => ?_⟩
    · exact (sb.2 _ S.TIz).trans (hk _ _ S.TIz S.TITO S.TIi1 S.TIi2 hTI)
    · exact (sb.2 _ S.TOz).trans TO'
    · exact h1'.1.at fun o q => (sb.2 _ S.zi1.symm).trans q
    · exact h2'.1.at fun o q => (sb.2 _ S.zi2.symm).trans q
    · have hlt : c < s.heap.objs.size := by
        have e' : c = z ∨ c = TI ∨ c = TO ∨ c = i1 ∨ c = i2 := by simpa using hcm
        rcases e' with q | q | q | q | q
        · rw [q]; exact hzl
        · rw [q]; exact Heap.lt_size hTI
        · rw [q]; exact Heap.lt_size hTO
        · rw [q]; obtain ⟨_, e1, _⟩ := h1; exact Heap.lt_size e1
        · rw [q]; obtain ⟨_, e2, _⟩ := h2; exact Heap.lt_size e2
      rw [upd_ne (Nat.ne_of_lt hlt)]
      exact (hf c hcm).1
  done := by
    intro X hP hw hK hc i pins s σ H E I hf st hg
    subst hP hw hK
    obtain ⟨hz, hTI, ⟨x0, y0, hTO⟩, h1, h2⟩ := st
    obtain ⟨xs, ys, hqx, hqy, hl1, hl2, hend⟩ := hg
    obtain ⟨its, rv, p, _⟩ := I.tuple hqx
    obtain ⟨its2, rv2, p2, _⟩ := I.list hqy
    have l1 := rv.length
    have l2 := rv2.length
    have hh : X.A.in1.handled = none := I.ok.hd hc
    exact wpAny_pyNext_zipD2_end S (Draws.tuple hh i1 a ha its.toArray) (Draws.list hh i2 b hb its2.toArray) hz hTI hTO ⟨h1, show s.heap.IsTuple a its.toArray from p⟩ ⟨h2, p2.isList⟩ (by simp; omega) (by simp; omega) (by simp; omega) fun h' tk hk => ⟨rfl, I.turnedL (t' := tk) (ch := [z, TI, TO, i1, i2]) (fun c o hb q =>
      hk c o (fun q' => hb (by simp [q'])) (fun q' => hb (by simp [q'])) (fun q' => hb (by simp [q'])) (fun q' => hb (by simp [q'])) q) hf⟩
  self := fun A i s Q E st h => wpAny_pyIter_zip st.1 h

theorem ne5 (N a : Nat) (h : a < N) : a ≠ N + 4 ∧ a ≠ N + 3 ∧ a ≠ N ∧ a ≠ N + 1 := by omega
theorem lt5 (N M a : Nat) (h : a < N) (hM : M = N + 5) : a < M ∧ N < M ∧ N + 1 < M ∧ N ≤ M := by omega
theorem le5 (N M b : Nat) (h : M < b) (hM : M = N + 5) : N ≤ b := by omega
theorem getV2 {xs : List V} {its : List Value} (r : Vals xs its) {j : Nat} {u : Value} (h : its[j]? = some u) : ∃ v, xs[j]? = some v ∧ L2.RelV v u := by
  have hl := r.length
  have lt : j < xs.length := by rw [hl]; exact (List.getElem?_eq_some_iff.mp h).1
  obtain ⟨u', hu, ru⟩ := r.get (List.getElem?_eq_getElem lt)
  rw [h] at hu
  cases hu
  exact ⟨_, List.getElem?_eq_getElem lt, ru⟩
section
variable {X : Cx} {tg : Expr}
theorem fresh5 {pins : List (Addr × Obj)} {σ : L2.St} {H1 : Hp} {s1 : Shared} (I1 : Inv X pins σ H1 s1) : ∀ c, c ∈ [s1.heap.objs.size + 4, s1.heap.objs.size + 2, s1.heap.objs.size + 3, s1.heap.objs.size, s1.heap.objs.size + 1] → FpOk X pins H1 c := fun c hcm => by
  have e' : c = s1.heap.objs.size + 4 ∨ c = s1.heap.objs.size + 2 ∨ c = s1.heap.objs.size + 3 ∨ c = s1.heap.objs.size ∨ c = s1.heap.objs.size + 1 := by simpa using hcm
  have hle : s1.heap.objs.size ≤ c := by
    rcases e' with z | z | z | z | z
    · rw [z]; exact Nat.le_add_right _ _
    · rw [z]; exact Nat.le_add_right _ _
    · rw [z]; exact Nat.le_add_right _ _
    · rw [z]; exact Nat.le_refl _
    · rw [z]; exact Nat.le_add_right _ _
  exact I1.fpOk hle (I1.hok.fresh hle)
def iZipM (K : PySem.W.Frag) (ta : TA) : TI := fun σ H R => ta σ H fun vs H1 => ∃ a b xs ys, vs = [.ref a, .ref b] ∧ SqT K H1 a xs ∧ SqL K H1 b ys ∧ R (ItzM K a b) H1
theorem sep5 {N a b : Addr} (ha : a < N) (hb : b < N) : ZipSep2 (N + 4) (N + 2) (N + 3) N (N + 1) [N, a] [N + 1, b] :=
  zip_sep2 (fp1 := [a]) (fp2 := [b]) (fun c hc => by rw [List.mem_singleton.mp hc]; exact ha) (fun c hc => by rw [List.mem_singleton.mp hc]; exact hb)
theorem pi_zipM {e e2 : Expr} {ta : TA} {p pos tpos : Pos} {elts : List Expr} {kk : Nat} (hg : Gl X "zip") (hm : X.mg "zip" = none) (ha : PA X [e, e2] ta)
    (hs : starEach [e, e2] X.env = (false, eval e X.env) :: starEach [e2] X.env := by rfl) (hpl : (backTo pos (starEach [e2] X.env)).any (·.1) = false := by rfl) :
    PI X (.Tuple elts kk tpos) (.Call (.Name "zip" p) [e, e2] [] pos) (iZipM X.K ta) := by
  refine ⟨fun pins s σ H R I h => ?_⟩
  refine Call_ (ld_blt I hg hm PyProof.Rows.boot_zip (PyProof.Rows.callWith_type1 (thn (ha.run pos pins s σ H _ I h) fun us s1 ⟨vs, H1, I1, r1, q1⟩ => ?_) hs hpl))
  obtain ⟨a, b, xs, ys, ex, hqx, hqy, q⟩ := q1
  subst ex
  obtain ⟨u1, u2, eu, ru1, ru2⟩ := vals2 r1
  subst eu
  cases ru1
  cases ru2
  obtain ⟨its, rv, p1, _⟩ := I1.tuple hqx
  obtain ⟨its2, rv2, p2, _⟩ := I1.list hqy
  obtain ⟨o1, ho1, _⟩ := id p1
  have lt1 : a < s1.heap.objs.size := Heap.lt_size ho1
  have lt2 : b < s1.heap.objs.size := p2.lt
  refine zip_begins2 (begins_tuple a its.toArray) (begins_list b its2.toArray) (show s1.heap.IsTuple a its.toArray from p1) p2.isList fun h' hz hTI hTO h1 h2 hsz hk => wpAny_pyIter_zip hz ?_
  have I2 : Inv X pins σ H1 { s1 with heap := h' } := I1.kept (t' := s1.toks) hk
  exact ⟨s1.heap.objs.size + 4, [s1.heap.objs.size + 4, s1.heap.objs.size + 2, s1.heap.objs.size + 3, s1.heap.objs.size, s1.heap.objs.size + 1], _, _, H1, rfl, I2, turn_zipM (sep5 lt1 lt2) (Nat.ne_of_lt lt1) (Nat.ne_of_lt (Nat.lt_succ_of_lt lt2)), ⟨hz, hTI, ⟨_, _, hTO⟩, ⟨_, h1, rfl, rfl⟩, ⟨_, h2, rfl, rfl⟩⟩, fresh5 I1, q⟩
/-- list(zip(a, b)), a a tuple, b a list -/
def tZipL (K : PySem.W.Frag) (ta : TA) : TE := fun σ H Q => ta σ H fun vs H1 => ∃ a b xs ys, vs = [.ref a, .ref b] ∧ SqT K H1 a xs ∧ SqL K H1 b ys ∧ xs.length ≤ 1000 ∧
  ∀ (S : Addr) (as : List Addr) (H2 : Hp), H1 S = none → Ex H1 H2 → H2 S = some (.lst (as.map V.ref)) → as.length = min xs.length ys.length → (∀ (j : Nat) (c : Addr), as[j]? = some c → ∃ x y, xs[j]? = some x ∧ ys[j]? = some y ∧ H2 c = some (.tup [x, y])) → Q (.ref S) H2
theorem pe_zipL {e e2 : Expr} {ta : TA} {p p2 pos pos2 : Pos} (hc : X.calm = true) (hg : Gl X "list") (hm : X.mg "list" = none) (hg2 : Gl X "zip") (hm2 : X.mg "zip" = none) (ha : PA X [e, e2] ta)
    (hs : starEach [e, e2] X.env = (false, eval e X.env) :: starEach [e2] X.env := by rfl) (hpl : (backTo pos2 (starEach [e2] X.env)).any (·.1) = false := by rfl)
    (hs2 : starEach [.Call (.Name "zip" p2) [e, e2] [] pos2] X.env = (false, eval (.Call (.Name "zip" p2) [e, e2] [] pos2) X.env) :: starEach [] X.env := by rfl) :
    PE X (.Call (.Name "list" p) [.Call (.Name "zip" p2) [e, e2] [] pos2] [] pos) (tZipL X.K ta) := by
  refine ⟨fun pins s σ H Q I h => ?_⟩
  refine Call_ (ld_blt I hg hm (show bootBuiltins "list" = some (.type "list") by decide +kernel) (PyProof.Rows.callWith_type1 (args_cons (Call_ (ld_blt I hg2 hm2 PyProof.Rows.boot_zip (PyProof.Rows.callWith_type1 (thn (ha.run pos2 pins s σ H _ I h) fun us s1 ⟨vs, H1, I1, r1, q1⟩ => ?_) hs hpl))) hs2) hs2 rfl))
  obtain ⟨a, b, xs, ys, ex, hqx, hqy, h1000, q⟩ := q1
  subst ex
  obtain ⟨u1, u2, eu, ru1, ru2⟩ := vals2 r1
  subst eu
  cases ru1
  cases ru2
  obtain ⟨its, rv, p1, _⟩ := I1.tuple hqx
  obtain ⟨its2, rv2, p2, _⟩ := I1.list hqy
  obtain ⟨o1, ho1, _⟩ := id p1
  have lt1 : a < s1.heap.objs.size := Heap.lt_size ho1
  have lt2 : b < s1.heap.objs.size := p2.lt
  have l1 := rv.length
  have l2 := rv2.length
  have hh : X.A.in1.in1.in1.handled = none := I1.ok.hd hc
  refine zip_begins2 (begins_tuple a its.toArray) (begins_list b its2.toArray) (show s1.heap.IsTuple a its.toArray from p1) p2.isList fun h' hz hTI hTO h1 h2 hsz hk => args_nil ?_
  have kA : h'.IsTuple a its.toArray := by
    obtain ⟨o, ho, r⟩ := p1
    exact ⟨o, hk _ _ ho, r⟩
  have kB : h'.IsList b its2.toArray := p2.isList.at fun o e => hk _ o e
  refine zcall (s := { s1 with heap := h' }) (A := X.A) (sep5 lt1 lt2) (Draws.tuple hh s1.heap.objs.size a (Nat.ne_of_lt lt1) its.toArray) (Draws.list hh (s1.heap.objs.size + 1) b (Nat.ne_of_lt (Nat.lt_succ_of_lt lt2)) its2.toArray) (by simp; rw [sizeLine_eq]; omega) (fun c hcm => ?_) (fun c hcm => ?_) hz hTI ⟨_, _, hTO⟩ ⟨⟨_, h1, rfl, rfl⟩, kA⟩ ⟨⟨_, h2, rfl, rfl⟩, kB⟩ fun h2' tk acc c as hk2 hS hl hG hacc => ?_
  · have hcm : c = s1.heap.objs.size ∨ c = a := by simpa using hcm
    obtain ⟨l1, l2, l3, l4⟩ := lt5 s1.heap.objs.size h'.objs.size a lt1 hsz
    rcases hcm with e | e
    · rw [e]; exact l2
    · rw [e]; exact l1
  · have hcm : c = s1.heap.objs.size + 1 ∨ c = b := by simpa using hcm
    obtain ⟨l1, l2, l3, l4⟩ := lt5 s1.heap.objs.size h'.objs.size b lt2 hsz
    rcases hcm with e | e
    · rw [e]; exact l3
    · rw [e]; exact l1
  · have hS' : s1.heap.objs.size ≤ h'.objs.size := (lt5 s1.heap.objs.size h'.objs.size a lt1 hsz).2.2.2
    have kk : ∀ b o, s1.heap.get? b = some o → h2'.get? b = some o := fun b o e => by
      obtain ⟨l1, l2, l3, l4⟩ := ne5 s1.heap.objs.size b (Heap.lt_size e)
      exact hk2 b o l1 l2 l3 l4 (hk b o e)
    have I3 : Inv X pins σ H1 { s1 with heap := h2', toks := tk } := I1.kept (t' := tk) kk
    have hn0 : H1 h'.objs.size = none := I1.hok.fresh hS'
    have hlen : (as.map V.ref).length ≤ sizeLine := by
      rw [List.length_map, hl, sizeLine_eq]
      simp
      omega
    have rvl : Vals (as.map V.ref) acc.toList := by
      rw [hacc]
      exact vals_maps (fun z : Addr => V.ref z) (fun z => Value.ref z) as fun _ _ => rfl
    have I4 : Inv X pins σ (upd H1 h'.objs.size (.lst (as.map V.ref))) { s1 with heap := h2', toks := tk } :=
      I3.take (h' := h2') (t' := tk) (fun b ob _ e => e) (I1.fpOk hS' hn0) ⟨hlen, acc.toList, c, rvl, by rw [Array.toArray_toList]; exact hS⟩
    have nd : as.Nodup := List.Pairwise.imp (fun h => Nat.ne_of_lt h) hG.rise
    obtain ⟨H2, I5, g, qt⟩ := L2.DX.takeT (P := fun b vs => ∃ (j : Nat) (x y : V), as[j]? = some b ∧ vs = [x, y] ∧ xs[j]? = some x ∧ ys[j]? = some y) I1 as _ I4 nd fun b hb => by
      obtain ⟨j, hj⟩ := List.mem_iff_getElem?.mp hb
      obtain ⟨x, y, hx, hy, hg⟩ := hG.pairs j b hj
      have hx' : its[j]? = some x := by simpa using hx
      have hy' : its2[j]? = some y := by simpa using hy
      obtain ⟨vx, hvx, rx⟩ := getV2 rv hx'
      obtain ⟨vy, hvy, ry⟩ := getV2 rv2 hy'
      have hab : h'.objs.size < b := hG.above b hb
      have hbl : s1.heap.objs.size ≤ b := le5 s1.heap.objs.size h'.objs.size b hab hsz
      refine ⟨hbl, ?_, [vx, vy], ⟨j, vx, vy, hj, rfl, hvx, hvy⟩, fun H3 => ⟨(by rw [sizeLine_eq]; show 2 ≤ 16777216; omega), [x, y], .cons rx (.cons ry .nil), ⟨_, hg, rfl, 0, rfl⟩⟩⟩
      rw [upd_ne (Nat.ne_of_gt hab)]
      exact I1.hok.fresh hbl
    have gr : ∀ b o, H1 b = some o → H2 b = some o := fun b o e => g b o (by rw [upd_ne (ne_of_none e hn0)]; exact e)
    refine ⟨.ref h'.objs.size, H2, I5, rfl, q h'.objs.size as H2 hn0 gr (g _ _ upd_same) (by rw [hl]; simp; omega) fun j c hj => ?_⟩
    obtain ⟨vs, ⟨j2, x, y, j1, ev, hx, hy⟩, hH⟩ := qt c (List.mem_of_getElem? hj)
    have eij : j = j2 := (List.getElem?_inj (List.getElem?_eq_some_iff.mp hj).1 nd).mp (hj.trans j1.symm)
    subst eij
    rw [ev] at hH
    exact ⟨x, y, hx, hy, hH⟩
end
end Bf

namespace Bf
open PySem PySem.Spec PyProof.Rows L2

section
variable {X : Cx} {C : Addr} {ρ ρ' ρ1 : List Sl} {e a b c tg elt iter : Expr} {es ts ifs : List Expr} {d da db : D} {ds us : List D} {pos : Pos} {x y : Bool} {i j : Int} {js ks : List Nat} {scope : Scope} {own : List (Str × Nat)}
variable {N : List Sl → Prop} {R : Wv → List Sl → Prop} {rest body els : List Stmt} {pos' : Pos} {z : Str}
/-- a slot's list is data from here -/
theorem pb_freeze (k : Nat) (hd : ρ[k]? = some (Sl.ow ds)) (h : PBd X C rest (ρ.set k (.im (.lst ds))) N R) : PBd X C rest ρ N R := fun σ H0 H rs D nx rt => by
  obtain ⟨p, xs, hs, h0, hp, hx⟩ := rs.ow k ds hd
  obtain ⟨e2, rs1⟩ := rs.freeze hd hs hp hx
  exact h σ _ H rs1 D (fun σ' H' B ρ' eB => nx σ' H' B ρ' (e2.trans eB)) fun v H' B w σ' ρ' eB => rt v H' B w σ' ρ' (e2.trans eB)
theorem pr_lst (h : PV X C e ρ (.lst ds)) : PR X C e ρ ds := fun σ H0 H rs Q q => h σ H0 H rs Q fun v H1 e1 r1 => by
  obtain ⟨p, xs, e2, hp, hx⟩ := r1.lst_inv
  subst e2
  exact q p xs H1 e1 (sqL_ex (rs.base.trans e1) hp) hx
/-- y = [e], e a new list -/
theorem pb_setLL (i : Nat) {lpos : Pos} (hN : X.N.Nodup) (h : PL X C e ρ ds) (k : PBd X C rest (ρ.set i (.ow [.lst ds])) N R) (hi : X.N[i]? = some z := by rfl) (hx : Loc X.env.scope z := by first | exact Or.inl rfl | exact Or.inr rfl) (hs : swapsWith (.List [e] lpos) (some (.Name z pos')) pos.line X.env = pure false := by rfl)
    (hf : X.fn z = true ∨ X.env.scope.names.lookup z = some .local := by first | exact .inl rfl | exact .inr rfl) (hst : starEach [e] X.env = (false, eval e X.env) :: starEach [] X.env := by rfl) : PBd X C (.Assign [.Name z pos'] (.List [e] lpos) pos :: rest) ρ N R := fun σ H0 H rs D nx rt =>
  ess_cons (es (ps_set hN hi hx (pe_lst (pa_cons (pe X e) pa_nil hst)) hs hf) (h σ H0 H rs _ fun p xs H1 hp e1 hl r1 => by
    refine ⟨small' (by simp), fun q hq => ?_⟩
    obtain ⟨e2, rs1⟩ := rs.freezeN hp e1 hl
    have rs2 := rs1.setL (i := i) hq (Ex.new (o := .lst [.ref p]) hq) upd_same (.cons (.lst (SqL.of upd_same) ((Reps.gr e2 _ _ r1).ex (Ex.new hq))) .nil)
    exact k _ _ _ rs2 D (fun σ' H' B ρ' eB im => nx σ' H' B ρ' (e2.trans eB) ((e1.im.trans (Ex.new hq).im).trans im)) fun v H' B w σ' ρ' eB => rt v H' B w σ' ρ' (e2.trans eB)))
/-- l[::-1] -/
theorem pl_rev {k : Nat} {p1 p2 p3 : Pos} (h : PR X C e ρ ds) : PL X C (.Subscript e (.Slice none none (some (.UnaryOp .USub (.Constant (.int 1) k p1) p2)) p3) pos) ρ ds.reverse := fun σ H0 H rs Q q =>
  ee (pe_revL (pe X e)) (h σ H0 H rs _ fun p xs H1 e1 hl r1 => ⟨p, xs, rfl, hl, fun t ht => by
    refine q t xs.reverse _ (e1.free ht) (e1.trans (Ex.new ht)) upd_same ?_
    have rr : ∀ {ds : List D} {xs : List V}, Reps X.K C H0 H1 xs ds → Reps X.K C H0 H1 xs.reverse ds.reverse := fun {ds} => by
      induction ds with
      | nil => intro xs r; cases r; exact .nil
      | cons d ds ih =>
        intro xs r
        cases r with
        | cons h1 h2 =>
          rw [List.reverse_cons, List.reverse_cons]
          exact (ih h2).append (.one h1)
    exact (rr r1).ex (Ex.new ht)⟩)
/-- a slice of a list -/
theorem pl_tail {k} {p2 p3 : Pos} (h : PR X C a ρ (d :: ds)) : PL X C (.Subscript a (.Slice (some (.Constant (.int 1) k p3)) none none p2) pos) ρ ds := fun σ H0 H rs Q q =>
  ee (pe_slice sl_list (pe X a) (po_some pe_int) po_none) (h σ H0 H rs _ fun p xs H1 e1 hl r1 => ⟨1, rfl, p, xs, rfl, hl, fun t ht => by
    refine q t _ _ (e1.free ht) (e1.trans (Ex.new ht)) upd_same ?_
    have z := cut_rep (lo := some 1) (hi := none) r1
    have e1 : HT.sIx (d :: ds).length 0 (some 1) = 1 := by
      show HT.sIx (d :: ds).length 0 (some ((1 : Nat) : Int)) = 1
      rw [HT.sIx_nat]
      simp
    have e2 : HT.sIx (d :: ds).length (d :: ds).length none = (d :: ds).length := rfl
    rw [e1, e2] at z
    have e3 : (List.drop 1 (d :: ds)).take ((d :: ds).length - 1) = ds := by simp
    rw [e3] at z
    exact z.ex (Ex.new ht)⟩)
/-- for .. in reversed(a new list) -/
theorem walk_Itv {K : PySem.W.Frag} {a : Addr} {xs : List V} : Walk (Itv K a xs.length) xs.length (fun H => SqL K H a xs) (fun i H v H' => H' = H ∧ xs[xs.length - 1 - i]? = some v) :=
  ⟨fun i H hi q => ⟨hi, xs, _, q, List.getElem?_eq_getElem (show xs.length - 1 - i < xs.length by omega)⟩, fun _ _ => Nat.le_refl _, fun i H v H' hi q y => ⟨y.1, y.2 xs q⟩⟩
theorem pit_revN {p : Pos} (hm : X.mg "reversed" = none) (h : PL X C e ρ ds) (hg : Gl X "reversed" := by rfl) (hs : starEach [e] X.env = (false, eval e X.env) :: starEach [] X.env := by rfl) :
    PIt X C tg (.Call (.Name "reversed" p) [e] [] pos) ρ ρ ds.length (fun i => ds.getD (ds.length - 1 - i) .non) := fun σ H0 H rs R q =>
  ei (RT.pi_revA hg hm (pe X e) hs) (h σ H0 H rs _ fun p xs H1 hp e1 hl hx => by
    refine ⟨p, xs, rfl, .inl ⟨SqL.of hl, ?_⟩⟩
    have hw := walk_Itv (K := X.K) (a := p) (xs := xs)
    rw [hx.length] at hw ⊢
    obtain ⟨e2, rs1⟩ := rs.freezeN hp e1 hl
    refine q _ H1 (upd H0 p (.lst xs)) _ _ hw e1 e2 rs1 (fun H' eb im => SqL.of (eb p _ upd_same)) fun i Ha x Hb hi ea im y => ?_
    obtain ⟨e3, h3⟩ := y
    subst e3
    exact ⟨Ex.refl _, Rep.im im _ _ (Rep.gr e2 _ _ (reps_at hx h3))⟩)
/-- the pairs of a zip -/
def zips (ds us : List D) : List D := (List.range (min ds.length us.length)).map fun i => .tup [ds.getD i .non, us.getD i .non]
theorem reps_of {K : PySem.W.Frag} {B H : Hp} {f : Nat → D} : ∀ {n : Nat} {vs : List V}, vs.length = n → (∀ (j : Nat) (v : V), vs[j]? = some v → Rep K C B H v (f j)) → Reps K C B H vs ((List.range n).map f)
  | 0, vs, hl, _ => by
    have : vs = [] := List.eq_nil_of_length_eq_zero hl
    subst this
    exact .nil
  | n + 1, vs, hl, h => by
    match vs, hl with
    | v :: vs, hl =>
      rw [List.range_succ_eq_map, List.map_cons, List.map_map]
      exact .cons (h 0 v rfl) (reps_of (f := fun j => f (j + 1)) (by simpa using hl) fun j u hj => h (j + 1) u (by simpa using hj))
theorem pl_zip {p p2 pos2 : Pos} (hm : X.mg "list" = none) (hm2 : X.mg "zip" = none) (ha : PV X C a ρ (.tup ds)) (hb : PR X C b ρ us) (hl : ds.length ≤ 1000) (hc : X.calm = true := by rfl) (hg : Gl X "list" := by rfl) (hg2 : Gl X "zip" := by rfl)
    (hsa : starEach [a, b] X.env = (false, eval a X.env) :: starEach [b] X.env := by rfl) (hsb : starEach [b] X.env = (false, eval b X.env) :: starEach [] X.env := by rfl) (hpl : (backTo pos2 (starEach [b] X.env)).any (·.1) = false := by rfl)
    (hs2 : starEach [.Call (.Name "zip" p2) [a, b] [] pos2] X.env = (false, eval (.Call (.Name "zip" p2) [a, b] [] pos2) X.env) :: starEach [] X.env := by rfl) :
    PL X C (.Call (.Name "list" p) [.Call (.Name "zip" p2) [a, b] [] pos2] [] pos) ρ (zips ds us) := fun σ H0 H rs Q q =>
  ee (pe_zipL hc hg hm hg2 hm2 (pa_cons (pe X a) (pa_cons (pe X b) pa_nil hsb) hsa) hsa hpl hs2) (ha σ H0 H rs _ fun v H1 e1 r1 => hb σ H0 H1 (rs.ex e1) _ fun p xs H2 e2 hp r2 => by
    obtain ⟨t, ys, e3, hq, hx⟩ := (r1.ex e2).tup_inv
    subst e3
    refine ⟨t, p, ys, xs, rfl, hq, hp, by rw [hx.length]; exact hl, fun S as H3 hS e3 hL hlen hp3 => ?_⟩
    refine q S _ H3 ((e1.trans e2).free hS) ((e1.trans e2).trans e3) hL ?_
    refine reps_of (by rw [List.length_map, hlen, hx.length, r2.length]) fun j v hj => ?_
    rw [List.getElem?_map] at hj
    cases hc : as[j]? with
    | none => rw [hc] at hj; cases hj
    | some c =>
      rw [hc] at hj
      cases hj
      obtain ⟨x, y, h1, h2, h3⟩ := hp3 j c hc
      exact .tup (SqT.of h3) (.cons ((reps_at hx h1).ex e3) (.cons ((reps_at r2 h2).ex e3) .nil)))
/-- for .. in zip(a, b), a a tuple, b a new list -/
theorem walk_zipM {K : PySem.W.Frag} {a b : Addr} {xs ys : List V} {n : Nat} (hn : n = min xs.length ys.length) : Walk (ItzM K a b) n (fun H => SqT K H a xs ∧ SqL K H b ys) (YPair (fun i => xs[i]?) (fun i => ys[i]?)) := by
  subst hn
  refine ⟨fun i _ hi q => ?_, fun _ q => ⟨xs, ys, q.1, q.2, by omega, by omega, by omega⟩, fun i H v H' _ q y => ?_⟩
  · have h1 : i < xs.length := by omega
    have h2 : i < ys.length := by omega
    exact ⟨xs, ys, xs[i], ys[i], q.1, q.2, by simp [h1], by simp [h2]⟩
  · obtain ⟨T, x, z, h1, h2, h3, h4, h5⟩ := y
    exact ⟨T, x, z, h1, h2, h3, h4 xs q.1, h5 ys q.2⟩
theorem pit_zipM {p tpos : Pos} {kk : Nat} {elts : List Expr} (hm : X.mg "zip" = none) (ha : PV X C a ρ (.tup ds)) (hb : PL X C b ρ us) (hg : Gl X "zip" := by rfl)
    (hs : starEach [a, b] X.env = (false, eval a X.env) :: starEach [b] X.env := by rfl) (hs2 : starEach [b] X.env = (false, eval b X.env) :: starEach [] X.env := by rfl) (hpl : (backTo pos (starEach [b] X.env)).any (·.1) = false := by rfl) :
    PIt X C (.Tuple elts kk tpos) (.Call (.Name "zip" p) [a, b] [] pos) ρ ρ (min ds.length us.length) (fun i => .tup [ds.getD i .non, us.getD i .non]) := fun σ H0 H rs R q =>
  ei (pi_zipM hg hm (pa_cons (pe X a) (pa_cons (pe X b) pa_nil hs2) hs) hs hpl) (ha σ H0 H rs _ fun v H1 e1 r1 => hb σ H0 H1 (rs.ex e1) _ fun p ys H2 hp e2 hl hx2 => by
    obtain ⟨t, xs, e4, hq, hx⟩ := (r1.ex e2).tup_inv
    subst e4
    refine ⟨t, p, xs, ys, rfl, hq, SqL.of hl, ?_⟩
    have hw := walk_zipM (K := X.K) (a := t) (b := p) (xs := xs) (ys := ys) (n := min ds.length us.length) (by rw [hx.length, hx2.length])
    obtain ⟨e3, rs1⟩ := (rs.ex e1).freezeN hp e2 hl
    refine q _ H2 _ _ _ hw (e1.trans e2) e3 rs1 (fun H' eb im => ⟨sqT_im im hq, SqL.of (eb p _ upd_same)⟩) fun i Ha x Hb hi ea im y => ?_
    obtain ⟨T, x1, y1, e6, hT, e7, h8, h9⟩ := y
    subst e6 e7
    have im2 := im.trans (Ex.new (o := .tup [x1, y1]) hT).im
    exact ⟨Ex.new hT, .tup (SqT.of upd_same) (.cons (Rep.gr e3 _ _ (Rep.im im2 _ _ (reps_at hx h8))) (.cons (Rep.gr e3 _ _ (Rep.im im2 _ _ (reps_at hx2 h9))) .nil))⟩)
/-- a def that hands back a new list of lists -/
def spLL {α : Type} (K : PySem.W.Frag) (C : Addr) (arg : α → List D) (pre : α → Prop) (res : α → List D) : Sp := fun vs H Q _ => ∃ y : α, Reps K C H H vs (arg y) ∧ pre y ∧ ∀ (p : Addr) (xs : List V) (H' : Hp), H p = none → Ex H H' → H' p = some (.lst xs) → Reps K C H' H' xs (res y) → Q (.ref p) H'
theorem okLL {P : Program} {w : World} {K : PySem.W.Frag} {mg : Str → Option Value} {base : Heap} {α : Type} {arg : α → List D} {pre : α → Prop} {res : α → List D} {x qual : Str} {st : Stmt} {f : Addr} {fd : FuncData} {N ps : List Str} {k : Nat} (F : Fun K x qual st f fd) (S : FnScope N ps (defScope st)) (hlen : ∀ y, (arg y).length = ps.length)
    (body : ∀ (y : α), pre y → ∀ (cdv : Value) (A : Around) (outer : List Env) (s : Shared) (H : Hp) (E : XK), Room k (A.deeper (envOfC qual (defScope st) s.heap.objs.size f cdv)) → PBk (fX P w K mg base N qual st f cdv A outer s H E) C (defBody st) (start' N (arg y)) (fun _ => False) (fun w => w = .ow (res y))) :
    FnOk P w K mg base CX0 (k + 1) f fd ps (spLL K C arg pre res) := by
  refine F.ok S (fun vs H Q E h => ?_) (fun cdv A outer s H vs Q E hr h => ?_)
  · obtain ⟨y, r, _⟩ := h
    rw [r.length, hlen]
  · obtain ⟨y, r, hp, q⟩ := h
    refine ⟨_, pss _ (defBody st), ?_⟩
    exact body y hp cdv A outer s H E hr _ H H (rs_start r) _ (fun _ _ _ _ _ _ _ z => z.elim) fun v H' B w σ' ρ' eB rs' rw' hw => by
      have hw : w = .ow (res y) := hw
      subst hw
      obtain ⟨p, xs, h1, h2, h3, h4⟩ := rw'
      subst h1
      exact q p xs H' (eB.free h2) (eB.trans rs'.base) h3 (Reps.gr rs'.base _ _ h4)
theorem gLL {P : Program} {w : World} {K : PySem.W.Frag} {mg : Str → Option Value} {base : Heap} {α : Type} {arg : α → List D} {pre : α → Prop} {res : α → List D} {x : Str} {st : Stmt} {N ps : List Str} {k : Nat} (T : DefAt K mg x st) (S : FnScope N ps (defScope st)) (hlen : ∀ y, (arg y).length = ps.length) (hb : BindsOk x st ps)
    (body : ∀ (f : Addr) (y : α), pre y → ∀ (cdv : Value) (A : Around) (outer : List Env) (s : Shared) (H : Hp) (E : XK), Room k (A.deeper (envOfC x (defScope st) s.heap.objs.size f cdv)) → PBk (fX P w K mg base N x st f cdv A outer s H E) C (defBody st) (start' N (arg y)) (fun _ => False) (fun w => w = .ow (res y))) :
    GFn P w K mg base x (k + 1) (spLL K C arg pre res) := by
  obtain ⟨f, fd, F, hm⟩ := T.ex
  exact ⟨f, fd, ps, okLL F S hlen (body f), hm, F.kp, F.binds hb⟩
/-- no own things in the slots -/
def noOwn (ρ : List Sl) : Prop := ∀ (i : Nat), (∀ ds, ρ[i]? ≠ some (.ow ds)) ∧ ∀ O, ρ[i]? ≠ some (.ob O)
/-- y = f(..), f hands back a list of lists: all of it is data from here -/
theorem pb_setLF {α : Type} {arg : α → List D} {pre : α → Prop} {res : α → List D} {k : Nat} {p : Pos} {zf : Str} (i : Nat) (hN : X.N.Nodup) (G : GFn X.prog X.w X.K X.mg X.base zf k (spLL X.K C arg pre res)) (hr : Room k X.A) (y : α) (hp : pre y) (ha : PVs X C (e :: es) ρ (arg y)) (hno : noOwn ρ) (hk : PBd X C rest (ρ.set i (.im (.lst (res y)))) N R)
    (hg : Gl X zf := by rfl) (hdb : (zf == ("__debug__" : Str)) = false := by decide)
    (he : starEach (e :: es) X.env = (false, eval e X.env) :: starEach es X.env := by rfl) (hpl : (backTo pos' (starEach es X.env)).any (·.1) = false := by rfl) {npos : Pos}
    (hi : X.N[i]? = some z := by rfl) (hx : Loc X.env.scope z := by first | exact Or.inl rfl | exact Or.inr rfl) (hs : swapsWith (.Call (.Name zf p) (e :: es) [] pos') (some (.Name z npos)) pos.line X.env = pure false := by rfl)
    (hf : X.fn z = true ∨ X.env.scope.names.lookup z = some .local := by first | exact .inl rfl | exact .inr rfl) : PBd X C (.Assign [.Name z npos] (.Call (.Name zf p) (e :: es) [] pos') pos :: rest) ρ N R := fun σ H0 H rs D nx rt =>
  ess_cons (Bf.es (ps_set hN hi hx (pe_g G hr (pa X (e :: es)) hg hdb he hpl) hs hf) (ha σ H0 H rs _ fun vs H1 e1 r1 => by
    show spLL X.K C arg pre res (vs ++ []) H1 _ E0
    rw [List.append_nil]
    refine ⟨y, Reps.gr (rs.base.trans e1) _ _ r1, hp, fun p xs H2 h0 e2 hl r2 => ?_⟩
    have r1' := (rs.ex e1).ex e2
    have eB : Ex H0 H2 := r1'.base
    have rsn : RS X.K C H2 H2 σ ρ := ⟨Ex.refl H2, r1'.len, fun i d h => let ⟨v, h1, h2⟩ := r1'.im i d h; ⟨v, h1, Rep.gr eB _ _ h2⟩, fun i ds h => absurd h ((hno i).1 ds), fun i j ds es p hne h => absurd h ((hno i).1 ds), fun i O h => absurd h ((hno i).2 O), fun i j O U p hne h => absurd h ((hno i).2 O)⟩
    exact hk _ _ _ (rsn.set (.lst (SqL.of hl) r2)) D (fun σ' H' B ρ' eB' im => nx σ' H' B ρ' (eB.trans eB') ((e1.im.trans e2.im).trans im)) fun v H' B w σ' ρ' eB' => rt v H' B w σ' ρ' (eB.trans eB')))
end
end Bf

namespace Bf
open PySem PySem.Spec PyProof.Rows L2 BF
section
variable {P : Program} {w : World} {K : PySem.W.Frag} {mg : Str → Option Value} {base : Heap} {C : Addr}
theorem getD_at {α : Type} {f : α → D} {l : List α} {i : Nat} {x : α} (h : l[i]? = some x) : (l.map f).getD i .non = f x := by simp [List.getD_eq_getElem?_getD, h]
theorem units65 {k : Nat} {A : Around} (r : Room (k + 1) A) : A.units + 65 < cLine := by have := r.un; omega
theorem kept_congr {kp kp' : Nat → Bool} {g g' : Nat → D} : ∀ {n : Nat}, (∀ i, i < n → kp i = kp' i) → (∀ i, i < n → g i = g' i) → kept kp g n = kept kp' g' n
  | 0, _, _ => rfl
  | n + 1, h1, h2 => by
    have ih := kept_congr (n := n) (fun i hi => h1 i (by omega)) (fun i hi => h2 i (by omega))
    cases hk : kp n with
    | true => rw [kept_yes hk, kept_yes ((h1 n (by omega)).symm.trans hk), ih, h2 n (by omega)]
    | false => rw [kept_no hk, kept_no ((h1 n (by omega)).symm.trans hk), ih]
theorem kept_filter {α : Type} (f : α → Bool) (g : α → D) (l : List α) {kp : Nat → Bool} {h : Nat → D} (h1 : ∀ i x, l[i]? = some x → kp i = f x) (h2 : ∀ i x, l[i]? = some x → h i = g x) : kept kp h l.length = (l.filter f).map g := by
  have key : ∀ n, n ≤ l.length → kept kp h n = ((l.take n).filter f).map g := fun n => by
    induction n with
    | zero => intro _; rfl
    | succ n ih =>
      intro hn
      have hx : l[n]? = some l[n] := List.getElem?_eq_getElem (by omega)
      rw [List.take_succ, hx, List.filter_append, List.map_append, ← ih (by omega)]
      have e1 := h1 n _ hx
      cases hk : kp n with
      | true =>
        rw [kept_yes hk, h2 n _ hx]
        rw [hk] at e1
        simp [← e1]
      | false =>
        rw [kept_no hk]
        rw [hk] at e1
        simp [← e1]
  have := key l.length (Nat.le_refl _)
  rw [List.take_length] at this
  exact this
theorem kept_map {α : Type} (g : α → D) (l : List α) {h : Nat → D} (h2 : ∀ i x, l[i]? = some x → h i = g x) : kept (fun _ => true) h l.length = l.map g := by
  rw [kept_filter (fun _ => true) g l (fun _ _ _ => rfl) h2, List.filter_eq_self.mpr fun _ _ => rfl]
def lyD (l : List Pl) : D := .lst (l.map plD)
abbrev eN : List Str := ["table", "burst", "tolerance", "layers", "item", "fits", "place", "bit", "duration", "there", "found", "layer", "good", "ways", "due"]
theorem sc_ends_left : FnScope eN ["table", "burst", "tolerance"] (defScope s_ends_left) := ⟨rfl, rfl, rfl, by decide +kernel, rfl, by decide +kernel, by decide +kernel⟩
abbrev tolD (p : Part) : D := .rat p.1 p.2
abbrev sp_ends_left (K : PySem.W.Frag) (C : Addr) : Sp := spLL K C (fun y : Tb × List Item × Part => [tD y.1, buD y.2.1, tolD y.2.2]) (fun y => TbOk y.1 ∧ BuOk y.2.1 ∧ big y.2.2.1) (fun y => (back y.1 y.2.2 y.2.1 [begin_ y.1]).map lyD)
theorem lays_succ (t : Tb) (tol : Part) (its : List Item) (i : Nat) : (List.range (i + 1)).map (fun k => lyD (lay t tol its k)) = (List.range i).map (fun k => lyD (lay t tol its k)) ++ [lyD (lay t tol its i)] := by
  rw [List.range_succ, List.map_append]
  rfl
theorem lays_len (t : Tb) (tol : Part) (its : List Item) (i : Nat) : ((List.range i).map (fun k => lyD (lay t tol its k))).length = i := by simp
theorem g_ends_left (T : Tx w K mg C) : GFn P w K mg base "ends_left" 6 (sp_ends_left K C) :=
  gLL T.d_ends_left sc_ends_left (fun _ => rfl) (fun _ _ _ _ _ _ us hl => match us, hl with | [_, _, _], _ => rfl) fun f y hy cdv A outer s H E hr => by
    obtain ⟨t, its, tol⟩ := y
    obtain ⟨ht, ⟨hb1, hb2, hb3⟩, htol⟩ := hy
    have nd := sc_ends_left.nd
    have hlen : (its.map itD).length = its.length := List.length_map _
    refine pb_setLL 3 nd (pl_lst (pvs_cons (pv_call (g_begin_in T) (hr.mono (by decide)) t trivial (pvs_cons (pv_var 0) pvs_nil)) pvs_nil)) ?_
    -- forth
    refine pb_for (pis_tup (ds := its.map itD) (pv_var 1)).tt (fun i ρ' => ∃ s4 s5 s6 s7 s8 s9, ρ' = [.im (tD t), .im (buD its), .im (tolD tol), .ow ((List.range (i + 1)).map fun k => lyD (lay t tol its k)), s4, s5, s6, s7, s8, s9, .un, .un, .un, .un, .un]) ⟨.un, .un, .un, .un, .un, .un, rfl⟩ (fun i ρ' hi hρ => ?_) (fun ρ' hρ => ?_)
    · obtain ⟨s4, s5, s6, s7, s8, s9, rfl⟩ := hρ
      rw [hlen] at hi
      have hq : its[i]? = some its[i] := List.getElem?_eq_getElem hi
      have hit : ItB its[i] := hb3 _ (List.getElem_mem hi)
      rw [getD_at hq]
      generalize its[i] = it at hq hit
      refine ⟨[4], _, ptg_name 4 nd, ?_⟩
      refine pb_setL 5 nd (pl_lst pvs_nil) ?_
      have hly := lay_ok ht (tol := tol) (its := its) i
      rw [lays_succ]
      refine pb_for (pis_lst (ds := (lay t tol its i).map plD) (pv_ixL (pr_var 3) (pv_neg pv_int) (atI_last _ _))).tt (fun j ρ' => ∃ s6 s7 s8 s9, ρ' = [.im (tD t), .im (buD its), .im (tolD tol), .ow ((List.range i).map (fun k => lyD (lay t tol its k)) ++ [lyD (lay t tol its i)]), .im (itD it), .ow ((((lay t tol its i).take j).foldl (fitRow t tol it) []).map plD), s6, s7, s8, s9, .un, .un, .un, .un, .un]) ⟨s6, s7, s8, s9, rfl⟩ (fun j ρ' hj hρ => ?_) (fun ρ' hρ => ?_)
      · obtain ⟨s6, s7, s8, s9, rfl⟩ := hρ
        rw [List.length_map] at hj
        have hp : (lay t tol its i)[j]? = some (lay t tol its i)[j] := List.getElem?_eq_getElem hj
        have hpu := hly.un _ (List.getElem_mem hj)
        have hF := rowFold_ok ht (tol := tol) (it := it) (nil_ok t) (take_ok hly j)
        rw [getD_at hp, fold_take (fitRow t tol it) hp]
        generalize (lay t tol its i)[j] = p at hp hpu
        generalize ((lay t tol its i).take j).foldl (fitRow t tol it) [] = F at hF
        refine ⟨[6], _, ptg_name 6 nd, ?_⟩
        have hsl : ((steps t p).map stD).length = (steps t p).length := List.length_map _
        refine pb_for (pit_new (pl_call (g_steps_in T) (hr.mono (by decide)) (t, p) trivial (pvs_cons (pv_var 0) (pvs_cons (pv_var 6) pvs_nil)))) (fun k ρ' => ∃ s7 s8 s9, ρ' = [.im (tD t), .im (buD its), .im (tolD tol), .ow ((List.range i).map (fun k => lyD (lay t tol its k)) ++ [lyD (lay t tol its i)]), .im (itD it), .ow ((((steps t p).take k).foldl (fit1 tol it) F).map plD), .im (plD p), s7, s8, s9, .un, .un, .un, .un, .un]) ⟨s7, s8, s9, rfl⟩ (fun k ρ' hk hρ => ?_) (fun ρ' hρ => ?_)
        · obtain ⟨s7, s8, s9, rfl⟩ := hρ
          rw [hsl] at hk
          have hs : (steps t p)[k]? = some (steps t p)[k] := List.getElem?_eq_getElem hk
          have hsu := univ_step ht hpu (List.getElem_mem hk)
          have hG := fitFold_ok ht (tol := tol) (it := it) hF (ss := (steps t p).take k) fun s hs => (univ_step ht hpu (List.mem_of_mem_take hs)).2
          rw [getD_at hs, fold_take (fit1 tol it) hs]
          generalize (steps t p)[k] = st at hs hsu
          generalize ((steps t p).take k).foldl (fit1 tol it) F = G at hG
          refine ⟨[7, 8, 9], _, ptg_tup (ptgs_cons (ptg_name 7 nd) (ptgs_cons (ptg_name 8 nd) (ptgs_cons (ptg_name 9 nd) ptgs_nil))), ?_⟩
          refine pb_if (N1 := fun ρ' => ∃ s7 s8 s9, ρ' = [.im (tD t), .im (buD its), .im (tolD tol), .ow ((List.range i).map (fun k => lyD (lay t tol its k)) ++ [lyD (lay t tol its i)]), .im (itD it), .ow ((fit1 tol it G st).map plD), .im (plD p), s7, s8, s9, .un, .un, .un, .un, .un]) (x := (!isOff tol it st.2.1) && !G.contains st.2.2) (PWt.pt (pw_a (pt_no (pt_pv (pv_call (g_is_off T) (hr.mono (by decide)) (it, st.2.1, tol) ⟨hit, hsu.1, htol⟩ (pvs_cons (pv_var 4) (pvs_cons (pv_var 8) (pvs_cons (pv_var 2) pvs_nil)))))) fun _ => pw_a1 ((pt_notInL (d := plD st.2.2) (ds := G.map plD) (units65 hr) (pv_var 9) (pr_var 5) (plD_cmp _) (plDs_plain _) (plDs_shaped _)).is (by rw [plDs_any])))) (fun hx => ?_) (fun hx => ?_) (fun ρ' hρ => pb_nil hρ)
          · refine pb_append 5 rfl (by rw [List.length_map]; exact Nat.le_trans (hG.len ht) (by decide)) (pv_var 9) (pb_nil ?_)
            have e : fit1 tol it G st = G ++ [st.2.2] := by
              unfold fit1
              rw [if_pos hx]
            rw [e, List.map_append]
            exact ⟨_, _, _, rfl⟩
          · refine pb_nil ?_
            have e : fit1 tol it G st = G := by
              unfold fit1
              rw [if_neg (by rw [hx]; decide)]
            rw [e]
            exact ⟨_, _, _, rfl⟩
        · obtain ⟨s7, s8, s9, rfl⟩ := hρ
          refine pb_nil ⟨Sl.im (plD p), s7, s8, s9, ?_⟩
          rw [hsl, List.take_length]
          rfl
      · obtain ⟨s6, s7, s8, s9, rfl⟩ := hρ
        rw [List.length_map, List.take_length]
        refine pb_freeze 5 rfl ?_
        refine pb_append 3 rfl (by have hb2 : its.length ≤ 63 := hb2; simp; omega) (pv_var 5) (pb_nil ?_)
        rw [lays_succ, lays_succ, lay_succ hq]
        exact ⟨_, _, s6, s7, s8, s9, rfl⟩
    · obtain ⟨s4, s5, s6, s7, s8, s9, rfl⟩ := hρ
      rw [hlen, lays_succ]
      have hly := lay_ok ht (tol := tol) (its := its) its.length
      have hb2 : its.length ≤ 63 := hb2
      -- the ends
      refine pb_setLL (ds := ((lay t tol its its.length).filter (isEnd t)).map plD) 10 nd (PL.is (pl_lcG (own := [("place", 6)]) (kp := fun i => ((lay t tol its its.length)[i]?.map (isEnd t)).getD false) (g := fun i => ((lay t tol its its.length).map plD).getD i .non) nd (pis_lst (ds := (lay t tol its its.length).map plD) (pv_ixL (pr_var 3) (pv_neg pv_int) (atI_last _ _))).cc (blkOk_by (N := eN) (sc := defScope s_ends_left) (by decide +kernel)) (turns_1 (by rw [List.length_map]; exact Nat.le_trans (hly.len ht) (by decide)) fun i hi => ?_) (pts_1 _)) ?_) ?_
      · rw [List.length_map] at hi
        have hp : (lay t tol its its.length)[i]? = some (lay t tol its its.length)[i] := List.getElem?_eq_getElem hi
        rw [getD_at hp, hp]
        generalize (lay t tol its its.length)[i] = p
        refine ⟨[6], _, by decide, fun s0 H0 Ca cl fp => ptg_name 6 nd, fun s0 H0 Ca cl fp => pt_pv (pv_call (g_is_end_in T) (hr.mono (by decide)) (t, p) trivial (pvs_cons (pv_var 0) (pvs_cons (pv_var 6) pvs_nil))), fun _ s0 H0 Ca cl fp => pv_var 6⟩
      · rw [List.length_map]
        exact kept_filter (isEnd t) plD _ (fun i x h => by rw [h]; rfl) (fun i x h => getD_at h)
      -- back
      have hz : (zips (its.map itD) ((List.range its.length).map (fun k => lyD (lay t tol its k)) ++ [lyD (lay t tol its its.length)])).length = its.length := by simp [zips]
      refine pb_for (pit_revN T.b_reversed (pl_zip (ds := its.map itD) T.b_list T.b_zip (pv_var 1) (pr_var 3) (by rw [hlen]; omega))) (fun i ρ' => i ≤ its.length ∧ ∃ s4 s6 s7 s9 s11 s12 s13, ρ' = [.im (tD t), .im (buD its), .im (tolD tol), .ow ((List.range its.length).map (fun k => lyD (lay t tol its k)) ++ [lyD (lay t tol its its.length)]), s4, s5, s6, s7, s8, s9, .ow ((bk t tol its (its.length - i)).reverse.map lyD), s11, s12, s13, .un]) ⟨Nat.zero_le _, s4, s6, s7, s9, .un, .un, .un, by rw [Nat.sub_zero, bk_end]; rfl⟩ (fun i ρ' hi hρ => ?_) (fun ρ' hρ => ?_)
      · obtain ⟨_, s4, s6, s7, s9, s11, s12, s13, rfl⟩ := hρ
        rw [hz] at hi ⊢
        have hj : its.length - 1 - i < its.length := by omega
        obtain ⟨it, hq, hit⟩ : ∃ it, its[its.length - 1 - i]? = some it ∧ ItB it := ⟨its[its.length - 1 - i], List.getElem?_eq_getElem hj, hb3 _ (List.getElem_mem hj)⟩
        have ej : its.length - i = its.length - 1 - i + 1 := by omega
        have ez : (zips (its.map itD) ((List.range its.length).map (fun k => lyD (lay t tol its k)) ++ [lyD (lay t tol its its.length)])).getD (its.length - 1 - i) .non = .tup [itD it, lyD (lay t tol its (its.length - 1 - i))] := by
          rw [List.getD_eq_getElem?_getD, List.getElem?_eq_getElem (by rw [hz]; exact hj)]
          unfold zips
          have ee : (List.map (fun k => lyD (lay t tol its k)) (List.range its.length) ++ [lyD (lay t tol its its.length)])[its.length - 1 - i]? = some (lyD (lay t tol its (its.length - 1 - i))) := by
            rw [List.getElem?_append_left (by simpa using hj), List.getElem?_map, List.getElem?_range hj]
            rfl
          simp [List.getD_eq_getElem?_getD, hq, ee]
        rw [ez, ej]
        have ej2 : its.length - (i + 1) = its.length - 1 - i := by omega
        have hbs := bk_step (t := t) (tol := tol) hq
        have hbl := bk_len (t := t) (tol := tol) (its := its) (i := its.length - 1 - i + 1) (by omega)
        obtain ⟨F, Fs, hF⟩ : ∃ F Fs, bk t tol its (its.length - 1 - i + 1) = F :: Fs := back_ne
        rw [hF] at hbs hbl
        generalize hjj : its.length - 1 - i = j at hq hbs hbl ej2 hF
        have hly := lay_ok ht (tol := tol) (its := its) j
        refine ⟨[4, 11], _, ptg_tup (ptgs_cons (ptg_name 4 nd) (ptgs_cons (ptg_name 11 nd) ptgs_nil)), ?_⟩
        refine pb_setL 12 nd (pl_lst pvs_nil) ?_
        rw [hF]
        have eF : (F :: Fs).reverse.map lyD = Fs.reverse.map lyD ++ [lyD F] := by rw [List.reverse_cons, List.map_append]; rfl
        rw [eF]
        refine pb_for (pis_lst (ds := (lay t tol its j).map plD) (pv_var 11)).tt (fun m ρ' => ∃ s6 s7 s9 s13, ρ' = [.im (tD t), .im (buD its), .im (tolD tol), .ow ((List.range its.length).map (fun k => lyD (lay t tol its k)) ++ [lyD (lay t tol its its.length)]), .im (itD it), s5, s6, s7, s8, s9, .ow (Fs.reverse.map lyD ++ [lyD F]), .im (lyD (lay t tol its j)), .ow ((((lay t tol its j).take m).filter (goodB t tol it F)).map plD), s13, .un]) ⟨s6, s7, s9, s13, rfl⟩ (fun m ρ' hm hρ => ?_) (fun ρ' hρ => ?_)
        · obtain ⟨s6, s7, s9, s13, rfl⟩ := hρ
          rw [List.length_map] at hm
          have hp : (lay t tol its j)[m]? = some (lay t tol its j)[m] := List.getElem?_eq_getElem hm
          have hpu := hly.un _ (List.getElem_mem hm)
          rw [getD_at hp]
          have eT : ((lay t tol its j).take (m + 1)).filter (goodB t tol it F) = ((lay t tol its j).take m).filter (goodB t tol it F) ++ (if goodB t tol it F (lay t tol its j)[m] then [(lay t tol its j)[m]] else []) := by
            rw [List.take_succ, hp, List.filter_append]
            show _ ++ [(lay t tol its j)[m]].filter _ = _
            rw [List.filter_cons, List.filter_nil]
          rw [eT]
          have hGl : (((lay t tol its j).take m).filter (goodB t tol it F)).length ≤ 300 := Nat.le_trans (List.length_filter_le _ _) (Nat.le_trans (List.length_take_le' _ _) (hly.len ht))
          generalize (lay t tol its j)[m] = p at hp hpu
          generalize ((lay t tol its j).take m).filter (goodB t tol it F) = G at hGl
          refine ⟨[6], _, ptg_name 6 nd, ?_⟩
          have hsl : ((steps t p).map stD).length = (steps t p).length := List.length_map _
          have hs2 : (steps t p).length ≤ 2 := by
            unfold steps
            split
            · simp
            · split <;> simp
          refine pb_setLc (own := [("bit", 7), ("due", 14), ("there", 9)]) (kp := fun k => ((steps t p)[k]?.map fun s => !isOff tol it s.2.1).getD false) (g := fun k => ((steps t p).map fun s => plD s.2.2).getD k .non) (ds := (((steps t p).filter fun s => !isOff tol it s.2.1).map (·.2.2)).map plD) 13 nd (pic_ro (PL.pr (pl_call (g_steps_in T) (hr.mono (by decide)) (t, p) trivial (pvs_cons (pv_var 0) (pvs_cons (pv_var 6) pvs_nil))))) (blkOk_by (N := eN) (sc := defScope s_ends_left) (by decide +kernel)) (turns_1 (by rw [hsl]; omega) fun k hk => ?_) (pts_1 _) ?_ ?_
          · rw [hsl] at hk
            have hs : (steps t p)[k]? = some (steps t p)[k] := List.getElem?_eq_getElem hk
            have hsu := univ_step ht hpu (List.getElem_mem hk)
            rw [getD_at hs, getD_at hs, hs]
            generalize (steps t p)[k] = st at hsu
            exact ⟨[7, 14, 9], _, by decide, fun s0 H0 Ca cl fp => ptg_tup (ptgs_cons (ptg_name 7 nd) (ptgs_cons (ptg_name 14 nd) (ptgs_cons (ptg_name 9 nd) ptgs_nil))), fun s0 H0 Ca cl fp => pt_no (pt_pv (pv_call (g_is_off T) (hr.mono (by decide)) (it, st.2.1, tol) ⟨hit, hsu.1, htol⟩ (pvs_cons (pv_var 4) (pvs_cons (pv_var 14) (pvs_cons (pv_var 2) pvs_nil))))), fun _ s0 H0 Ca cl fp => pv_var 9⟩
          · rw [hsl, List.map_map]
            exact kept_filter (fun s : Stp => !isOff tol it s.2.1) (fun s => plD s.2.2) _ (fun i x h => by rw [h]; rfl) (fun i x h => getD_at h)
          · have egb := goodB_any (t := t) (tol := tol) (it := it) (nx := F) (p := p)
            have hwl : (((steps t p).filter fun s => !isOff tol it s.2.1).map (·.2.2)).length ≤ 2 := by rw [List.length_map]; exact Nat.le_trans (List.length_filter_le _ _) hs2
            rw [egb]
            generalize ((steps t p).filter fun s => !isOff tol it s.2.1).map (·.2.2) = W at hwl
            have hWl : (W.map plD).length = W.length := List.length_map _
            refine pb_if (N1 := fun ρ' => ∃ s6 s7 s9 s13, ρ' = [.im (tD t), .im (buD its), .im (tolD tol), .ow ((List.range its.length).map (fun k => lyD (lay t tol its k)) ++ [lyD (lay t tol its its.length)]), .im (itD it), s5, s6, s7, s8, s9, .ow (Fs.reverse.map lyD ++ [lyD F]), .im (lyD (lay t tol its j)), .ow ((G ++ (if (W.any fun q => F.contains q) = true then [p] else [])).map plD), s13, .un]) (pt_pv (pv_any (bs := W.map fun q => F.contains q) T.b_any (PL.is (pl_lcG (own := [("there", 9)]) (kp := fun _ => true) (g := fun k => (W.map fun q => D.bl (F.contains q)).getD k .non) nd (pic_ro (ds := W.map plD) (pr_var 13)) (blkOk_by (N := eN) (sc := defScope s_ends_left) (by decide +kernel)) (turns_n (by rw [hWl]; omega) fun k hk => ?_) (pts_n _)) ?_))) (fun hx => ?_) (fun hx => ?_) (fun ρ' hρ => pb_nil hρ)
            · rw [hWl] at hk
              have hw : W[k]? = some W[k] := List.getElem?_eq_getElem hk
              rw [getD_at hw, getD_at hw]
              generalize W[k] = q
              refine ⟨[9], _, by decide, fun s0 H0 Ca cl fp => ptg_name 9 nd, fun s0 H0 Ca cl fp => (pv_inL (d := plD q) (ds := F.map plD) (units65 hr) (pv_var 9) (pr_lst (pv_ixL (pr_var 10) (pv_neg pv_int) (atI_last _ _))) (plD_cmp _) (plDs_plain _) (plDs_shaped _)).is (by rw [plDs_any])⟩
            · rw [hWl, List.map_map]
              exact kept_map (fun q => D.bl (F.contains q)) W (fun i x h => getD_at h)
            · have hx' : (W.any fun q => F.contains q) = true := by
                rw [List.any_map] at hx
                exact hx
              refine pb_append 12 rfl (by rw [List.length_map]; omega) (pv_var 6) (pb_nil ?_)
              rw [if_pos hx', List.map_append]
              exact ⟨_, _, _, _, rfl⟩
            · have hx' : (W.any fun q => F.contains q) = false := by
                rw [List.any_map] at hx
                exact hx
              refine pb_nil ?_
              rw [if_neg (by rw [hx']; decide), List.append_nil]
              exact ⟨_, _, _, _, rfl⟩
        · obtain ⟨s6, s7, s9, s13, rfl⟩ := hρ
          rw [List.length_map, List.take_length]
          refine pb_freeze 12 rfl ?_
          refine pb_append 10 rfl (by rw [List.length_append, List.length_map, List.length_reverse]; rw [List.length_cons] at hbl; show Fs.length + 1 ≤ 1000; omega) (pv_var 12) (pb_nil ⟨by omega, ?_⟩)
          rw [ej2, hbs]
          rw [List.reverse_cons, List.map_append, ← eF]
          exact ⟨_, s6, s7, s9, _, _, s13, rfl⟩
      · obtain ⟨_, s4, s6, s7, s9, s11, s12, s13, rfl⟩ := hρ
        rw [hz, Nat.sub_self]
        refine pb_retL (PL.po (pl_rev (pr_var 10))) ?_
        show Wv.ow _ = Wv.ow _
        rw [← List.map_reverse, List.reverse_reverse]
        rfl
end
end Bf

namespace Bf
open PySem PySem.Spec PyProof.Rows L2 BF
/-! ### least_word -/
def ownFree (ρ : List Sl) : Bool := ρ.all fun s => match s with
  | .ow _ => false
  | .ob _ => false
  | _ => true
theorem noOwn_of {ρ : List Sl} (h : ownFree ρ = true) : noOwn ρ := fun i => by
  constructor
  · intro ds e
    have := List.all_eq_true.mp h _ (List.mem_of_getElem? e)
    cases this
  · intro O e
    have := List.all_eq_true.mp h _ (List.mem_of_getElem? e)
    cases this
def hd (t : Tb) (tol : Part) (its : List Item) (i : Nat) : List Pl := (bk t tol its i).headD []
theorem bk_cons {t : Tb} {tol : Part} {its : List Item} {i : Nat} (h : i < its.length) : bk t tol its i = hd t tol its i :: bk t tol its (i + 1) := by
  unfold hd
  rw [bk_step (List.getElem?_eq_getElem h)]
  rfl
theorem bk_get {t : Tb} {tol : Part} {its : List Item} : ∀ {k i : Nat}, i + k ≤ its.length → (bk t tol its i)[k]? = some (hd t tol its (i + k))
  | 0, i, h => by
    unfold hd
    obtain ⟨F, Fs, e⟩ : ∃ F Fs, bk t tol its i = F :: Fs := back_ne
    rw [Nat.add_zero, e]
    rfl
  | k + 1, i, h => by
    rw [bk_cons (by omega), List.getElem?_cons_succ, bk_get (by omega)]
    congr 2
    omega
theorem hd_good {t : Tb} {tol : Part} {its : List Item} {i : Nat} {it : Item} (h : its[i]? = some it) {p : Pl} (hp : p ∈ hd t tol its i) : goodB t tol it (hd t tol its (i + 1)) p = true := by
  unfold hd at hp ⊢
  rw [bk_step h] at hp
  exact (List.mem_filter.mp hp).2
theorem hd_ok {t : Tb} (ht : TbOk t) {tol : Part} {its : List Item} {i : Nat} (hi : i ≤ its.length) : LyOk t (hd t tol its i) := by
  unfold hd
  rcases Nat.lt_or_ge i its.length with h | h
  · rw [bk_step (List.getElem?_eq_getElem h)]
    exact filter_ok (lay_ok ht i) _
  · have : i = its.length := by omega
    subst this
    rw [bk_end]
    exact filter_ok (lay_ok ht _) _
def fitB (tol : Part) (it : Item) (F : List Pl) (s : Stp) : Bool := (!isOff tol it s.2.1) && F.contains s.2.2
theorem greedy_cons {t : Tb} {tol : Part} {it : Item} {its : List Item} {F : List Pl} {Fs : List (List Pl)} {p : Pl} {w : List Bool} {s : Stp} {r : List Stp} (h : (steps t p).filter (fitB tol it F) = s :: r) :
    greedy t tol (it :: its) (F :: Fs) p w = greedy t tol its Fs s.2.2 (match s.1 with | none => w | some b => w ++ [b]) := by
  show (match (steps t p).filter (fitB tol it F) with
    | s :: _ => greedy t tol its Fs s.2.2 (match s.1 with | none => w | some b => w ++ [b])
    | [] => w) = _
  rw [h]
def optD (o : Option (List Bool)) : D := match o with
  | none => .non
  | some w => wD w
theorem optD_flat (o : Option (List Bool)) : (optD o).flat = true := by
  cases o with
  | none => rfl
  | some w => exact wD_flat w
def wy (s : Stp) : D := .tup [obD s.1, plD s.2.2]
section
variable {P : Program} {w : World} {K : PySem.W.Frag} {mg : Str → Option Value} {base : Heap} {C : Addr}
abbrev lwN : List Str := ["table", "burst", "tolerance", "layers", "word", "place", "item", "layer", "steps", "bit", "duration", "there"]
theorem sc_least_word : FnScope lwN ["table", "burst", "tolerance"] (defScope s_least_word) := ⟨rfl, rfl, rfl, by decide +kernel, rfl, by decide +kernel, by decide +kernel⟩
abbrev sp_least_word (K : PySem.W.Frag) (C : Addr) : Sp := spF K C (fun y : Tb × List Item × Part => [tD y.1, buD y.2.1, tolD y.2.2]) (fun y => TbOk y.1 ∧ BuOk y.2.1 ∧ big y.2.2.1) (fun y => optD (leastWord y.1 y.2.1 y.2.2))
theorem eqv_nil (l : List Pl) : PyData.eqv (.list (D.pys (l.map plD))) (.list (D.pys [])) = decide (l = []) := by
  cases l with
  | nil => simp [PyData.eqv, PyData.eqvAll, D.pys]
  | cons x l => simp [PyData.eqv, PyData.eqvAll, D.pys]
theorem obD_isN (b : Option Bool) : (obD b).isN = b.isNone := by cases b <;> rfl
theorem g_least_word (T : Tx w K mg C) : GFn P w K mg base "least_word" 7 (sp_least_word K C) :=
  gF (hflat := fun _ => optD_flat _) T.d_least_word sc_least_word (fun _ => rfl) (fun _ _ _ _ _ _ us hl => match us, hl with | [_, _, _], _ => rfl) fun f y hy cdv A outer s H E hr => by
    obtain ⟨t, its, tol⟩ := y
    have hy0 := hy
    obtain ⟨ht, ⟨hb1, hb2, hb3⟩, htol⟩ := hy
    have hb2 : its.length ≤ 63 := hb2
    have hb1 : its.length % 2 = 1 := hb1
    have nd := sc_least_word.nd
    have hlen : (its.map itD).length = its.length := List.length_map _
    have e0 : back t tol its [begin_ t] = bk t tol its 0 := rfl
    have ec : bk t tol its 0 = hd t tol its 0 :: bk t tol its 1 := bk_cons (by omega)
    have eL : leastWord t its tol = if hd t tol its 0 = [] then none else some (greedy t tol its (bk t tol its 1) (begin_ t) []) := by
      unfold leastWord
      rw [e0, ec]
      rfl
    refine pb_setLF 3 nd (g_ends_left T) (hr.mono (by decide)) (t, its, tol) hy0 (pvs_cons (pv_var 0) (pvs_cons (pv_var 1) (pvs_cons (pv_var 2) pvs_nil))) (noOwn_of rfl) ?_
    have e1 : (back t tol its [begin_ t]).map lyD = lyD (hd t tol its 0) :: (bk t tol its 1).map lyD := by rw [e0, ec]; rfl
    show PBk _ C _ ((start' lwN [tD t, buD its, tolD tol]).set 3 (.im (.lst ((back t tol its [begin_ t]).map lyD)))) _ _
    rw [e1]
    refine pb_ifR (x := decide (hd t tol its 0 = [])) ((pt_eqLL (ds := (hd t tol its 0).map plD) (es := []) hr.units (pr_lst (pv_ixL (pr_lst (pv_var 3)) pv_int (atI_nat (j := 0) rfl))) (PL.pr (pl_lst pvs_nil)) (plDs_plain _) rfl (plDs_shaped _) (by decide +kernel)).is (eqv_nil _)) (fun hx => ?_) (fun hx => ?_)
    · refine pb_ret pv_non ?_
      show Wv.im .non = Wv.im (optD (leastWord t its tol))
      rw [eL, if_pos (of_decide_eq_true hx)]
      rfl
    · have hne : ¬ hd t tol its 0 = [] := of_decide_eq_false hx
      refine pb_par 4 5 nd (pvs_cons (pv_tup pvs_nil) (pvs_cons (pv_call (g_begin_in T) (hr.mono (by decide)) t trivial (pvs_cons (pv_var 0) pvs_nil)) pvs_nil)) ?_
      have hbeg : begin_ t ∈ hd t tol its 0 := by
        have hsub : ∀ q ∈ hd t tol its 0, q = begin_ t := fun q hq => by
          unfold hd at hq
          rw [bk_step (List.getElem?_eq_getElem (show 0 < its.length by omega))] at hq
          exact List.mem_singleton.mp (List.mem_filter.mp hq).1
        cases hh : hd t tol its 0 with
        | nil => exact absurd hh hne
        | cons q r =>
          rw [← hsub q (by rw [hh]; exact List.mem_cons_self ..)]
          exact List.mem_cons_self ..
      have hbl : ((bk t tol its 1).map lyD).length = its.length := by rw [List.length_map, bk_len (by omega)]; omega
      have hmin : min (its.map itD).length ((bk t tol its 1).map lyD).length = its.length := by rw [hlen, hbl, Nat.min_self]
      refine pb_for (pit_zipM (ds := its.map itD) T.b_zip (pv_var 1) (pl_tail (pr_lst (pv_var 3)))) (fun i ρ' => ∃ (p : Pl) (wd : List Bool) (s6 s7 s8 s9 s10 s11 : Sl), ρ' = [.im (tD t), .im (buD its), .im (tolD tol), .im (.lst (lyD (hd t tol its 0) :: (bk t tol its 1).map lyD)), .im (wD wd), .im (plD p), s6, s7, s8, s9, s10, s11] ∧ p ∈ hd t tol its i ∧ wd.length ≤ i ∧ greedy t tol (its.drop i) (bk t tol its (i + 1)) p wd = greedy t tol its (bk t tol its 1) (begin_ t) []) ⟨begin_ t, [], .un, .un, .un, .un, .un, .un, rfl, hbeg, Nat.le_refl _, rfl⟩ (fun i ρ' hi hρ => ?_) (fun ρ' hρ => ?_)
      · obtain ⟨p, wd, s6, s7, s8, s9, s10, s11, rfl, hp, hwl, hg⟩ := hρ
        rw [hmin] at hi
        obtain ⟨it, hq, hit⟩ : ∃ it, its[i]? = some it ∧ ItB it := ⟨its[i], List.getElem?_eq_getElem hi, hb3 _ (List.getElem_mem hi)⟩
        have hgood := hd_good hq hp
        have hpu := (hd_ok ht (tol := tol) (its := its) (Nat.le_of_lt hi)).un p hp
        have hb := bk_get (t := t) (tol := tol) (its := its) (k := i) (i := 1) (by omega)
        have hfe : its.drop i = it :: its.drop (i + 1) := by
          obtain ⟨hl, e⟩ := List.getElem?_eq_some_iff.mp hq
          rw [List.drop_eq_getElem_cons hl, e]
        have hF2 : ∀ F : List Pl, hd t tol its (i + 1) = F → LyOk t F := fun F e => e ▸ hd_ok ht (by omega)
        rw [Nat.add_comm 1 i] at hb
        rw [getD_at hq, getD_at hb]
        have hbk : ∃ Fs, bk t tol its (i + 1) = hd t tol its (i + 1) :: Fs ∧ (i + 1 < its.length → Fs = bk t tol its (i + 1 + 1)) := by
          rcases Nat.lt_or_ge (i + 1) its.length with h | h
          · exact ⟨_, bk_cons h, fun _ => rfl⟩
          · have : i + 1 = its.length := by omega
            rw [this, bk_end]
            refine ⟨[], ?_, fun h2 => by omega⟩
            unfold hd
            rw [bk_end]
            rfl
        obtain ⟨Fs, hFs, hFs2⟩ := hbk
        rw [hfe, hFs] at hg
        generalize hFF : hd t tol its (i + 1) = F at hgood hg hb
        have hFok := hF2 F hFF
        have hne : (steps t p).filter (fitB tol it F) ≠ [] := fun z => by
          unfold goodB at hgood
          obtain ⟨s, hs, h⟩ := List.any_eq_true.mp hgood
          have : s ∈ (steps t p).filter (fitB tol it F) := List.mem_filter.mpr ⟨hs, h⟩
          rw [z] at this
          cases this
        refine ⟨[6, 7], _, ptg_tup (ptgs_cons (ptg_name 6 nd) (ptgs_cons (ptg_name 7 nd) ptgs_nil)), ?_⟩
        refine pb_setL 8 nd (pl_lst pvs_nil) ?_
        have hsl : ((steps t p).map stD).length = (steps t p).length := List.length_map _
        have hs2 : (steps t p).length ≤ 2 := by
          unfold steps
          split
          · simp
          · split <;> simp
        refine pb_for (pit_new (pl_call (g_steps_in T) (hr.mono (by decide)) (t, p) trivial (pvs_cons (pv_var 0) (pvs_cons (pv_var 5) pvs_nil)))) (fun k ρ' => ∃ s9 s10 s11, ρ' = [.im (tD t), .im (buD its), .im (tolD tol), .im (.lst (lyD (hd t tol its 0) :: (bk t tol its 1).map lyD)), .im (wD wd), .im (plD p), .im (itD it), .im (lyD F), .ow ((((steps t p).take k).filter (fitB tol it F)).map wy), s9, s10, s11]) ⟨s9, s10, s11, rfl⟩ (fun k ρ' hk hρ => ?_) (fun ρ' hρ => ?_)
        · obtain ⟨s9, s10, s11, rfl⟩ := hρ
          rw [hsl] at hk
          have hs : (steps t p)[k]? = some (steps t p)[k] := List.getElem?_eq_getElem hk
          have hsu := univ_step ht hpu (List.getElem_mem hk)
          have eT : ((steps t p).take (k + 1)).filter (fitB tol it F) = ((steps t p).take k).filter (fitB tol it F) ++ (if fitB tol it F (steps t p)[k] then [(steps t p)[k]] else []) := by
            rw [List.take_succ, hs, List.filter_append]
            show _ ++ [(steps t p)[k]].filter _ = _
            rw [List.filter_cons, List.filter_nil]
          have hGl : (((steps t p).take k).filter (fitB tol it F)).length ≤ 2 := Nat.le_trans (List.length_filter_le _ _) (Nat.le_trans (List.length_take_le' _ _) hs2)
          rw [getD_at hs, eT]
          generalize (steps t p)[k] = st at hs hsu
          generalize ((steps t p).take k).filter (fitB tol it F) = G at hGl
          refine ⟨[9, 10, 11], _, ptg_tup (ptgs_cons (ptg_name 9 nd) (ptgs_cons (ptg_name 10 nd) (ptgs_cons (ptg_name 11 nd) ptgs_nil))), ?_⟩
          refine pb_if (N1 := fun ρ' => ∃ s9 s10 s11, ρ' = [.im (tD t), .im (buD its), .im (tolD tol), .im (.lst (lyD (hd t tol its 0) :: (bk t tol its 1).map lyD)), .im (wD wd), .im (plD p), .im (itD it), .im (lyD F), .ow ((G ++ (if fitB tol it F st then [st] else [])).map wy), s9, s10, s11]) (x := fitB tol it F st) (PWt.pt (pw_a (pt_no (pt_pv (pv_call (g_is_off T) (hr.mono (by decide)) (it, st.2.1, tol) ⟨hit, hsu.1, htol⟩ (pvs_cons (pv_var 6) (pvs_cons (pv_var 10) (pvs_cons (pv_var 2) pvs_nil)))))) fun _ => pw_a1 ((pt_inL (d := plD st.2.2) (ds := F.map plD) (units65 hr) (pv_var 11) (pr_lst (pv_var 7)) (plD_cmp _) (plDs_plain _) (plDs_shaped _)).is (by rw [plDs_any])))) (fun hx => ?_) (fun hx => ?_) (fun ρ' hρ => pb_nil hρ)
          · refine pb_append 8 rfl (by rw [List.length_map]; omega) (pv_tup (pvs_cons (pv_var 9) (pvs_cons (pv_var 11) pvs_nil))) (pb_nil ?_)
            rw [if_pos hx, List.map_append]
            exact ⟨_, _, _, rfl⟩
          · refine pb_nil ?_
            rw [if_neg (by rw [hx]; decide), List.append_nil]
            exact ⟨_, _, _, rfl⟩
        · obtain ⟨s9, s10, s11, rfl⟩ := hρ
          rw [hsl, List.take_length]
          cases hst : (steps t p).filter (fitB tol it F) with
          | nil => exact absurd hst hne
          | cons st r =>
            have hstm : st ∈ (steps t p).filter (fitB tol it F) := by rw [hst]; exact List.mem_cons_self ..
            obtain ⟨hst1, hst2⟩ := List.mem_filter.mp hstm
            have hnx : st.2.2 ∈ F := List.contains_iff_mem.mp (Bool.and_eq_true_iff.mp hst2).2
            rw [greedy_cons hst] at hg
            refine pb_asg (d := wy st) (pv_ixL (pr_var 8) pv_int (atI_nat (j := 0) rfl)) (ptg_tup (ptgs_cons (ptg_name 9 nd) (ptgs_cons (ptg_name 5 nd) ptgs_nil))) ?_
            have key : ∀ w' : List Bool, (match st.1 with | none => wd | some b => wd ++ [b]) = w' → w'.length ≤ i + 1 → greedy t tol (its.drop (i + 1)) (bk t tol its (i + 1 + 1)) st.2.2 w' = greedy t tol its (bk t tol its 1) (begin_ t) [] := fun w' e _ => by
              rw [e] at hg
              rcases Nat.lt_or_ge (i + 1) its.length with h | h
              · rw [← hFs2 h]; exact hg
              · have : its.drop (i + 1) = [] := List.drop_eq_nil_of_le h
                rw [this] at hg ⊢
                exact hg
            refine pb_set 4 nd (d := wD (match st.1 with | none => wd | some b => wd ++ [b])) (pv_ite (x := st.1.isNone) ((pt_isN (pv_var 9)).is (obD_isN _)) (fun hx => ?_) (fun hx => ?_)) (pb_nil ?_)
            · cases hb1 : st.1 with
              | none => exact pv_var 4
              | some b => rw [hb1] at hx; cases hx
            · cases hb1 : st.1 with
              | none => rw [hb1] at hx; cases hx
              | some b =>
                have hv : obD st.1 = bD b := by rw [hb1]; rfl
                refine (pv_cat (ds := wd.map bD) (es := [bD b]) (pv_var 4) (pv_tup (pvs_cons (d := bD b) (pv_var 9) pvs_nil)) (by rw [List.length_map]; show wd.length + 1 ≤ 1000; omega)).is ?_
                show D.tup _ = D.tup _
                rw [List.map_append]
                rfl
            · have hl' : (match st.1 with | none => wd | some b => wd ++ [b]).length ≤ i + 1 := by
                split
                · omega
                · rw [List.length_append]; show wd.length + 1 ≤ i + 1; omega
              exact ⟨st.2.2, _, _, _, _, _, _, _, rfl, hnx, hl', key _ rfl hl'⟩
      · obtain ⟨p, wd, s6, s7, s8, s9, s10, s11, rfl, hp, hwl, hg⟩ := hρ
        rw [hmin, List.drop_length] at hg
        refine pb_ret (pv_var 4) ?_
        show Wv.im (wD wd) = Wv.im (optD (leastWord t its tol))
        rw [eL, if_neg hne, ← hg]
        rfl
end
end Bf

namespace Bf
open PySem PySem.Spec PyProof.Rows L2 BF
section
variable {P : Program} {w : World} {K : PySem.W.Frag} {mg : Str → Option Value} {base : Heap} {C : Addr}
abbrev Hp0 : Hp := fun _ => none
theorem PV.run {X : Cx} {e : Expr} {ρ : List Sl} {d : D} {H0 H : Hp} {σ : L2.St} {Q : VK} (h : PV X C e ρ d) (rs : RS X.K C H0 H σ ρ) (q : ∀ (v : V) (H' : Hp), Ex H H' → Rep X.K C H0 H' v d → Q v H') : EE X e σ H Q := h σ H0 H rs Q q
theorem PTt.run {X : Cx} {e : Expr} {ρ : List Sl} {x : Bool} {H0 H : Hp} {σ : L2.St} {Q : Bool → Hp → Prop} (h : PTt X C e ρ x) (rs : RS X.K C H0 H σ ρ) (q : ∀ (H' : Hp), Ex H H' → Q x H') : ET X e σ H Q := h σ H0 H rs Q q
/-- slots with ints alone -/
theorem rs_ints {K : PySem.W.Frag} {H H' : Hp} {σ : L2.St} {ρ : List Sl} (h : ∀ s ∈ ρ, s = .un ∨ ∃ i, s = .im (.int i)) (r : RS K C Hp0 H σ ρ) : RS K C Hp0 H' σ ρ := by
  refine ⟨(fun _ _ z => by cases z), r.len, fun j d hj => ?_, fun j ds hj => ?_, fun j k ds es p hne h1 h2 => ?_, fun j O hj => ?_, fun j k O U p hne h1 h2 => ?_⟩
  · obtain ⟨v, h1, h2⟩ := r.im j d hj
    refine ⟨v, h1, ?_⟩
    rcases h _ (List.mem_of_getElem? hj) with e | ⟨i, e⟩
    · cases e
    · cases e
      rw [h2.int_inv]
      exact .int i
  · rcases h _ (List.mem_of_getElem? hj) with e | ⟨i, e⟩ <;> cases e
  · rcases h _ (List.mem_of_getElem? h1) with e | ⟨i, e⟩ <;> cases e
  · rcases h _ (List.mem_of_getElem? hj) with e | ⟨i, e⟩ <;> cases e
  · rcases h _ (List.mem_of_getElem? h1) with e | ⟨i, e⟩ <;> cases e
theorem sc_R_init : FnScope ["self", "num", "den", "shared"] ["self", "num", "den"] (defScope s_R_init) := ⟨rfl, rfl, rfl, by decide +kernel, rfl, by decide +kernel, by decide +kernel⟩
abbrev sp_R_init (K : PySem.W.Frag) (C : Addr) : Sp := fun vs H Q _ => ∃ (p dx : Addr) (n d : Int), vs = [.ref p, .int n, .int d] ∧ H p = some (.ins C dx []) ∧ 0 ≤ n ∧ 0 < d ∧ d < 2 ^ 30 ∧
  ∀ H' : Hp, (∀ b o, b ≠ p → H b = some o → H' b = some o) → H' p = some (.ins C dx (rfs (ratio n d).1 (ratio n d).2)) → Q .non H'
theorem fn_R_init (T : Tx w K mg C) {f : Addr} {fd : FuncData} (F : FunD K "__init__" "Ratio.__init__" (defArgs s_R_init) (defBody s_R_init) (defScope s_R_init) [.int 1] [] f fd) : FnOk P w K mg base CX0 3 f fd ["self", "num", "den"] (sp_R_init K C) := by
  refine F.ok sc_R_init (fun vs H Q E h => ?_) fun cdv A outer s H vs Q E hr h => ?_
  · obtain ⟨p, dx, n, d, rfl, _⟩ := h
    rfl
  · obtain ⟨p, dx, n, d, rfl, hp, hn, hd, hd2, q⟩ := h
    refine ⟨_, pss _ (defBody s_R_init), ?_⟩
    have hg := gcd'_pos (n := n) hd
    have hgl := gcd'_le (n := n) hd
    have hcd : CDiv n (gcd' n d) := ⟨hg, by omega⟩
    have hcd2 : CDiv d (gcd' n d) := ⟨hg, by omega⟩
    -- the slots
    have rs : RS K C Hp0 H (L2.start ["self", "num", "den", "shared"] [.ref p, .int n, .int d]) [.un, .im (.int n), .im (.int d), .un] := by
      have r0 : RS K C Hp0 H (L2.start ["self", "num", "den", "shared"] [.non, .int n, .int d]) [.im .non, .im (.int n), .im (.int d), .un] := by
        have r1 := rs_start (K := K) (C := C) (H := Hp0) (N := ["self", "num", "den", "shared"]) (vs := [.non, .int n, .int d]) (ds := [.non, .int n, .int d]) (.cons .non (.cons (.int n) (.cons (.int d) .nil)))
        exact r1.ex (fun _ _ z => by cases z)
      exact r0.un 0 (some (.ref p))
    refine ess_cons (es (ps_if (pt _ _) (pss _ _) (pss _ _)) ?_)
    refine PTt.run (C := C) (ρ := [.un, .im (.int n), .im (.int d), .un]) (PWt.pt (pw_o (x := false) (y := false) (pt_no (x := true) (pt_pv (pv_call (g_is_integer T) (hr.mono (by decide)) n trivial (pvs_cons (pv_var 1) pvs_nil)))) fun _ => pw_o (x := false) (y := false) (pt_no (x := true) (pt_pv (pv_call (g_is_integer T) (hr.mono (by decide)) d trivial (pvs_cons (pv_var 2) pvs_nil)))) fun _ => pw_o (x := false) (y := false) ((pt_lt (pv_var 1) pv_int).is (decide_eq_false (by omega))) fun _ => pw_o1 ((pt_lt (pv_var 2) pv_int).is (decide_eq_false (by omega))))) rs fun H1 e1 => ?_
    refine iteF (ess_nil ?_)
    refine ess_cons (es (ps_set sc_R_init.nd (i := 3) rfl (.inl rfl) (pe _ _) rfl (.inl rfl)) ?_)
    refine PV.run (C := C) (ρ := [.un, .im (.int n), .im (.int d), .un]) (pv_call (g_shared_by T) (hr.mono (by decide)) (d, n) ⟨Int.le_of_lt hd, hn⟩ (pvs_cons (pv_var 2) (pvs_cons (pv_var 1) pvs_nil))) (rs.ex e1) fun v H2 e2 r2 => ?_
    have rs2 := (((rs.ex e1).ex e2).set (i := 3) r2)
    have hp2 : H2 p = some (.ins C dx []) := e2 _ _ (e1 _ _ hp)
    have hi : ∀ s ∈ ([.un, .im (.int n), .im (.int d), .im (.int (Int.gcd d n : Nat))] : List Sl), s = .un ∨ ∃ i, s = .im (.int i) := fun s h => by
      simp only [List.mem_cons, List.not_mem_nil, or_false] at h
      rcases h with e | e | e | e
      · exact .inl e
      · exact .inr ⟨_, e⟩
      · exact .inr ⟨_, e⟩
      · exact .inr ⟨_, e⟩
    refine ess_cons (es (ps_fld (pe_var (i := 0) rfl (.inl rfl) (by decide) (by decide)) (pe _ _) rfl) ?_)
    refine PV.run (C := C) (ρ := [.un, .im (.int n), .im (.int d), .im (.int (Int.gcd d n : Nat))]) (pv_fdiv (i := n) (j := gcd' n d) (pv_var 1) (pv_var 3) hcd) rs2 fun v3 H3 e3 r3 => ?_
    rw [r3.int_inv]
    refine ⟨.ref p, rfl, p, C, dx, [], rfl, e3 _ _ hp2, T.R.cl, T.R.nN, by decide, ?_⟩
    have rs3 := rs_ints (H' := upd H3 p (.ins C dx (putF "own_num" (.int (n / gcd' n d)) []))) hi rs2
    refine ess_cons (es (ps_fld (pe_var (i := 0) rfl (.inl rfl) (by decide) (by decide)) (pe _ _) rfl) ?_)
    refine PV.run (C := C) (ρ := [.un, .im (.int n), .im (.int d), .im (.int (Int.gcd d n : Nat))]) (pv_fdiv (i := d) (j := gcd' n d) (pv_var 2) (pv_var 3) hcd2) rs3 fun v4 H4 e4 r4 => ?_
    rw [r4.int_inv]
    refine ⟨.ref p, rfl, p, C, dx, _, rfl, e4 _ _ upd_same, T.R.cl, T.R.nD, (show (1 : Nat) < 1000 by decide), ?_⟩
    refine ess_nil (q _ (fun b o hb ho => ?_) upd_same)
    rw [upd_ne hb]
    refine e4 _ _ ?_
    rw [upd_ne hb]
    exact e3 _ _ (e2 _ _ (e1 _ _ ho))
end
section
variable {X : Cx} {C : Addr} {ρ : List Sl} {a b : Expr} {pos p : Pos} {n d : Int}
theorem pv_make {k : Nat} (T : Tx X.w X.K X.mg C) (hr : Room (k + 4) X.A) (ha : PVs X C [a, b] ρ [.int n, .int d]) (hn : 0 ≤ n) (hd : 0 < d) (hd2 : d < 2 ^ 30) (hg : Gl X "Ratio" := by rfl)
    (he : starEach [a, b] X.env = (false, eval a X.env) :: starEach [b] X.env := by rfl) (hpl : (backTo pos (starEach [b] X.env)).any (·.1) = false := by rfl) : PV X C (.Call (.Name "Ratio" p) [a, b] [] pos) ρ (.rat (ratio n d).1 (ratio n d).2) := fun σ H0 H rs Q q => by
  obtain ⟨f, fd, F, M⟩ := T.r_init
  obtain ⟨ds, hv, hb⟩ := F.binds1 (ps := ["self", "num", "den"]) 3 1 (by simp) rfl fun T kV doc pm an cdv ct us its h1 h2 => match us, its, h1, h2 with
    | [_, _, _], [_], _, _ => ⟨_, rfl, rfl⟩
  cases hv
  refine ee (pe_make M (fn_R_init (P := X.prog) (base := X.base) T F) (hr.mono (by omega)) hg T.R.gl hb .nil (E := E0) pass0 (pa X [a, b]) (by decide) he hpl) (ha σ H0 H rs _ fun vs H1 e1 r1 x dx hx hdx hne => ?_)
  obtain ⟨v, u, ev, r2, r3⟩ := reps2 r1
  subst ev
  rw [r2.int_inv, r3.int_inv]
  refine ⟨x, dx, n, d, rfl, upd_same, hn, hd, hd2, fun H' hk hx' => ⟨rfl, q _ H' (fun b o ho => ?_) (.rat hx')⟩⟩
  have hb1 := e1 b o ho
  refine hk b o (ne_of_none hb1 hx) ?_
  rw [upd_ne (ne_of_none hb1 hx), upd_ne (ne_of_none hb1 hdx)]
  exact hb1
end
end Bf

namespace Bf
open PySem PySem.Spec PyProof.Rows L2 BF

/-! ### a dict of places -/
def ndO (a : Addr) (es : Array DictEntry) (ep : Nat) : HO := .ext fun h => h.DictRaw a es ep ∧ (a == sysModules) = false
theorem ndO_ok {P : Program} {w : World} {H : Hp} {h : Heap} {a : Addr} {es : Array DictEntry} {ep : Nat} (x : h.DictRaw a es ep) (hd : (a == sysModules) = false) : ObjOk P w H h a (ndO a es ep) :=
  ⟨⟨x, hd⟩, let ⟨o, ho, _⟩ := x; ⟨o, ho⟩, fun h1 h2 y k => ⟨y.1.at k, y.2⟩⟩
theorem ndO_raw {P : Program} {w : World} {H : Hp} {h : Heap} {a : Addr} {es : Array DictEntry} {ep : Nat} (x : ObjOk P w H h a (ndO a es ep)) : h.DictRaw a es ep ∧ (a == sysModules) = false := x.1
/-- the key of a place -/
def keyP (p : Pl) : NestedKey := .tup [.num (p.known : Int), .tup (p.rest.map .num), .text (opS p.op)]
theorem num_inj : ∀ {l m : List Int}, l.map NestedKey.num = m.map NestedKey.num → l = m
  | [], [], _ => rfl
  | [], _ :: _, h => by cases h
  | _ :: _, [], h => by cases h
  | a :: l, b :: m, h => by
    rw [List.map_cons, List.map_cons] at h
    injection h with h1 h2
    injection h1 with h1
    rw [h1, num_inj h2]
theorem keyP_inj {p q : Pl} (h : keyP p = keyP q) : p = q := by
  obtain ⟨a, b, c⟩ := p
  obtain ⟨a', b', c'⟩ := q
  unfold keyP at h
  dsimp only at h
  injection h with h
  injection h with h1 h2
  injection h2 with h2 h3
  injection h3 with h3 _
  injection h1 with h1
  injection h2 with h2
  injection h3 with h3
  have e1 : a = a' := by omega
  have e2 := num_inj h2
  have e3 : c = c' := by
    have := opS_inj c c'
    rw [h3] at this
    simpa using this.symm
  subst e1 e2 e3
  rfl
theorem depth_num (l : List Int) : NestedKey.depthAll (l.map .num) = 0 := by
  induction l with
  | nil => rfl
  | cons i l ih => simp [NestedKey.depthAll, NestedKey.depth, ih]
theorem keyP_depth (p : Pl) : (keyP p).depth ≤ 8 := by
  unfold keyP
  simp only [NestedKey.depth, NestedKey.depthAll, depth_num]
  omega
section
variable {X : Cx} {C : Addr} {B B' H H' : Hp} {σ : L2.St} {s : Shared} {pins : List (Addr × Obj)}
theorem nest_ints : ∀ {l : List Int} {xs : List V} {us : List Value} {h : Heap}, Reps X.K C B H xs (l.map D.int) → Vals xs us → NestedAll h (l.map .num) us
  | [], _, _, _, r, v => by cases r; cases v; exact .nil
  | i :: l, _, _, _, r, v => by
    cases r with
    | cons r1 r2 =>
      cases v with
      | cons v1 v2 =>
        rw [r1.int_inv] at v1
        obtain ⟨t, rfl⟩ := v1
        exact .cons (.int i t) (nest_ints r2 v2)
theorem nest_pl (I : Inv X pins σ H s) {b : Addr} {p : Pl} (r : Rep X.K C B H (.ref b) (plD p)) : (nestedKind X.prog X.w).is s.heap (keyP p) b := by
  refine ⟨?_, keyP_depth p⟩
  obtain ⟨t, xs, e, hq, hx⟩ := r.tup_inv
  cases e
  obtain ⟨its, rv, ⟨o, ho, hc, n, hd⟩, _⟩ := I.tuple hq
  refine .tup ho hc hd ?_
  cases hx with
  | cons r1 hx =>
    cases hx with
    | cons r2 hx =>
      cases hx with
      | cons r3 hx =>
        cases hx
        cases rv with
        | cons v1 rv =>
          cases rv with
          | cons v2 rv =>
            cases rv with
            | cons v3 rv =>
              cases rv
              rw [r1.int_inv] at v1
              rw [r3.str_inv] at v3
              obtain ⟨t1, rfl⟩ := v1
              obtain ⟨t3, rfl⟩ := v3
              obtain ⟨t2, ys, e2, hq2, hx2⟩ := r2.tup_inv
              subst e2
              cases v2
              obtain ⟨its2, rv2, ⟨o2, ho2, hc2, n2, hd2⟩, _⟩ := I.tuple hq2
              exact .cons (.int _ _) (.cons (.tup ho2 hc2 hd2 (nest_ints hx2 rv2)) (.cons (.text _ _) .nil))
end
/-- an entry: its key, its value -/
def EntX (K : PySem.W.Frag) (C : Addr) (B H : Hp) (p : Pl × Part) (x : NestedKey × Addr × Value) : Prop := x.1 = keyP p.1 ∧ Rep K C B H (.ref x.2.1) (plD p.1) ∧ ∃ c, x.2.2 = .ref c ∧ Rep K C B H (.ref c) (pD p.2)
structure DEnt (P : Program) (w : World) (K : PySem.W.Frag) (C : Addr) (B H : Hp) (kvs : List (Pl × Part)) (es : Array DictEntry) (xs : List (NestedKey × Addr × Value)) : Prop where
  ent : es.toList = xs.map (entryOfKey (nestedKind P w))
  rel : Paired (EntX K C B H) kvs xs
  nd : (kvs.map (·.1)).Nodup
section
variable {P : Program} {w : World} {K : PySem.W.Frag} {C : Addr} {B B' H H' : Hp} {kvs : List (Pl × Part)} {es : Array DictEntry} {xs : List (NestedKey × Addr × Value)}
theorem EntX.mono (eB : Ex B B') (im : Im H H') {p : Pl × Part} {x : NestedKey × Addr × Value} (h : EntX K C B H p x) : EntX K C B' H' p x := by
  obtain ⟨h1, h2, c, h3, h4⟩ := h
  exact ⟨h1, Rep.gr eB _ _ (Rep.im im _ _ h2), c, h3, Rep.gr eB _ _ (Rep.im im _ _ h4)⟩
theorem DEnt.mono (eB : Ex B B') (im : Im H H') (h : DEnt P w K C B H kvs es xs) : DEnt P w K C B' H' kvs es xs :=
  ⟨h.ent, Paired.mapP h.rel fun p x => EntX.mono eB im, h.nd⟩
theorem look_none : ∀ {kvs : List (Pl × Part)} {xs : List (NestedKey × Addr × Value)} {p : Pl}, Paired (EntX K C B H) kvs xs → look kvs p = none → atKey xs (keyP p) = none
  | [], _, _, r, _ => by cases r; rfl
  | e :: kvs, _, p, r, h => by
    cases r with
    | @cons _ x _ xs r1 r2 =>
      unfold look at h
      rw [List.find?_cons] at h
      by_cases hk : e.1 = p
      · rw [decide_eq_true hk] at h
        cases h
      · rw [decide_eq_false hk] at h
        have ih := look_none (kvs := kvs) (xs := xs) (p := p) r2 h
        unfold atKey at ih ⊢
        rw [List.find?_cons]
        have : ¬ x.1 = keyP p := fun z => hk (keyP_inj (r1.1.symm.trans z))
        rw [decide_eq_false this]
        exact ih
theorem look_some : ∀ {kvs : List (Pl × Part)} {xs : List (NestedKey × Addr × Value)} {p : Pl} {v : Part}, Paired (EntX K C B H) kvs xs → look kvs p = some v → ∃ a c, atKey xs (keyP p) = some (a, .ref c) ∧ Rep K C B H (.ref c) (pD v)
  | [], _, _, _, r, h => by cases h
  | e :: kvs, _, p, v, r, h => by
    cases r with
    | @cons _ x _ xs r1 r2 =>
      unfold look at h
      rw [List.find?_cons] at h
      by_cases hk : e.1 = p
      · rw [decide_eq_true hk] at h
        cases h
        obtain ⟨e1, e2, c, e3, e4⟩ := r1
        refine ⟨x.2.1, c, ?_, e4⟩
        unfold atKey
        rw [List.find?_cons]
        have : x.1 = keyP p := by rw [e1, hk]
        rw [decide_eq_true this, ← e3]
        rfl
      · rw [decide_eq_false hk] at h
        obtain ⟨a, c, h1, h2⟩ := look_some (kvs := kvs) (xs := xs) (p := p) r2 h
        refine ⟨a, c, ?_, h2⟩
        unfold atKey at h1 ⊢
        rw [List.find?_cons]
        have : ¬ x.1 = keyP p := fun z => hk (keyP_inj (r1.1.symm.trans z))
        rw [decide_eq_false this]
        exact h1
theorem any_look (kvs : List (Pl × Part)) (p : Pl) : (kvs.any fun e => decide (e.1 = p)) = (look kvs p).isSome := by
  unfold look
  rw [Option.isSome_map]
  induction kvs with
  | nil => rfl
  | cons e kvs ih =>
    rw [List.any_cons, List.find?_cons]
    cases decide (e.1 = p) with
    | true => rfl
    | false => exact ih
theorem Paired.mapW {α β α' β' : Type} {F : α → β → Prop} {G : α' → β' → Prop} {f : α → α'} {g : β → β'} : ∀ {l : List α} {m : List β}, Paired F l m → (∀ a b, F a b → G (f a) (g b)) → Paired G (l.map f) (m.map g)
  | _, _, .nil, _ => .nil
  | _, _, .cons r t, h => .cons (h _ _ r) (Paired.mapW t h)
theorem Paired.app1 {α β : Type} {F : α → β → Prop} {a : α} {b : β} : ∀ {l : List α} {m : List β}, Paired F l m → F a b → Paired F (l ++ [a]) (m ++ [b])
  | _, _, .nil, h => .cons h .nil
  | _, _, .cons r t, h => .cons r (Paired.app1 t h)
theorem put_rel {p : Pl} {v : Part} {a c : Addr} (r : Paired (EntX K C B H) kvs xs) (ra : Rep K C B H (.ref a) (plD p)) (rc : Rep K C B H (.ref c) (pD v)) : Paired (EntX K C B H) (put kvs p v) (storedH xs (keyP p) a (.ref c)) := by
  unfold put
  rw [any_look]
  cases hl : look kvs p with
  | none =>
    rw [storedH_new (look_none r hl), if_neg (by simp)]
    exact Paired.app1 r ⟨rfl, ra, c, rfl, rc⟩
  | some v0 =>
    obtain ⟨a0, c0, h1, _⟩ := look_some r hl
    rw [storedH_old h1, if_pos (by simp)]
    refine Paired.mapW r fun e x h => ?_
    obtain ⟨h1, h2, c1, h3, h4⟩ := h
    unfold putAt
    by_cases hk : e.1 = p
    · have : x.1 = keyP p := by rw [h1, hk]
      rw [if_pos hk, if_pos this]
      exact ⟨h1, h2, c, rfl, rc⟩
    · have : ¬ x.1 = keyP p := fun z => hk (keyP_inj (h1.symm.trans z))
      rw [if_neg hk, if_neg this]
      exact ⟨h1, h2, c1, h3, h4⟩
theorem put_nd {p : Pl} {v : Part} (h : (kvs.map (·.1)).Nodup) : ((put kvs p v).map (·.1)).Nodup := by
  unfold put
  split
  · have : (kvs.map (fun e => if e.1 = p then (e.1, v) else e)).map (·.1) = kvs.map (·.1) := by
      rw [List.map_map]
      refine List.map_congr_left fun e _ => ?_
      show (if e.1 = p then (e.1, v) else e).1 = e.1
      split <;> rfl
    rw [this]
    exact h
  · rename_i hn
    rw [List.map_append]
    refine List.nodup_append.mpr ⟨h, by simp, ?_⟩
    intro x hx y hy e
    have hy' : y = p := by simpa using hy
    obtain ⟨e0, he0, hxe⟩ := List.mem_map.mp hx
    exact hn (List.any_eq_true.mpr ⟨e0, he0, decide_eq_true (by rw [hxe, e, hy'])⟩)
theorem keys_nd : ∀ {kvs : List (Pl × Part)} {xs : List (NestedKey × Addr × Value)}, Paired (EntX K C B H) kvs xs → (kvs.map (·.1)).Nodup → (xs.map (·.1)).Nodup
  | [], _, r, _ => by cases r; exact List.nodup_nil
  | e :: kvs, _, r, h => by
    cases r with
    | @cons _ x _ xs r1 r2 =>
      rw [List.map_cons, List.nodup_cons] at h ⊢
      refine ⟨fun z => ?_, keys_nd r2 h.2⟩
      obtain ⟨y, hy, ey⟩ := List.mem_map.mp z
      have : ∀ {kvs : List (Pl × Part)} {xs : List (NestedKey × Addr × Value)}, Paired (EntX K C B H) kvs xs → y ∈ xs → ∃ e ∈ kvs, y.1 = keyP e.1 := fun {kvs} => by
        induction kvs with
        | nil => intro xs r hy; cases r; cases hy
        | cons e0 kvs ih =>
          intro xs r hy
          cases r with
          | cons r1 r2 =>
            rcases List.mem_cons.mp hy with e | hy
            · subst e
              exact ⟨e0, List.mem_cons_self .., r1.1⟩
            · obtain ⟨e, he, h⟩ := ih r2 hy
              exact ⟨e, List.mem_cons_of_mem _ he, h⟩
      obtain ⟨e', he', h'⟩ := this r2 hy
      have : e.1 = e'.1 := keyP_inj (r1.1.symm.trans (ey.symm.trans h'))
      exact h.1 (by rw [this]; exact List.mem_map.mpr ⟨e', he', rfl⟩)
end
/-- the own thing: a dict of places -/
def dctO (P : Program) (w : World) (K : PySem.W.Frag) (C : Addr) (kvs : List (Pl × Part)) : OwnO where
  ok := fun B H a => ∃ es ep xs, H a = some (ndO a es ep) ∧ DEnt P w K C B H kvs es xs
  keep := fun {B B' H H' p} h eB im e => by
    obtain ⟨es, ep, xs, h1, h2⟩ := h
    exact ⟨es, ep, xs, by rw [e]; exact h1, h2.mono eB im⟩
  one := fun {B H p} h => by
    obtain ⟨es, ep, xs, h1, h2⟩ := h
    exact ⟨_, h1, rfl, fun xs z => by cases z⟩
section
variable {X : Cx} {C : Addr} {B B' H H' : Hp} {σ : L2.St} {s : Shared} {pins : List (Addr × Obj)} {kvs : List (Pl × Part)} {es : Array DictEntry} {xs : List (NestedKey × Addr × Value)} {a : Addr} {ep : Nat}
theorem DEnt.dict (I : Inv X pins σ H s) (h : H a = some (ndO a es ep)) (d : DEnt X.prog X.w X.K C B H kvs es xs) : s.heap.DictOfH (nestedKind X.prog X.w) a xs ∧ (a == sysModules) = false ∧ s.heap.DictRaw a es ep := by
  obtain ⟨hr, hd⟩ := ndO_raw (I.hok a _ h)
  obtain ⟨o, ho, hc, hdat⟩ := id hr
  refine ⟨⟨o, es, ep, ho, hc, hdat, d.ent, fun x hx => ?_, keys_nd d.rel d.nd⟩, hd, hr⟩
  have : ∀ {kvs : List (Pl × Part)} {xs : List (NestedKey × Addr × Value)}, Paired (EntX X.K C B H) kvs xs → x ∈ xs → ∃ e ∈ kvs, EntX X.K C B H e x := fun {kvs} => by
    induction kvs with
    | nil => intro xs r hy; cases r; cases hy
    | cons e0 kvs ih =>
      intro xs r hy
      cases r with
      | cons r1 r2 =>
        rcases List.mem_cons.mp hy with e | hy
        · subst e
          exact ⟨e0, List.mem_cons_self .., r1⟩
        · obtain ⟨e, he, h⟩ := ih r2 hy
          exact ⟨e, List.mem_cons_of_mem _ he, h⟩
  obtain ⟨e, _, h1, h2, _⟩ := this d.rel hx
  rw [h1]
  exact nest_pl I h2
theorem room_n {A : Around} (hu : A.units + 64 < cLine) : (nestedKind X.prog X.w).room A.in1 := by
  show A.in1.units + 8 < cLine
  rw [Around.in1_units]
  omega
theorem room_n0 {A : Around} (hu : A.units + 64 < cLine) : (nestedKind X.prog X.w).room A := by
  show A.units + 8 < cLine
  omega
/-- p in d, p not in d, d[p] -/
def rNdNot (P : Program) (w : World) (K : PySem.W.Frag) (C : Addr) : R2 := fun y x H Q => ∃ (B : Hp) (b a : Addr) (p : Pl) (kvs : List (Pl × Part)), y = .ref b ∧ x = .ref a ∧ Rep K C B H y (plD p) ∧ (dctO P w K C kvs).ok B H a ∧ Q (.bl (!(look kvs p).isSome)) H
theorem op_ndNot (hu : X.A.units + 64 < cLine) : OpR X (compareOp .NotIn) (rNdNot X.prog X.w X.K C) := by
  intro pins s σ H x y v u Q I rx ry h
  obtain ⟨B, b, a, p, kvs, rfl, rfl, rp, ⟨es, ep, xs, h1, h2⟩, q⟩ := h
  cases rx
  cases ry
  obtain ⟨dd, hd, _⟩ := h2.dict I h1
  refine wpAny_notIn_heap (room_n hu) (nest_pl I rp) hd dd ?_
  have e : (atKey xs (keyP p)).isSome = (look kvs p).isSome := by
    cases hl : look kvs p with
    | none => rw [look_none h2.rel hl]; rfl
    | some v =>
      obtain ⟨a0, c0, e1, _⟩ := look_some h2.rel hl
      rw [e1]
      rfl
  rw [e]
  exact ⟨.bl _, H, I.tok _, rfl, q⟩
def rNdIx (P : Program) (w : World) (K : PySem.W.Frag) (C : Addr) : R2 := fun x y H Q => ∃ (B : Hp) (b a : Addr) (p : Pl) (v : Part) (kvs : List (Pl × Part)), y = .ref b ∧ x = .ref a ∧ Rep K C B H y (plD p) ∧ (dctO P w K C kvs).ok B H a ∧ look kvs p = some v ∧ ∀ c, Rep K C B H (.ref c) (pD v) → Q (.ref c) H
theorem ix_nd (hu : X.A.units + 64 < cLine) : IxR X (rNdIx X.prog X.w X.K C) := by
  intro value slice pins s σ H x y v u Q I rx ry h hs
  obtain ⟨B, b, a, p, pv, kvs, rfl, rfl, rp, ⟨es, ep, xs, h1, h2⟩, hl, q⟩ := h
  cases rx
  cases ry
  obtain ⟨dd, hd, _⟩ := h2.dict I h1
  obtain ⟨a0, c0, e1, rc⟩ := look_some h2.rel hl
  exact tail_any dd.typeIs PySem.F.slot_dict_getitem.lookup (wpAny_getItem_heap (room_n hu) (nest_pl I rp) dd e1 ⟨.ref c0, H, I.tok _, rfl, q c0 rc⟩) hs
/-- {} -/
def tNdNew : TE := fun _ H Q => ∀ p, H p = none → Q (.ref p) (upd H p (ndO p #[] 0))
theorem nd_new {P : Program} {w : World} {H : Hp} (h : Heap) (hb : sysModules < h.objs.size) : ObjOk P w H (h.push { cls := .type "dict", data := .dict #[] }) h.objs.size (ndO h.objs.size #[] 0) :=
  ndO_ok ⟨_, Heap.get?_push_size _ rfl, ⟨rfl, rfl, rfl⟩, rfl⟩ (beq_eq_false_iff_ne.mpr (Ne.symm (Nat.ne_of_lt hb)))
theorem pe_ndNew {pos : Pos} : PE X (.Dict [] [] pos) tNdNew := ⟨fun pins s σ H Q I h =>
  wpAny_Dict_empty ⟨.ref s.heap.objs.size, _, I.laid (a := s.heap.objs.size) (o := ndO s.heap.objs.size #[] 0) (t' := s.toks) (fun _ _ q => Heap.get?_push_of_some _ q) (Nat.le_refl _) (nd_new s.heap I.big), rfl, h _ (I.hok.fresh (Nat.le_refl _))⟩⟩
/-- {e: e2} -/
def tNd1 (C : Addr) (X : Cx) (te tv : TE) : TE := fun σ H Q => ∀ p, H p = none → te σ (upd H p (ndO p #[] 0)) fun x H1 => tv σ H1 fun y H2 => H2 p = some (ndO p #[] 0) ∧ ∃ (B : Hp) (b c : Addr) (pl : Pl) (part : Part), x = .ref b ∧ y = .ref c ∧ Rep X.K C B H2 x (plD pl) ∧ Rep X.K C B H2 y (pD part) ∧
  ∀ es ep xs, (∀ B', Rep X.K C B' H2 x (plD pl) → Rep X.K C B' H2 y (pD part) → DEnt X.prog X.w X.K C B' (upd H2 p (ndO p es ep)) [(pl, part)] es xs) → Q (.ref p) (upd H2 p (ndO p es ep))
theorem pe_nd1 {k v : Expr} {pos : Pos} {te tv : TE} (hu : X.A.units + 64 < cLine) (hk : PE X k te) (hv : PE X v tv) : PE X (.Dict [some k] [v] pos) (tNd1 C X te tv) := by
  refine ⟨fun pins s σ H Q I q => ?_⟩
  have hn := I.hok.fresh (Nat.le_refl s.heap.objs.size)
  have I1 := I.laid (a := s.heap.objs.size) (o := ndO s.heap.objs.size #[] 0) (h' := s.heap.push { cls := .type "dict", data := .dict #[] }) (t' := s.toks) (fun _ _ q => Heap.get?_push_of_some _ q) (Nat.le_refl _) (nd_new s.heap I.big)
  rw [arm_eval_Dict, zip_pairTrees [some k] [v] X.env pos rfl rfl, dictDisplay_pairs (pairTrees [some k] [v] X.env pos) (by simp [pairTrees]) (by simp [pairTrees])]
  refine wpAny_bind (wpAny_standAt (wpAny_bind (wpAny_subDictH (knd := nestedKind X.prog X.w) (room_n0 hu) (by simp [pairTrees]) ?_)))
  refine pairTrees_cons_walk (thn (hk.run pins _ σ _ _ I1 (q _ hn)) fun u1 s1 ⟨x, H1, I2, rx, q1⟩ => thn (hv.run pins s1 σ H1 _ I2 q1) fun u2 s2 ⟨y, H2, I3, ry, e, B, b, c, pl, part, ex, ey, rp, rv, q2⟩ => pairTrees_nil_walk ?_)
  subst ex ey
  cases rx
  cases ry
  have d0 : DEnt X.prog X.w X.K C B H2 [] #[] [] := ⟨rfl, .nil, List.nodup_nil⟩
  obtain ⟨dd, hd, _⟩ := d0.dict I3 e
  refine ⟨[(keyP pl, b, .ref c)], ⟨rfl, rfl, nest_pl I3 rp, True.intro⟩, dd, fun h' tk hm hs => wpAny_pure ?_⟩
  obtain ⟨o, es, ep, ho, hc, hdat, hent, his, hnd⟩ := hm
  have I4 : Inv X pins σ (upd H2 s.heap.objs.size (ndO s.heap.objs.size es ep)) { s2 with heap := h', toks := tk } :=
    d_write I3 (by rw [e]; exact True.intro) hs ⟨o, ho⟩ (ndO_ok ⟨o, ho, hc, hdat⟩ hd)
  have im : Im H2 (upd H2 s.heap.objs.size (ndO s.heap.objs.size es ep)) := Im.upd e rfl
  exact ⟨.ref s.heap.objs.size, _, I4, rfl, q2 es ep [(keyP pl, b, .ref c)] fun B' r1 r2 => ⟨hent, .cons ⟨rfl, Rep.im im _ _ r1, c, rfl, Rep.im im _ _ r2⟩ .nil, by simp⟩⟩
end
end Bf

namespace Bf
open PySem PySem.Spec PyProof.Rows L2 BF

/-! ### for k, v in d.items() -/
def ItN (d : Addr) (es : Array DictEntry) (ep : Nat) : It :=
  ⟨fun i H => H d = some (ndO d es ep) ∧ i < es.size, fun i H x H' => ∃ T b c, x = .ref T ∧ H T = none ∧ H' = upd H T (.tup [.ref b, .ref c]) ∧ ∃ e, es[i]? = some e ∧ e.key = .ref b ∧ e.val = .ref c, fun i H => H d = some (ndO d es ep) ∧ es.size ≤ i⟩
theorem turn_itemsN {P : Program} {w : World} {K : PySem.W.Frag} {elts : List Expr} {kk : Nat} {tpos : Pos} {d : Addr} {es : Array DictEntry} {ep : Nat} (hre : ∀ (i : Nat) (e : DictEntry), es[i]? = some e → ∃ b c, e.key = .ref b ∧ e.val = .ref c) (it : Addr) :
    Turn P w K (.Tuple elts kk tpos) (ItN d es ep) [it] it (fun i h => ∃ ok ov, IsItemIter h it d i es.size ep ok ov) where
  mem := by simp
  obj := fun i h st b hb => by
    have e : b = it := by simpa using hb
    subst e
    obtain ⟨ok, ov, e⟩ := st
    exact ⟨_, e, fun v z => nomatch z⟩
  keep := fun i h h' st k => let ⟨ok, ov, e⟩ := st; ⟨ok, ov, k it (by simp) _ e⟩
  item := by
    intro X hP hw hK hc i pins s σ H E I hf st hg
    subst hP hw hK
    obtain ⟨hd, hi⟩ := hg
    obtain ⟨hr, _⟩ := ndO_raw (I.hok d _ hd)
    obtain ⟨ok, ov, he⟩ := st
    have hlt : it < s.heap.objs.size := Heap.lt_size he
    obtain ⟨b, c, hb, hcv⟩ := hre i es[i] (Array.getElem?_eq_getElem hi)
    refine wpAny_pyNext_items_item_raw he hr hi fun h' ho hT hz hk => ?_
    refine ⟨_, rfl, wpAny_letOwnedTupleGo_items (s := { s with heap := h' }) ho fun h'' he' sb => ?_⟩
    have hT2 : h''.get? s.heap.objs.size = some { cls := .type "tuple", data := .seq #[es[i].key, es[i].val] } := (sb.2 _ (Nat.ne_of_gt hlt)).trans hT
    have new : ObjOk X.prog X.w (upd H s.heap.objs.size (.tup [.ref b, .ref c])) h'' s.heap.objs.size (.tup [.ref b, .ref c]) :=
      ⟨by show 2 ≤ sizeLine; decide, [es[i].key, es[i].val], .cons (by rw [hb]; rfl) (.cons (by rw [hcv]; rfl) .nil), ⟨_, hT2, rfl, _, rfl⟩⟩
    have I1 : Inv X pins σ (upd H s.heap.objs.size (.tup [.ref b, .ref c])) { s with heap := h'' } :=
      I.turnedNew (t' := s.toks) (ch := [it]) (fun b ob hb e => (sb.2 b (by simpa using hb)).trans (hk b ob (by simpa using hb) e)) hf (Nat.le_refl _) new
    refine ⟨.ref s.heap.objs.size, _, I1, rfl, ⟨_, b, c, rfl, I.hok.fresh (Nat.le_refl _), rfl, es[i], Array.getElem?_eq_getElem hi, hb, hcv⟩, ⟨_, _, he'⟩, fun b hb => ?_⟩
    have e : b = it := by simpa using hb
    rw [e, upd_ne (Nat.ne_of_lt hlt)]
    exact (hf it (by simp)).1
  done := by
    intro X hP hw hK hc i pins s σ H E I hf st hg
    subst hP hw hK
    obtain ⟨hd, hi⟩ := hg
    obtain ⟨f0, f1, f2, f3, f4, f5⟩ := hf it (by simp)
    obtain ⟨hr, _⟩ := ndO_raw (I.hok d _ hd)
    obtain ⟨ok, ov, he⟩ := st
    exact wpAny_pyNext_items_end_raw (I.ok.hd hc) he hr hi fun h' eb => ⟨rfl, I.turned (t' := s.toks) (fun b ob hb e => eb b ob hb e) f0 f1 f3 f4 f5⟩
  self := fun A i s Q E st h => let ⟨_, _, e⟩ := st; PySem.wpAny_pyIter_itemiter e h
def iItN (td : TE) : TI := fun σ H R => td σ H fun x H1 => ∃ d es ep, x = .ref d ∧ H1 d = some (ndO d es ep) ∧ (∀ (i : Nat) (e : DictEntry), es[i]? = some e → ∃ b c, e.key = .ref b ∧ e.val = .ref c) ∧ R (ItN d es ep) H1
theorem pi_itemsN {X : Cx} {e : Expr} {td : TE} {apos cpos tpos : Pos} {elts : List Expr} {kk : Nat} (he : PE X e td) (hbase : attributeBase e "items" X.env (eval e X.env) = eval e X.env := by rfl) (hline : (apos.endLine == cpos.line) = true := by rfl) :
    PI X (.Tuple elts kk tpos) (.Call (.Attribute e "items" apos) [] [] cpos) (iItN td) := by
  refine ⟨fun pins s σ H R I h => ?_⟩
  refine wpAny_Call_method (T := "dict") (id := "dict.items") hbase rfl hline PySem.F.plainAttrs_dict PySem.F.slot_dict_items PySem.F.type_dict_items (thn (he.run pins s σ H _ I h) fun u s1 ⟨x, H1, I1, rx, d, es, ep, ex, hd, hre, q⟩ => ?_)
  subst ex
  obtain rfl : u = Value.ref d := rx
  obtain ⟨hr, hs⟩ := ndO_raw (I1.hok d _ hd)
  refine ⟨hr.typeIs, fun b z => ?_, ?_⟩
  · cases z
    obtain ⟨o, ho, hc, _⟩ := hr
    exact ⟨o, ho, hc.2.1⟩
  have I2 : Inv X pins σ H1 { s1 with heap := s1.heap.push { cls := .type "dict_items", data := .fields #[.ref d] } } := I1.kept (t' := s1.toks) fun b ob q => Heap.get?_push_of_some _ q
  have fin : wpAny (model X.prog X.w) X.A (pyIter (.ref s1.heap.objs.size)) (PIE X pins σ (.Tuple elts kk tpos) R) X.xe { s1 with heap := s1.heap.push { cls := .type "dict_items", data := .fields #[.ref d] } } := by
    refine wpAny_pyIter_items_raw (d := d) (es := es) (ep := ep) ⟨_, Heap.get?_push_size _ rfl, rfl, rfl⟩ (hr.at fun o e => Heap.get?_push_of_some _ e) (pi_one (tk := s1.toks) I2 _ (turn_itemsN hre _) ⟨.none, .none, ?_⟩ q)
    exact Heap.get?_push_size _ rfl
  show wpAny _ _ (callWith cpos (.builtin "dict.items") [.ref d] [] []) _ X.xe s1
  exact method_meetsIn PySem.F.slot_dict_items PySem.F.entry_dict_items rfl (PySem.evalArgs_none ⟨rfl, hr.typeIs, PySem.F.args_dict_items_1 _, _, meets_dict_items_raw d hs, ⟨es, ep, hr⟩, fin⟩)

section
variable {X : Cx} {C : Addr} {ρ ρ' ρ1 : List Sl} {e a b c tg elt iter : Expr} {es ts ifs : List Expr} {d da db : D} {ds us : List D} {pos : Pos} {x y : Bool} {i j : Int} {js ks : List Nat}
variable {N : List Sl → Prop} {R : Wv → List Sl → Prop} {rest body els : List Stmt} {pos' : Pos} {z : Str} {kvs : List (Pl × Part)}
abbrev dS (X : Cx) (C : Addr) (kvs : List (Pl × Part)) : Sl := .ob (dctO X.prog X.w X.K C kvs)
/-- the base takes the own thing in -/
theorem RS.freezeB {K : PySem.W.Frag} {H0 H : Hp} {σ : L2.St} {k : Nat} {p : Addr} {O : OwnO} {o : HO} (rs : RS K C H0 H σ ρ) (hi : ρ[k]? = some (.ob O)) (hs : σ[k]? = some (some (.ref p))) (hp : H p = some o) (hno : ∀ xs, o ≠ .lst xs) :
    Ex H0 (upd H0 p o) ∧ RS K C (upd H0 p o) H σ (ρ.set k .un) := by
  have h0 : H0 p = none := by
    obtain ⟨q, h1, h2, _⟩ := rs.ob k O hi
    rw [hs] at h1
    cases h1
    exact h2
  have e2 : Ex H0 (upd H0 p o) := Ex.new h0
  have key : ∀ (m : Nat) (w : Sl), (ρ.set k .un)[m]? = some w → w ≠ .un → k ≠ m ∧ ρ[m]? = some w := fun m w hm hw => by
    rcases set_some hm with ⟨_, e, _⟩ | q
    · exact absurd e.symm hw
    · exact q
  refine ⟨e2, fun a v ha => ?_, by rw [List.length_set]; exact rs.len, fun j d hj => ?_, fun j es hj => ?_, fun j j2 es fs p' hne h1 h2 => rs.df j j2 es fs p' hne (key j _ h1 (fun z => by cases z)).2 (key j2 _ h2 (fun z => by cases z)).2, fun j U hj => ?_, fun j j2 O U p' hne h1 h2 => rs.dd j j2 O U p' hne (key j _ h1 (fun z => by cases z)).2 (key j2 _ h2 (fun z => by cases z)).2⟩
  · by_cases hap : a = p
    · subst hap
      rw [upd_same] at ha
      cases ha
      exact hp
    · rw [upd_ne hap] at ha
      exact rs.base a v ha
  · obtain ⟨v', h1, h2⟩ := rs.im j d (key j _ hj (fun z => by cases z)).2
    exact ⟨v', h1, Rep.gr e2 d v' h2⟩
  · obtain ⟨p', ys, h1, h2, h3, h4⟩ := rs.ow j es (key j _ hj (fun z => by cases z)).2
    have hne : p' ≠ p := fun z => by
      subst z
      rw [hp] at h3
      exact hno ys (Option.some.inj h3)
    exact ⟨p', ys, h1, by rw [upd_ne hne]; exact h2, h3, Reps.gr e2 _ _ h4⟩
  · obtain ⟨hkj, hj⟩ := key j _ hj (fun z => by cases z)
    obtain ⟨q, h1, h2, h3⟩ := rs.ob j U hj
    have hne : q ≠ p := fun z => by
      subst z
      exact rs.dd k j O U q hkj hi hj hs h1
    exact ⟨q, h1, by rw [upd_ne hne]; exact h2, U.keep h3 e2 (Im.refl H) rfl⟩
theorem ent_at {P : Program} {w : World} {K : PySem.W.Frag} {B H : Hp} {es : Array DictEntry} {xs : List (NestedKey × Addr × Value)} (h : DEnt P w K C B H kvs es xs) : es.size = kvs.length ∧ ∀ (i : Nat) (e : DictEntry), es[i]? = some e → ∃ (p : Pl × Part) (b c : Addr), kvs[i]? = some p ∧ e.key = .ref b ∧ e.val = .ref c ∧ Rep K C B H (.ref b) (plD p.1) ∧ Rep K C B H (.ref c) (pD p.2) := by
  have hl : kvs.length = xs.length := h.rel.length
  have hs : es.size = xs.length := size_of_entries h.ent
  refine ⟨by omega, fun i e he => ?_⟩
  rw [entry_at h.ent i] at he
  cases hx : xs[i]? with
  | none => rw [hx] at he; cases he
  | some x =>
    rw [hx] at he
    cases he
    obtain ⟨p, hp, h1, h2, c, h3, h4⟩ := L2.DX.pget h.rel hx
    exact ⟨p, x.2.1, c, hp, rfl, h3, h2, h4⟩
theorem pit_items (k : Nat) {elts : List Expr} {kk : Nat} {tpos apos cpos p2 : Pos} {z : Str} (hd : ρ[k]? = some (dS X C kvs)) (hN : X.N[k]? = some z := by rfl) (hv : Vis X.env.scope z := by first | exact Or.inl rfl | exact Or.inr (Or.inl rfl) | exact Or.inr (Or.inr rfl))
    (hz1 : (z == ("__debug__" : Str)) = false := by decide) (hz2 : (z == ("__classdict__" : Str)) = false := by decide) (hbase : attributeBase (.Name z p2) "items" X.env (eval (.Name z p2) X.env) = eval (.Name z p2) X.env := by rfl) (hline : (apos.endLine == cpos.line) = true := by rfl) :
    PIt X C (.Tuple elts kk tpos) (.Call (.Attribute (.Name z p2) "items" apos) [] [] cpos) ρ (ρ.set k .un) kvs.length (fun i => match kvs[i]? with | some p => .tup [plD p.1, pD p.2] | none => .non) := fun σ H0 H rs R q => by
  obtain ⟨p, hs, h0, es, ep, xs, hp, hE⟩ := rs.ob k _ hd
  obtain ⟨hsz, hat⟩ := ent_at hE
  refine ei (pi_itemsN (pe_var hN hv hz1 hz2) hbase hline) ⟨.ref p, hs, p, es, ep, rfl, hp, fun i e he => let ⟨_, b, c, _, hb, hc, _⟩ := hat i e he; ⟨b, c, hb, hc⟩, ?_⟩
  obtain ⟨e2, rs1⟩ := rs.freezeB hd hs hp (fun xs z => by cases z)
  have hw : Walk (ItN p es ep) kvs.length (fun H => H p = some (ndO p es ep)) (fun i H x H' => ∃ T b c, x = .ref T ∧ H T = none ∧ H' = upd H T (.tup [.ref b, .ref c]) ∧ ∃ e, es[i]? = some e ∧ e.key = .ref b ∧ e.val = .ref c) :=
    ⟨fun i H hi g => ⟨g, by omega⟩, fun H g => ⟨g, by omega⟩, fun i H x H' hi g y => y⟩
  refine q _ H (upd H0 p (ndO p es ep)) _ _ hw (Ex.refl H) e2 rs1 (fun H' eb im => eb p _ upd_same) fun i Ha x Hb hi ea im y => ?_
  obtain ⟨T, b, c, e3, hT, e4, en, he, hb, hc⟩ := y
  subst e3 e4
  obtain ⟨pr, b', c', hpr, hb', hc', r1, r2⟩ := hat i en he
  rw [hb] at hb'
  cases hb'
  rw [hc] at hc'
  cases hc'
  have im2 := im.trans (Ex.new (o := .tup [.ref b, .ref c]) hT).im
  refine ⟨Ex.new hT, ?_⟩
  show Rep X.K C _ _ _ (match kvs[i]? with | some p => .tup [plD p.1, pD p.2] | none => .non)
  rw [hpr]
  exact .tup (SqT.of upd_same) (.cons (Rep.gr e2 _ _ (Rep.im im2 _ _ r1)) (.cons (Rep.gr e2 _ _ (Rep.im im2 _ _ r2)) .nil))
/-- p not in d; d[p] -/
theorem pt_ndNot (k : Nat) {p : Pl} {z : Str} {p2 : Pos} (hu : X.A.units + 64 < cLine) (hd : ρ[k]? = some (dS X C kvs)) (ha : PV X C a ρ (plD p)) (hm : behindInMarks .NotIn (.Name z p2) = false := by rfl) (hN : X.N[k]? = some z := by rfl) (hv : Vis X.env.scope z := by first | exact Or.inl rfl | exact Or.inr (Or.inl rfl) | exact Or.inr (Or.inr rfl))
    (hz1 : (z == ("__debug__" : Str)) = false := by decide) (hz2 : (z == ("__classdict__" : Str)) = false := by decide) : PTt X C (.Compare a [.NotIn] [.Name z p2] pos) ρ (!(look kvs p).isSome) := fun σ H0 H rs Q q => by
  refine et (pt_cmpR (op_ndNot (C := C) hu) (pe X a) (pe_var hN hv hz1 hz2) hm) (ha σ H0 H rs _ fun v H1 e1 r1 => ?_)
  obtain ⟨t, hs, h0, hok⟩ := (rs.ex e1).ob k _ hd
  obtain ⟨b, xs, eb, _⟩ := r1.tup_inv
  subst eb
  exact ⟨.ref t, hs, H0, b, t, p, kvs, rfl, rfl, r1, hok, ⟨_, rfl, q H1 e1⟩⟩
theorem pv_ndIx (k : Nat) {p : Pl} {v : Part} {z : Str} {p2 : Pos} (hu : X.A.units + 64 < cLine) (hd : ρ[k]? = some (dS X C kvs)) (ha : PV X C a ρ (plD p)) (hl : look kvs p = some v) (hs : PlainIx a := by intro _ _; rfl) (hN : X.N[k]? = some z := by rfl) (hv : Vis X.env.scope z := by first | exact Or.inl rfl | exact Or.inr (Or.inl rfl) | exact Or.inr (Or.inr rfl))
    (hz1 : (z == ("__debug__" : Str)) = false := by decide) (hz2 : (z == ("__classdict__" : Str)) = false := by decide) : PV X C (.Subscript (.Name z p2) a pos) ρ (pD v) := fun σ H0 H rs Q q => by
  obtain ⟨t, hst, h0, _⟩ := rs.ob k _ hd
  refine ee (pe_ix (ix_nd (C := C) hu) (pe_var hN hv hz1 hz2) (pe X a) hs) ⟨.ref t, hst, ?_⟩
  refine ha σ H0 H rs _ fun u H1 e1 r1 => ?_
  obtain ⟨t', hst', _, hok⟩ := (rs.ex e1).ob k _ hd
  rw [hst] at hst'
  cases hst'
  obtain ⟨b, xs, eb, _⟩ := r1.tup_inv
  subst eb
  obtain ⟨es, ep, xs, h1, h2⟩ := hok
  obtain ⟨a0, c0, e0, r0⟩ := look_some h2.rel hl
  exact ⟨H0, b, t, p, v, kvs, rfl, rfl, r1, ⟨es, ep, xs, h1, h2⟩, hl, fun c rc => q _ H1 e1 rc⟩
/-- y = {} -/
theorem pb_ndNew (i : Nat) {p2 : Pos} (hN : X.N.Nodup) (k : PBd X C rest (ρ.set i (dS X C [])) N R) (hi : X.N[i]? = some z := by rfl) (hx : Loc X.env.scope z := by first | exact Or.inl rfl | exact Or.inr rfl) (hs : swapsWith (.Dict [] [] p2) (some (.Name z pos')) pos.line X.env = pure false := by rfl)
    (hf : X.fn z = true ∨ X.env.scope.names.lookup z = some .local := by first | exact .inl rfl | exact .inr rfl) : PBd X C (.Assign [.Name z pos'] (.Dict [] [] p2) pos :: rest) ρ N R := fun σ H0 H rs D nx rt =>
  ess_cons (Bf.es (ps_set hN hi hx pe_ndNew hs hf) fun p hp => by
    have e1 : Ex H (upd H p (ndO p #[] 0)) := Ex.new hp
    exact k _ H0 _ ((rs.ex e1).setB (i := i) (rs.base.free hp) ⟨#[], 0, [], upd_same, rfl, .nil, List.nodup_nil⟩ (rs.fresh hp)) D (fun σ' H' B ρ' eB im => nx σ' H' B ρ' eB (e1.im.trans im)) rt)
/-- y = {e: e2} -/
theorem pb_nd1 (i : Nat) {p2 : Pos} {p : Pl} {part : Part} (hu : X.A.units + 64 < cLine) (hN : X.N.Nodup) (ha : PV X C a ρ (plD p)) (hb : PV X C b ρ (pD part)) (k : PBd X C rest (ρ.set i (dS X C [(p, part)])) N R) (hi : X.N[i]? = some z := by rfl) (hx : Loc X.env.scope z := by first | exact Or.inl rfl | exact Or.inr rfl) (hs : swapsWith (.Dict [some a] [b] p2) (some (.Name z pos')) pos.line X.env = pure false := by rfl)
    (hf : X.fn z = true ∨ X.env.scope.names.lookup z = some .local := by first | exact .inl rfl | exact .inr rfl) : PBd X C (.Assign [.Name z pos'] (.Dict [some a] [b] p2) pos :: rest) ρ N R := fun σ H0 H rs D nx rt =>
  ess_cons (Bf.es (ps_set hN hi hx (pe_nd1 (C := C) hu (pe X a) (pe X b)) hs hf) fun t ht => by
    have e0 : Ex H (upd H t (ndO t #[] 0)) := Ex.new ht
    refine ha σ H0 _ (rs.ex e0) _ fun v H1 e1 r1 => hb σ H0 H1 ((rs.ex e0).ex e1) _ fun u H2 e2 r2 => ?_
    have h2 : H2 t = some (ndO t #[] 0) := e2 _ _ (e1 _ _ upd_same)
    obtain ⟨b1, xs1, eb1, _⟩ := r1.tup_inv
    obtain ⟨c1, xs2, ec1, _⟩ := r2.tup_inv
    subst eb1 ec1
    refine ⟨h2, H0, b1, c1, p, part, rfl, rfl, r1.ex e2, r2, fun es ep xs hE => ?_⟩
    have im : Im H2 (upd H2 t (ndO t es ep)) := Im.upd h2 rfl
    have ex : Ex H (upd H2 t (ndO t es ep)) := fun a o ho => by
      rw [upd_ne (ne_of_none ho ht)]
      exact e2 _ _ (e1 _ _ (e0 _ _ ho))
    exact k _ H0 _ ((rs.ex ex).setB (i := i) (rs.base.free ht) ⟨es, ep, xs, upd_same, hE H0 (r1.ex e2) r2⟩ (rs.fresh ht)) D (fun σ' H' B ρ' eB im => nx σ' H' B ρ' eB (ex.im.trans im)) rt)
/-- d[p] = v -/
theorem pb_dput (k : Nat) {p : Pl} {v : Part} {p2 p3 : Pos} (hu : X.A.units + 64 < cLine) (hd : ρ[k]? = some (dS X C kvs)) (hl : kvs.length ≤ 1000) (ha : PV X C a ρ (plD p)) (hb : PV X C b ρ (pD v)) (hk : PBd X C rest (ρ.set k (dS X C (put kvs p v))) N R) (hN : X.N[k]? = some z := by rfl) (hv : Vis X.env.scope z := by first | exact Or.inl rfl | exact Or.inr (Or.inl rfl) | exact Or.inr (Or.inr rfl))
    (hz1 : (z == ("__debug__" : Str)) = false := by decide) (hz2 : (z == ("__classdict__" : Str)) = false := by decide) (hs : swapsWith b (some (.Subscript (.Name z p2) a p3)) pos.line X.env = pure false := by rfl) : PBd X C (.Assign [.Subscript (.Name z p2) a p3] b pos :: rest) ρ N R := fun σ H0 H rs D nx rt =>
  ess_cons fun pins s I => by
    refine wpAny_Assign_Subscript (thn ((hb σ H0 H rs (fun v' H1 => Ex H H1 ∧ Rep X.K C H0 H1 v' (pD v)) fun v H1 e1 r1 => ⟨e1, r1⟩) pins s I) fun r s1 ⟨v1, H1, I1, rv, e1, r1⟩ => ?_) hs
    obtain ⟨t, hst, h0, _⟩ := rs.ob k _ hd
    have pvar : PE X (.Name z p2) (tVar k) := pe_var hN hv hz1 hz2
    refine thn (pvar.run pins s1 σ H1 (fun x Hx => x = .ref t ∧ Hx = H1) I1 ⟨.ref t, hst, rfl, rfl⟩) fun u s2 ⟨x, H2, I2, rx, ex, e2⟩ => ?_
    subst ex e2
    refine thn ((ha σ H0 H2 (rs.ex e1) (fun v' H3 => Ex H2 H3 ∧ Rep X.K C H0 H3 v' (plD p)) fun v H1 e1 r1 => ⟨e1, r1⟩) pins s2 I2) fun iv s3 ⟨y, H3, I3, ry, e3, r3⟩ => ?_
    cases rx
    have rs3 := (rs.ex e1).ex e3
    obtain ⟨t', hst', _, es, ep, xs, hp, hE⟩ := rs3.ob k _ hd
    rw [hst] at hst'
    cases hst'
    obtain ⟨b1, xs1, eb1, _⟩ := r3.tup_inv
    obtain ⟨c1, xs2, ec1, _⟩ := r1.tup_inv
    subst eb1 ec1
    cases ry
    cases rv
    obtain ⟨dd, hsm, hr⟩ := hE.dict I3 hp
    have hlx : xs.length = kvs.length := hE.rel.length.symm
    refine wpAny_setItem_heap (hsz := by rw [hlx, sizeLine_eq]; omega) (room_n hu) (nest_pl I3 r3) dd fun h' dd' hs' => ?_
    obtain ⟨o, es', ep', ho, hc, hdat, hent, his, hnd⟩ := dd'
    have I4 : Inv X pins σ (upd H3 t (ndO t es' ep')) { s3 with heap := h', toks := s3.toks + (nestedKind X.prog X.w).draws (keyP p) } :=
      d_write I3 (by rw [hp]; exact True.intro) hs' ⟨o, ho⟩ (ndO_ok ⟨o, ho, hc, hdat⟩ hsm)
    have im : Im H3 (upd H3 t (ndO t es' ep')) := Im.upd hp rfl
    have hE2 : DEnt X.prog X.w X.K C H0 H3 (put kvs p v) es' (storedH xs (keyP p) b1 (.ref c1)) := ⟨hent, put_rel hE.rel r3 (r1.ex e3), put_nd hE.nd⟩
    have rs4 := rs3.mutB (O' := dctO X.prog X.w X.K C (put kvs p v)) (H' := upd H3 t (ndO t es' ep')) hd hst (fun b o hb e => by rw [upd_ne hb]; exact e) ⟨es', ep', _, upd_same, hE2.mono (Ex.refl H0) im⟩
    exact ⟨σ, _, I4, hk σ H0 _ rs4 D (fun σ' H' B ρ' eB im' => nx σ' H' B ρ' eB (((e1.im.trans e3.im).trans im).trans im')) rt⟩
/-- y = x, x an own thing: it moves -/
theorem pb_mvB (i k : Nat) {O : OwnO} {z2 : Str} {p2 : Pos} (hd : ρ[k]? = some (.ob O)) (hN : X.N.Nodup) (hk : PBd X C rest ((ρ.set k .un).set i (.ob O)) N R) (hi : X.N[i]? = some z := by rfl) (hx : Loc X.env.scope z := by first | exact Or.inl rfl | exact Or.inr rfl) (hN2 : X.N[k]? = some z2 := by rfl) (hv : Vis X.env.scope z2 := by first | exact Or.inl rfl | exact Or.inr (Or.inl rfl) | exact Or.inr (Or.inr rfl))
    (hz1 : (z2 == ("__debug__" : Str)) = false := by decide) (hz2 : (z2 == ("__classdict__" : Str)) = false := by decide) (hs : swapsWith (.Name z2 p2) (some (.Name z pos')) pos.line X.env = pure false := by rfl)
    (hf : X.fn z = true ∨ X.env.scope.names.lookup z = some .local := by first | exact .inl rfl | exact .inr rfl) : PBd X C (.Assign [.Name z pos'] (.Name z2 p2) pos :: rest) ρ N R := fun σ H0 H rs D nx rt => by
  obtain ⟨t, hst, h0, hok⟩ := rs.ob k _ hd
  exact ess_cons (Bf.es (ps_set hN hi hx (pe_var hN2 hv hz1 hz2) hs hf) ⟨.ref t, hst, hk _ H0 H ((rs.un' k).setB (i := i) h0 hok fun j U hj z => by
    rcases set_some hj with ⟨_, e, _⟩ | ⟨hkj, hj⟩
    · cases e
    · exact rs.dd k j O U t hkj hd hj hst z) D nx rt⟩)
end
end Bf

namespace Bf
open PySem PySem.Spec PyProof.Rows L2 BF
/-! ### least_tolerance -/
def PB (v : Part) : Prop := 0 ≤ v.1 ∧ v.1 < 2 ^ 42 ∧ 0 < v.2 ∧ v.2 ≤ 1000000000
theorem PB.big {v : Part} (h : PB v) : big v.1 := ⟨by have := h.1; omega, by have := h.2.1; omega⟩
theorem off_pb {it : Item} {d : Int} (h : ItB it) (hd : DuB d) : PB (off it d) := off_big h hd
theorem wider_pb {p o : Part} (h : PB p) (ho : PB o) : PB (wider p o) := by
  rcases wider_cases p o with e | e <;> rw [e] <;> assumption
structure BeOk (t : Tb) (kvs : List (Pl × Part)) : Prop where
  nd : (kvs.map (·.1)).Nodup
  un : ∀ e ∈ kvs, e.1 ∈ univ t ∧ PB e.2
theorem BeOk.len {t : Tb} (ht : TbOk t) {kvs : List (Pl × Part)} (h : BeOk t kvs) : kvs.length ≤ 300 := by
  have := nodup_len (u := univ t) h.nd fun x hx => by
    obtain ⟨e, he, ex⟩ := List.mem_map.mp hx
    rw [← ex]
    exact (h.un e he).1
  rw [List.length_map] at this
  exact Nat.le_trans this (univ_len ht)
theorem look_pb {t : Tb} {kvs : List (Pl × Part)} (h : BeOk t kvs) {p : Pl} {v : Part} (hl : look kvs p = some v) : PB v := (h.un _ (look_mem hl)).2
theorem put_ok {t : Tb} {kvs : List (Pl × Part)} (h : BeOk t kvs) {p : Pl} {v : Part} (hp : p ∈ univ t) (hv : PB v) : BeOk t (put kvs p v) := ⟨put_nd h.nd, fun e he => by
  rcases mem_put he with h1 | h1
  · exact h.un e h1
  · rw [h1]; exact ⟨hp, hv⟩⟩
theorem upd1_ok {t : Tb} {kvs : List (Pl × Part)} (h : BeOk t kvs) {it : Item} {part : Part} {s : Stp} (hi : ItB it) (hp : PB part) (hd : DuB s.2.1) (hs : s.2.2 ∈ univ t) : BeOk t (upd1 it part kvs s) := by
  have hw := wider_pb hp (off_pb hi hd)
  unfold upd1
  dsimp only
  split
  · exact put_ok h hs hw
  · split
    · exact put_ok h hs hw
    · exact h
theorem updF_ok {t : Tb} (ht : TbOk t) {it : Item} {part : Part} (hi : ItB it) (hp : PB part) : ∀ {ss : List Stp} {kvs : List (Pl × Part)}, BeOk t kvs → (∀ s ∈ ss, DuB s.2.1 ∧ s.2.2 ∈ univ t) → BeOk t (ss.foldl (upd1 it part) kvs)
  | [], _, h, _ => h
  | s :: ss, _, h, hs => by
    rw [List.foldl_cons]
    exact updF_ok ht hi hp (upd1_ok h hi hp (hs s (List.mem_cons_self ..)).1 (hs s (List.mem_cons_self ..)).2) fun s' h' => hs s' (List.mem_cons_of_mem _ h')
theorem rowF_ok {t : Tb} (ht : TbOk t) {it : Item} (hi : ItB it) : ∀ {es kvs : List (Pl × Part)}, BeOk t kvs → (∀ e ∈ es, e.1 ∈ univ t ∧ PB e.2) → BeOk t (es.foldl (row t it) kvs)
  | [], _, h, _ => h
  | e :: es, _, h, he => by
    rw [List.foldl_cons]
    exact rowF_ok ht hi (updF_ok ht hi (he e (List.mem_cons_self ..)).2 h fun s hs => univ_step ht (he e (List.mem_cons_self ..)).1 hs) fun e' h' => he e' (List.mem_cons_of_mem _ h')
theorem nilB_ok (t : Tb) : BeOk t [] := ⟨List.nodup_nil, fun _ h => nomatch h⟩
def bst (t : Tb) (its : List Item) (i : Nat) : List (Pl × Part) := (its.take i).foldl (layer t) [(begin_ t, (0, 1))]
theorem bst_ok {t : Tb} (ht : TbOk t) {its : List Item} (hi : ∀ it ∈ its, ItB it) (i : Nat) : BeOk t (bst t its i) := by
  unfold bst
  have : ∀ (l : List Item) (a : List (Pl × Part)), (∀ it ∈ l, ItB it) → BeOk t a → BeOk t (l.foldl (layer t) a) := fun l => by
    induction l with
    | nil => exact fun a _ h => h
    | cons it l ih =>
      intro a hl h
      rw [List.foldl_cons]
      exact ih _ (fun x hx => hl x (List.mem_cons_of_mem _ hx)) (rowF_ok ht (hl it (List.mem_cons_self ..)) (nilB_ok t) h.un)
  refine this _ _ (fun it h => hi it (List.mem_of_mem_take h)) ⟨by simp, fun e he => ?_⟩
  rw [List.mem_singleton.mp he]
  exact ⟨begin_u t, by show (0 : Int) ≤ 0 ∧ (0 : Int) < 2 ^ 42 ∧ (0 : Int) < 1 ∧ (1 : Int) ≤ 1000000000; omega⟩
theorem bst_succ {t : Tb} {its : List Item} {i : Nat} {it : Item} (h : its[i]? = some it) : bst t its (i + 1) = layer t (bst t its i) it := fold_take _ h _
def isLe (L : Option Part) (v : Part) : Bool := match L with
  | none => true
  | some u => less v u
theorem least1_eq (t : Tb) (L : Option Part) (e : Pl × Part) : least1 t L e = if (isEnd t e.1 && isLe L e.2) = true then some e.2 else L := by
  unfold least1 isLe
  cases L <;> rfl
def oP (o : Option Part) : D := match o with
  | none => .non
  | some v => pD v
def oR (o : Option Part) : D := match o with
  | none => .non
  | some v => tolD (ratio v.1 v.2)
theorem least_pb {t : Tb} : ∀ {es : List (Pl × Part)} {l : Option Part}, (∀ e ∈ es, PB e.2) → (∀ v, l = some v → PB v) → ∀ v, es.foldl (least1 t) l = some v → PB v
  | [], _, _, h, v, e => h v e
  | e :: es, l, he, h, v, hv => by
    rw [List.foldl_cons] at hv
    refine least_pb (fun e' h' => he e' (List.mem_cons_of_mem _ h')) (fun u hu => ?_) v hv
    rcases least1_cases t l e with ⟨h1, _⟩ | ⟨h1, _⟩
    · rw [h1] at hu
      cases hu
      exact he e (List.mem_cons_self ..)
    · rw [h1] at hu
      exact h u hu
section
variable {P : Program} {w : World} {K : PySem.W.Frag} {mg : Str → Option Value} {base : Heap} {C : Addr}
abbrev ltN : List Str := ["table", "burst", "best", "item", "later", "place", "part", "bit", "duration", "there", "off", "wider", "least"]
theorem sc_least_tolerance : FnScope ltN ["table", "burst"] (defScope s_least_tolerance) := ⟨rfl, rfl, rfl, by decide +kernel, rfl, by decide +kernel, by decide +kernel⟩
abbrev sp_least_tolerance (K : PySem.W.Frag) (C : Addr) : Sp := spF K C (fun y : Tb × List Item => [tD y.1, buD y.2]) (fun y => TbOk y.1 ∧ BuOk y.2) (fun y => oR (least y.1 y.2))
abbrev kvD (e : Pl × Part) : D := .tup [plD e.1, pD e.2]
theorem pit_items' {X : Cx} {ρ : List Sl} {kvs : List (Pl × Part)} {tg e : Expr} {ρ1 : List Sl} (h : PIt X C tg e ρ ρ1 kvs.length (fun i => match kvs[i]? with | some p => .tup [plD p.1, pD p.2] | none => .non)) : PIt X C tg e ρ ρ1 kvs.length (fun i => (kvs.map kvD).getD i .non) := by
  have e1 : (fun i => match kvs[i]? with | some p => D.tup [plD p.1, pD p.2] | none => .non) = (fun i => (kvs.map kvD).getD i .non) := by
    funext i
    rw [List.getD_eq_getElem?_getD, List.getElem?_map]
    cases kvs[i]? <;> rfl
  rw [← e1]
  exact h
theorem g_least_tolerance (T : Tx w K mg C) : GFn P w K mg base "least_tolerance" 6 (sp_least_tolerance K C) :=
  gF (hflat := fun y => by
    show (oR (least y.1 y.2)).flat = true
    cases least y.1 y.2 <;> rfl) T.d_least_tolerance sc_least_tolerance (fun _ => rfl) (fun _ _ _ _ _ _ us hl => match us, hl with | [_, _], _ => rfl) fun f y hy cdv A outer s H E hr => by
    obtain ⟨t, its⟩ := y
    obtain ⟨ht, ⟨hb1, hb2, hb3⟩⟩ := hy
    have hb2 : its.length ≤ 63 := hb2
    have hb3 : ∀ i ∈ its, ItB i := hb3
    have ht : TbOk t := ht
    have nd := sc_least_tolerance.nd
    have hlen : (its.map itD).length = its.length := List.length_map _
    refine pb_nd1 (p := begin_ t) (part := (0, 1)) 2 hr.units nd (pv_call (g_begin_in T) (hr.mono (by decide)) t trivial (pvs_cons (pv_var 0) pvs_nil)) (pv_tup (pvs_cons pv_int (pvs_cons pv_int pvs_nil))) ?_
    refine pb_for (pis_tup (ds := its.map itD) (pv_var 1)).tt (fun i ρ' => ∃ s3 s4 s5 s6 s7 s8 s9 s10 s11, ρ' = [.im (tD t), .im (buD its), .ob (dctO P w K C (bst t its i)), s3, s4, s5, s6, s7, s8, s9, s10, s11, .un]) ⟨.un, .un, .un, .un, .un, .un, .un, .un, .un, rfl⟩ (fun i ρ' hi hρ => ?_) (fun ρ' hρ => ?_)
    · obtain ⟨s3, s4, s5, s6, s7, s8, s9, s10, s11, rfl⟩ := hρ
      rw [hlen] at hi
      obtain ⟨it, hq, hit⟩ : ∃ it, its[i]? = some it ∧ ItB it := ⟨its[i], List.getElem?_eq_getElem hi, hb3 _ (List.getElem_mem hi)⟩
      rw [getD_at hq, bst_succ hq]
      have hB := bst_ok ht hb3 i
      generalize bst t its i = kvs at hB
      refine ⟨[3], _, ptg_name 3 nd, ?_⟩
      refine pb_ndNew 4 nd ?_
      refine pb_for (pit_items' (pit_items 2 rfl)) (fun j ρ' => ∃ s5 s6 s7 s8 s9 s10 s11, ρ' = [.im (tD t), .im (buD its), .un, .im (itD it), .ob (dctO P w K C ((kvs.take j).foldl (row t it) [])), s5, s6, s7, s8, s9, s10, s11, .un]) ⟨s5, s6, s7, s8, s9, s10, s11, rfl⟩ (fun j ρ' hj hρ => ?_) (fun ρ' hρ => ?_)
      · obtain ⟨s5, s6, s7, s8, s9, s10, s11, rfl⟩ := hρ
        obtain ⟨e, he, heu⟩ : ∃ e, kvs[j]? = some e ∧ e.1 ∈ univ t ∧ PB e.2 := ⟨kvs[j], List.getElem?_eq_getElem hj, hB.un _ (List.getElem_mem hj)⟩
        have hL := rowF_ok ht hit (nilB_ok t) (es := kvs.take j) fun e h => hB.un e (List.mem_of_mem_take h)
        rw [getD_at he, fold_take (row t it) he]
        generalize (kvs.take j).foldl (row t it) [] = L at hL
        obtain ⟨p, part⟩ := e
        obtain ⟨hpu, hpb⟩ := heu
        have hpu : p ∈ univ t := hpu
        have hpb : PB part := hpb
        refine ⟨[5, 6], _, ptg_tup (ptgs_cons (ptg_name 5 nd) (ptgs_cons (ptg_name 6 nd) ptgs_nil)), ?_⟩
        have hsl : ((steps t p).map stD).length = (steps t p).length := List.length_map _
        refine pb_for (pit_new (pl_call (g_steps_in T) (hr.mono (by decide)) (t, p) trivial (pvs_cons (pv_var 0) (pvs_cons (pv_var 5) pvs_nil)))) (fun k ρ' => ∃ s7 s8 s9 s10 s11, ρ' = [.im (tD t), .im (buD its), .un, .im (itD it), .ob (dctO P w K C (((steps t p).take k).foldl (upd1 it part) L)), .im (plD p), .im (pD part), s7, s8, s9, s10, s11, .un]) ⟨s7, s8, s9, s10, s11, rfl⟩ (fun k ρ' hk hρ => ?_) (fun ρ' hρ => ?_)
        · obtain ⟨s7, s8, s9, s10, s11, rfl⟩ := hρ
          rw [hsl] at hk
          obtain ⟨st, hs, hst⟩ : ∃ st, (steps t p)[k]? = some st ∧ st ∈ steps t p := ⟨_, List.getElem?_eq_getElem hk, List.getElem_mem hk⟩
          have hsu := univ_step ht hpu hst
          have hG := updF_ok ht hit hpb hL (ss := (steps t p).take k) fun s hs => univ_step ht hpu (List.mem_of_mem_take hs)
          rw [getD_at hs, fold_take (upd1 it part) hs]
          generalize ((steps t p).take k).foldl (upd1 it part) L = G at hG
          have ho := off_pb hit hsu.1
          have hw := wider_pb hpb ho
          refine ⟨[7, 8, 9], _, ptg_tup (ptgs_cons (ptg_name 7 nd) (ptgs_cons (ptg_name 8 nd) (ptgs_cons (ptg_name 9 nd) ptgs_nil))), ?_⟩
          refine pb_set 10 nd (pv_call (g_off_parts T) (hr.mono (by decide)) (it, st.2.1) ⟨hit, hsu.1⟩ (pvs_cons (pv_var 3) (pvs_cons (pv_var 8) pvs_nil))) ?_
          refine pb_set 11 nd (d := pD (wider part (off it st.2.1))) (pv_ite (x := less part (off it st.2.1)) (pt_pv (pv_call (g_is_lesser T) (hr.mono (by decide)) (part, off it st.2.1) ⟨hpb.big, ho.big⟩ (pvs_cons (pv_var 6) (pvs_cons (pv_var 10) pvs_nil)))) (fun hx => ?_) (fun hx => ?_)) ?_
          · unfold wider
            rw [if_pos hx]
            exact pv_var 10
          · unfold wider
            rw [if_neg (by rw [hx]; decide)]
            exact pv_var 6
          have eu : upd1 it part G st = (match look G st.2.2 with
            | none => put G st.2.2 (wider part (off it st.2.1))
            | some v => if less (wider part (off it st.2.1)) v then put G st.2.2 (wider part (off it st.2.1)) else G) := rfl
          rw [eu]
          have eo : off (it, st.2.1).1 (it, st.2.1).2 = off it st.2.1 := rfl
          generalize wider part (off it st.2.1) = W at hw
          cases hl : look G st.2.2 with
          | none =>
            refine pb_if (N1 := fun ρ' => ∃ s7 s8 s9 s10 s11, ρ' = [.im (tD t), .im (buD its), .un, .im (itD it), .ob (dctO P w K C (put G st.2.2 W)), .im (plD p), .im (pD part), s7, s8, s9, s10, s11, .un]) (x := true) (PWt.pt (pw_o0 ((pt_ndNot (kvs := G) (p := st.2.2) 4 hr.units rfl (pv_var 9)).is (by rw [hl]; rfl)))) (fun _ => ?_) (fun z => by cases z) (fun ρ' hρ => pb_nil hρ)
            refine pb_dput (kvs := G) (p := st.2.2) (v := W) 4 hr.units rfl (Nat.le_trans (hG.len ht) (by decide)) (pv_var 9) (pv_var 11) (pb_nil ⟨_, _, _, _, _, rfl⟩)
          | some v =>
            have hv := look_pb hG hl
            refine pb_if (N1 := fun ρ' => ∃ s7 s8 s9 s10 s11, ρ' = [.im (tD t), .im (buD its), .un, .im (itD it), .ob (dctO P w K C (if less W v then put G st.2.2 W else G)), .im (plD p), .im (pD part), s7, s8, s9, s10, s11, .un]) (x := false || less W v) (PWt.pt (pw_o (x := false) ((pt_ndNot (kvs := G) (p := st.2.2) 4 hr.units rfl (pv_var 9)).is (by rw [hl]; rfl)) fun _ => pw_o1 (pt_pv (pv_call (g_is_lesser T) (hr.mono (by decide)) (W, v) ⟨hw.big, hv.big⟩ (pvs_cons (pv_var 11) (pvs_cons (pv_ndIx (kvs := G) (p := st.2.2) 4 hr.units rfl (pv_var 9) hl) pvs_nil)))))) (fun hx => ?_) (fun hx => ?_) (fun ρ' hρ => pb_nil hρ)
            · rw [Bool.false_or] at hx
              rw [if_pos hx]
              refine pb_dput (kvs := G) (p := st.2.2) (v := W) 4 hr.units rfl (Nat.le_trans (hG.len ht) (by decide)) (pv_var 9) (pv_var 11) (pb_nil ⟨_, _, _, _, _, rfl⟩)
            · rw [Bool.false_or] at hx
              rw [if_neg (by rw [hx]; decide)]
              exact pb_nil ⟨_, _, _, _, _, rfl⟩
        · obtain ⟨s7, s8, s9, s10, s11, rfl⟩ := hρ
          rw [hsl, List.take_length]
          exact pb_nil ⟨_, _, s7, s8, s9, s10, s11, rfl⟩
      · obtain ⟨s5, s6, s7, s8, s9, s10, s11, rfl⟩ := hρ
        rw [List.take_length]
        refine pb_mvB 2 4 rfl nd (pb_nil ?_)
        exact ⟨_, _, s5, s6, s7, s8, s9, s10, s11, rfl⟩
    · obtain ⟨s3, s4, s5, s6, s7, s8, s9, s10, s11, rfl⟩ := hρ
      rw [hlen]
      have hB := bst_ok ht hb3 its.length
      have eL : least t its = (bst t its its.length).foldl (least1 t) none := by
        unfold bst
        rw [List.take_length]
        rfl
      refine pb_set 12 nd pv_non ?_
      show PBk _ C _ _ _ (fun w => w = .im (oR (least t its)))
      rw [eL]
      generalize bst t its its.length = kvs at hB
      refine pb_for (pit_items' (pit_items 2 rfl)) (fun j ρ' => ∃ s5 s6, ρ' = [.im (tD t), .im (buD its), .un, s3, s4, s5, s6, s7, s8, s9, s10, s11, .im (oP ((kvs.take j).foldl (least1 t) none))]) ⟨s5, s6, rfl⟩ (fun j ρ' hj hρ => ?_) (fun ρ' hρ => ?_)
      · obtain ⟨s5, s6, rfl⟩ := hρ
        obtain ⟨e, he, heu⟩ : ∃ e, kvs[j]? = some e ∧ e.1 ∈ univ t ∧ PB e.2 := ⟨kvs[j], List.getElem?_eq_getElem hj, hB.un _ (List.getElem_mem hj)⟩
        have hL := least_pb (t := t) (es := kvs.take j) (l := none) (fun e h => (hB.un e (List.mem_of_mem_take h)).2) (fun _ z => by cases z)
        rw [getD_at he, fold_take (least1 t) he]
        generalize (kvs.take j).foldl (least1 t) none = L at hL
        refine ⟨[5, 6], _, ptg_tup (ptgs_cons (ptg_name 5 nd) (ptgs_cons (ptg_name 6 nd) ptgs_nil)), ?_⟩
        refine pb_if (N1 := fun ρ' => ∃ s5 s6, ρ' = [.im (tD t), .im (buD its), .un, s3, s4, s5, s6, s7, s8, s9, s10, s11, .im (oP (least1 t L e))]) (x := isEnd t e.1 && isLe L e.2) (PWt.pt (pw_a (pt_pv (pv_call (g_is_end_in T) (hr.mono (by decide)) (t, e.1) trivial (pvs_cons (pv_var 0) (pvs_cons (pv_var 5) pvs_nil)))) fun _ => pw_a1 ?_)) (fun hx => ?_) (fun hx => ?_) (fun ρ' hρ => pb_nil hρ)
        · cases hLL : L with
          | none => exact PWt.pt (pw_o0 (pt_isN (d := .non) (pv_var 12)))
          | some v => exact PWt.pt (pw_o (x := false) (y := less e.2 v) (pt_isN (d := pD v) (pv_var 12)) fun _ => pw_o1 (pt_pv (pv_call (g_is_lesser T) (hr.mono (by decide)) (e.2, v) ⟨heu.2.big, (hL v hLL).big⟩ (pvs_cons (pv_var 6) (pvs_cons (pv_var 12) pvs_nil)))))
        · refine pb_set 12 nd (pv_var 6) (pb_nil ?_)
          have e1 : least1 t L e = some e.2 := by
            rw [least1_eq, if_pos hx]
          rw [e1]
          exact ⟨_, _, rfl⟩
        · refine pb_nil ?_
          have e1 : least1 t L e = L := by
            rw [least1_eq, if_neg (by rw [hx]; decide)]
          rw [e1]
          exact ⟨_, _, rfl⟩
      · obtain ⟨s5, s6, rfl⟩ := hρ
        rw [List.take_length]
        have hL := least_pb (t := t) (es := kvs) (l := none) (fun e h => (hB.un e h).2) (fun _ z => by cases z)
        cases hLL : kvs.foldl (least1 t) none with
        | none => exact pb_ret (pv_ite (x := true) (pt_isN (d := .non) (pv_var 12)) (fun _ => pv_non) (fun z => by cases z)) rfl
        | some v =>
          have hv := hL v hLL
          exact pb_ret (pv_ite (x := false) (pt_isN (d := pD v) (pv_var 12)) (fun z => by cases z) fun _ => pv_make T (k := 1) hr (pvs_cons (pv_ix (pv_var 12) pv_int rfl) (pvs_cons (pv_ix (pv_var 12) pv_int rfl) pvs_nil)) hv.1 hv.2.2.1 (by have := hv.2.2.2; omega)) rfl
end
end Bf

namespace Bf
open PySem PySem.Spec PyProof.Rows L2 BF
section
variable {X : Cx} {C : Addr} {ρ : List Sl} {e : Expr} {d : D} {pos : Pos} {rest : List Stmt} {N : List Sl → Prop} {R : Wv → List Sl → Prop}
theorem pb_expr (h : PV X C e ρ d) (k : PBd X C rest ρ N R) (hs : swapsWith e none pos.line X.env = pure false := by rfl) : PBd X C (.Expr e pos :: rest) ρ N R := fun σ H0 H rs D nx rt =>
  ess_cons (es (ps_expr (pe X e) hs) (h σ H0 H rs _ fun v H1 e1 r1 => k σ H0 H1 (rs.ex e1) D (fun σ' H' B ρ' eB im => nx σ' H' B ρ' eB (e1.im.trans im)) rt))
end
def nrD (t : Tb) (its : List Item) : D := match least t its with
  | none => .non
  | some v => .tup [tolD (ratio v.1 v.2), optD (leastWord t its (ratio v.1 v.2))]
theorem nrD_flat (t : Tb) (its : List Item) : (nrD t its).flat = true := by
  unfold nrD
  cases least t its with
  | none => rfl
  | some v =>
    show (true && (D.flat (optD _) && true)) = true
    rw [optD_flat]
    rfl
theorem least_ok {t : Tb} (ht : TbOk t) {its : List Item} (hi : ∀ it ∈ its, ItB it) {v : Part} (h : least t its = some v) : PB v := by
  have hB := bst_ok ht hi its.length
  have eL : least t its = (bst t its its.length).foldl (least1 t) none := by
    unfold bst
    rw [List.take_length]
    rfl
  rw [eL] at h
  exact least_pb (t := t) (fun e h => (hB.un e h).2) (fun _ z => by cases z) v h
section
variable {P : Program} {w : World} {K : PySem.W.Frag} {mg : Str → Option Value} {base : Heap} {C : Addr}
abbrev neN : List Str := ["table", "burst", "tolerance"]
theorem sc_nearest : FnScope neN ["table", "burst"] (defScope s_nearest) := ⟨rfl, rfl, rfl, by decide +kernel, rfl, by decide +kernel, by decide +kernel⟩
abbrev sp_nearest (K : PySem.W.Frag) (C : Addr) : Sp := spF K C (fun y : Tb × List Item => [tD y.1, buD y.2]) (fun y => TbOk y.1 ∧ BuOk y.2) (fun y => nrD y.1 y.2)
theorem body_nearest (T : Tx w K mg C) (f : Addr) (y : Tb × List Item) (hy : TbOk y.1 ∧ BuOk y.2) (cdv : Value) (A : Around) (outer : List Env) (s : Shared) (H : Hp) (E : XK) (hr : Room 7 (A.deeper (envOfC "nearest" (defScope s_nearest) s.heap.objs.size f cdv))) :
    PBk (fX P w K mg base neN "nearest" s_nearest f cdv A outer s H E) C (defBody s_nearest) (start' neN [tD y.1, buD y.2]) (fun _ => False) (fun w => w = .im (nrD y.1 y.2)) := by
  obtain ⟨t, its⟩ := y
  have nd := sc_nearest.nd
  refine pb_expr (pv_call (g_need_table T) (hr.mono (by decide)) t hy.1 (pvs_cons (pv_var 0) pvs_nil)) ?_
  refine pb_expr (pv_call (g_need_burst T) (hr.mono (by decide)) its hy.2 (pvs_cons (pv_var 1) pvs_nil)) ?_
  refine pb_set 2 nd (pv_call (g_least_tolerance T) (hr.mono (by decide)) (t, its) hy (pvs_cons (pv_var 0) (pvs_cons (pv_var 1) pvs_nil))) ?_
  cases hl : least t its with
  | none =>
    have e2 : nrD (t, its).1 (t, its).2 = .non := by show nrD t its = _; unfold nrD; rw [hl]
    rw [e2]
    exact pb_ret (pv_ite (x := true) (pt_isN (d := .non) (pv_var 2)) (fun _ => pv_non) (fun z => by cases z)) rfl
  | some v =>
    have hv := least_ok hy.1 hy.2.2.2 hl
    have e2 : nrD (t, its).1 (t, its).2 = .tup [tolD (ratio v.1 v.2), optD (leastWord t its (ratio v.1 v.2))] := by show nrD t its = _; unfold nrD; rw [hl]
    rw [e2]
    have hb : big (ratio v.1 v.2).1 := by
      have h1 := ratio_nn hv.1 hv.2.2.1
      have h2 := ratio_num_le hv.1 hv.2.2.1
      have h3 := hv.2.1
      exact ⟨by omega, by omega⟩
    exact pb_ret (pv_ite (x := false) (pt_isN (d := tolD (ratio v.1 v.2)) (pv_var 2)) (fun z => by cases z) fun _ => pv_tup (pvs_cons (pv_var 2) (pvs_cons (pv_call (g_least_word T) hr (t, its, ratio v.1 v.2) ⟨hy.1, hy.2, hb⟩ (pvs_cons (pv_var 0) (pvs_cons (pv_var 1) (pvs_cons (pv_var 2) pvs_nil)))) pvs_nil))) rfl
theorem g_nearest (T : Tx w K mg C) : GFn P w K mg base "nearest" 8 (sp_nearest K C) :=
  gF (hflat := fun y => nrD_flat y.1 y.2) T.d_nearest sc_nearest (fun _ => rfl) (fun _ _ _ _ _ _ us hl => match us, hl with | [_, _], _ => rfl) (body_nearest T)
/-- nearest(burst=.., table=..) -/
def gRev {α : Type} : List α → List α → List α
  | [], ws => ws.reverse
  | _ :: _, _ => []
theorem gk_nearest (T : Tx w K mg C) : ∃ (f : Addr) (fd : FuncData), FnOk P w K mg base CX0 8 f fd ["table", "burst"] (sp_nearest K C) ∧ mg "nearest" = some (.ref f) ∧ PySem.W.keepIn K (.ref f) = true ∧ KBinds K fd ["table", "burst"] ["burst", "table"] gRev gRev := by
  obtain ⟨f, fd, F, hm⟩ := T.d_nearest.ex
  refine ⟨f, fd, okF F sc_nearest (fun _ => rfl) (body_nearest T f) (fun y => nrD_flat y.1 y.2), hm, F.kp, ?_⟩
  obtain ⟨oc, od, kV, doc, pm, an, cdv, ct, osl, e, lk, hcd⟩ := F.ex
  subst e
  refine ⟨fun s us ws X hl => ?_, fun {vs us zs ws} r1 r2 => ?_⟩
  · match us, ws, hl with
    | [], [b, t], _ => exact .of_eq rfl
    | [], [], hl => simp [gRev] at hl
    | [], [_], hl => simp [gRev] at hl
    | [], _ :: _ :: _ :: _, hl => simp [gRev] at hl
    | _ :: _, _, hl => simp [gRev] at hl
  · cases r1 with
    | nil => exact r2.reverse
    | cons _ _ => exact .nil
end
section
variable {X : Cx} {C : Addr} {ρ : List Sl} {a b : Expr} {pos p kp1 kp2 : Pos} {t : Tb} {its : List Item}
theorem pv_nearestK (T : Tx X.w X.K X.mg C) (hr : Room 8 X.A) (hy : TbOk t ∧ BuOk its) (hb : PV X C b ρ (buD its)) (ht : PV X C a ρ (tD t)) (hg : Gl X "nearest" := by rfl)
    (hall : (backToKw pos (keywordEach [⟨some "burst", b, kp1⟩, ⟨some "table", a, kp2⟩] X.env)).all (·.1.isSome) = true := by rfl) (hks : (backToKw pos (keywordEach [⟨some "burst", b, kp1⟩, ⟨some "table", a, kp2⟩] X.env)).filterMap (·.1) = (["burst", "table"] : List Str) := by rfl)
    (hpl : ((backTo pos (starEach [] X.env)).any (·.1) || (backToKw pos (keywordEach [⟨some "burst", b, kp1⟩, ⟨some "table", a, kp2⟩] X.env)).any (·.1.isNone)) = false := by rfl) :
    PV X C (.Call (.Name "nearest" p) [] [⟨some "burst", b, kp1⟩, ⟨some "table", a, kp2⟩] pos) ρ (nrD t its) := fun σ H0 H rs Q q => by
  obtain ⟨f, fd, F, hm, hk, hb'⟩ := gk_nearest (P := X.prog) (base := X.base) T
  have hP : PE X (.Call (.Name "nearest" p) [] [⟨some "burst", b, kp1⟩, ⟨some "table", a, kp2⟩] pos) (fun σ H Q => tCons (EE X b) (tCons (EE X a) tNil) σ H fun zs H2 => sp_nearest X.K C (gRev [] zs) H2 Q E0) := by
    refine ⟨fun pins s σ H Q I h => ?_⟩
    refine wpAny_Call_Name_kw (ld_glob I hg hm ?_ (by decide))
    have hkw : PK X [⟨some "burst", b, kp1⟩, ⟨some "table", a, kp2⟩] (tCons (EE X b) (tCons (EE X a) tNil)) := pk_cons (pe X b) (pk_cons (pe X a) pk_nil)
    refine PySem.W.callWith_KW0 (h₀ := X.base) I.ok.mod.kin hk hall (thn (hkw.run pos pins s σ H _ I h) fun ws s2 ⟨zs, H2, I2, rz, q2⟩ => ⟨I2.kIn, ?_⟩) hpl
    rw [hks]
    exact run_fnk (us := []) (vs := []) F hr hb' pass0 I2 .nil rz q2
  refine ee hP (hb σ H0 H rs _ fun v H1 e1 r1 => ht σ H0 H1 (rs.ex e1) _ fun u H2 e2 r2 => ?_)
  refine ⟨(t, its), .cons (Rep.gr ((rs.base.trans e1).trans e2) _ _ r2) (.cons (Rep.gr ((rs.base.trans e1).trans e2) _ _ (r1.ex e2)) .nil), hy, fun v H3 e3 r3 => q v H3 ((e1.trans e2).trans e3) (r3 H0)⟩
end
end Bf

namespace Bf
open PySem PySem.Spec PyProof.Rows L2 BF
section
variable {X : Cx} {C : Addr} {ρ ρ' ρ1 : List Sl} {e a b c tg elt iter : Expr} {es : List Expr} {d da db : D} {ds us : List D} {pos pos' : Pos} {x y : Bool} {i j : Int}
variable {N : List Sl → Prop} {R : Wv → List Sl → Prop} {rest body els : List Stmt} {z : Str}
/-- l + m -/
theorem pl_cat (ha : PO X C a ρ ds) (hb : PO X C b ρ us) (hl : ds.length + us.length ≤ 1000) : PL X C (.BinOp a .Add b pos) ρ (ds ++ us) := fun σ H0 H rs Q q =>
  ee (pe_op op_cat (pe X a) (pe X b)) (ha σ H0 H rs _ fun p xs H1 _ e1 h1 r1 => hb σ H0 H1 (rs.ex e1) _ fun p2 ys H2 _ e2 h2 r2 => ⟨p, p2, xs, ys, rfl, rfl, e2 _ _ h1, h2, by rw [r1.length, r2.length]; exact small' hl, fun t ht => q t _ _ ((e1.trans e2).free ht) ((e1.trans e2).trans (Ex.new ht)) upd_same (((r1.ex e2).append r2).ex (Ex.new ht))⟩)
/-- list(t) -/
theorem pl_listT {p : Pos} (hm : X.mg "list" = none) (ha : PV X C a ρ (.tup ds)) (hg : Gl X "list" := by rfl) (he : starEach [a] X.env = (false, eval a X.env) :: starEach [] X.env := by rfl) : PL X C (.Call (.Name "list" p) [a] [] pos) ρ ds := fun σ H0 H rs Q q =>
  ee (pe_callTy call_list_of hg hm (show bootBuiltins "list" = some (.type "list") by decide +kernel) (pa_cons (pe X a) pa_nil he) (by decide) (by decide) he rfl) (ha σ H0 H rs _ fun v H1 e1 r1 => by
    obtain ⟨t, xs, e2, hq, hx⟩ := r1.tup_inv
    subst e2
    exact ⟨t, xs, rfl, .inr hq, fun l hl => q l xs _ (e1.free hl) (e1.trans (Ex.new hl)) upd_same (hx.ex (Ex.new hl))⟩)
/-- tuple(l) -/
theorem pv_tupL {p : Pos} (hm : X.mg "tuple" = none) (ha : PR X C a ρ ds) (hg : Gl X "tuple" := by rfl) (he : starEach [a] X.env = (false, eval a X.env) :: starEach [] X.env := by rfl) : PV X C (.Call (.Name "tuple" p) [a] [] pos) ρ (.tup ds) := fun σ H0 H rs Q q =>
  ee (pe_callTy call_tuple_of hg hm (show bootBuiltins "tuple" = some (.type "tuple") by decide +kernel) (pa_cons (pe X a) pa_nil he) (by decide) (by decide) he rfl) (ha σ H0 H rs _ fun t xs H1 e1 hl r1 =>
    ⟨t, xs, rfl, .inl ⟨hl, fun l hp => q _ _ (e1.trans (Ex.new hp)) (.tup (SqT.of upd_same) (r1.ex (Ex.new hp)))⟩⟩)
/-- l[:-1] -/
theorem pl_init {k} {p2 p3 p4 : Pos} (h : PR X C a ρ (ds ++ [d])) : PL X C (.Subscript a (.Slice none (some (.UnaryOp .USub (.Constant (.int 1) k p3) p4)) none p2) pos) ρ ds := fun σ H0 H rs Q q =>
  ee (pe_slice sl_list (pe X a) po_none (po_some (pe_un un_neg pe_int))) (h σ H0 H rs _ fun p xs H1 e1 hl r1 => ⟨1, rfl, -1, rfl, p, xs, rfl, hl, fun t ht => by
    refine q t _ _ (e1.free ht) (e1.trans (Ex.new ht)) upd_same ?_
    have z := cut_rep (lo := none) (hi := some (-1)) r1
    have e2 : HT.sIx (ds ++ [d]).length 0 none = 0 := rfl
    have e1 : HT.sIx (ds ++ [d]).length (ds ++ [d]).length (some (-1)) = ds.length := by
      unfold HT.sIx
      simp
      omega
    rw [e1, e2] at z
    have e3 : (List.drop 0 (ds ++ [d])).take (ds.length - 0) = ds := by simp
    rw [e3] at z
    exact z.ex (Ex.new ht)⟩)
/-- x, y = l, m: two new lists -/
theorem pb_parL (i j : Nat) {zx zy : Str} {px py pt : Pos} {kt k2 : Nat} {pt2 : Pos} (hN : X.N.Nodup) (h1 : PL X C a ρ ds) (h2 : PL X C b ρ us) (k : PBd X C rest ((ρ.set i (.ow ds)).set j (.ow us)) N R) (hi : X.N[i]? = some zx := by rfl) (hj : X.N[j]? = some zy := by rfl) (hij : i ≠ j := by decide)
    (hx : X.env.scope.names.lookup zx = some .local := by rfl) (hy : X.env.scope.names.lookup zy = some .local := by rfl) (hw : swappedStores [.Tuple [.Name zx px, .Name zy py] kt pt] (.Tuple [a, b] k2 pt2) X.env = pure (some [zx, zy]) := by rfl)
    (hs : swapsWithSole [.Tuple [.Name zx px, .Name zy py] kt pt] (.Tuple [a, b] k2 pt2) pos.line X.env = pure false := by rfl) (hc : X.calm = true := by rfl)
    (hsa : starEach [a, b] X.env = (false, eval a X.env) :: starEach [b] X.env := by rfl) (hsb : starEach [b] X.env = (false, eval b X.env) :: starEach [] X.env := by rfl) : PBd X C (.Assign [.Tuple [.Name zx px, .Name zy py] kt pt] (.Tuple [a, b] k2 pt2) pos :: rest) ρ N R := fun σ H0 H rs D nx rt =>
  ess_cons (Bf.es (ps_par hc hN hi hj hij hx hy (pa_cons (pe X a) (pa_cons (pe X b) pa_nil hsb) hsa) hw hs) (h1 σ H0 H rs _ fun p xs H1 hp e1 hl r1 => h2 σ H0 H1 (rs.ex e1) _ fun p2 ys H2 hp2 e2 hl2 r2 => by
    exact ⟨_, _, rfl, k _ H0 H2 ((rs.setL (i := i) hp e1 hl r1).setL (i := j) hp2 e2 hl2 r2) D (fun σ' H' B ρ' eB im => nx σ' H' B ρ' eB ((e1.im.trans e2.im).trans im)) rt⟩))
/-- for i, x in enumerate(l), l data -/
theorem pis_enum {p tpos : Pos} {kk : Nat} {elts : List Expr} (hm : X.mg "enumerate" = none) (h : PV X C e ρ (.lst ds)) (hg : Gl X "enumerate" := by rfl) (hs : starEach [e] X.env = [(false, eval e X.env)] := by rfl) :
    PIs X C (.Tuple elts kk tpos) (.Call (.Name "enumerate" p) [e] [] pos) ρ ds.length (fun i => .tup [.int (i : Int), ds.getD i .non]) := fun σ H0 H rs R q =>
  ei (pi_enum hg hm (pa_cons (pe X e) pa_nil hs) hs) (h σ H0 H rs _ fun v H1 e1 r1 => by
    obtain ⟨t, xs, e2, hq, hx⟩ := r1.lst_inv
    subst e2
    refine ⟨t, xs, rfl, sqL_ex (rs.base.trans e1) hq, ?_⟩
    have hw : Walk (Ite X.K t) ds.length (fun H => SqL X.K H t xs) (fun i H v H' => ∃ T x, v = .ref T ∧ H T = none ∧ H' = upd H T (.tup [.int (i : Nat), x]) ∧ xs[i]? = some x) := by
      rw [← hx.length]
      exact ⟨fun i H hi g => ⟨xs, xs[i], g, List.getElem?_eq_getElem hi⟩, fun H g => ⟨xs, g, Nat.le_refl _⟩, fun i H v H' hi g y => by
        obtain ⟨T, x, h1, h2, h3, h4⟩ := y
        exact ⟨T, x, h1, h2, h3, h4 xs g⟩⟩
    refine q _ H1 _ _ hw e1 (fun H' eb im => sqL_ex eb hq) fun i Ha x Hb hi ea im y => ?_
    obtain ⟨T, v, e3, hT, e4, hv⟩ := y
    subst e3 e4
    have im2 := im.trans (Ex.new (o := .tup [.int (i : Nat), v]) hT).im
    exact ⟨Ex.new hT, .tup (SqT.of upd_same) (.cons (.int _) (.cons (Rep.im im2 _ _ (reps_at hx hv)) .nil))⟩)
/-- l[-1] = v -/
theorem pb_lset (k : Nat) {p2 p3 p4 p5 : Pos} {kc} (hd : ρ[k]? = some (Sl.ow (ds ++ [da]))) (hb : PV X C b ρ d) (hk : PBd X C rest (ρ.set k (.ow (ds ++ [d]))) N R) (hN : X.N[k]? = some z := by rfl) (hv : Vis X.env.scope z := by first | exact Or.inl rfl | exact Or.inr (Or.inl rfl) | exact Or.inr (Or.inr rfl))
    (hz1 : (z == ("__debug__" : Str)) = false := by decide) (hz2 : (z == ("__classdict__" : Str)) = false := by decide) (hs : swapsWith b (some (.Subscript (.Name z p2) (.UnaryOp .USub (.Constant (.int 1) kc p4) p5) p3)) pos.line X.env = pure false := by rfl) : PBd X C (.Assign [.Subscript (.Name z p2) (.UnaryOp .USub (.Constant (.int 1) kc p4) p5) p3] b pos :: rest) ρ N R := fun σ H0 H rs D nx rt =>
  ess_cons fun pins s I => by
    refine wpAny_Assign_Subscript (thn ((hb σ H0 H rs (fun v' H1 => Ex H H1 ∧ Rep X.K C H0 H1 v' d) fun v H1 e1 r1 => ⟨e1, r1⟩) pins s I) fun r s1 ⟨v1, H1, I1, rv, e1, r1⟩ => ?_) hs
    obtain ⟨t, xs, hst, h0, hp, hx⟩ := (rs.ex e1).ow k _ hd
    have pvar : PE X (.Name z p2) (tVar k) := pe_var hN hv hz1 hz2
    refine thn (pvar.run pins s1 σ H1 (fun x Hx => x = .ref t ∧ Hx = H1) I1 ⟨.ref t, hst, rfl, rfl⟩) fun u s2 ⟨x, H2, I2, rx, ex, e2⟩ => ?_
    subst ex e2
    have pneg : PE X (.UnaryOp .USub (.Constant (.int 1) kc p4) p5) (tUn (rU fun i => .int (-i)) (tC (.int 1))) := pe_un un_neg pe_int
    refine thn (pneg.run pins s2 σ H2 (fun y Hy => y = .int (-1) ∧ Hy = H2) I2 ⟨1, rfl, rfl, rfl⟩) fun iv s3 ⟨y, H3, I3, ry, ey, e3⟩ => ?_
    subst ey e3
    have hxl : xs.length = ds.length + 1 := by rw [hx.length, List.length_append]; rfl
    have hix : ixN xs.length (-1) = some ds.length := by
      unfold ixN
      rw [if_neg (by decide), if_pos (by omega), hxl]
      congr 1
      omega
    refine thn (set_list pins s3 σ H3 (.ref t) (.int (-1)) v1 u iv r (fun H4 => H4 = upd H3 t (.lst (xs.set ds.length v1))) I3 rx ry rv ⟨t, xs, -1, ds.length, rfl, rfl, hp, hix, rfl⟩) fun _ s4 ⟨H4, I4, e4⟩ => ?_
    subst e4
    have e5 : (ds ++ [da]).set ds.length d = ds ++ [d] := by simp
    have rs4 := (rs.ex e1).mut hd hst hp (ys := xs.set ds.length v1) (es := ds ++ [d]) (e5 ▸ hx.set ds.length r1)
    exact ⟨σ, _, I4, hk σ H0 _ rs4 D (fun σ' H' B ρ' eB im' => nx σ' H' B ρ' eB ((e1.im.trans (Im.upd hp rfl)).trans im')) rt⟩
end
end Bf

namespace Bf
open BF
/-! ### the law's frames: odd, short, of small durations -/
theorem right_of {t : Tb} (h : TbOk t) : t.Right := by
  cases t with
  | pairs hd z o s b =>
    obtain ⟨_, h2, h3, h4, h5, h6, _, h8, h9, _⟩ := h
    exact ⟨h9, fun d hd => by have := (h2 d hd).1; omega, by have := h3.1; omega, by have := h4.1; omega, by have := h5.1; omega, by have := h6.1; omega, by have := h8.1; omega⟩
  | halves u b => exact ⟨h.2.1, by have := h.1.1; show 0 < u; omega⟩
theorem bits8 {t : Tb} (h : TbOk t) : t.bits ≤ 8 := by
  cases t with
  | pairs hd z o s b => exact h.2.2.2.2.2.2.2.2.2
  | halves u b => exact h.2.2
theorem frmW_b {t : Tb} (h : TbOk t) : ∀ (w : List Bool) (k : Nat) (op : Op), (∀ d ∈ frmW t k op w, DuB d) ∧ (frmW t k op w).length ≤ 4 * w.length
  | [], _, _ => ⟨fun _ h => (nomatch h), Nat.le_refl _⟩
  | b :: w, k, op => by
    obtain ⟨h1, h2⟩ := frmW_b h w (k + 1) (settle t k op b).op
    obtain ⟨h3, h4, _⟩ := settle_d h k op b
    have e : frmW t k op (b :: w) = (settle t k op b).rest ++ frmW t (k + 1) (settle t k op b).op w := rfl
    rw [e]
    refine ⟨fun d hd => ?_, ?_⟩
    · rcases List.mem_append.mp hd with hd | hd
      · exact h3 d hd
      · exact h1 d hd
    · rw [List.length_append, List.length_cons]
      omega
theorem frame_b {t : Tb} (h : TbOk t) {w : List Bool} (hw : w.length = t.bits) : (∀ d ∈ frameL t w, DuB d) ∧ (frameL t w).length ≤ 36 := by
  rw [frameL_eq (right_of h) hw]
  unfold frm
  obtain ⟨h1, h2⟩ := frmW_b h w (begin_ t).known (begin_ t).op
  obtain ⟨h3, h4, _⟩ := begin_d h
  have := bits8 h
  refine ⟨fun d hd => ?_, ?_⟩
  · rcases List.mem_append.mp hd with hd | hd
    · exact h3 d hd
    · exact h1 d hd
  · rw [List.length_append]
    omega
/-- the fold over levels, its parity -/
theorem lev_par (u : Int) : ∀ (ls : List Bool) (s : List Int × Option Bool) (l : Bool), s.2 = some l → s.1.length % 2 = (if l then 1 else 0) → s.1 ≠ [] →
    ∃ l', (ls.foldl (lev1 u) s).2 = some l' ∧ l' = ls.getLastD l ∧ (ls.foldl (lev1 u) s).1.length % 2 = (if l' then 1 else 0) ∧ (ls.foldl (lev1 u) s).1 ≠ []
  | [], s, l, h1, h2, h3 => ⟨l, h1, rfl, h2, h3⟩
  | x :: ls, s, l, h1, h2, h3 => by
    rw [List.foldl_cons]
    have hx : (lev1 u s x).2 = some x := rfl
    have hl : (lev1 u s x).1.length % 2 = (if x then 1 else 0) ∧ (lev1 u s x).1 ≠ [] := by
      show (if s.2 = some x then s.1.dropLast ++ [s.1.getLastD 0 + u] else s.1 ++ [u]).length % 2 = _ ∧ (if s.2 = some x then s.1.dropLast ++ [s.1.getLastD 0 + u] else s.1 ++ [u]) ≠ []
      have hpos : 0 < s.1.length := List.length_pos_iff.mpr h3
      rw [h1]
      by_cases hlx : l = x
      · subst hlx
        rw [if_pos rfl]
        refine ⟨?_, by simp⟩
        rw [List.length_append, List.length_dropLast]
        show (s.1.length - 1 + 1) % 2 = _
        rw [Nat.sub_add_cancel hpos]
        exact h2
      · rw [if_neg (fun z => hlx (Option.some.inj z))]
        refine ⟨?_, by simp⟩
        rw [List.length_append]
        show (s.1.length + 1) % 2 = _
        cases l <;> cases x <;> simp_all <;> omega
    obtain ⟨l', r1, r2, r3, r4⟩ := lev_par u ls (lev1 u s x) x hx hl.1 hl.2
    refine ⟨l', r1, ?_, r3, r4⟩
    rw [r2]
    cases ls with
    | nil => rfl
    | cons y ls => rfl
theorem frame_odd {t : Tb} (h : TbOk t) (w : List Bool) : (frameL t w).length % 2 = 1 := by
  cases t with
  | pairs hd z o s b =>
    have hl : ∀ (w : List Bool) (f : List Int), (w.foldl (fun f b => f ++ (if b then [o.1, o.2] else [z.1, z.2])) f).length = f.length + 2 * w.length := fun w => by
      induction w with
      | nil => intro f; rfl
      | cons b w ih =>
        intro f
        rw [List.foldl_cons, ih, List.length_append, List.length_cons]
        cases b <;> simp <;> omega
    show ((w.foldl (fun f b => f ++ (if b then [o.1, o.2] else [z.1, z.2])) hd) ++ [s]).length % 2 = 1
    rw [List.length_append, hl]
    have := h.1
    show (hd.length + 2 * w.length + 1) % 2 = 1
    omega
  | halves u b =>
    have e : levels w = true :: (false :: w.flatMap fun b => [b, !b]) := by rw [levels_eq]; rfl
    show (if (levels w).getLastD false = false then ((levels w).foldl (lev1 u) ([], none)).1.dropLast else ((levels w).foldl (lev1 u) ([], none)).1).length % 2 = 1
    rw [e, List.foldl_cons]
    have e1 : lev1 u ([], none) true = ([u], some true) := rfl
    rw [e1]
    obtain ⟨l', r1, r2, r3, r4⟩ := lev_par u (false :: w.flatMap fun b => [b, !b]) ([u], some true) true rfl rfl (by simp)
    have e2 : (true :: (false :: w.flatMap fun b => [b, !b])).getLastD false = l' := by
      rw [r2]
      rfl
    rw [e2]
    have hpos := List.length_pos_iff.mpr r4
    cases l' with
    | true => exact r3
    | false =>
      rw [if_pos rfl, List.length_dropLast]
      have r3' : (List.foldl (lev1 u) ([u], some true) (false :: w.flatMap fun b => [b, !b])).1.length % 2 = 0 := r3
      omega
theorem far_pb : ∀ {its : List Item} {ds : List Int} {v : Part}, (∀ i ∈ its, ItB i) → (∀ d ∈ ds, DuB d) → PB v → PB ((its.zip ds).foldl (fun p x => wider p (off x.1 x.2)) v)
  | [], _, _, _, _, h => h
  | _ :: _, [], _, _, _, h => h
  | it :: its, d :: ds, v, hi, hd, h => by
    rw [List.zip_cons_cons, List.foldl_cons]
    exact far_pb (fun i h => hi i (List.mem_cons_of_mem _ h)) (fun d h => hd d (List.mem_cons_of_mem _ h)) (wider_pb h (off_pb (hi it (List.mem_cons_self ..)) (hd d (List.mem_cons_self ..))))
theorem pb01 : PB (0, 1) := by show (0 : Int) ≤ 0 ∧ (0 : Int) < 2 ^ 42 ∧ (0 : Int) < 1 ∧ (1 : Int) ≤ 1000000000; omega
theorem words_len : ∀ n : Nat, (words n).length = 2 ^ n
  | 0 => rfl
  | n + 1 => by
    show ((words n).map (false :: ·) ++ (words n).map (true :: ·)).length = _
    rw [List.length_append, List.length_map, List.length_map, words_len n, Nat.pow_succ]
    omega
end Bf

namespace Bf
open PySem PySem.Spec PyProof.Rows L2 BF
section
variable {P : Program} {w : World} {K : PySem.W.Frag} {mg : Str → Option Value} {base : Heap} {C : Addr}
/-! ### _law_words -/
theorem sc_law_words : FnScope ["many", "found", "k", "word"] ["many"] (defScope s_law_words) := ⟨rfl, rfl, rfl, by decide +kernel, rfl, by decide +kernel, by decide +kernel⟩
abbrev sp_law_words (K : PySem.W.Frag) (C : Addr) : Sp := spL K C (fun n : Nat => [.int (n : Int)]) (fun n => n ≤ 8) (fun n => (words n).map wD)
theorem pow8 {n : Nat} (h : n ≤ 8) : 2 ^ n ≤ 256 := Nat.pow_le_pow_right (by decide) h
theorem g_law_words (T : Tx w K mg C) : GFn P w K mg base "_law_words" 1 (sp_law_words K C) :=
  gL (hflat := fun n => flats_map wD_flat _) T.d_law_words sc_law_words (fun _ => rfl) (fun _ _ _ _ _ _ us hl => match us, hl with | [_], _ => rfl) fun f n hy cdv A outer s H E hr => by
    have nd := sc_law_words.nd
    refine pb_setL 1 nd (pl_lst (pvs_cons (pv_tup pvs_nil) pvs_nil)) ?_
    refine pb_for (pis_range T.b_range (pv_var 0) ⟨by omega, by omega⟩).tt (fun i ρ' => i ≤ n ∧ ∃ s2, ρ' = [.im (.int (n : Int)), .ow ((words i).map wD), s2, .un]) ⟨Nat.zero_le _, .un, rfl⟩ (fun i ρ' hi hρ => ?_) (fun ρ' hρ => ?_)
    · obtain ⟨_, s2, rfl⟩ := hρ
      have hi : i < n := by simpa using hi
      refine ⟨[2], _, ptg_name 2 nd, ?_⟩
      have hwl := words_len i
      have hp := pow8 (show i ≤ 8 by omega)
      have hp2 := pow8 (show i + 1 ≤ 8 by omega)
      rw [Nat.pow_succ] at hp2
      have hl : ((words i).map wD).length = (words i).length := List.length_map _
      have half : ∀ (b : Bool) {e0 : Expr} {p1 p2 p3 : Pos} {sc : Scope}, True := fun _ => trivial
      refine pb_setL 1 nd (PL.is (pl_cat (ds := ((words i).map (false :: ·)).map wD) (us := ((words i).map (true :: ·)).map wD) (PL.po (PL.is (pl_lcG (own := [("word", 3)]) (kp := fun _ => true) (g := fun j => (((words i).map fun w => wD (false :: w))).getD j .non) nd (pic_ro (ds := (words i).map wD) (pr_var 1)) (blkOk_by (N := ["many", "found", "k", "word"]) (sc := defScope s_law_words) (by decide +kernel)) (turns_n (by rw [hl]; omega) fun j hj => ?_) (pts_n _)) ?_)) (PL.po (PL.is (pl_lcG (own := [("word", 3)]) (kp := fun _ => true) (g := fun j => (((words i).map fun w => wD (true :: w))).getD j .non) nd (pic_ro (ds := (words i).map wD) (pr_var 1)) (blkOk_by (N := ["many", "found", "k", "word"]) (sc := defScope s_law_words) (by decide +kernel)) (turns_n (by rw [hl]; omega) fun j hj => ?_) (pts_n _)) ?_)) (by simp; omega)) ?_) (pb_nil ⟨hi, _, rfl⟩)
      · rw [hl] at hj
        obtain ⟨wd, hw, hwm⟩ : ∃ wd, (words i)[j]? = some wd ∧ wd ∈ words i := ⟨_, List.getElem?_eq_getElem hj, List.getElem_mem hj⟩
        have hwl := words_length hwm
        rw [getD_at hw, getD_at hw]
        exact ⟨[3], _, by decide, fun s0 H0 Ca cl fp => ptg_name 3 nd, fun s0 H0 Ca cl fp => pv_cat (ds := [.int 0]) (es := wd.map bD) (pv_tup (pvs_cons pv_int pvs_nil)) (pv_var 3) (by rw [List.length_map]; show 1 + wd.length ≤ 1000; omega)⟩
      · rw [hl, List.map_map]
        exact kept_map (fun w => wD (false :: w)) _ fun i x h => getD_at h
      · rw [hl] at hj
        obtain ⟨wd, hw, hwm⟩ : ∃ wd, (words i)[j]? = some wd ∧ wd ∈ words i := ⟨_, List.getElem?_eq_getElem hj, List.getElem_mem hj⟩
        have hwl := words_length hwm
        rw [getD_at hw, getD_at hw]
        exact ⟨[3], _, by decide, fun s0 H0 Ca cl fp => ptg_name 3 nd, fun s0 H0 Ca cl fp => pv_cat (ds := [.int 1]) (es := wd.map bD) (pv_tup (pvs_cons pv_int pvs_nil)) (pv_var 3) (by rw [List.length_map]; show 1 + wd.length ≤ 1000; omega)⟩
      · rw [hl, List.map_map]
        exact kept_map (fun w => wD (true :: w)) _ fun i x h => getD_at h
      · show _ = ((words i).map (false :: ·) ++ (words i).map (true :: ·)).map wD
        rw [List.map_append]
    · obtain ⟨_, s2, rfl⟩ := hρ
      have e : ((n : Int)).toNat = n := by simp
      rw [e]
      exact pb_retL (po_var 1) rfl

/-! ### _law_frame -/
theorem sc_law_frame : FnScope ["chart", "word", "found", "bit", "levels", "at", "level"] ["chart", "word"] (defScope s_law_frame) := ⟨rfl, rfl, rfl, by decide +kernel, rfl, by decide +kernel, by decide +kernel⟩
abbrev sp_law_frame (K : PySem.W.Frag) (C : Addr) : Sp := spF K C (fun y : Tb × List Bool => [tD y.1, wD y.2]) (fun y => TbOk y.1 ∧ y.2.length ≤ 8) (fun y => iTup (frameL y.1 y.2))
theorem getLast_last (l : List Bool) (b : Bool) : (l ++ [b]).getLastD false = b := by simp
theorem bI_eq (a b : Bool) : decide (bI a = bI b) = decide (a = b) := by cases a <;> cases b <;> rfl
theorem g_law_frame (T : Tx w K mg C) : GFn P w K mg base "_law_frame" 1 (sp_law_frame K C) :=
  gF (hflat := fun y => iTup_flat _) T.d_law_frame sc_law_frame (fun _ => rfl) (fun _ _ _ _ _ _ us hl => match us, hl with | [_, _], _ => rfl) fun f y hy cdv A outer s H E hr => by
    obtain ⟨t, wd⟩ := y
    obtain ⟨ht, hwl⟩ := hy
    have ht : TbOk t := ht
    have hwl : wd.length ≤ 8 := hwl
    have nd := sc_law_frame.nd
    have hwd : (wd.map bD).length = wd.length := List.length_map _
    cases t with
    | pairs hd z o st bits =>
      refine pb_ifR (x := true) ((pt_eqS (s1 := "pairs") (s2 := "pairs") (pv_ix (pv_var 0) pv_int rfl) pv_str).is (decide_eq_true rfl)) (fun _ => ?_) (fun z => by cases z)
      have hh : hd.length ≤ 4 := by have := ht.1; omega
      refine pb_setL 2 nd (pl_listT (ds := hd.map D.int) T.b_list (pv_ix (pv_var 0) pv_int rfl)) ?_
      refine pb_for (pis_tup (ds := wd.map bD) (pv_var 1)).tt (fun i ρ' => ∃ s3, ρ' = [.im (tD (.pairs hd z o st bits)), .im (wD wd), .ow (((wd.take i).foldl (fun f b => f ++ (if b then [o.1, o.2] else [z.1, z.2])) hd).map D.int), s3, .un, .un, .un] ∧ ((wd.take i).foldl (fun f b => f ++ (if b then [o.1, o.2] else [z.1, z.2])) hd).length ≤ 4 + 2 * i) ⟨.un, rfl, by simpa using hh⟩ (fun i ρ' hi hρ => ?_) (fun ρ' hρ => ?_)
      · obtain ⟨s3, rfl, hfl⟩ := hρ
        rw [hwd] at hi
        obtain ⟨b, hb⟩ : ∃ b, wd[i]? = some b := ⟨_, List.getElem?_eq_getElem hi⟩
        rw [getD_at hb, fold_take (fun f b => f ++ (if b then [o.1, o.2] else [z.1, z.2])) hb]
        generalize (wd.take i).foldl (fun f b => f ++ (if b then [o.1, o.2] else [z.1, z.2])) hd = F at hfl
        refine ⟨[3], _, ptg_name 3 nd, ?_⟩
        refine pb_setL 2 nd (PL.is (pl_cat (ds := F.map D.int) (us := (if b then [o.1, o.2] else [z.1, z.2]).map D.int) (po_var 2) (PL.po (pl_listT T.b_list ?_)) ?_) ?_) (pb_nil ⟨_, rfl, ?_⟩)
        · cases b
          · exact pv_ix (pv_var 0) (pv_add pv_int (pv_var 3)) rfl
          · exact pv_ix (pv_var 0) (pv_add pv_int (pv_var 3)) rfl
        · rw [List.length_map, List.length_map]
          cases b <;> simp <;> omega
        · rw [List.map_append]
        · rw [List.length_append]
          cases b <;> simp <;> omega
      · obtain ⟨s3, rfl, hfl⟩ := hρ
        rw [hwd, List.take_length] at hfl ⊢
        refine pb_ret (pv_tupL T.b_tuple (PL.pr (pl_cat (us := [.int st]) (po_var 2) (PL.po (pl_lst (pvs_cons (pv_ix (pv_var 0) pv_int rfl) pvs_nil))) (by rw [List.length_map]; show _ + 1 ≤ 1000; omega)))) ?_
        show Wv.im _ = Wv.im (iTup (_ ++ [st]))
        show Wv.im (.tup _) = Wv.im (.tup _)
        rw [List.map_append]
        rfl
    | halves u bits =>
      refine pb_ifF ((pt_eqS (s1 := "halves") (s2 := "pairs") (pv_ix (pv_var 0) pv_int rfl) pv_str).is (decide_eq_false (by decide +kernel))) ?_
      refine pb_parL 2 4 nd (pl_lst pvs_nil) (pl_lst (pvs_cons pv_int (pvs_cons pv_int pvs_nil))) ?_
      refine pb_for (pis_tup (ds := wd.map bD) (pv_var 1)).tt (fun i ρ' => ∃ s3, ρ' = [.im (tD (.halves u bits)), .im (wD wd), .ow [], s3, .ow (((wd.take i).foldl (fun l b => l ++ [b, !b]) [true, false]).map bD), .un, .un] ∧ ((wd.take i).foldl (fun l b => l ++ [b, !b]) [true, false]).length ≤ 2 + 2 * i) ⟨.un, rfl, Nat.le_refl _⟩ (fun i ρ' hi hρ => ?_) (fun ρ' hρ => ?_)
      · obtain ⟨s3, rfl, hfl⟩ := hρ
        rw [hwd] at hi
        obtain ⟨b, hb⟩ : ∃ b, wd[i]? = some b := ⟨_, List.getElem?_eq_getElem hi⟩
        rw [getD_at hb, fold_take (fun l b => l ++ [b, !b]) hb]
        generalize (wd.take i).foldl (fun l b => l ++ [b, !b]) [true, false] = F at hfl
        refine ⟨[3], _, ptg_name 3 nd, ?_⟩
        refine pb_setL 4 nd (PL.is (pl_cat (ds := F.map bD) (us := [bD b, .int (1 - bI b)]) (po_var 4) (PL.po (pl_lst (pvs_cons (pv_var 3) (pvs_cons (pv_sub pv_int (pv_var 3)) pvs_nil)))) (by rw [List.length_map]; show _ + 2 ≤ 1000; omega)) ?_) (pb_nil ⟨_, rfl, by rw [List.length_append]; show _ + 2 ≤ _; omega⟩)
        rw [List.map_append]
        cases b <;> rfl
      · obtain ⟨s3, rfl, hfl⟩ := hρ
        rw [hwd, List.take_length] at hfl ⊢
        have eL : wd.foldl (fun l b => l ++ [b, !b]) [true, false] = levels wd := rfl
        rw [eL] at hfl ⊢
        have hLne : ∃ l0 ll, levels wd = l0 ++ [ll] := by
          have : levels wd ≠ [] := by rw [levels_eq]; simp
          exact ⟨_, _, (List.dropLast_concat_getLast this).symm⟩
        have eF : frameL (.halves u bits) wd = if (levels wd).getLastD false = false then ((levels wd).foldl (lev1 u) ([], none)).1.dropLast else ((levels wd).foldl (lev1 u) ([], none)).1 := rfl
        have hF1 : ∃ x xs, ((levels wd).foldl (lev1 u) ([], none)).1 = xs ++ [x] := by
          have e : levels wd = true :: (false :: wd.flatMap fun b => [b, !b]) := by rw [levels_eq]; rfl
          rw [e, List.foldl_cons]
          obtain ⟨l', r1, r2, r3, r4⟩ := lev_par u (false :: wd.flatMap fun b => [b, !b]) ([u], some true) true rfl rfl (by simp)
          exact ⟨_, _, (List.dropLast_concat_getLast r4).symm⟩
        show PBk _ C _ _ _ (fun w => w = .im (iTup (frameL (.halves u bits) wd)))
        rw [eF]
        generalize levels wd = L at hfl hLne hF1
        have hLl : (L.map bD).length = L.length := List.length_map _
        refine pb_freeze 4 rfl ?_
        refine pb_for (pis_enum (ds := L.map bD) T.b_enumerate (pv_var 4)).tt (fun i ρ' => i ≤ L.length ∧ ∃ s5 s6, ρ' = [.im (tD (.halves u bits)), .im (wD wd), .ow ((((L.take i).foldl (lev1 u) ([], none)).1).map D.int), s3, .im (.lst (L.map bD)), s5, s6] ∧ (((L.take i).foldl (lev1 u) ([], none)).1).length ≤ i ∧ ((L.take i).foldl (lev1 u) ([], none)).2 = (if i = 0 then none else L[i - 1]?) ∧ (0 < i → ((L.take i).foldl (lev1 u) ([], none)).1 ≠ [])) ⟨Nat.zero_le _, .un, .un, rfl, Nat.le_refl _, rfl, fun z => absurd z (Nat.lt_irrefl 0)⟩ (fun i ρ' hi hρ => ?_) (fun ρ' hρ => ?_)
        · obtain ⟨_, s5, s6, rfl, hfl2, hprev, hne⟩ := hρ
          rw [hLl] at hi
          obtain ⟨l, hl⟩ : ∃ l, L[i]? = some l := ⟨_, List.getElem?_eq_getElem hi⟩
          rw [getD_at hl, fold_take (lev1 u) hl]
          generalize (L.take i).foldl (lev1 u) ([], none) = S at hfl2 hprev hne
          obtain ⟨F, pvv⟩ := S
          have hfl2 : F.length ≤ i := hfl2
          have hprev : pvv = if i = 0 then none else L[i - 1]? := hprev
          have hne : 0 < i → F ≠ [] := hne
          refine ⟨[5, 6], _, ptg_tup (ptgs_cons (ptg_name 5 nd) (ptgs_cons (ptg_name 6 nd) ptgs_nil)), ?_⟩
          have e1 : (lev1 u (F, pvv) l).1 = if pvv = some l then F.dropLast ++ [F.getLastD 0 + u] else F ++ [u] := rfl
          have e2 : (lev1 u (F, pvv) l).2 = some l := rfl
          rw [e1, e2]
          have hnx : some l = if i + 1 = 0 then none else L[i + 1 - 1]? := by rw [if_neg (by omega), Nat.add_sub_cancel, hl]
          refine pb_if (N1 := fun ρ' => i + 1 ≤ L.length ∧ ∃ s5 s6, ρ' = [.im (tD (.halves u bits)), .im (wD wd), .ow ((if pvv = some l then F.dropLast ++ [F.getLastD 0 + u] else F ++ [u]).map D.int), s3, .im (.lst (L.map bD)), s5, s6] ∧ (if pvv = some l then F.dropLast ++ [F.getLastD 0 + u] else F ++ [u]).length ≤ i + 1 ∧ some l = (if i + 1 = 0 then none else L[i + 1 - 1]?) ∧ (0 < i + 1 → (if pvv = some l then F.dropLast ++ [F.getLastD 0 + u] else F ++ [u]) ≠ [])) (x := decide (pvv = some l)) ?_ (fun hx => ?_) (fun hx => ?_) (fun ρ' hρ => pb_nil hρ)
          · by_cases h0 : i = 0
            · subst h0
              rw [if_pos rfl] at hprev
              rw [hprev]
              exact PWt.pt (pw_a (x := false) (y := false) ((pt_gt (pv_var 5) pv_int).is (decide_eq_false (by decide))) fun z => by cases z)
            · rw [if_neg h0] at hprev
              have hj : i - 1 < L.length := by omega
              obtain ⟨l0, hl0⟩ : ∃ l0, L[i - 1]? = some l0 := ⟨_, List.getElem?_eq_getElem hj⟩
              rw [hl0] at hprev
              rw [hprev]
              have ei : (i : Int) - 1 = ((i - 1 : Nat) : Int) := by omega
              have el : (L.map bD)[i - 1]? = some (bD l0) := by rw [List.getElem?_map, hl0]; rfl
              refine PTt.is (PWt.pt (pw_a (x := true) ((pt_gt (pv_var 5) pv_int).is (decide_eq_true (by omega))) fun _ => pw_a1 (pt_eqI (i := bI l0) (j := bI l) (pv_ixL (pr_lst (pv_var 4)) (pv_sub (pv_var 5) pv_int) (by rw [ei]; exact atI_nat el)) (pv_var 6)))) ?_
              rw [Bool.true_and, bI_eq]
              cases l0 <;> cases l <;> rfl
          · have hx := of_decide_eq_true hx
            have h0 : 0 < i := by
              rcases Nat.eq_zero_or_pos i with h | h
              · rw [if_pos h, hx] at hprev; cases hprev
              · exact h
            rw [if_pos hx]
            have hFe := hne h0
            have eF : F.dropLast ++ [F.getLast hFe] = F := List.dropLast_concat_getLast hFe
            have eG : F.getLastD 0 = F.getLast hFe := by
              cases F with
              | nil => exact absurd rfl hFe
              | cons a F => rfl
            have eM : F.map D.int = F.dropLast.map D.int ++ [.int (F.getLast hFe)] := by
              conv => lhs; rw [← eF]
              rw [List.map_append]
              rfl
            rw [eM, eG]
            refine pb_lset (ds := F.dropLast.map D.int) (da := .int (F.getLast hFe)) (d := .int (F.getLast hFe + u)) 2 rfl (pv_add (pv_ixL (pr_var 2) (pv_neg pv_int) (atI_last _ _)) (pv_ix (pv_var 0) pv_int rfl)) (pb_nil ⟨hi, Sl.im (.int (i : Int)), Sl.im (bD l), ?_, ?_, hnx, fun _ => by simp⟩)
            · rw [List.map_append]
              rfl
            · rw [List.length_append, List.length_dropLast]
              show F.length - 1 + 1 ≤ i + 1
              omega
          · have hx := of_decide_eq_false hx
            rw [if_neg hx]
            refine pb_append 2 rfl (by rw [List.length_map]; omega) (pv_ix (pv_var 0) pv_int rfl) (pb_nil ⟨hi, Sl.im (.int (i : Int)), Sl.im (bD l), ?_, ?_, hnx, fun _ => by simp⟩)
            · rw [List.map_append]
              rfl
            · rw [List.length_append]
              show F.length + 1 ≤ i + 1
              omega
        · obtain ⟨_, s5, s6, rfl, hfl2, _, _⟩ := hρ
          rw [hLl, List.take_length]
          obtain ⟨x, xs, hF1⟩ := hF1
          obtain ⟨l0, ll, hLe⟩ := hLne
          rw [hF1]
          have eM : (xs ++ [x]).map D.int = xs.map D.int ++ [.int x] := by rw [List.map_append]; rfl
          have eLM : L.map bD = l0.map bD ++ [bD ll] := by rw [hLe, List.map_append]; rfl
          have eg : L.getLastD false = ll := by rw [hLe]; exact getLast_last _ _
          rw [eg, eLM, eM]
          have ed : (xs ++ [x]).dropLast = xs := by simp
          rw [ed]
          refine pb_ret (d := iTup (if ll = false then xs else xs ++ [x])) (pv_tupL T.b_tuple (PO.pr (po_ite (ds := (if ll = false then xs else xs ++ [x]).map D.int) (x := decide (bI ll = 0)) (pt_eqI (i := bI ll) (pv_ixL (pr_lst (pv_var 4)) (pv_neg pv_int) (atI_last _ _)) pv_int) (fun hx => ?_) (fun hx => ?_)))) rfl
          · cases ll with
            | true => cases hx
            | false => exact PL.po (pl_init (ds := xs.map D.int) (pr_var 2))
          · cases ll with
            | true =>
              have : (if (true : Bool) = false then xs else xs ++ [x]).map D.int = xs.map D.int ++ [.int x] := eM
              rw [this]
              exact po_var 2
            | false => cases hx
end
end Bf

namespace Bf
open PySem PySem.Spec PyProof.Rows L2 BF
def better (o : Option (Part × List Bool)) (Fa : Part) (wd : List Bool) : Option (Part × List Bool) := match o with
  | none => some (Fa, wd)
  | some b => if less Fa b.1 then some (Fa, wd) else some b
theorem due1_eq (t : Tb) (its : List Item) (o : Option (Part × List Bool)) (wd : List Bool) : due1 t its o wd = if (frameL t wd).length = its.length then better o (far its (frameL t wd)) wd else o := by
  unfold due1 better
  cases o <;> rfl
def dueD (o : Option (Part × List Bool)) : D := match o with
  | none => .non
  | some (p, w) => .tup [pD p, wD w]
theorem dueD_flat (o : Option (Part × List Bool)) : (dueD o).flat = true := by
  cases o with
  | none => rfl
  | some q =>
    show (true && (D.flat (wD q.2) && true)) = true
    rw [wD_flat]
    rfl
theorem due_pb {t : Tb} (ht : TbOk t) {its : List Item} (hi : ∀ i ∈ its, ItB i) : ∀ {ws : List (List Bool)} {o : Option (Part × List Bool)}, (∀ w ∈ ws, w.length = t.bits) → (∀ q, o = some q → PB q.1 ∧ q.2.length = t.bits) → ∀ q, ws.foldl (due1 t its) o = some q → PB q.1 ∧ q.2.length = t.bits
  | [], _, _, h, q, e => h q e
  | w :: ws, o, hw, h, q, hq => by
    rw [List.foldl_cons] at hq
    refine due_pb ht hi (fun v hv => hw v (List.mem_cons_of_mem _ hv)) (fun u hu => ?_) q hq
    have hf : PB (far its (frameL t w)) ∧ w.length = t.bits := ⟨far_pb hi (frame_b ht (hw w (List.mem_cons_self ..))).1 pb01, hw w (List.mem_cons_self ..)⟩
    unfold due1 at hu
    split at hu
    · split at hu
      · cases hu; exact hf
      · split at hu
        · cases hu; exact hf
        · exact h u hu
    · exact h u hu
section
variable {P : Program} {w : World} {K : PySem.W.Frag} {mg : Str → Option Value} {base : Heap} {C : Addr}
theorem sc_law_farthest : FnScope ["flash", "frame", "found", "item", "size", "part"] ["flash", "frame"] (defScope s_law_farthest) := ⟨rfl, rfl, rfl, by decide +kernel, rfl, by decide +kernel, by decide +kernel⟩
abbrev sp_law_farthest (K : PySem.W.Frag) (C : Addr) : Sp := spF K C (fun y : List Item × List Int => [buD y.1, iTup y.2]) (fun y => (∀ i ∈ y.1, ItB i) ∧ ∀ d ∈ y.2, DuB d) (fun y => pD (far y.1 y.2))
theorem g_law_farthest (T : Tx w K mg C) : GFn P w K mg base "_law_farthest" 4 (sp_law_farthest K C) :=
  gF T.d_law_farthest sc_law_farthest (fun _ => rfl) (fun _ _ _ _ _ _ us hl => match us, hl with | [_, _], _ => rfl) fun f y hy cdv A outer s H E hr => by
    obtain ⟨its, ds⟩ := y
    obtain ⟨hi, hd⟩ := hy
    have hi : ∀ i ∈ its, ItB i := hi
    have hd : ∀ d ∈ ds, DuB d := hd
    have nd := sc_law_farthest.nd
    have hn : min (its.map itD).length (ds.map D.int).length = (its.zip ds).length := by rw [List.length_map, List.length_map, List.length_zip]
    refine pb_set 2 nd (d := pD (0, 1)) (pv_tup (pvs_cons pv_int (pvs_cons pv_int pvs_nil))) ?_
    refine pb_for (pis_zipT (ds := its.map itD) (es := ds.map D.int) T.b_zip (pv_var 0) (pv_var 1)).tt (fun i ρ' => ∃ s3 s4 s5, ρ' = [.im (buD its), .im (iTup ds), .im (pD (((its.zip ds).take i).foldl (fun p x => wider p (off x.1 x.2)) (0, 1))), s3, s4, s5] ∧ PB (((its.zip ds).take i).foldl (fun p x => wider p (off x.1 x.2)) (0, 1))) ⟨.un, .un, .un, rfl, pb01⟩ (fun i ρ' hi2 hρ => ?_) (fun ρ' hρ => ?_)
    · obtain ⟨s3, s4, s5, rfl, hF⟩ := hρ
      rw [hn] at hi2
      obtain ⟨⟨it, d⟩, hx⟩ : ∃ x, (its.zip ds)[i]? = some x := ⟨_, List.getElem?_eq_getElem hi2⟩
      obtain ⟨h1, h2⟩ := List.getElem?_zip_eq_some.mp hx
      have h1 : its[i]? = some it := h1
      have h2 : ds[i]? = some d := h2
      have hit := hi it (List.mem_of_getElem? h1)
      have hdb := hd d (List.mem_of_getElem? h2)
      rw [getD_at h1, getD_at h2, fold_take (fun p x => wider p (off x.1 x.2)) hx]
      generalize ((its.zip ds).take i).foldl (fun p x => wider p (off x.1 x.2)) (0, 1) = F at hF
      have ho := off_pb hit hdb
      refine ⟨[3, 4], _, ptg_tup (ptgs_cons (ptg_name 3 nd) (ptgs_cons (ptg_name 4 nd) ptgs_nil)), ?_⟩
      refine pb_set 5 nd (pv_call (g_law_off T) (hr.mono (by decide)) (it, d) ⟨hit, hdb⟩ (pvs_cons (pv_var 3) (pvs_cons (pv_var 4) pvs_nil))) ?_
      refine pb_set 2 nd (d := pD (wider F (off it d))) (pv_ite (x := less F (off it d)) (pt_pv (pv_call (g_law_is_less T) (hr.mono (by decide)) (F, off it d) ⟨hF.big, ho.big⟩ (pvs_cons (pv_var 2) (pvs_cons (pv_var 5) pvs_nil)))) (fun hx => ?_) (fun hx => ?_)) (pb_nil ⟨_, _, _, rfl, wider_pb hF ho⟩)
      · unfold wider
        rw [if_pos hx]
        exact pv_var 5
      · unfold wider
        rw [if_neg (by rw [hx]; decide)]
        exact pv_var 2
    · obtain ⟨s3, s4, s5, rfl, hF⟩ := hρ
      rw [hn, List.take_length]
      exact pb_ret (pv_var 2) rfl

theorem sc_law_due : FnScope ["chart", "flash", "best", "word", "frame", "part"] ["chart", "flash"] (defScope s_law_due) := ⟨rfl, rfl, rfl, by decide +kernel, rfl, by decide +kernel, by decide +kernel⟩
abbrev sp_law_due (K : PySem.W.Frag) (C : Addr) : Sp := spF K C (fun y : Tb × List Item => [tD y.1, buD y.2]) (fun y => TbOk y.1 ∧ ∀ i ∈ y.2, ItB i) (fun y => dueD (due y.1 y.2))
theorem pv_bits {X : Cx} {ρ : List Sl} {a : Expr} {k} {p2 p3 pos : Pos} {t : Tb} (ha : PV X C a ρ (tD t)) : PV X C (.Subscript a (.UnaryOp .USub (.Constant (.int 1) k p2) p3) pos) ρ (.int (t.bits : Int)) := by
  cases t with
  | pairs hd z o s b => exact pv_ix ha (pv_neg pv_int) rfl
  | halves u b => exact pv_ix ha (pv_neg pv_int) rfl
theorem g_law_due (T : Tx w K mg C) : GFn P w K mg base "_law_due" 5 (sp_law_due K C) :=
  gF (hflat := fun y => dueD_flat _) T.d_law_due sc_law_due (fun _ => rfl) (fun _ _ _ _ _ _ us hl => match us, hl with | [_, _], _ => rfl) fun f y hy cdv A outer s H E hr => by
    obtain ⟨t, its⟩ := y
    obtain ⟨ht, hi⟩ := hy
    have ht : TbOk t := ht
    have hi : ∀ i ∈ its, ItB i := hi
    have nd := sc_law_due.nd
    have hwl : ((words t.bits).map wD).length = (words t.bits).length := List.length_map _
    refine pb_set 2 nd pv_non ?_
    refine pb_for (pit_new (pl_call (g_law_words T) (hr.mono (by decide)) t.bits (bits8 ht) (pvs_cons (pv_bits (pv_var 0)) pvs_nil))) (fun i ρ' => ∃ s3 s4 s5, ρ' = [.im (tD t), .im (buD its), .im (dueD (((words t.bits).take i).foldl (due1 t its) none)), s3, s4, s5]) ⟨.un, .un, .un, rfl⟩ (fun i ρ' hi2 hρ => ?_) (fun ρ' hρ => ?_)
    · obtain ⟨s3, s4, s5, rfl⟩ := hρ
      rw [hwl] at hi2
      obtain ⟨wd, hw, hwm⟩ : ∃ wd, (words t.bits)[i]? = some wd ∧ wd ∈ words t.bits := ⟨_, List.getElem?_eq_getElem hi2, List.getElem_mem hi2⟩
      have hwlen := words_length hwm
      have hD := due_pb ht hi (ws := (words t.bits).take i) (o := none) (fun w h => words_length (List.mem_of_mem_take h)) (fun _ z => by cases z)
      rw [getD_at hw, fold_take (due1 t its) hw]
      generalize ((words t.bits).take i).foldl (due1 t its) none = o at hD
      obtain ⟨hfb, hfl⟩ := frame_b ht hwlen
      have b8 := bits8 ht
      have hpf := far_pb hi hfb pb01
      have hpf : PB (far its (frameL t wd)) := hpf
      refine ⟨[3], _, ptg_name 3 nd, ?_⟩
      refine pb_set 4 nd (pv_call (g_law_frame T) (hr.mono (by decide)) (t, wd) ⟨ht, by show wd.length ≤ 8; omega⟩ (pvs_cons (pv_var 0) (pvs_cons (pv_var 3) pvs_nil))) ?_
      rw [due1_eq]
      refine pb_if (N1 := fun ρ' => ∃ s3 s4 s5, ρ' = [.im (tD t), .im (buD its), .im (dueD (if (frameL t wd).length = its.length then better o (far its (frameL t wd)) wd else o)), s3, s4, s5]) (x := decide ((frameL t wd).length = its.length)) ((pt_eqI (pv_lenT (ds := (frameL t wd).map D.int) T.b_len (pv_var 4)) (pv_lenT (ds := its.map itD) T.b_len (pv_var 1))).is (by rw [List.length_map, List.length_map, dec_nat])) (fun hx => ?_) (fun hx => ?_) (fun ρ' hρ => pb_nil hρ)
      · have hx := of_decide_eq_true hx
        rw [if_pos hx]
        refine pb_set 5 nd (pv_call (g_law_farthest T) (hr.mono (by decide)) (its, frameL t wd) ⟨hi, hfb⟩ (pvs_cons (pv_var 1) (pvs_cons (pv_var 4) pvs_nil))) ?_
        show PBd _ C _ ([.im (tD t), .im (buD its), .im (dueD o), .im (wD wd), .im (iTup (frameL t wd)), .im (pD (far its (frameL t wd)))] : List Sl) _ _
        generalize far its (frameL t wd) = Fa at hpf
        cases o with
        | none =>
          refine pb_if (N1 := fun ρ' => ∃ s3 s4 s5, ρ' = [.im (tD t), .im (buD its), .im (dueD (better none Fa wd)), s3, s4, s5]) (x := true) (PWt.pt (pw_o0 (pt_isN (d := .non) (pv_var 2)))) (fun _ => ?_) (fun z => by cases z) (fun ρ' hρ => pb_nil hρ)
          exact pb_set 2 nd (pv_tup (pvs_cons (pv_var 5) (pvs_cons (pv_var 3) pvs_nil))) (pb_nil ⟨_, _, _, rfl⟩)
        | some q =>
          obtain ⟨q1, q2⟩ := q
          have hq := hD _ rfl
          have eb : better (some (q1, q2)) Fa wd = if less Fa q1 then some (Fa, wd) else some (q1, q2) := rfl
          rw [eb]
          refine pb_if (N1 := fun ρ' => ∃ s3 s4 s5, ρ' = [.im (tD t), .im (buD its), .im (dueD (if less Fa q1 then some (Fa, wd) else some (q1, q2))), s3, s4, s5]) (x := false || less Fa q1) (PWt.pt (pw_o (x := false) (pt_isN (d := dueD (some (q1, q2))) (pv_var 2)) fun _ => pw_o1 (pt_pv (pv_call (g_law_is_less T) (hr.mono (by decide)) (Fa, q1) ⟨hpf.big, hq.1.big⟩ (pvs_cons (pv_var 5) (pvs_cons (pv_ix (ds := [pD q1, wD q2]) (pv_var 2) pv_int rfl) pvs_nil)))))) (fun hx => ?_) (fun hx => ?_) (fun ρ' hρ => pb_nil hρ)
          · rw [Bool.false_or] at hx
            rw [if_pos hx]
            exact pb_set 2 nd (pv_tup (pvs_cons (pv_var 5) (pvs_cons (pv_var 3) pvs_nil))) (pb_nil ⟨_, _, _, rfl⟩)
          · rw [Bool.false_or] at hx
            rw [if_neg (by rw [hx]; decide)]
            exact pb_nil ⟨_, _, _, rfl⟩
      · have hx := of_decide_eq_false hx
        rw [if_neg hx]
        exact pb_nil ⟨_, _, _, rfl⟩
    · obtain ⟨s3, s4, s5, rfl⟩ := hρ
      rw [hwl, List.take_length]
      exact pb_ret (pv_var 2) rfl
end
end Bf

namespace Bf
open PySem PySem.Spec PyProof.Rows L2 BF
/-! ### the draw -/
def drE (c : Addr) (at_ left used : Int) : List (L2.Key × V) := [(.inr "cells", .ref c), (.inr "at", .int at_), (.inr "left", .int left), (.inr "used", .int used)]
/-- the draw at a, exactly -/
def drX (K : PySem.W.Frag) (a c : Addr) (xs : List Int) (at_ left used : Int) : OwnO where
  ok := fun B H p => p = a ∧ H a = some (.dK (drE c at_ left used)) ∧ SqL K B c (xs.map V.int)
  keep := fun {B B' H H' p} h eB im e => by
    obtain ⟨rfl, h2, h3⟩ := h
    exact ⟨rfl, by rw [e]; exact h2, sqL_ex eB h3⟩
  one := fun {B H p} h => by
    obtain ⟨rfl, h2, h3⟩ := h
    exact ⟨_, h2, rfl, fun xs z => by cases z⟩
/-- the draw at a, used up to u -/
def drO (K : PySem.W.Frag) (a c : Addr) (xs : List Int) (u : Nat) : OwnO where
  ok := fun B H p => ∃ at_ left used : Int, (0 ≤ used ∧ used ≤ u) ∧ (drX K a c xs at_ left used).ok B H p
  keep := fun {B B' H H' p} h eB im e => by
    obtain ⟨x, y, z, h1, h2⟩ := h
    exact ⟨x, y, z, h1, (drX K a c xs x y z).keep h2 eB im e⟩
  one := fun {B H p} h => by
    obtain ⟨x, y, z, h1, h2⟩ := h
    exact (drX K a c xs x y z).one h2
def drC (c : Addr) (u : Nat) (H : Hp) (a : Addr) : Prop := ∃ at_ left used : Int, (0 ≤ used ∧ used ≤ u) ∧ H a = some (.dK (drE c at_ left used))
theorem drC.mono {c a : Addr} {u v : Nat} {H : Hp} (h : drC c u H a) (e : u ≤ v) : drC c v H a := by
  obtain ⟨x, y, z, ⟨h1, h2⟩, h3⟩ := h
  exact ⟨x, y, z, ⟨h1, by omega⟩, h3⟩
/-- all but the draw -/
def wo (H : Hp) (a : Addr) : Hp := fun b => if b = a then none else H b
theorem wo_ne {H : Hp} {a b : Addr} (h : b ≠ a) : wo H a b = H b := by unfold wo; rw [if_neg h]
theorem wo_at {H : Hp} {a : Addr} : wo H a a = none := by unfold wo; rw [if_pos rfl]
theorem wo_ex (H : Hp) (a : Addr) : Ex (wo H a) H := fun b o h => by
  by_cases e : b = a
  · subst e; rw [wo_at] at h; cases h
  · rw [wo_ne e] at h; exact h
theorem ex_wo {H0 H : Hp} {a : Addr} (e : Ex H0 H) (h : H0 a = none) : Ex H0 (wo H a) := fun b o hb => by
  rw [wo_ne (ne_of_none hb h)]
  exact e b o hb
/-- what moves: the draw alone, and what is new -/
def Mv (ad : Addr) (H H' : Hp) : Prop := Im H H' ∧ ∀ b o, b ≠ ad → H b = some o → H' b = some o
theorem Mv.refl (ad : Addr) (H : Hp) : Mv ad H H := ⟨Im.refl H, fun _ _ _ h => h⟩
theorem Mv.trans {ad : Addr} {H H1 H2 : Hp} (a : Mv ad H H1) (b : Mv ad H1 H2) : Mv ad H H2 := ⟨a.1.trans b.1, fun x o h e => b.2 x o h (a.2 x o h e)⟩
theorem Ex.mv {ad : Addr} {H H' : Hp} (e : Ex H H') : Mv ad H H' := ⟨e.im, fun b o _ h => e b o h⟩
section
variable {X : Cx} {C ad : Addr} {ρ ρ' ρ1 ρ2 : List Sl} {e a b c : Expr} {es : List Expr} {d da : D} {ds : List D} {pos pos' : Pos} {x y : Bool} {i j : Int}
/-! ### expressions that draw -/
def PD (X : Cx) (C ad : Addr) (e : Expr) (ρ ρ' : List Sl) (T : D → Prop) : Prop := ∀ (σ : L2.St) (H0 H : Hp), RS X.K C H0 H σ ρ → ∀ Q : VK, (∀ (v : V) (H' : Hp) (d : D), Mv ad H H' → RS X.K C H0 H' σ ρ' → Rep X.K C H0 H' v d → T d → Q v H') → EE X e σ H Q
def PDs (X : Cx) (C ad : Addr) (es : List Expr) (ρ ρ' : List Sl) (T : List D → Prop) : Prop := ∀ (σ : L2.St) (H0 H : Hp), RS X.K C H0 H σ ρ → ∀ Q : List V → Hp → Prop, (∀ (vs : List V) (H' : Hp) (ds : List D), Mv ad H H' → RS X.K C H0 H' σ ρ' → Reps X.K C H0 H' vs ds → T ds → Q vs H') → EA X es σ H Q
theorem PV.dd (h : PV X C e ρ d) : PD X C ad e ρ ρ (fun z => z = d) := fun σ H0 H rs Q q => h σ H0 H rs Q fun v H1 e1 r1 => q v H1 d e1.mv (rs.ex e1) r1 rfl
theorem PD.mono {T U : D → Prop} (h : PD X C ad e ρ ρ' T) (hT : ∀ d, T d → U d) : PD X C ad e ρ ρ' U := fun σ H0 H rs Q q => h σ H0 H rs Q fun v H1 d im r1 r2 t => q v H1 d im r1 r2 (hT d t)
theorem pds_nil : PDs X C ad [] ρ ρ (fun ds => ds = []) := fun σ H0 H rs Q q => ea pa_nil (q [] H [] (Mv.refl ad H) rs .nil rfl)
theorem pds_cons {T : D → Prop} {T2 : List D → Prop} (h : PD X C ad e ρ ρ1 T) (hr : PDs X C ad es ρ1 ρ2 T2) (hs : starEach (e :: es) X.env = (false, eval e X.env) :: starEach es X.env := by rfl) : PDs X C ad (e :: es) ρ ρ2 (fun ds => ∃ d ds', ds = d :: ds' ∧ T d ∧ T2 ds') := fun σ H0 H rs Q q =>
  ea (pa_cons (pe X e) (pa X es) hs) (h σ H0 H rs _ fun v H1 d im1 rs1 r1 t => hr σ H0 H1 rs1 _ fun vs H2 ds im2 rs2 r2 t2 => q _ H2 (d :: ds) (im1.trans im2) rs2 (.cons (Rep.im im2.1 _ _ r1) r2) ⟨d, ds, rfl, t, t2⟩)
theorem pd_tup {k} {T : List D → Prop} (h : PDs X C ad es ρ ρ' T) (hl : ∀ ds, T ds → ds.length ≤ 1000) : PD X C ad (.Tuple es k pos) ρ ρ' (fun d => ∃ ds, d = .tup ds ∧ T ds) := fun σ H0 H rs Q q =>
  ee (pe_tup (pa X es)) (h σ H0 H rs _ fun vs H1 ds im1 rs1 r1 t => ⟨by rw [r1.length]; exact small' (hl ds t), fun p hp => q _ _ (.tup ds) (im1.trans (Ex.new hp).mv) (rs1.ex (Ex.new hp)) (.tup (SqT.of upd_same) (r1.ex (Ex.new hp))) ⟨ds, rfl, t⟩⟩)
/-- ints -/
abbrev isI (T : Int → Prop) : D → Prop := fun d => ∃ i, d = .int i ∧ T i
theorem pd_op {op : Operator} {g : Int → Int → Int} {c : Int → Int → Prop} {T U : Int → Prop} (ho : OpR X (binaryOp op) (rI c fun i j => .int (g i j))) (ha : PD X C ad a ρ ρ1 (isI T)) (hb : PD X C ad b ρ1 ρ2 (isI U)) (hc : ∀ i j, T i → U j → c i j) : PD X C ad (.BinOp a op b pos) ρ ρ2 (isI fun z => ∃ i j, T i ∧ U j ∧ z = g i j) := fun σ H0 H rs Q q =>
  ee (pe_op ho (pe X a) (pe X b)) (ha σ H0 H rs _ fun v H1 d im1 rs1 r1 t => hb σ H0 H1 rs1 _ fun u H2 d2 im2 rs2 r2 t2 => by
    obtain ⟨i, rfl, ti⟩ := t
    obtain ⟨j, rfl, tj⟩ := t2
    exact ⟨i, j, r1.int_inv, r2.int_inv, hc i j ti tj, q _ H2 (.int (g i j)) (im1.trans im2) rs2 (.int _) ⟨_, rfl, i, j, ti, tj, rfl⟩⟩)
theorem op_add' : OpR X (binaryOp .Add) (rI (fun _ _ => True) fun i j => .int (i + j)) := fun pins s σ H x y v u Q I rx ry h => by
  obtain ⟨i, j, h1, h2, _, q⟩ := h
  exact op_add pins s σ H x y v u Q I rx ry ⟨i, j, h1, h2, q⟩
theorem pd_int (h : PV X C e ρ (.int i)) : PD X C ad e ρ ρ (isI fun z => z = i) := (PV.dd h).mono fun d e => ⟨i, e, rfl⟩
/-- l[e], l data, e draws -/
theorem pd_ixL (k : Nat) {z : Str} {p2 : Pos} (hd : ρ[k]? = some (Sl.im (.lst ds))) (hd' : ρ'[k]? = some (Sl.im (.lst ds))) (hb : PD X C ad b ρ ρ' (isI fun i => 0 ≤ i ∧ i < (ds.length : Int))) (hs : PlainIx b := by intro _ _; rfl) (hN : X.N[k]? = some z := by rfl) (hv : Vis X.env.scope z := by first | exact Or.inl rfl | exact Or.inr (Or.inl rfl) | exact Or.inr (Or.inr rfl))
    (h1 : (z == ("__debug__" : Str)) = false := by decide) (h2 : (z == ("__classdict__" : Str)) = false := by decide) : PD X C ad (.Subscript (.Name z p2) b pos) ρ ρ' (fun d => d ∈ ds) := fun σ H0 H rs Q q => by
  obtain ⟨v, hs', hr⟩ := rs.im k _ hd
  refine ee (pe_ix ix_list (pe_var hN hv h1 h2) (pe X b) hs) ⟨v, hs', hb σ H0 H rs _ fun u H1 d im1 rs1 r1 t => ?_⟩
  obtain ⟨i, rfl, hi1, hi2⟩ := t
  obtain ⟨v', hs2, hr2⟩ := rs1.im k _ hd'
  rw [hs'] at hs2
  cases hs2
  obtain ⟨p, xs, e1, hp, hx⟩ := hr2.lst_inv
  subst e1
  have hj : i.toNat < ds.length := by omega
  have e2 : i = ((i.toNat : Nat) : Int) := by omega
  obtain ⟨w, hw, rw'⟩ := hx.get (List.getElem?_eq_getElem hj)
  exact ⟨p, xs, i, w, rfl, r1.int_inv, sqL_ex rs1.base hp, by rw [e2]; exact atI_nat hw, q w H1 _ im1 rs1 rw' (List.getElem_mem hj)⟩
/-! ### tests that draw -/
def PDt (X : Cx) (C ad : Addr) (e : Expr) (ρ ρ' : List Sl) : Prop := ∀ (σ : L2.St) (H0 H : Hp), RS X.K C H0 H σ ρ → ∀ Q : Bool → Hp → Prop, (∀ (x : Bool) (H' : Hp), Mv ad H H' → RS X.K C H0 H' σ ρ' → Q x H') → ET X e σ H Q
theorem pdt_eq0 {k} {p2 : Pos} {T : Int → Prop} (ha : PD X C ad a ρ ρ' (isI T)) : PDt X C ad (.Compare a [.Eq] [.Constant (.int j) k p2] pos) ρ ρ' := fun σ H0 H rs Q q =>
  et (pt_cmpR op_eq (pe X a) pe_int (nomark _)) (ha σ H0 H rs _ fun v H1 d im1 rs1 r1 t => by
    obtain ⟨i, rfl, _⟩ := t
    rw [r1.int_inv]
    exact ⟨rfl, _, rfl, q _ H1 im1 rs1⟩)
theorem pdt_or {p : Pos} (h : PDt X C ad a ρ ρ') {y : Bool} (k : PTt X C b ρ' y) : PDt X C ad (.BoolOp .Or [a, b] p) ρ ρ' := fun σ H0 H rs Q q pins s I => by
  refine ew (pw_or (pt X a) (pw_or1 (pt X b))) (h σ H0 H rs _ fun x H1 im1 rs1 => ?_) _ pins s I
  cases x with
  | false =>
    refine iteF ?_
    exact k σ H0 H1 rs1 Q fun H2 e2 => q y H2 (im1.trans e2.mv) (rs1.ex e2)
  | true =>
    refine iteT ?_
    exact q true H1 im1 rs1
/-! ### statements over what draws -/
variable {N : List Sl → Prop} {R : Wv → List Sl → Prop} {rest body els : List Stmt} {z : Str}
theorem pbd_if {N1 : List Sl → Prop} (hc : PDt X C ad c ρ ρ1) (h1 : PBd X C body ρ1 N1 R) (h2 : PBd X C els ρ1 N1 R) (k : ∀ ρ', N1 ρ' → PBd X C rest ρ' N R) : PBd X C (.If c body els pos :: rest) ρ N R := fun σ H0 H rs D nx rt =>
  ess_cons (Bf.es (ps_if (pt X c) (pss X body) (pss X els)) (hc σ H0 H rs _ fun x H1 im1 rs1 => by
    cases x with
    | true =>
      refine iteT ?_
      exact h1 σ H0 H1 rs1 _ (fun σ' H' B ρ' eB im rs' n => k ρ' n σ' B H' rs' D (fun σ2 H2 B2 ρ2 eB2 im2 => nx σ2 H2 B2 ρ2 (eB.trans eB2) ((im1.1.trans im).trans im2)) fun v H2 B2 w σ2 ρ2 eB2 => rt v H2 B2 w σ2 ρ2 (eB.trans eB2)) rt
    | false =>
      refine iteF ?_
      exact h2 σ H0 H1 rs1 _ (fun σ' H' B ρ' eB im rs' n => k ρ' n σ' B H' rs' D (fun σ2 H2 B2 ρ2 eB2 im2 => nx σ2 H2 B2 ρ2 (eB.trans eB2) ((im1.1.trans im).trans im2)) fun v H2 B2 w σ2 ρ2 eB2 => rt v H2 B2 w σ2 ρ2 (eB.trans eB2)) rt))
theorem pbd_ifR (hc : PDt X C ad c ρ ρ1) (h1 : PBd X C body ρ1 (fun _ => False) R) (h2 : PBd X C rest ρ1 N R) : PBd X C (.If c body [] pos :: rest) ρ N R :=
  pbd_if (N1 := fun ρ' => ρ' = ρ1) hc (pb_mono h1 (fun _ z => z.elim) fun _ _ z => z) (pb_nil rfl) fun ρ' q => by rw [q]; exact h2
theorem pbd_set (i : Nat) {T : D → Prop} (hN : X.N.Nodup) (h : PD X C ad e ρ ρ1 T) (k : ∀ d, T d → PBd X C rest (ρ1.set i (.im d)) N R) (hi : X.N[i]? = some z := by rfl) (hx : Loc X.env.scope z := by first | exact Or.inl rfl | exact Or.inr rfl) (hs : swapsWith e (some (.Name z pos')) pos.line X.env = pure false := by rfl)
    (hf : X.fn z = true ∨ X.env.scope.names.lookup z = some .local := by first | exact .inl rfl | exact .inr rfl) : PBd X C (.Assign [.Name z pos'] e pos :: rest) ρ N R := fun σ H0 H rs D nx rt =>
  ess_cons (Bf.es (ps_set hN hi hx (pe X e) hs hf) (h σ H0 H rs _ fun v H1 d im1 rs1 r1 t => k d t _ H0 H1 (rs1.set r1) D (fun σ' H' B ρ' eB im => nx σ' H' B ρ' eB (im1.1.trans im)) rt))
theorem pbd_ret {T : D → Prop} (h : PD X C ad e ρ ρ1 T) (hR : ∀ d, T d → R (.im d) ρ1) : PBd X C (.Return (some e) pos :: rest) ρ N R := fun σ H0 H rs D nx rt =>
  ess_cons (Bf.es (ps_ret (pe X e)) (h σ H0 H rs _ fun v H1 d im1 rs1 r1 t => rt v H1 H0 (.im d) σ ρ1 (Ex.refl H0) rs1 r1 (hR d t)))
/-- a, b = x, y -/
theorem pbd_par (i j : Nat) {T : List D → Prop} {zx zy : Str} {px py pt : Pos} {kt k2 : Nat} {pt2 : Pos} (hN : X.N.Nodup) (h : PDs X C ad [a, b] ρ ρ1 T) (k : ∀ da db, T [da, db] → PBd X C rest ((ρ1.set i (.im da)).set j (.im db)) N R) (hi : X.N[i]? = some zx := by rfl) (hj : X.N[j]? = some zy := by rfl) (hij : i ≠ j := by decide)
    (hl : ∀ ds, T ds → ds.length = 2)
    (hx : X.env.scope.names.lookup zx = some .local := by rfl) (hy : X.env.scope.names.lookup zy = some .local := by rfl) (hw : swappedStores [.Tuple [.Name zx px, .Name zy py] kt pt] (.Tuple [a, b] k2 pt2) X.env = pure (some [zx, zy]) := by rfl)
    (hs : swapsWithSole [.Tuple [.Name zx px, .Name zy py] kt pt] (.Tuple [a, b] k2 pt2) pos.line X.env = pure false := by rfl) (hc : X.calm = true := by rfl) : PBd X C (.Assign [.Tuple [.Name zx px, .Name zy py] kt pt] (.Tuple [a, b] k2 pt2) pos :: rest) ρ N R := fun σ H0 H rs D nx rt =>
  ess_cons (Bf.es (ps_par hc hN hi hj hij hx hy (pa X [a, b]) hw hs) (h σ H0 H rs _ fun vs H1 ds im1 rs1 r1 t => by
    have h2 := hl ds t
    match ds, h2, t, r1 with
    | [da, db], _, t, r1 =>
      obtain ⟨v, u, e2, r2, r3⟩ := reps2 r1
      exact ⟨v, u, e2, k da db t _ H0 H1 ((rs1.set r2).set r3) D (fun σ' H' B ρ' eB im => nx σ' H' B ρ' eB (im1.1.trans im)) rt⟩))

/-! ### calls of defs that draw -/
abbrev LIM : Nat := 2 ^ 40
def spD {α : Type} (K : PySem.W.Frag) (C : Addr) (arg : α → List D) (pre : α → Prop) (cost : α → Nat) (T : α → D → Prop) : Sp := fun vs H Q _ => ∃ (y : α) (a c : Addr) (xs : List Int) (u : Nat) (vs' : List V), vs = .ref a :: vs' ∧ Reps K C (wo H a) H vs' (arg y) ∧ (drO K a c xs u).ok (wo H a) H a ∧ xs ≠ [] ∧ pre y ∧ u + cost y ≤ LIM ∧
  ∀ (v : V) (H' : Hp) (d : D), (∀ b o, b ≠ a → H b = some o → H' b = some o) → drC c (u + cost y) H' a → (∀ B, Rep K C B H' v d) → T y d → Q v H'
abbrev dw (X : Cx) (a c : Addr) (xs : List Int) (u : Nat) : Sl := .ob (drO X.K a c xs u)
theorem pd_callG {α : Type} {arg : α → List D} {pre : α → Prop} {cost : α → Nat} {T : α → D → Prop} {n k : Nat} {p p2 : Pos} {zf : Str} {cd : Addr} {xs : List Int} {u : Nat} (G : GFn X.prog X.w X.K X.mg X.base zf n (spD X.K C arg pre cost T)) (hr : Room n X.A) (hd : ρ[k]? = some (dw X ad cd xs u)) (y : α) (hp : pre y) (hxs : xs ≠ []) (hu : u + cost y ≤ LIM)
    (ha : ∀ (σ : L2.St) (H0 H : Hp), RS X.K C H0 H σ ρ → ∀ Q : List V → Hp → Prop, (∀ (vs : List V) (H' : Hp), Ex H H' → Reps X.K C (wo H' ad) H' vs (arg y) → Q vs H') → EA X es σ H Q)
    (hN : X.N[k]? = some z := by rfl) (hv : Vis X.env.scope z := by first | exact Or.inl rfl | exact Or.inr (Or.inl rfl) | exact Or.inr (Or.inr rfl))
    (h1 : (z == ("__debug__" : Str)) = false := by decide) (h2 : (z == ("__classdict__" : Str)) = false := by decide) (hg : Gl X zf := by rfl) (hdb : (zf == ("__debug__" : Str)) = false := by decide)
    (he : starEach (.Name z p2 :: es) X.env = (false, eval (.Name z p2) X.env) :: starEach es X.env := by rfl) (hpl : (backTo pos (starEach es X.env)).any (·.1) = false := by rfl) :
    PD X C ad (.Call (.Name zf p) (.Name z p2 :: es) [] pos) ρ (ρ.set k (dw X ad cd xs (u + cost y))) (T y) := fun σ H0 H rs Q q => by
  obtain ⟨t, hst, h0, hok⟩ := rs.ob k _ hd
  obtain ⟨at_, left, used, hu2, rfl, hc, hxl⟩ := id hok
  refine ee (pe_g G hr (pa_cons (pe_var hN hv h1 h2) (pa X es) he) hg hdb he hpl) ⟨.ref t, hst, ha σ H0 H rs _ fun vs H1 e1 r1 => ?_⟩
  show spD X.K C arg pre cost T ((.ref t :: vs) ++ []) H1 Q E0
  rw [List.append_nil]
  have rs1 := rs.ex e1
  obtain ⟨t', hst', _, hok1⟩ := rs1.ob k _ hd
  rw [hst] at hst'
  cases hst'
  have eB : Ex H0 (wo H1 t) := ex_wo rs1.base h0
  refine ⟨y, t, cd, xs, u, vs, rfl, r1, (drO X.K t cd xs u).keep hok1 eB (Im.refl H1) rfl, hxs, hp, hu, fun v H2 d hk hC hr2 ht => ?_⟩
  obtain ⟨o, ho, hio, hno⟩ := (drO X.K t cd xs u).one hok1
  have im : Im H1 H2 := fun b w hb hw => by
    by_cases e : b = t
    · subst e
      rw [ho] at hb
      cases hb
      rw [hio] at hw
      cases hw
    · exact hk b w e hb
  obtain ⟨x1, x2, x3, h5, h6⟩ := hC
  have rs2 := rs1.mutB (O' := drO X.K t cd xs (u + cost y)) hd hst hk ⟨x1, x2, x3, h5, rfl, h6, hxl⟩
  exact q v H2 d (e1.mv.trans ⟨im, hk⟩) rs2 (hr2 H0) ht
theorem pd_call {α : Type} {arg : α → List D} {pre : α → Prop} {cost : α → Nat} {T : α → D → Prop} {n : Nat} (k : Nat) {p p2 : Pos} {zf : Str} {cd : Addr} {xs : List Int} {u : Nat} (G : GFn X.prog X.w X.K X.mg X.base zf n (spD X.K C arg pre cost T)) (hr : Room n X.A) (hd : ρ[k]? = some (dw X ad cd xs u)) (y : α) (hp : pre y) (hxs : xs ≠ []) (hu : u + cost y ≤ LIM)
    (ha : PVs X C es ρ (arg y))
    (hN : X.N[k]? = some z := by rfl) (hv : Vis X.env.scope z := by first | exact Or.inl rfl | exact Or.inr (Or.inl rfl) | exact Or.inr (Or.inr rfl))
    (h1 : (z == ("__debug__" : Str)) = false := by decide) (h2 : (z == ("__classdict__" : Str)) = false := by decide) (hg : Gl X zf := by rfl) (hdb : (zf == ("__debug__" : Str)) = false := by decide)
    (he : starEach (.Name z p2 :: es) X.env = (false, eval (.Name z p2) X.env) :: starEach es X.env := by rfl) (hpl : (backTo pos (starEach es X.env)).any (·.1) = false := by rfl) :
    PD X C ad (.Call (.Name zf p) (.Name z p2 :: es) [] pos) ρ (ρ.set k (dw X ad cd xs (u + cost y))) (T y) :=
  pd_callG G hr hd y hp hxs hu (fun σ H0 H rs Q q => ha σ H0 H rs Q fun vs H1 e1 r1 => by
    obtain ⟨t, hst, h0, _, _, _, _, rfl, _⟩ := rs.ob k _ hd
    exact q vs H1 e1 (Reps.gr (ex_wo (rs.base.trans e1) h0) _ _ r1)) hN hv h1 h2 hg hdb he hpl
/-- one argument more: a new list -/
theorem pd_callL {α : Type} {pre : α → Prop} {cost : α → Nat} {T : α → D → Prop} {n : Nat} (k : Nat) {p p2 : Pos} {zf : Str} {cd : Addr} {xs : List Int} {u : Nat} {lst : α → List D} (G : GFn X.prog X.w X.K X.mg X.base zf n (spD X.K C (fun y => [.lst (lst y)]) pre cost T)) (hr : Room n X.A) (hd : ρ[k]? = some (dw X ad cd xs u)) (y : α) (hp : pre y) (hxs : xs ≠ []) (hu : u + cost y ≤ LIM)
    (ha : PL X C e ρ (lst y))
    (hN : X.N[k]? = some z := by rfl) (hv : Vis X.env.scope z := by first | exact Or.inl rfl | exact Or.inr (Or.inl rfl) | exact Or.inr (Or.inr rfl))
    (h1 : (z == ("__debug__" : Str)) = false := by decide) (h2 : (z == ("__classdict__" : Str)) = false := by decide) (hg : Gl X zf := by rfl) (hdb : (zf == ("__debug__" : Str)) = false := by decide)
    (he : starEach [.Name z p2, e] X.env = (false, eval (.Name z p2) X.env) :: starEach [e] X.env := by rfl) (hpl : (backTo pos (starEach [e] X.env)).any (·.1) = false := by rfl)
    (hse : starEach [e] X.env = (false, eval e X.env) :: starEach [] X.env := by rfl) :
    PD X C ad (.Call (.Name zf p) [.Name z p2, e] [] pos) ρ (ρ.set k (dw X ad cd xs (u + cost y))) (T y) :=
  pd_callG (es := [e]) (arg := fun y => [D.lst (lst y)]) G hr hd y hp hxs hu (fun σ H0 H rs Q q => ea (pa_cons (pe X e) pa_nil hse) (ha σ H0 H rs _ fun t ys H1 ht e1 hl r1 => by
    obtain ⟨s, hst, h0, hok⟩ := rs.ob k _ hd
    obtain ⟨o, ho, _⟩ := (drO X.K ad cd xs u).one hok
    obtain ⟨_, _, _, _, rfl, _⟩ := hok
    have hne : t ≠ s := fun z => by rw [z, ho] at ht; cases ht
    exact q [.ref t] H1 e1 (.cons (.lst (SqL.of (by rw [wo_ne hne]; exact hl)) (Reps.gr (ex_wo (rs.base.trans e1) h0) _ _ r1)) .nil))) hN hv h1 h2 hg hdb he hpl
end
/-! ### a def that draws keeps its promise -/
theorem rs_startD {K : PySem.W.Frag} {C : Addr} {H : Hp} {N : List Str} {a : Addr} {vs : List V} {ds : List D} {O : OwnO} (r : Reps K C (wo H a) H vs ds) (hO : O.ok (wo H a) H a) : RS K C (wo H a) H (L2.start N (.ref a :: vs)) (.ob O :: (ds.map Sl.im ++ List.replicate (N.length - (ds.length + 1)) Sl.un)) := by
  have r0 : Reps K C (wo H a) (wo H a) [.non] [.non] := .cons .non .nil
  have hl := r.length
  -- data slots, the first put in after
  have rs0 : RS K C (wo H a) H (L2.start N (.non :: vs)) (start' N (.non :: ds)) := by
    refine ⟨wo_ex H a, by unfold L2.start start'; simp [hl], fun i d hi => ?_, fun i es hi => ?_, fun i j es fs p _ hi => ?_, fun i U hi => ?_, fun i j U W p _ hi => ?_⟩
    all_goals
      unfold start' at hi
      rw [List.getElem?_append] at hi
      split at hi
    · rename_i hlt
      rw [List.getElem?_map] at hi
      cases hd : (D.non :: ds)[i]? with
      | none => rw [hd] at hi; cases hi
      | some d' =>
        rw [hd] at hi
        cases hi
        obtain ⟨v, hv, rv⟩ := Reps.get (K := K) (C := C) (B := wo H a) (H := H) (vs := .non :: vs) (.cons .non r) hd
        refine ⟨v, ?_, rv⟩
        unfold L2.start
        have hvl := (List.getElem?_eq_some_iff.mp hv).1
        rw [List.getElem?_append_left (by simpa using hvl), List.getElem?_map, hv]
        rfl
    · rw [List.getElem?_replicate] at hi
      split at hi <;> cases hi
    all_goals first
      | (rw [List.getElem?_map] at hi; cases hd : (D.non :: ds)[i]? with
          | none => rw [hd] at hi; cases hi
          | some d' => rw [hd] at hi; cases hi)
      | (rw [List.getElem?_replicate] at hi; split at hi <;> cases hi)
  have hno : ∀ (j : Nat) (U : OwnO), (start' N (D.non :: ds))[j]? ≠ some (.ob U) := fun j U hi => by
    unfold start' at hi
    rw [List.getElem?_append] at hi
    split at hi
    · rw [List.getElem?_map] at hi
      cases hd : (D.non :: ds)[j]? with
      | none => rw [hd] at hi; cases hi
      | some d' => rw [hd] at hi; cases hi
    · rw [List.getElem?_replicate] at hi
      split at hi <;> cases hi
  exact rs0.setB (i := 0) wo_at hO fun j U hj => absurd hj (hno j U)
abbrev start0 (N : List Str) (O : OwnO) (ds : List D) : List Sl := .ob O :: (ds.map Sl.im ++ List.replicate (N.length - (ds.length + 1)) Sl.un)
/-- what a def that draws hands back -/
def RD (K : PySem.W.Frag) (a c : Addr) (xs : List Int) (u : Nat) (T : D → Prop) : Wv → List Sl → Prop := fun w ρ => ∃ d, w = .im d ∧ T d ∧ ∃ u', u' ≤ u ∧ ρ[0]? = some (.ob (drO K a c xs u'))
section
variable {P : Program} {w : World} {K : PySem.W.Frag} {mg : Str → Option Value} {base : Heap} {C : Addr}
theorem gD {α : Type} {arg : α → List D} {pre : α → Prop} {cost : α → Nat} {T : α → D → Prop} {x : Str} {st : Stmt} {N ps : List Str} {k : Nat} (F : DefAt K mg x st) (S : FnScope N ps (defScope st)) (hlen : ∀ y, (arg y).length + 1 = ps.length) (hb : BindsOk x st ps) (hflat : ∀ y d, T y d → d.flat = true)
    (body : ∀ (f : Addr) (y : α), pre y → ∀ (a c : Addr) (xs : List Int) (u : Nat), xs ≠ [] → u + cost y ≤ LIM → ∀ (cdv : Value) (A : Around) (outer : List Env) (s : Shared) (H : Hp) (E : XK), Room k (A.deeper (envOfC x (defScope st) s.heap.objs.size f cdv)) → PBd (fX P w K mg base N x st f cdv A outer s H E) C (defBody st) (start0 N (drO K a c xs u) (arg y)) (fun _ => False) (RD K a c xs (u + cost y) (T y))) :
    GFn P w K mg base x (k + 1) (spD K C arg pre cost T) := by
  obtain ⟨f, fd, F, hm⟩ := F.ex
  refine ⟨f, fd, ps, F.ok S (fun vs H Q E h => ?_) (fun cdv A outer s H vs Q E hr h => ?_), hm, F.kp, F.binds hb⟩
  · obtain ⟨y, a, c, xs, u, vs', rfl, r, _⟩ := h
    rw [List.length_cons, r.length, hlen]
  · obtain ⟨y, a, c, xs, u, vs', rfl, r, hok, hxs, hp, hu, q⟩ := h
    refine ⟨_, pss _ (defBody st), ?_⟩
    refine body f y hp a c xs u hxs hu cdv A outer s H E hr _ (wo H a) H (rs_startD r hok) _ (fun _ _ _ _ _ _ _ z => z.elim) fun v H' B w σ' ρ' eB rs' rw' hw => ?_
    obtain ⟨d, rfl, ht, u', hu', hs⟩ := hw
    obtain ⟨t, _, _, x1, x2, x3, h1, rfl, h2, _⟩ := rs'.ob 0 _ hs
    refine q v H' d (fun b o hb ho => ?_) (drC.mono ⟨x1, x2, x3, h1, h2⟩ hu') (fun B' => Rep.fl _ _ (hflat y d ht) rw') ht
    refine rs'.base b o (eB b o ?_)
    rw [wo_ne hb]
    exact ho
end
end Bf

namespace Bf
open PySem PySem.Spec PyProof.Rows L2 BF
section
variable {X : Cx} {C : Addr} {ρ ρ' ρ1 ρ2 : List Sl} {e a b c : Expr} {es : List Expr} {d da : D} {ds : List D} {pos pos' : Pos} {x y : Bool} {i j : Int}
variable {N : List Sl → Prop} {R : Wv → List Sl → Prop} {rest body els : List Stmt} {z : Str} {ad cd : Addr} {xs : List Int} {at_ left used : Int}
abbrev ex (X : Cx) (ad cd : Addr) (xs : List Int) (at_ left used : Int) : Sl := .ob (drX X.K ad cd xs at_ left used)
theorem pb_conv (k : Nat) {O O' : OwnO} {sts : List Stmt} (hd : ρ[k]? = some (.ob O)) (hO : ∀ B H p, O.ok B H p → O'.ok B H p) (h : PBd X C sts (ρ.set k (.ob O')) N R) : PBd X C sts ρ N R := fun σ H0 H rs D nx rt => by
  obtain ⟨t, hst, h0, hok⟩ := rs.ob k _ hd
  exact h σ H0 H (rs.mutB hd hst (fun _ _ _ e => e) (hO _ _ _ hok)) D nx rt
theorem pb_exact (k : Nat) {u : Nat} {sts : List Stmt} (hd : ρ[k]? = some (dw X ad cd xs u)) (h : ∀ at_ left used : Int, 0 ≤ used → used ≤ u → PBd X C sts (ρ.set k (ex X ad cd xs at_ left used)) N R) : PBd X C sts ρ N R := fun σ H0 H rs D nx rt => by
  obtain ⟨t, hst, h0, x1, x2, x3, ⟨h1, h2⟩, hok⟩ := rs.ob k _ hd
  exact h x1 x2 x3 h1 h2 σ H0 H (rs.mutB hd hst (fun _ _ _ e => e) hok) D nx rt
/-- draw['..'] -/
theorem pv_dget (k : Nat) {p2 p3 : Pos} {kc} {ky : Str} {v : Int} (hu : X.A.units + 1 < cLine) (hd : ρ[k]? = some (ex X ad cd xs at_ left used)) (hl : valV (drE cd at_ left used) (.inr ky) = some (.int v)) (hN : X.N[k]? = some z := by rfl) (hv : Vis X.env.scope z := by first | exact Or.inl rfl | exact Or.inr (Or.inl rfl) | exact Or.inr (Or.inr rfl))
    (h1 : (z == ("__debug__" : Str)) = false := by decide) (h2 : (z == ("__classdict__" : Str)) = false := by decide) (hs : NoSl (.Constant (.str ky) kc p3) := by intro _ _; rfl) : PV X C (.Subscript (.Name z p2) (.Constant (.str ky) kc p3) pos) ρ (.int v) := fun σ H0 H rs Q q => by
  obtain ⟨t, hst, h0, rfl, hc, _⟩ := rs.ob k _ hd
  exact ee (pe_dget hu (pe_var hN hv h1 h2) pe_str hs) ⟨.ref t, hst, t, .int v, rfl, hl ▸ DGet.k (k := .inr ky) hc, q _ H (Ex.refl H) (.int v)⟩
theorem pv_dcells (k : Nat) {p2 p3 : Pos} {kc} (hu : X.A.units + 1 < cLine) (hd : ρ[k]? = some (ex X ad cd xs at_ left used)) (hl : valV (drE cd at_ left used) (.inr "cells") = some (.ref cd)) (hN : X.N[k]? = some z := by rfl) (hv : Vis X.env.scope z := by first | exact Or.inl rfl | exact Or.inr (Or.inl rfl) | exact Or.inr (Or.inr rfl))
    (h1 : (z == ("__debug__" : Str)) = false := by decide) (h2 : (z == ("__classdict__" : Str)) = false := by decide) (hs : NoSl (.Constant (.str "cells") kc p3) := by intro _ _; rfl) : PV X C (.Subscript (.Name z p2) (.Constant (.str "cells") kc p3) pos) ρ (.lst (xs.map D.int)) := fun σ H0 H rs Q q => by
  obtain ⟨t, hst, h0, rfl, hc, hx⟩ := rs.ob k _ hd
  have rx : ∀ l : List Int, Reps X.K C H0 H (l.map V.int) (l.map D.int) := fun l => by
    induction l with
    | nil => exact .nil
    | cons i l ih => exact .cons (.int i) ih
  exact ee (pe_dget hu (pe_var hN hv h1 h2) pe_str hs) ⟨.ref t, hst, t, .ref cd, rfl, hl ▸ DGet.k (k := .inr "cells") hc, q _ H (Ex.refl H) (.lst hx (rx xs))⟩
/-- draw['..'] = e -/
theorem pb_dset (k : Nat) {p2 p3 p4 : Pos} {kc} {ky : Str} {v at2 left2 used2 : Int} (hu : X.A.units + 1 < cLine) (hd : ρ[k]? = some (ex X ad cd xs at_ left used)) (hb : PV X C b ρ (.int v)) (hl : putK (drE cd at_ left used) (.inr ky) (.int v) = drE cd at2 left2 used2) (hk : PBd X C rest (ρ.set k (ex X ad cd xs at2 left2 used2)) N R)
    (hN : X.N[k]? = some z := by rfl) (hv : Vis X.env.scope z := by first | exact Or.inl rfl | exact Or.inr (Or.inl rfl) | exact Or.inr (Or.inr rfl))
    (h1 : (z == ("__debug__" : Str)) = false := by decide) (h2 : (z == ("__classdict__" : Str)) = false := by decide) (hs : swapsWith b (some (.Subscript (.Name z p2) (.Constant (.str ky) kc p3) p4)) pos.line X.env = pure false := by rfl) : PBd X C (.Assign [.Subscript (.Name z p2) (.Constant (.str ky) kc p3) p4] b pos :: rest) ρ N R := fun σ H0 H rs D nx rt => by
  refine ess_cons (Bf.es (ps_dput hu (pe_var hN hv h1 h2) pe_str (pe X b) hs) (hb σ H0 H rs _ fun w H1 e1 r1 => ?_))
  obtain ⟨t, hst, h0, hok⟩ := (rs.ex e1).ob k _ hd
  obtain ⟨rfl, hc, hx⟩ := id hok
  rw [r1.int_inv]
  have im : Im H1 (upd H1 t (.dK (drE cd at2 left2 used2))) := Im.upd hc rfl
  refine ⟨.ref t, hst, t, _, rfl, DPut.k (k := .inr ky) hc (by show (4 : Nat) < sizeLine; decide), ?_⟩
  rw [hl]
  exact hk σ H0 _ ((rs.ex e1).mutB (H' := upd H1 t (.dK (drE cd at2 left2 used2))) hd hst (fun b o hb ho => by rw [upd_ne hb]; exact ho) ⟨rfl, upd_same, hx⟩) D (fun σ' H' B ρ' eB im' => nx σ' H' B ρ' eB ((e1.im.trans im).trans im')) rt
/-- x, draw['left'] = t -/
theorem pb_asgD (i k : Nat) {zx : Str} {px p2 p3 p4 pt : Pos} {kc} {kt : Nat} {ky : Str} {v at2 left2 used2 : Int} (hu : X.A.units + 1 < cLine) (hNd : X.N.Nodup) (hik : i ≠ k) (hd : ρ[k]? = some (ex X ad cd xs at_ left used)) (hb : PV X C b ρ (.tup [d, .int v])) (hl : putK (drE cd at_ left used) (.inr ky) (.int v) = drE cd at2 left2 used2) (hk : PBd X C rest ((ρ.set i (.im d)).set k (ex X ad cd xs at2 left2 used2)) N R)
    (hi : X.N[i]? = some zx := by rfl) (hx : Loc X.env.scope zx := by first | exact Or.inl rfl | exact Or.inr rfl) (hf : X.fn zx = true ∨ X.env.scope.names.lookup zx = some .local := by first | exact .inl rfl | exact .inr rfl)
    (hN : X.N[k]? = some z := by rfl) (hv : Vis X.env.scope z := by first | exact Or.inl rfl | exact Or.inr (Or.inl rfl) | exact Or.inr (Or.inr rfl))
    (h1 : (z == ("__debug__" : Str)) = false := by decide) (h2 : (z == ("__classdict__" : Str)) = false := by decide)
    (hs : swapsWithSole [.Tuple [.Name zx px, .Subscript (.Name z p2) (.Constant (.str ky) kc p3) p4] kt pt] b pos.line X.env = pure false := by rfl) (hw : swappedStores [.Tuple [.Name zx px, .Subscript (.Name z p2) (.Constant (.str ky) kc p3) p4] kt pt] b X.env = pure none := by rfl)
    (hc : X.calm = true := by rfl) (he1 : (assignEach [.Tuple [.Name zx px, .Subscript (.Name z p2) (.Constant (.str ky) kc p3) p4] kt pt] X.env).map (·.2) = [assign (.Tuple [.Name zx px, .Subscript (.Name z p2) (.Constant (.str ky) kc p3) p4] kt pt) X.env] := by rfl)
    (hg : PG X (.Tuple [.Name zx px, .Subscript (.Name z p2) (.Constant (.str ky) kc p3) p4] kt pt) (gTup X.K 2 (gCons (gName i) (gCons (gSub (tVar k) (tC (.str ky)) rSetD) gNil)))) :
    PBd X C (.Assign [.Tuple [.Name zx px, .Subscript (.Name z p2) (.Constant (.str ky) kc p3) p4] kt pt] b pos :: rest) ρ N R := fun σ H0 H rs D nx rt => by
  refine ess_cons (Bf.es (ps_asg (pe X b) hg hs hw he1) (hb σ H0 H rs _ fun w H1 e1 r1 => ?_))
  obtain ⟨t, ys, ew, hq, hys⟩ := r1.tup_inv
  subst ew
  obtain ⟨v1, v2, ey, r2, r3⟩ := reps2 hys
  subst ey
  rw [r3.int_inv] at hq
  have rs1 := (rs.ex e1).set (i := i) r2
  have hd2 : (ρ.set i (.im d))[k]? = some (ex X ad cd xs at_ left used) := by rw [List.getElem?_set_ne hik]; exact hd
  obtain ⟨s, hst, h0, hok⟩ := rs1.ob k _ hd2
  obtain ⟨rfl, hcc, hx⟩ := id hok
  have im : Im H1 (upd H1 s (.dK (drE cd at2 left2 used2))) := Im.upd hcc rfl
  refine ⟨t, [v1, .int v], rfl, hq, rfl, v1, _, rfl, .int v, [], rfl, .ref s, hst, s, upd H1 s (.dK (drE cd at2 left2 used2)), rfl, ?_, rfl, ?_⟩
  · rw [← hl]
    exact DPut.k (k := .inr ky) hcc (by show (4 : Nat) < sizeLine; decide)
  · exact hk _ H0 _ (rs1.mutB (H' := upd H1 s (.dK (drE cd at2 left2 used2))) hd2 hst (fun b o hb ho => by rw [upd_ne hb]; exact ho) ⟨rfl, upd_same, hx⟩) D (fun σ' H' B ρ' eB im' => nx σ' H' B ρ' eB ((e1.im.trans im).trans im')) rt
theorem val_at : valV (drE cd at_ left used) (.inr "at") = some (.int at_) := by rfl
theorem val_left : valV (drE cd at_ left used) (.inr "left") = some (.int left) := by rfl
theorem val_used : valV (drE cd at_ left used) (.inr "used") = some (.int used) := by rfl
theorem val_cells : valV (drE cd at_ left used) (.inr "cells") = some (.ref cd) := by rfl
theorem put_at {v : Int} : putK (drE cd at_ left used) (.inr "at") (.int v) = drE cd v left used := by rfl
theorem put_left {v : Int} : putK (drE cd at_ left used) (.inr "left") (.int v) = drE cd at_ v used := by rfl
theorem put_used {v : Int} : putK (drE cd at_ left used) (.inr "used") (.int v) = drE cd at_ left v := by rfl
end
end Bf

namespace Bf
open PySem PySem.Spec PyProof.Rows L2 BF
section
variable {P : Program} {w : World} {K : PySem.W.Frag} {mg : Str → Option Value} {base : Heap} {C : Addr}
abbrev lnN : List Str := ["draw", "many", "cell", "cells", "number", "k"]
theorem sc_law_next : FnScope lnN ["draw", "many"] (defScope s_law_next) := ⟨rfl, rfl, rfl, by decide +kernel, rfl, by decide +kernel, by decide +kernel⟩
abbrev upTo (m : Int) : D → Prop := isI fun i => 0 ≤ i ∧ i < m
theorem isI_flat {T : Int → Prop} {d : D} (h : isI T d) : d.flat = true := by
  obtain ⟨i, rfl, _⟩ := h
  rfl
abbrev sp_law_next (K : PySem.W.Frag) (C : Addr) : Sp := spD K C (fun m : Int => [.int m]) (fun m => 0 < m ∧ m < 1073741824) (fun _ => 1) upTo
theorem emod_in {a m : Int} (h : 0 < m) : 0 ≤ a % m ∧ a % m < m := ⟨Int.emod_nonneg a (by omega), Int.emod_lt_of_pos a h⟩
theorem g_law_next (T : Tx w K mg C) : GFn P w K mg base "_law_next" 1 (sp_law_next K C) :=
  gD T.d_law_next sc_law_next (fun _ => rfl) (fun _ _ _ _ _ _ us hl => match us, hl with | [_, _], _ => rfl) (fun _ _ h => isI_flat h) fun f m hm ad cd xs u hxs hu cdv A outer s H E hr => by
    obtain ⟨hm1, hm2⟩ := hm
    have nd := sc_law_next.nd
    have hu1 := hu_of hr
    have hxl : 0 < (xs.map D.int).length := by rw [List.length_map]; exact List.length_pos_iff.mpr hxs
    have huL : u + 1 ≤ LIM := hu
    have hrd : ∀ (i : Int) (ρ : List Sl), ρ[0]? = some (.ob (drO K ad cd xs (u + 1))) → RD K ad cd xs (u + 1) (upTo m) (.im (.int (i % m))) ρ := fun i ρ h => ⟨_, rfl, ⟨_, rfl, emod_in hm1⟩, _, Nat.le_refl _, h⟩
    have toO : ∀ at_ left used : Int, 0 ≤ used → used ≤ ((u + 1 : Nat) : Int) → ∀ B H p, (drX K ad cd xs at_ left used).ok B H p → (drO K ad cd xs (u + 1)).ok B H p := fun x y z h1 h2 B H p h => ⟨x, y, z, ⟨h1, h2⟩, h⟩
    refine pb_exact 0 rfl fun at_ left used h1 h2 => ?_
    refine pb_ifR (pt_gt (pv_dget 0 hu1 rfl val_left) pv_int) (fun hx => ?_) (fun hx => ?_)
    · refine pb_asgD 2 0 hu1 nd (by decide) rfl (pv_tup (pvs_cons (pv_dget 0 hu1 rfl val_left) (pvs_cons (pv_fdiv (pv_dget 0 hu1 rfl val_left) (pv_var 1) ⟨hm1, hm2⟩) pvs_nil))) put_left ?_ (hg := pg_tup rfl (pgs_cons (pg_name nd rfl (.inl rfl) (.inl rfl)) (pgs_cons (pg_sub (pe_var rfl (.inl rfl) (by decide) (by decide)) pe_str (set_dict hu1)) pgs_nil)))
      refine pb_conv 0 rfl (toO _ _ _ h1 (by omega)) ?_
      exact pb_ret (pv_mod (pv_var 2) (pv_var 1) hm1) (hrd _ _ rfl)
    · refine pb_set 3 nd (pv_dcells 0 hu1 rfl val_cells) ?_
      have hpos : 0 < ((xs.map D.int).length : Int) := by omega
      obtain ⟨hi1, hi2⟩ := emod_in (a := at_) hpos
      have hj : (at_ % ((xs.map D.int).length : Int)).toNat < xs.length := by rw [List.length_map] at hi1 hi2 ⊢; omega
      obtain ⟨cell, hcell⟩ : ∃ cell, xs[(at_ % ((xs.map D.int).length : Int)).toNat]? = some cell := ⟨_, List.getElem?_eq_getElem hj⟩
      have hat : atI (xs.map D.int) (at_ % ((xs.map D.int).length : Int)) = some (.int cell) := by
        have e : at_ % ((xs.map D.int).length : Int) = (((at_ % ((xs.map D.int).length : Int)).toNat : Nat) : Int) := by omega
        rw [e]
        refine atI_nat ?_
        rw [List.getElem?_map, hcell]
        rfl
      refine pb_set 2 nd (pv_ixL (pr_lst (pv_var 3)) (pv_mod (pv_dget 0 hu1 rfl val_at) (pv_lenL T.b_len (pr_lst (pv_var 3))) hpos) hat) ?_
      refine pb_dset 0 hu1 rfl (pv_add (pv_dget 0 hu1 rfl val_at) pv_int) put_at ?_
      refine pb_ifR (PWt.pt (pw_a (pt_ge (pv_var 2) (pv_opC op_pow ⟨by decide, by decide, by decide⟩ pv_int pv_int)) fun _ => pw_a1 (pt_le (pv_dget 0 hu1 rfl val_at) (pv_lenL T.b_len (pr_lst (pv_var 3)))))) (fun hx => ?_) (fun hx => ?_)
      · refine pb_dset 0 hu1 rfl (pv_fdiv (pv_var 2) (pv_var 1) ⟨hm1, hm2⟩) put_left ?_
        refine pb_conv 0 rfl (toO _ _ _ h1 (by omega)) ?_
        exact pb_ret (pv_mod (pv_var 2) (pv_var 1) hm1) (hrd _ _ rfl)
      · refine pb_dset 0 hu1 rfl (pv_add (pv_dget 0 hu1 rfl val_used) pv_int) put_used ?_
        have hub : -(2 ^ 64) < used + 1 ∧ used + 1 < 2 ^ 64 := by
          have hL : (LIM : Nat) = 1099511627776 := by decide
          rw [hL] at huL
          omega
        refine pb_set 4 nd (pv_add (pv_mod (pv_var 2) pv_int (by decide)) (pv_mul (pv_mul pv_int (pv_dget 0 hu1 rfl val_used) (.inl (by decide))) (pv_dget 0 hu1 rfl val_used) (.inr hub))) ?_
        refine pb_for (pis_tup (ds := [.int (at_ + 1), .int (used + 1)]) (pv_tup (pvs_cons (pv_dget 0 hu1 rfl val_at) (pvs_cons (pv_dget 0 hu1 rfl val_used) pvs_nil)))).tt (fun i ρ' => ∃ (num : Int) (s5 : Sl), ρ' = [.ob (drX K ad cd xs (at_ + 1) left (used + 1)), .im (.int m), .im (.int cell), .im (.lst (xs.map D.int)), .im (.int num), s5]) ⟨_, .un, rfl⟩ (fun i ρ' hi hρ => ?_) (fun ρ' hρ => ?_)
        · obtain ⟨num, s5, rfl⟩ := hρ
          obtain ⟨kk, hk⟩ : ∃ kk : Int, ([D.int (at_ + 1), .int (used + 1)] : List D).getD i .non = .int kk := by
            have hi : i < 2 := hi
            match i, hi with
            | 0, _ => exact ⟨_, rfl⟩
            | 1, _ => exact ⟨_, rfl⟩
          rw [hk]
          refine ⟨[5], _, ptg_name 5 nd, ?_⟩
          have hkm := emod_in (a := kk) (show (0 : Int) < 1000 by decide)
          refine pb_set 4 nd (pv_mod (pv_mul (pv_add (pv_add (pv_var 4) (pv_mul pv_int (pv_var 5) (.inl (by decide)))) pv_int) pv_int (.inr (by decide))) pv_int (by decide)) ?_
          refine pb_set 4 nd (pv_mod (pv_mul (pv_var 4) (pv_add pv_int (pv_mul pv_int (pv_mod (pv_var 5) pv_int (by decide)) (.inl (by decide)))) (.inr ⟨by omega, by omega⟩)) pv_int (by decide)) (pb_nil ⟨_, _, rfl⟩)
        · obtain ⟨num, s5, rfl⟩ := hρ
          refine pb_conv 0 rfl (toO _ _ _ (by omega) (by omega)) ?_
          exact pb_ret (pv_mod (pv_fdiv (pv_var 4) pv_int ⟨by decide, by decide⟩) (pv_var 1) hm1) (hrd _ _ rfl)

/-! ### _law_pick, _law_size -/
theorem sc_law_pick : FnScope ["draw", "some"] ["draw", "some"] (defScope s_law_pick) := ⟨rfl, rfl, rfl, by decide +kernel, rfl, by decide +kernel, by decide +kernel⟩
abbrev sp_law_pick (K : PySem.W.Frag) (C : Addr) : Sp := spD K C (fun y : List D => [.lst y]) (fun y => y ≠ [] ∧ y.length ≤ 1000 ∧ ∀ d ∈ y, d.flat = true) (fun _ => 1) (fun y d => d ∈ y ∧ d.flat = true)
theorem g_law_pick (T : Tx w K mg C) : GFn P w K mg base "_law_pick" 2 (sp_law_pick K C) :=
  gD T.d_law_pick sc_law_pick (fun _ => rfl) (fun _ _ _ _ _ _ us hl => match us, hl with | [_, _], _ => rfl) (fun _ _ h => h.2) fun f y hy ad cd xs u hxs hu cdv A outer s H E hr => by
    obtain ⟨h1, h2, h3⟩ := hy
    have hpos : 0 < y.length := List.length_pos_iff.mpr h1
    exact pbd_ret (pd_ixL 1 (ds := y) rfl rfl (pd_call 0 (g_law_next T) hr rfl (y.length : Int) ⟨by omega, by omega⟩ hxs hu (pvs_cons (pv_lenL T.b_len (pr_lst (pv_var 1))) pvs_nil))) fun d hd => ⟨d, rfl, ⟨hd, h3 d hd⟩, _, Nat.le_refl _, rfl⟩
end
end Bf

namespace Bf
open PySem PySem.Spec PyProof.Rows L2 BF
section
variable {K : PySem.W.Frag} {C : Addr} {H0 H : Hp} {σ σ' : L2.St} {ρ : List Sl}
/-- a list beside the slots changes -/
theorem RS.side {D : Addr} {xs ys : List V} (r : RS K C H0 H σ ρ) (h0 : H0 D = none) (hl : H D = some (.lst xs)) (hno : ∀ (i : Nat) (ds : List Bf.D), ρ[i]? = some (.ow ds) → σ[i]? ≠ some (some (V.ref D))) : RS K C H0 (upd H D (.lst ys)) σ ρ := by
  have im : Im H (upd H D (.lst ys)) := Im.upd hl rfl
  refine ⟨Ex.mut r.base h0, r.len, fun i d h => ?_, fun i ds h => ?_, r.df, fun i O h => ?_, r.dd⟩
  · obtain ⟨v, h1, h2⟩ := r.im i d h
    exact ⟨v, h1, Rep.im im _ _ h2⟩
  · obtain ⟨p, zs, h1, h2, h3, h4⟩ := r.ow i ds h
    have hne : p ≠ D := fun z => by subst z; exact hno i ds h h1
    exact ⟨p, zs, h1, h2, by rw [upd_ne hne]; exact h3, Reps.im im _ _ h4⟩
  · obtain ⟨p, h1, h2, h3⟩ := r.ob i O h
    obtain ⟨o, ho, _, hn⟩ := O.one h3
    have hne : p ≠ D := fun z => by
      subst z
      rw [hl] at ho
      exact hn xs (Option.some.inj ho).symm
    exact ⟨p, h1, h2, O.keep h3 (Ex.refl H0) im (by rw [upd_ne hne])⟩
/-- from wiped slots back -/
theorem RS.unwipe {vs : List Nat} (r : RS K C H0 H (L2.wipe σ vs) ρ) (hu : ∀ j ∈ vs, ρ[j]? = some .un) : RS K C H0 H σ ρ := by
  have key : ∀ (j : Nat) (s : Sl), ρ[j]? = some s → s ≠ .un → (L2.wipe σ vs)[j]? = σ[j]? := fun j s hj hs => by
    rw [wipe_get, if_neg]
    intro hm
    rw [hu j hm] at hj
    exact hs (Option.some.inj hj).symm
  refine ⟨r.base, by rw [← r.len, wipe_length], fun i d h => ?_, fun i ds h => ?_, fun i j ds es p hne h1 h2 h3 => ?_, fun i O h => ?_, fun i j O U p hne h1 h2 h3 => ?_⟩
  · obtain ⟨v, h1, h2⟩ := r.im i d h
    exact ⟨v, by rw [← key i _ h (fun z => by cases z)]; exact h1, h2⟩
  · obtain ⟨p, zs, h1, h2⟩ := r.ow i ds h
    exact ⟨p, zs, by rw [← key i _ h (fun z => by cases z)]; exact h1, h2⟩
  · rw [← key i _ h1 (fun z => by cases z)] at h3
    rw [← key j _ h2 (fun z => by cases z)]
    exact r.df i j ds es p hne h1 h2 h3
  · obtain ⟨p, h1, h2⟩ := r.ob i O h
    exact ⟨p, by rw [← key i _ h (fun z => by cases z)]; exact h1, h2⟩
  · rw [← key i _ h1 (fun z => by cases z)] at h3
    rw [← key j _ h2 (fun z => by cases z)]
    exact r.dd i j O U p hne h1 h2 h3
end
section
variable {X : Cx} {C ad : Addr} {ρ ρ0 : List Sl} {a elt tg : Expr} {pos pos' p p2 : Pos} {scope : Scope} {own : List (Str × Nat)}
theorem tYes_i {σ : L2.St} {H : Hp} {Q : Bool → Hp → Prop} (h : Q true H) : tYes σ H Q := h
/-- [elt for tg in range(a)], all of it draws: a new list -/
theorem pd_lc {M : Nat} {ρs : Nat → List Sl} {T : D → Prop} {Q : VK} {σ : L2.St} {H0 H : Hp} {O : OwnO} (hob : ∃ k : Nat, (ρs 0)[k]? = some (.ob O) ∧ ∀ B H p, O.ok B H p → p = ad) (hN : X.N.Nodup) (hm : X.mg "range" = none) (rs : RS X.K C H0 H σ ρ) (hM : M ≤ 100000) {U : Int → Prop} (ha : PD X C ad a ρ (ρs 0) (isI U)) (hU : ∀ n, U n → 0 ≤ n ∧ n ≤ (M : Int)) (ok : BlkOk X.N X.env.scope scope own)
    (hun : ∀ i, ∀ j ∈ own.map (·.2), (ρs i)[j]? = some .un) (hno : ∀ (i j : Nat) (ds : List D), (ρs i)[j]? ≠ some (Sl.ow ds))
    (turn : ∀ i, i < M → ∃ (js : List Nat) (ρ2 ρ3 : List Sl), (∀ j ∈ js, j ∈ own.map (·.2)) ∧ (∀ (s : Shared) (H : Hp) (Ca : Addr) (cl : List (Str × Addr)) (fp : List Addr), PTg (bX X scope s H Ca cl fp) C tg js (ρs i) (.int (i : Int)) ρ2) ∧
      (∀ (s : Shared) (H : Hp) (Ca : Addr) (cl : List (Str × Addr)) (fp : List Addr), PD (bX X scope s H Ca cl fp) C ad elt ρ2 ρ3 T) ∧ wipeS ρ3 (own.map (·.2)) = ρs (i + 1))
    (q : ∀ (n : Nat) (p : Addr) (xs : List V) (H' : Hp) (ds : List D), U (n : Int) → n ≤ M → Mv ad H H' → RS X.K C H0 H' σ (ρs n) → H0 p = none → H' p = some (.lst xs) → Reps X.K C H0 H' xs ds → ds.length = n → (∀ d ∈ ds, T d) → (∀ (i : Nat) (es : List D), (ρs n)[i]? = some (.ow es) → σ[i]? ≠ some (some (V.ref p))) → Q (.ref p) H')
    (hg : Gl X "range" := by rfl) (hs : starEach [a] X.env = [(false, eval a X.env)] := by rfl) (hse : starEach [a] X.env = (false, eval a X.env) :: starEach [] X.env := by rfl) (hc : X.calm = true := by rfl) (hf : ∀ x, foldedSetIterable (.Call (.Name "range" p) [a] [] p2) X.env x = pure x := by intro _; rfl) :
    EE X (.ListComp elt [⟨tg, .Call (.Name "range" p) [a] [] p2, [], 0⟩] scope pos) σ H Q := by
  refine ee (pe_lc (own := own) hc hN (pi_range1 (tg := tg) hg hm (pa_cons (pe X a) pa_nil hse) hs) ok (gSem_ok scope tg) (pts_n scope) (eSem_ok scope elt) hf) ?_
  refine ha σ H0 H rs _ fun v H1 d im1 rs1 r1 t => ?_
  obtain ⟨i, rfl, hUi⟩ := t
  obtain ⟨hi0, hiM⟩ := hU i hUi
  refine ⟨i, by rw [r1.int_inv], by omega, by omega, fun Dl hD => ?_⟩
  have hD0 : H0 Dl = none := rs1.base.free hD
  have hDa : Dl ≠ ad := fun z => by
    obtain ⟨k, hk, hO⟩ := hob
    obtain ⟨p, _, _, h3⟩ := rs1.ob k O hk
    have := hO _ _ _ h3
    obtain ⟨o, ho, _⟩ := O.one h3
    rw [this, ← z, hD] at ho
    cases ho
  have hw := walk_range (lo := 0) (n := i.toNat)
  have hne : ∀ n (j : Nat) (es : List D), (ρs n)[j]? = some (.ow es) → σ[j]? ≠ some (some (V.ref Dl)) := fun n j es h => absurd h (hno n j es)
  refine lc_it hw (fun j H' => Mv ad H1 H' ∧ RS X.K C H0 H' σ (ρs j) ∧ ∃ acc ds, H' Dl = some (.lst acc) ∧ Reps X.K C H0 H' acc ds ∧ ds.length = j ∧ ∀ d ∈ ds, T d) ⟨(Ex.new hD).mv, rs1.ex (Ex.new hD), [], [], upd_same, .nil, rfl, fun _ h => nomatch h⟩ (fun _ _ _ _ => trivial) (fun j x Ha Hb hlt pv y => ?_) fun H' pv => ?_
  · obtain ⟨ima, rsa, acc, ds, hacc, hr, hl, hT⟩ := pv
    obtain ⟨e3, e4⟩ := y
    subst e3 e4
    obtain ⟨js, ρ2, ρ3, hjs, htg, hel, hρ⟩ := turn j (by omega)
    intro s0 H00 Ca cl fp pins s1 u I rv
    have rsw : RS X.K C H0 Hb (wipe σ (own.map (·.2))) (ρs j) := by
      have h1 := rsa.wipe (own.map (·.2))
      have e : wipeS (ρs j) (own.map (·.2)) = ρs j := by
        have : ∀ vs : List Nat, (∀ v ∈ vs, (ρs j)[v]? = some .un) → wipeS (ρs j) vs = ρs j := fun vs => by
          induction vs with
          | nil => intro _; rfl
          | cons v vs ih =>
            intro h
            show (wipeS (ρs j) vs).set v .un = _
            rw [ih fun w hw => h w (List.mem_cons_of_mem _ hw)]
            refine List.ext_getElem? fun k => ?_
            by_cases hk : v = k
            · subst hk
              have hv := h v (List.mem_cons_self ..)
              have hlv := (List.getElem?_eq_some_iff.mp hv).1
              rw [List.getElem?_set_self hlv, hv]
            · rw [List.getElem?_set_ne hk]
        exact this _ (hun j)
      rw [e] at h1
      exact h1
    have rx : Rep X.K C H0 Hb (V.int (0 + (j : Int))) (D.int (j : Int)) := by rw [Int.zero_add]; exact .int _
    refine htg s0 H00 Ca cl fp _ H0 Hb _ rsw rx pins s1 u _ I rv fun σ2 rs2 hl2 hk2 => ⟨wipe_wipe hl2 hk2 hjs, ?_⟩
    refine tYes_i ?_
    refine iteT ?_
    intro s2 H02 Ca2 cl2 fp2
    refine hel s2 H02 Ca2 cl2 fp2 σ2 H0 Hb rs2 _ fun v H4 d im4 rs4 r4 t4 => ?_
    have hD4 : H4 Dl = some (.lst acc) := im4.2 Dl _ hDa hacc
    have im5 : Im H4 (upd H4 Dl (.lst (acc ++ [v]))) := Im.upd hD4 rfl
    have mv5 : Mv ad H1 (upd H4 Dl (.lst (acc ++ [v]))) := ⟨(ima.1.trans im4.1).trans im5, fun b o hb ho => by
      rw [upd_ne (ne_of_none ho hD)]
      exact im4.2 b o hb (ima.2 b o hb ho)⟩
    refine ⟨acc, hD4, ?_, mv5, ?_, acc ++ [v], ds ++ [d], upd_same, ?_, by rw [List.length_append, hl]; rfl, fun e he => ?_⟩
    · rw [hr.length, hl]
      have h100 : (100000 : Nat) < sizeLine := by rw [sizeLine_eq]; decide
      omega
    · have h1 := rs4.wipe (own.map (·.2))
      rw [hρ, wipe_wipe hl2 hk2 hjs] at h1
      exact (h1.unwipe (hun (j + 1))).side hD0 hD4 (hne (j + 1))
    · exact Reps.im im5 _ _ ((Reps.im im4.1 _ _ hr).append (.one r4))
    · rcases List.mem_append.mp he with he | he
      · exact hT e he
      · rw [List.mem_singleton.mp he]; exact t4
  · obtain ⟨im, rs', acc, ds, hacc, hr, hl, hT⟩ := pv
    exact q i.toNat Dl acc H' ds (by rw [show ((i.toNat : Nat) : Int) = i by omega]; exact hUi) (by omega) (im1.trans im) rs' hD0 hacc hr hl hT (hne _)
/-- tuple([elt for tg in range(a)]) -/
theorem pd_tupC {pt p3 : Pos} {M : Nat} {ρs : Nat → List Sl} {ρF : List Sl} {T : D → Prop} {O : OwnO} (hmt : X.mg "tuple" = none) (hob : ∃ k : Nat, (ρs 0)[k]? = some (Sl.ob O) ∧ ∀ B H p, O.ok B H p → p = ad) (hN : X.N.Nodup) (hm : X.mg "range" = none) (hM : M ≤ 1000) {U : Int → Prop} (ha : PD X C ad a ρ (ρs 0) (isI U)) (hU : ∀ n, U n → 0 ≤ n ∧ n ≤ (M : Int)) (ok : BlkOk X.N X.env.scope scope own)
    (hun : ∀ i, ∀ j ∈ own.map (·.2), (ρs i)[j]? = some .un) (hno : ∀ (i j : Nat) (ds : List D), (ρs i)[j]? ≠ some (Sl.ow ds))
    (turn : ∀ i, i < M → ∃ (js : List Nat) (ρ2 ρ3 : List Sl), (∀ j ∈ js, j ∈ own.map (·.2)) ∧ (∀ (s : Shared) (H : Hp) (Ca : Addr) (cl : List (Str × Addr)) (fp : List Addr), PTg (bX X scope s H Ca cl fp) C tg js (ρs i) (.int (i : Int)) ρ2) ∧
      (∀ (s : Shared) (H : Hp) (Ca : Addr) (cl : List (Str × Addr)) (fp : List Addr), PD (bX X scope s H Ca cl fp) C ad elt ρ2 ρ3 T) ∧ wipeS ρ3 (own.map (·.2)) = ρs (i + 1))
    (hF : ∀ (σ : L2.St) (H0 H : Hp) (n : Nat), n ≤ M → RS X.K C H0 H σ (ρs n) → RS X.K C H0 H σ ρF)
    (hg : Gl X "range" := by rfl) (hs : starEach [a] X.env = [(false, eval a X.env)] := by rfl) (hse : starEach [a] X.env = (false, eval a X.env) :: starEach [] X.env := by rfl) (hc : X.calm = true := by rfl) (hf : ∀ x, foldedSetIterable (.Call (.Name "range" p) [a] [] p2) X.env x = pure x := by intro _; rfl)
    (hgt : Gl X "tuple" := by rfl) (het : starEach [.ListComp elt [⟨tg, .Call (.Name "range" p) [a] [] p2, [], 0⟩] scope pos] X.env = (false, eval (.ListComp elt [⟨tg, .Call (.Name "range" p) [a] [] p2, [], 0⟩] scope pos) X.env) :: starEach [] X.env := by rfl) :
    PD X C ad (.Call (.Name "tuple" pt) [.ListComp elt [⟨tg, .Call (.Name "range" p) [a] [] p2, [], 0⟩] scope pos] [] p3) ρ ρF (fun d => ∃ ds, d = .tup ds ∧ U (ds.length : Int) ∧ ∀ d ∈ ds, T d) := fun σ H0 H rs Q q =>
  ee (pe_callTy call_tuple_of hgt hmt (show bootBuiltins "tuple" = some (.type "tuple") by decide +kernel) (pa_cons (pe X _) pa_nil het) (by decide) (by decide) het rfl)
    (pd_lc hob hN hm rs (by omega) ha hU ok hun hno turn (fun n t ys H' ds hn hnM mv rs' h0 hl hr hlen hT hne => ⟨t, ys, rfl, .inl ⟨SqL.of hl, fun r hr' => q (.ref r) (upd H' r (.tup ys)) (.tup ds) (mv.trans (Ex.new hr').mv) (hF _ _ _ n hnM (rs'.ex (Ex.new hr'))) (.tup (SqT.of upd_same) (hr.ex (Ex.new hr'))) ⟨ds, rfl, by rw [hlen]; exact hn, hT⟩⟩⟩) hg hs hse hc hf)
end
end Bf

namespace Bf
open PySem PySem.Spec PyProof.Rows L2 BF
theorem RS.conv {K : PySem.W.Frag} {C : Addr} {H0 H : Hp} {σ : L2.St} {ρ : List Sl} {O O' : OwnO} (k : Nat) (hd : ρ[k]? = some (.ob O)) (hO : ∀ B H p, O.ok B H p → O'.ok B H p) (r : RS K C H0 H σ ρ) : RS K C H0 H σ (ρ.set k (.ob O')) := by
  obtain ⟨t, hst, h0, hok⟩ := r.ob k _ hd
  exact r.mutB hd hst (fun _ _ _ e => e) (hO _ _ _ hok)
theorem drO_mono {K : PySem.W.Frag} {a c : Addr} {xs : List Int} {u v : Nat} (h : u ≤ v) : ∀ B H p, (drO K a c xs u).ok B H p → (drO K a c xs v).ok B H p := fun B H p hok => by
  obtain ⟨x, y, z, ⟨h1, h2⟩, h3⟩ := hok
  exact ⟨x, y, z, ⟨h1, by omega⟩, h3⟩
theorem drO_at {K : PySem.W.Frag} {a c : Addr} {xs : List Int} {u : Nat} : ∀ B H p, (drO K a c xs u).ok B H p → p = a := fun B H p hok => by
  obtain ⟨x, y, z, _, h3, _⟩ := hok
  exact h3
section
variable {X : Cx} {C ad : Addr} {ρ ρ' ρ1 ρ2 : List Sl} {e a b c : Expr} {es : List Expr} {d da : D} {ds : List D} {pos pos' : Pos} {x y : Bool} {i j : Int} {z : Str}
/-- int(b) -/
theorem pv_intB {p : Pos} (hm : X.mg "int" = none) (ha : PV X C a ρ (.bl x)) (hg : Gl X "int" := by rfl) (he : starEach [a] X.env = (false, eval a X.env) :: starEach [] X.env := by rfl) : PV X C (.Call (.Name "int" p) [a] [] pos) ρ (.int (if x then 1 else 0)) :=
  pv_callTy call_int1 hm boot_int' (pvs_cons ha pvs_nil he) (fun vs H Q r q => by
    obtain ⟨v, e, r1⟩ := reps1 r
    subst e
    rw [r1.bl_inv]
    exact .inr ⟨x, rfl, q _ H (Ex.refl H) (.int _)⟩) hg (by decide) (by decide) he rfl
/-- [..][e], e draws -/
theorem pd_ixN {O : OwnO} (hob : ∃ k : Nat, ρ[k]? = some (Sl.ob O) ∧ ∀ B H p, O.ok B H p → p = ad) (ha : PL X C a ρ ds) (hb : PD X C ad b ρ ρ' (isI fun i => 0 ≤ i ∧ i < (ds.length : Int))) (hs : PlainIx b := by intro _ _; rfl) : PD X C ad (.Subscript a b pos) ρ ρ' (fun d => d ∈ ds) := fun σ H0 H rs Q q => by
  refine ee (pe_ix ix_list (pe X a) (pe X b) hs) (ha σ H0 H rs _ fun p xs H1 hp e1 hl hx => hb σ H0 H1 (rs.ex e1) _ fun u H2 d im2 rs2 r2 t => ?_)
  obtain ⟨i, rfl, hi1, hi2⟩ := t
  have hpa : p ≠ ad := fun z => by
    obtain ⟨k, hk, hO⟩ := hob
    obtain ⟨q, _, _, h3⟩ := rs.ob k O hk
    have := hO _ _ _ h3
    obtain ⟨o, ho, _⟩ := O.one h3
    rw [this, ← z, hp] at ho
    cases ho
  have hl2 := im2.2 p _ hpa hl
  have hj : i.toNat < ds.length := by omega
  have e2 : i = ((i.toNat : Nat) : Int) := by omega
  obtain ⟨w, hw, rw'⟩ := hx.get (List.getElem?_eq_getElem hj)
  exact ⟨p, xs, i, w, rfl, r2.int_inv, SqL.of hl2, by rw [e2]; exact atI_nat hw, q w H2 _ (e1.mv.trans im2) rs2 (Rep.im im2.1 _ _ rw') (List.getElem_mem hj)⟩
/-- a call of a def that does not draw, its arguments draw -/
theorem pd_callP {α : Type} {arg : α → List D} {pre : α → Prop} {res : α → D} {T : List D → Prop} {k : Nat} {p : Pos} {z : Str} (G : GFn X.prog X.w X.K X.mg X.base z k (spF X.K C arg pre res)) (hr : Room k X.A) (ha : PDs X C ad (e :: es) ρ ρ' T) (hy : ∀ ds, T ds → ∃ y, ds = arg y ∧ pre y) (hg : Gl X z := by rfl) (hdb : (z == ("__debug__" : Str)) = false := by decide)
    (he : starEach (e :: es) X.env = (false, eval e X.env) :: starEach es X.env := by rfl) (hpl : (backTo pos (starEach es X.env)).any (·.1) = false := by rfl) : PD X C ad (.Call (.Name z p) (e :: es) [] pos) ρ ρ' (fun d => ∃ y, d = res y ∧ pre y ∧ T (arg y)) := fun σ H0 H rs Q q =>
  ee (pe_g G hr (pa X (e :: es)) hg hdb he hpl) (ha σ H0 H rs _ fun vs H1 ds im1 rs1 r1 t => by
    show spF X.K C arg pre res (vs ++ []) H1 Q E0
    rw [List.append_nil]
    obtain ⟨y, hds, hp⟩ := hy ds t
    subst hds
    exact ⟨y, Reps.gr rs1.base _ _ r1, hp, fun v H2 e2 r2 => q v H2 (res y) (im1.trans e2.mv) (rs1.ex e2) (r2 _) ⟨y, rfl, hp, t⟩⟩)
/-- Ratio(a, b), a and b draw -/
theorem pd_make {k : Nat} {p : Pos} {T : List D → Prop} (T0 : Tx X.w X.K X.mg C) (hr : Room (k + 4) X.A) (ha : PDs X C ad [a, b] ρ ρ' T) (hT : ∀ ds, T ds → ∃ n d : Int, ds = [.int n, .int d] ∧ 0 ≤ n ∧ 0 < d ∧ d < 2 ^ 30) (hg : Gl X "Ratio" := by rfl)
    (he : starEach [a, b] X.env = (false, eval a X.env) :: starEach [b] X.env := by rfl) (hpl : (backTo pos (starEach [b] X.env)).any (·.1) = false := by rfl) : PD X C ad (.Call (.Name "Ratio" p) [a, b] [] pos) ρ ρ' (fun z => ∃ n d : Int, z = tolD (ratio n d) ∧ T [.int n, .int d]) := fun σ H0 H rs Q q => by
  obtain ⟨f, fd, F, M⟩ := T0.r_init
  obtain ⟨ds, hv, hb⟩ := F.binds1 (ps := ["self", "num", "den"]) 3 1 (by simp) rfl fun T kV doc pm an cdv ct us its h1 h2 => match us, its, h1, h2 with
    | [_, _, _], [_], _, _ => ⟨_, rfl, rfl⟩
  cases hv
  refine ee (pe_make M (fn_R_init (P := X.prog) (base := X.base) T0 F) (hr.mono (by omega)) hg T0.R.gl hb .nil (E := E0) pass0 (pa X [a, b]) (by decide) he hpl) (ha σ H0 H rs _ fun vs H1 ds im1 rs1 r1 t x dx hx hdx hne => ?_)
  obtain ⟨n, d, rfl, hn, hd, hd2⟩ := hT ds t
  obtain ⟨v, u, ev, r2, r3⟩ := reps2 r1
  subst ev
  rw [r2.int_inv, r3.int_inv]
  refine ⟨x, dx, n, d, rfl, upd_same, hn, hd, hd2, fun H' hk hx' => ?_⟩
  have e2 : Ex H1 H' := fun b o hb1 => by
    refine hk b o (ne_of_none hb1 hx) ?_
    rw [upd_ne (ne_of_none hb1 hx), upd_ne (ne_of_none hb1 hdx)]
    exact hb1
  exact ⟨rfl, q _ H' _ (im1.trans e2.mv) (rs1.ex e2) (.rat hx') ⟨n, d, rfl, t⟩⟩
/-- a call of a def that draws, its other arguments draw too -/
theorem pd_callD {α : Type} {arg : α → List D} {pre : α → Prop} {cost : α → Nat} {T : α → D → Prop} {TA : List D → Prop} {n : Nat} (k : Nat) {m : Nat} {p p2 : Pos} {zf : Str} {cd : Addr} {xs : List Int} {u : Nat} (G : GFn X.prog X.w X.K X.mg X.base zf n (spD X.K C arg pre cost T)) (hr : Room n X.A) (hd : ρ[k]? = some (.ob (drO X.K ad cd xs u))) {u1 : Nat} (hd1 : ρ1[k]? = some (.ob (drO X.K ad cd xs u1))) (hxs : xs ≠ []) (ha : PDs X C ad es ρ ρ1 TA) (hy : ∀ ds, TA ds → ∃ y, ds = arg y ∧ pre y ∧ cost y = m) (hu : u1 + m ≤ LIM)
    (hN : X.N[k]? = some z := by rfl) (hv : Vis X.env.scope z := by first | exact Or.inl rfl | exact Or.inr (Or.inl rfl) | exact Or.inr (Or.inr rfl))
    (h1 : (z == ("__debug__" : Str)) = false := by decide) (h2 : (z == ("__classdict__" : Str)) = false := by decide) (hg : Gl X zf := by rfl) (hdb : (zf == ("__debug__" : Str)) = false := by decide)
    (he : starEach (.Name z p2 :: es) X.env = (false, eval (.Name z p2) X.env) :: starEach es X.env := by rfl) (hpl : (backTo pos (starEach es X.env)).any (·.1) = false := by rfl) :
    PD X C ad (.Call (.Name zf p) (.Name z p2 :: es) [] pos) ρ (ρ1.set k (.ob (drO X.K ad cd xs (u1 + m)))) (fun d => ∃ y, pre y ∧ TA (arg y) ∧ T y d) := fun σ H0 H rs Q q => by
  obtain ⟨t, hst, h0, hok⟩ := rs.ob k _ hd
  have et := drO_at _ _ _ hok
  subst et
  refine ee (pe_g G hr (pa_cons (pe_var hN hv h1 h2) (pa X es) he) hg hdb he hpl) ⟨.ref t, hst, ha σ H0 H rs _ fun vs H1 ds im1 rs1 r1 tt => ?_⟩
  show spD X.K C arg pre cost T ((.ref t :: vs) ++ []) H1 Q E0
  rw [List.append_nil]
  obtain ⟨y, hds, hp, hcost⟩ := hy ds tt
  subst hds
  obtain ⟨t', hst', _, hok1⟩ := rs1.ob k _ hd1
  rw [hst] at hst'
  cases hst'
  have eB : Ex H0 (wo H1 t) := ex_wo rs1.base h0
  obtain ⟨_, _, _, _, _, _, hxl⟩ := id hok1
  refine ⟨y, t, cd, xs, u1, vs, rfl, Reps.gr eB _ _ r1, (drO X.K t cd xs u1).keep hok1 eB (Im.refl H1) rfl, hxs, hp, by rw [hcost]; exact hu, fun v H2 d hk hC hr2 ht => ?_⟩
  obtain ⟨o, ho, hio, hno⟩ := (drO X.K t cd xs u1).one hok1
  have im : Im H1 H2 := fun b w hb hw => by
    by_cases e : b = t
    · subst e
      rw [ho] at hb
      cases hb
      rw [hio] at hw
      cases hw
    · exact hk b w e hb
  obtain ⟨x1, x2, x3, h5, h6⟩ := hC
  rw [hcost] at h5
  have rs2 := rs1.mutB (O' := drO X.K t cd xs (u1 + m)) hd1 hst hk ⟨x1, x2, x3, h5, rfl, h6, hxl⟩
  exact q v H2 d (im1.trans ⟨im, hk⟩) rs2 (hr2 H0) ⟨y, hp, tt, ht⟩
theorem PDs.mono {T U : List D → Prop} (h : PDs X C ad es ρ ρ' T) (hT : ∀ d, T d → U d) : PDs X C ad es ρ ρ' U := fun σ H0 H rs Q q => h σ H0 H rs Q fun v H1 d im r1 r2 t => q v H1 d im r1 r2 (hT d t)
theorem pd_mulP (ha : PD X C ad a ρ ρ' (isI fun i => 0 ≤ i ∧ i ≤ 4)) (hb : PV X C b ρ' (.int j)) : PD X C ad (.BinOp a .Mult b pos) ρ ρ' (isI fun z => ∃ i, (0 ≤ i ∧ i ≤ 4) ∧ z = i * j) :=
  (pd_op op_mul ha (pd_int hb) (fun i k hi hk => .inl ⟨by omega, by omega⟩)).mono fun d h => by
    obtain ⟨z, hz, i, k, hi, hk, e⟩ := h
    subst hk
    exact ⟨z, hz, i, hi, e⟩
end
end Bf

namespace Bf
open PySem PySem.Spec PyProof.Rows L2 BF
section
variable {P : Program} {w : World} {K : PySem.W.Frag} {mg : Str → Option Value} {base : Heap} {C : Addr}
section
variable {X : Cx} {ρ : List Sl} {e : Expr} {pos p p2 : Pos} {ad cd : Addr} {xs : List Int} {u : Nat} {z : Str} {m : Int}
/-- _law_next(draw, m) -/
theorem pd_next (k : Nat) (T : Tx X.w X.K X.mg C) (hr : Room 1 X.A) (hd : ρ[k]? = some (dw X ad cd xs u)) (hm : 0 < m ∧ m < 1073741824) (hxs : xs ≠ []) (hu : u + 1 ≤ LIM) (ha : PV X C e ρ (.int m))
    (hN : X.N[k]? = some z := by rfl) (hv : Vis X.env.scope z := by first | exact Or.inl rfl | exact Or.inr (Or.inl rfl) | exact Or.inr (Or.inr rfl))
    (h1 : (z == ("__debug__" : Str)) = false := by decide) (h2 : (z == ("__classdict__" : Str)) = false := by decide) (hg : Gl X "_law_next" := by rfl)
    (he : starEach [.Name z p2, e] X.env = (false, eval (.Name z p2) X.env) :: starEach [e] X.env := by rfl) (hse : starEach [e] X.env = (false, eval e X.env) :: starEach [] X.env := by rfl) (hpl : (backTo pos (starEach [e] X.env)).any (·.1) = false := by rfl) :
    PD X C ad (.Call (.Name "_law_next" p) [.Name z p2, e] [] pos) ρ (ρ.set k (dw X ad cd xs (u + 1))) (upTo m) :=
  pd_call k (g_law_next T) hr hd m hm hxs hu (pvs_cons ha pvs_nil hse) hN hv h1 h2 hg (by decide) he hpl
end
/-! ### _law_size -/
theorem sc_law_size : FnScope ["draw", "low", "high"] ["draw"] (defScope s_law_size) := ⟨rfl, rfl, rfl, by decide +kernel, rfl, by decide +kernel, by decide +kernel⟩
abbrev isDu : D → Prop := isI du
abbrev sp_law_size (K : PySem.W.Frag) (C : Addr) : Sp := spD K C (fun _ : Unit => []) (fun _ => True) (fun _ => 3) (fun _ => isDu)
theorem g_law_size (T : Tx w K mg C) : GFn P w K mg base "_law_size" 3 (sp_law_size K C) :=
  gD T.d_law_size sc_law_size (fun _ => rfl) (fun _ _ _ _ _ _ us hl => match us, hl with | [_], _ => rfl) (fun _ _ h => isI_flat h) fun f y _ ad cd xs u hxs hu cdv A outer s H E hr => by
    have nd := sc_law_size.nd
    have hu : u + 3 ≤ LIM := hu
    refine pbd_par (ad := ad) 1 2 nd (pds_cons (pd_op op_add' (pd_int pv_int) (pd_next 0 T (hr.mono (by decide)) rfl ⟨by decide, by decide⟩ hxs (by omega) pv_int) (fun _ _ _ _ => trivial)) (pds_cons (pd_op op_add' (pd_int pv_int) (pd_next 0 T (hr.mono (by decide)) rfl ⟨by decide, by decide⟩ hxs (by omega) pv_int) (fun _ _ _ _ => trivial)) pds_nil)) (fun da db t => ?_) (hl := fun ds h => by
      obtain ⟨d, ds', rfl, _, d2, ds2, rfl, _, rfl⟩ := h
      rfl)
    obtain ⟨d1, ds1, e1, t1, d2, ds2, e2, t2, _⟩ := t
    injection e1 with e1 e3
    subst e1 e3
    injection e2 with e2 _
    subst e2
    obtain ⟨low, rfl, l1, l2, hl1, hl2, hl3⟩ := t1
    obtain ⟨high, rfl, h1, h2, hh1, hh2, hh3⟩ := t2
    have hlow : 1 ≤ low ∧ low ≤ 6 := by omega
    have hhigh : 100 ≤ high ∧ high ≤ 999 := by omega
    have hall : ∀ d ∈ ([.int low, .int low, .int (low + 3), .int high, .int 560, .int 99999] : List D), isDu d := fun d hd => by
      simp only [List.mem_cons, List.not_mem_nil, or_false] at hd
      rcases hd with e | e | e | e | e | e <;> exact ⟨_, e, by constructor <;> omega⟩
    refine pbd_ret (pd_callL (lst := fun y : List D => y) 0 (g_law_pick T) (hr.mono (by decide)) rfl [.int low, .int low, .int (low + 3), .int high, .int 560, .int 99999] ⟨by simp, by simp, fun d hd => isI_flat (hall d hd)⟩ hxs (by show u + 1 + 1 + 1 ≤ LIM; omega) (pl_lst (pvs_cons (pv_var 1) (pvs_cons (pv_var 1) (pvs_cons (pv_add (pv_var 1) pv_int) (pvs_cons (pv_var 2) (pvs_cons pv_int (pvs_cons pv_int pvs_nil)))))))) fun d hd => ⟨d, rfl, hall d hd.1, _, Nat.le_refl _, rfl⟩

section
variable {X : Cx} {ρ : List Sl} {pos p p2 : Pos} {ad cd : Addr} {xs : List Int} {u : Nat} {z : Str}
theorem pd_size (k : Nat) (T : Tx X.w X.K X.mg C) (hr : Room 3 X.A) (hd : ρ[k]? = some (dw X ad cd xs u)) (hxs : xs ≠ []) (hu : u + 3 ≤ LIM)
    (hN : X.N[k]? = some z := by rfl) (hv : Vis X.env.scope z := by first | exact Or.inl rfl | exact Or.inr (Or.inl rfl) | exact Or.inr (Or.inr rfl))
    (h1 : (z == ("__debug__" : Str)) = false := by decide) (h2 : (z == ("__classdict__" : Str)) = false := by decide) (hg : Gl X "_law_size" := by rfl)
    (he : starEach [.Name z p2] X.env = (false, eval (.Name z p2) X.env) :: starEach [] X.env := by rfl) (hpl : (backTo pos (starEach [] X.env)).any (·.1) = false := by rfl) :
    PD X C ad (.Call (.Name "_law_size" p) [.Name z p2] [] pos) ρ (ρ.set k (dw X ad cd xs (u + 3))) isDu :=
  pd_call k (g_law_size T) hr hd () trivial hxs hu pvs_nil hN hv h1 h2 hg (by decide) he hpl
end
/-! ### _law_table -/
abbrev ltaN : List Str := ["draw", "most", "bits", "header", "zero", "one", "k"]
theorem sc_law_table : FnScope ltaN ["draw", "most"] (defScope s_law_table) := ⟨rfl, rfl, rfl, by decide +kernel, rfl, by decide +kernel, by decide +kernel⟩
def isTb : D → Prop := fun d => ∃ t, d = tD t ∧ TbOk t
theorem isTb_flat {d : D} (h : isTb d) : d.flat = true := by
  obtain ⟨t, rfl, _⟩ := h
  exact tD_flat t
abbrev sp_law_table (K : PySem.W.Frag) (C : Addr) : Sp := spD K C (fun m : Int => [.int m]) (fun m => 1 ≤ m ∧ m ≤ 8) (fun _ => 40) (fun _ => isTb)
theorem isDu_list : ∀ {ds : List D}, (∀ d ∈ ds, isDu d) → ∃ l : List Int, ds = l.map D.int ∧ ∀ i ∈ l, du i
  | [], _ => ⟨[], rfl, fun _ h => nomatch h⟩
  | d :: ds, h => by
    obtain ⟨i, rfl, hi⟩ := h d (List.mem_cons_self ..)
    obtain ⟨l, e, hl⟩ := isDu_list (ds := ds) fun d hd => h d (List.mem_cons_of_mem _ hd)
    refine ⟨i :: l, by rw [e]; rfl, fun j hj => ?_⟩
    rcases List.mem_cons.mp hj with e | hj
    · rw [e]; exact hi
    · exact hl j hj
theorem g_law_table (T : Tx w K mg C) : GFn P w K mg base "_law_table" 4 (sp_law_table K C) :=
  gD T.d_law_table sc_law_table (fun _ => rfl) (fun _ _ _ _ _ _ us hl => match us, hl with | [_, _], _ => rfl) (fun _ _ h => isTb_flat h) fun f m hm ad cd xs u hxs hu cdv A outer s H E hr => by
    have nd := sc_law_table.nd
    have hu : u + 40 ≤ LIM := hu
    obtain ⟨hm1, hm2⟩ := hm
    refine pbd_set (ad := ad) 2 nd (pd_op op_add' (pd_int pv_int) (pd_next (m := m) 0 T (hr.mono (by decide)) rfl ⟨by omega, by omega⟩ hxs (by omega) (pv_var 1)) (fun _ _ _ _ => trivial)) fun d hd => ?_
    obtain ⟨bits, rfl, i1, i2, hi1, hi2, hi3⟩ := hd
    have hb : 1 ≤ bits ∧ bits ≤ 8 := by omega
    have eb : bits = ((bits.toNat : Nat) : Int) := by omega
    refine pbd_ifR (ad := ad) (pdt_eq0 (pd_next 0 T (hr.mono (by decide)) rfl ⟨by decide, by decide⟩ hxs (by omega) pv_int)) ?_ ?_
    · refine pbd_ret (ad := ad) (pd_tup (pds_cons (PV.dd pv_str) (pds_cons (pd_size 0 T (hr.mono (by decide)) rfl hxs (by omega)) (pds_cons (PV.dd (pv_var 2)) pds_nil))) (fun ds h => by
        obtain ⟨_, _, rfl, _, _, _, rfl, _, _, _, rfl, _, rfl⟩ := h
        simp)) fun d hd => ?_
      obtain ⟨ds, rfl, _, _, rfl, rfl, _, _, rfl, hs, _, _, rfl, rfl, rfl⟩ := hd
      obtain ⟨un, rfl, hun⟩ := hs
      refine ⟨_, rfl, ⟨.halves un bits.toNat, ?_, hun, by omega, by omega⟩, _, ?_, rfl⟩
      · rw [eb]
        rfl
      · omega
    · -- the header
      refine pbd_set (ad := ad) 3 nd (pd_tupC (M := 4) (own := [("k", 6)]) (O := drO K ad cd xs (u + 1 + 1 + 1)) (ρs := fun i => [.ob (drO K ad cd xs (u + 1 + 1 + 1 + 3 * i)), .im (.int m), .im (.int bits), .un, .un, .un, .un]) (ρF := [.ob (drO K ad cd xs (u + 15)), .im (.int m), .im (.int bits), .un, .un, .un, .un]) (T := isDu) (U := fun n => n = 0 ∨ n = 2 ∨ n = 4) T.b_tuple ⟨0, rfl, drO_at⟩ nd T.b_range (by decide) (PD.mono (pd_ixN (ds := [.int 0, .int 0, .int 2, .int 4]) ⟨0, rfl, drO_at⟩ (pl_lst (pvs_cons pv_int (pvs_cons pv_int (pvs_cons pv_int (pvs_cons pv_int pvs_nil))))) (pd_next 0 T (hr.mono (by decide)) rfl ⟨by decide, by decide⟩ hxs (by omega) pv_int)) fun d hd => ?_) (fun n hn => by omega) (blkOk_by (N := ltaN) (sc := defScope s_law_table) (by decide +kernel)) (fun i j hj => ?_) (fun i j ds z => ?_) (fun i hi => ?_) (fun σ H0 H n hn rs => ?_)) fun d hd => ?_
      · simp only [List.mem_cons, List.not_mem_nil, or_false] at hd
        rcases hd with e | e | e | e
        · exact ⟨0, e, .inl rfl⟩
        · exact ⟨0, e, .inl rfl⟩
        · exact ⟨2, e, .inr (.inl rfl)⟩
        · exact ⟨4, e, .inr (.inr rfl)⟩
      · have : j = 6 := by simpa using hj
        subst this
        rfl
      · match j, z with
        | 0, z => cases z
        | 1, z => cases z
        | 2, z => cases z
        | 3, z => cases z
        | 4, z => cases z
        | 5, z => cases z
        | 6, z => cases z
        | _ + 7, z => cases z
      · refine ⟨[6], [.ob (drO K ad cd xs (u + 1 + 1 + 1 + 3 * i)), .im (.int m), .im (.int bits), .un, .un, .un, .im (.int (i : Int))], [.ob (drO K ad cd xs (u + 1 + 1 + 1 + 3 * i + 3)), .im (.int m), .im (.int bits), .un, .un, .un, .im (.int (i : Int))], by decide, fun s0 H0 Ca cl fp => ptg_name 6 nd, fun s0 H0 Ca cl fp => pd_size 0 T (hr.mono (by decide)) rfl hxs (by omega), rfl⟩
      · exact rs.conv 0 rfl (drO_mono (by omega))
      · obtain ⟨hds, rfl, hlen, hdu⟩ := hd
        obtain ⟨hd, rfl, hhd⟩ := isDu_list hdu
        rw [List.length_map] at hlen
        -- zero, one
        refine pbd_par (ad := ad) 4 5 nd (pds_cons (pd_tup (pds_cons (pd_size 0 T (hr.mono (by decide)) rfl hxs (by omega)) (pds_cons (pd_size 0 T (hr.mono (by decide)) rfl hxs (by omega)) pds_nil)) (fun ds h => by
          obtain ⟨_, _, rfl, _, _, _, rfl, _, rfl⟩ := h
          simp)) (pds_cons (pd_tup (pds_cons (pd_size 0 T (hr.mono (by decide)) rfl hxs (by omega)) (pds_cons (pd_size 0 T (hr.mono (by decide)) rfl hxs (by omega)) pds_nil)) (fun ds h => by
          obtain ⟨_, _, rfl, _, _, _, rfl, _, rfl⟩ := h
          simp)) pds_nil)) (fun da db t => ?_) (hl := fun ds h => by
          obtain ⟨d, ds', rfl, _, d2, ds2, rfl, _, rfl⟩ := h
          rfl)
        obtain ⟨d1, ds1, e1, t1, d2, ds2, e2, t2, _⟩ := t
        injection e1 with e1 e3
        subst e1 e3
        injection e2 with e2 _
        subst e2
        obtain ⟨_, rfl, _, _, rfl, ⟨z1, rfl, hz1⟩, _, _, rfl, ⟨z2, rfl, hz2⟩, rfl⟩ := t1
        obtain ⟨_, rfl, _, _, rfl, ⟨o1, rfl, ho1⟩, _, _, rfl, ⟨o2, rfl, ho2⟩, rfl⟩ := t2
        show PBd _ C _ ([.ob (drO K ad cd xs (u + 15 + 3 + 3 + 3 + 3)), .im (.int m), .im (.int bits), .im (iTup hd), .im (iTup [z1, z2]), .im (iTup [o1, o2]), .un] : List Sl) _ _
        refine pb_if (N1 := fun ρ' => ∃ o1 o2 : Int, ρ' = [.ob (drO K ad cd xs (u + 15 + 3 + 3 + 3 + 3)), .im (.int m), .im (.int bits), .im (iTup hd), .im (iTup [z1, z2]), .im (iTup [o1, o2]), .un] ∧ du o1 ∧ du o2 ∧ (o1, o2) ≠ (z1, z2)) (x := decide ([o1, o2] = [z1, z2])) ((pt_eqD (da := iTup [o1, o2]) (db := iTup [z1, z2]) hr.units (pv_var 5) (pv_var 4) (iTup_cmp _) (iTup_cmp _)).is (eqv_iTup _ _)) (fun hx => ?_) (fun hx => ?_) (fun ρ' hρ => ?_)
        · refine pb_set 5 nd (pv_tup (pvs_cons (pv_ix (pv_var 4) pv_int rfl) (pvs_cons (pv_add (pv_add (pv_mod (pv_ix (d := .int z2) (pv_var 4) pv_int rfl) pv_int (by decide)) pv_int) (pv_intB T.b_int (pv_gt (pv_ix (d := .int z2) (pv_var 4) pv_int rfl) pv_int))) pvs_nil))) (pb_nil ?_)
          have hmod := emod_in (a := z2) (show (0 : Int) < 9 by decide)
          refine ⟨z1, z2 % 9 + 1 + (if decide (9 < z2) then 1 else 0), rfl, hz1, ?_, ?_⟩
          · split <;> (constructor <;> omega)
          · intro h
            injection h with _ h
            have hz := hz2.1
            by_cases h9 : 9 < z2
            · rw [decide_eq_true h9] at h
              simp at h
              omega
            · rw [decide_eq_false h9] at h
              simp at h
              omega
        · have hx := of_decide_eq_false hx
          refine pb_nil ⟨o1, o2, rfl, ho1, ho2, fun h => hx ?_⟩
          injection h with h1 h2
          rw [h1, h2]
        · obtain ⟨o1, o2, rfl, ho1, ho2, hne⟩ := hρ
          refine pbd_ret (ad := ad) (pd_tup (pds_cons (PV.dd pv_str) (pds_cons (PV.dd (pv_var 3)) (pds_cons (PV.dd (pv_var 4)) (pds_cons (PV.dd (pv_var 5)) (pds_cons (pd_size 0 T (hr.mono (by decide)) rfl hxs (by omega)) (pds_cons (PV.dd (pv_var 2)) pds_nil)))))) (fun ds h => by
            obtain ⟨_, _, rfl, _, _, _, rfl, _, _, _, rfl, _, _, _, rfl, _, _, _, rfl, _, _, _, rfl, _, rfl⟩ := h
            simp)) fun d hd2 => ?_
          obtain ⟨ds, rfl, _, _, rfl, rfl, _, _, rfl, rfl, _, _, rfl, rfl, _, _, rfl, rfl, _, _, rfl, hs, _, _, rfl, rfl, rfl⟩ := hd2
          obtain ⟨st, rfl, hst⟩ := hs
          refine ⟨_, rfl, ⟨.pairs hd (z1, z2) (o1, o2) st bits.toNat, ?_, by omega, hhd, hz1, hz2, ho1, ho2, hne, hst, by omega, by omega⟩, _, ?_, rfl⟩
          · rw [eb]
            rfl
          · omega
end
end Bf

namespace Bf
open PySem PySem.Spec PyProof.Rows L2 BF
section
variable {X : Cx} {C : Addr} {ρ : List Sl} {a b c : Expr} {x : Bool} {i j : Int} {pos : Pos}
theorem pv_iteI {b' : Expr} (hc : PTt X C c ρ x) (h1 : PV X C a ρ (.int i)) (h2 : PV X C b' ρ (.int j)) : PV X C (.IfExp c a b' pos) ρ (.int (if x then i else j)) := by
  refine pv_ite hc (fun e => ?_) (fun e => ?_)
  · subst e; exact h1
  · subst e; exact h2
end
section
variable {P : Program} {w : World} {K : PySem.W.Frag} {mg : Str → Option Value} {base : Heap} {C : Addr}
abbrev lliN : List Str := ["draw", "chart", "way", "unit", "name", "header", "zero", "one", "stop", "bits"]
theorem sc_law_like : FnScope lliN ["draw", "chart"] (defScope s_law_like) := ⟨rfl, rfl, rfl, by decide +kernel, rfl, by decide +kernel, by decide +kernel⟩
abbrev sp_law_like (K : PySem.W.Frag) (C : Addr) : Sp := spD K C (fun t : Tb => [tD t]) TbOk (fun _ => 1) (fun _ => isTb)
theorem du_mod {i : Int} : du (i % 9 + 1) := by
  have := emod_in (a := i) (show (0 : Int) < 9 by decide)
  constructor <;> omega
theorem du_ite {x : Bool} {i j : Int} (h1 : du i) (h2 : du j) : du (if x then i else j) := by cases x <;> assumption
theorem bits_ite {x : Bool} {b : Nat} (h : 1 ≤ b ∧ b ≤ 8) : ∃ b' : Nat, (if x then (b : Int) else 1 + (b : Int) % 3) = (b' : Int) ∧ 1 ≤ b' ∧ b' ≤ 8 := by
  cases x with
  | true => exact ⟨b, rfl, h⟩
  | false => exact ⟨1 + b % 3, by show 1 + (b : Int) % 3 = _; omega, by omega, by omega⟩
theorem g_law_like (T : Tx w K mg C) : GFn P w K mg base "_law_like" 2 (sp_law_like K C) :=
  gD T.d_law_like sc_law_like (fun _ => rfl) (fun _ _ _ _ _ _ us hl => match us, hl with | [_, _], _ => rfl) (fun _ _ h => isTb_flat h) fun f t ht ad cd xs u hxs hu cdv A outer s H E hr => by
    have nd := sc_law_like.nd
    have hu : u + 1 ≤ LIM := hu
    have fin : ∀ (t' : Tb) (ρ : List Sl), TbOk t' → ρ[0]? = some (.ob (drO K ad cd xs (u + 1))) → RD K ad cd xs (u + 1) isTb (.im (tD t')) ρ := fun t' ρ h1 h2 => ⟨_, rfl, ⟨t', rfl, h1⟩, _, Nat.le_refl _, h2⟩
    refine pbd_set (ad := ad) 2 nd (pd_next (m := 6) 0 T (hr.mono (by decide)) rfl ⟨by decide, by decide⟩ hxs (by omega) pv_int) fun d hd => ?_
    obtain ⟨way, rfl, hw1, hw2⟩ := hd
    cases t with
    | halves un b =>
      have ht : du un ∧ 1 ≤ b ∧ b ≤ 8 := ht
      refine pb_ifR (x := true) ((pt_eqS (s1 := "halves") (s2 := "halves") (pv_ix (pv_var 1) pv_int rfl) pv_str).is (by decide +kernel)) (fun _ => ?_) (fun z => by cases z)
      refine pb_set 3 nd (pv_iteI (x := decide (way = 0)) (pt_eqI (pv_var 2) pv_int) (pv_add (pv_mod (pv_ix (d := .int un) (pv_var 1) pv_int rfl) pv_int (by decide)) pv_int) (pv_ix (d := .int un) (pv_var 1) pv_int rfl)) ?_
      obtain ⟨b', hb, hb2⟩ := bits_ite (x := decide (way < 3)) ht.2
      refine pb_ret (pv_tup (pvs_cons (pv_ix (d := .str "halves") (pv_var 1) pv_int rfl) (pvs_cons (pv_var 3) (pvs_cons ((pv_iteI (x := decide (way < 3)) (pt_lt (pv_var 2) pv_int) (pv_ix (d := .int (b : Int)) (pv_var 1) pv_int rfl) (pv_add pv_int (pv_mod (pv_ix (d := .int (b : Int)) (pv_var 1) pv_int rfl) pv_int (by decide)))).is (congrArg D.int hb)) pvs_nil)))) (fin (.halves _ b') _ ⟨du_ite du_mod ht.1, hb2.1, hb2.2⟩ rfl)
    | pairs hd z o st b =>
      obtain ⟨h1, h2, h3, h4, h5, h6, h7, h8, h9, h10⟩ := ht
      obtain ⟨z1, z2⟩ := z
      obtain ⟨o1, o2⟩ := o
      refine pb_ifR (x := false) ((pt_eqS (s1 := "pairs") (s2 := "halves") (pv_ix (pv_var 1) pv_int rfl) pv_str).is ne_ph) (fun z => by cases z) (fun _ => ?_)
      refine pb_asg (pv_var 1) (ptg_tup (ptgs_cons (ptg_name 4 nd) (ptgs_cons (ptg_name 5 nd) (ptgs_cons (ptg_name 6 nd) (ptgs_cons (ptg_name 7 nd) (ptgs_cons (ptg_name 8 nd) (ptgs_cons (ptg_name 9 nd) ptgs_nil))))))) ?_
      refine pb_ifR (x := decide (way = 0)) (pt_eqI (pv_var 2) pv_int) (fun _ => ?_) (fun _ => ?_)
      · exact pb_ret (pv_tup (pvs_cons (pv_var 4) (pvs_cons (pv_var 5) (pvs_cons (pv_var 7) (pvs_cons (pv_var 6) (pvs_cons (pv_var 8) (pvs_cons (pv_var 9) pvs_nil))))))) (fin (.pairs hd (o1, o2) (z1, z2) st b) _ ⟨h1, h2, h5, h6, h3, h4, fun e => h7 e.symm, h8, h9, h10⟩ rfl)
      refine pb_ifR (x := decide (way = 1)) (pt_eqI (pv_var 2) pv_int) (fun _ => ?_) (fun _ => ?_)
      · have hlen : (HT.sIx (hd.map D.int).length (hd.map D.int).length (some (-2))) = hd.length - 2 := by
          rw [List.length_map]
          rcases h1 with e | e | e <;> rw [e] <;> decide
        have hs : ((hd.map D.int).drop (HT.sIx (hd.map D.int).length 0 none)).take (HT.sIx (hd.map D.int).length (hd.map D.int).length (some (-2)) - HT.sIx (hd.map D.int).length 0 none) = (hd.take (hd.length - 2)).map D.int := by
          rw [hlen, List.map_take]
          show ((hd.map D.int).drop 0).take (hd.length - 2 - 0) = _
          rw [List.drop_zero, Nat.sub_zero]
        exact pb_ret (pv_tup (pvs_cons (pv_var 4) (pvs_cons ((pv_sliceT (kl := none) (kh := some (-2)) (pv_var 5) (show PO1 _ C none _ none from trivial) (show PO1 _ C (some _) _ (some (-2)) from pv_neg (pv_int (i := 2)))).is (congrArg D.tup hs)) (pvs_cons (pv_var 6) (pvs_cons (pv_var 7) (pvs_cons (pv_var 8) (pvs_cons (pv_var 9) pvs_nil))))))) (fin (.pairs (hd.take (hd.length - 2)) (z1, z2) (o1, o2) st b) _ ⟨by rw [List.length_take]; omega, fun d hd' => h2 d (List.mem_of_mem_take hd'), h3, h4, h5, h6, h7, h8, h9, h10⟩ rfl)
      refine pb_ifR (x := decide (way = 2) && !decide ([z1, z2] = [o1, o2 % 9 + 1])) (PWt.pt (pw_a (pt_eqI (pv_var 2) pv_int) fun _ => pw_a1 ((pt_neD (da := iTup [z1, z2]) (db := iTup [o1, o2 % 9 + 1]) hr.units (pv_var 6) (pv_tup (pvs_cons (pv_ix (d := .int o1) (pv_var 7) pv_int rfl) (pvs_cons (pv_add (pv_mod (pv_ix (d := .int o2) (pv_var 7) pv_int rfl) pv_int (by decide)) pv_int) pvs_nil))) (iTup_cmp _) (iTup_cmp _)).is (by rw [eqv_iTup])))) (fun hx => ?_) (fun _ => ?_)
      · have hne : (o1, o2 % 9 + 1) ≠ (z1, z2) := fun e => by
          injection e with e1 e2
          simp [e1, e2] at hx
        exact pb_ret (pv_tup (pvs_cons (pv_var 4) (pvs_cons (pv_var 5) (pvs_cons (pv_var 6) (pvs_cons (pv_tup (pvs_cons (pv_ix (d := .int o1) (pv_var 7) pv_int rfl) (pvs_cons (pv_add (pv_mod (pv_ix (d := .int o2) (pv_var 7) pv_int rfl) pv_int (by decide)) pv_int) pvs_nil))) (pvs_cons (pv_var 8) (pvs_cons (pv_var 9) pvs_nil))))))) (fin (.pairs hd (z1, z2) (o1, o2 % 9 + 1) st b) _ ⟨h1, h2, h3, h4, h5, du_mod, hne, h8, h9, h10⟩ rfl)
      refine pb_set 8 nd (pv_iteI (x := decide (way = 3)) (pt_eqI (pv_var 2) pv_int) (pv_add (pv_mod (pv_var 8) pv_int (by decide)) pv_int) (pv_var 8)) ?_
      obtain ⟨b', hb, hb2⟩ := bits_ite (x := decide (way < 5)) ⟨h9, h10⟩
      exact pb_ret (pv_tup (pvs_cons (pv_var 4) (pvs_cons (pv_var 5) (pvs_cons (pv_var 6) (pvs_cons (pv_var 7) (pvs_cons (pv_var 8) (pvs_cons ((pv_iteI (x := decide (way < 5)) (pt_lt (pv_var 2) pv_int) (pv_var 9) (pv_add pv_int (pv_mod (pv_var 9) pv_int (by decide)))).is (congrArg D.int hb)) pvs_nil))))))) (fin (.pairs hd (z1, z2) (o1, o2) _ b') _ ⟨h1, h2, h3, h4, h5, h6, h7, du_ite du_mod h8, hb2.1, hb2.2⟩ rfl)
end
end Bf

namespace Bf
open PySem PySem.Spec PyProof.Rows L2 BF
section
variable {X : Cx} {C ad : Addr} {ρ ρ1 : List Sl} {a b : Expr} {y : Bool} {pos p : Pos} {N : List Sl → Prop} {R : Wv → List Sl → Prop} {rest body els : List Stmt}
/-- if a or b: .., a draws -/
theorem pbd_ifOr {N1 : List Sl → Prop} (h : PDt X C ad a ρ ρ1) (k : PTt X C b ρ1 y) (h1 : PBd X C body ρ1 N1 R) (h2 : y = false → PBd X C els ρ1 N1 R) (kk : ∀ ρ', N1 ρ' → PBd X C rest ρ' N R) : PBd X C (.If (.BoolOp .Or [a, b] p) body els pos :: rest) ρ N R := fun σ H0 H rs D nx rt => by
  have yes : ∀ H1, Mv ad H H1 → RS X.K C H0 H1 σ ρ1 → ESs X body σ H1 { D with nx := fun σ' H' => ESs X rest σ' H' D } := fun H1 im1 rs1 => h1 σ H0 H1 rs1 _ (fun σ' H' B ρ' eB im rs' n => kk ρ' n σ' B H' rs' D (fun σ2 H2 B2 ρ2 eB2 im2 => nx σ2 H2 B2 ρ2 (eB.trans eB2) ((im1.1.trans im).trans im2)) fun v H2 B2 w σ2 ρ2 eB2 => rt v H2 B2 w σ2 ρ2 (eB.trans eB2)) rt
  refine ess_cons (Bf.es (ps_if (tc := fun σ H Q => ET X (.BoolOp .Or [a, b] p) σ H Q) (pt X _) (pss X body) (pss X els)) ?_)
  intro pins s I
  refine ew (pw_or (pt X a) (pw_or1 (pt X b))) (h σ H0 H rs _ fun x H1 im1 rs1 => ?_) _ pins s I
  cases x with
  | false =>
    refine iteF ?_
    refine k σ H0 H1 rs1 _ fun H2 e2 => ?_
    cases y with
    | true =>
      refine iteT ?_
      exact yes H2 (im1.trans e2.mv) (rs1.ex e2)
    | false =>
      refine iteF ?_
      exact h2 rfl σ H0 H2 (rs1.ex e2) _ (fun σ' H' B ρ' eB im rs' n => kk ρ' n σ' B H' rs' D (fun σ2 H2' B2 ρ2 eB2 im2 => nx σ2 H2' B2 ρ2 (eB.trans eB2) (((im1.trans e2.mv).1.trans im).trans im2)) fun v H2' B2 w σ2 ρ2 eB2 => rt v H2' B2 w σ2 ρ2 (eB.trans eB2)) rt
  | true =>
    refine iteT ?_
    exact iteT (yes H1 im1 rs1)
end
theorem itB_ratio {n : Int} (h1 : 0 < n) (h2 : n < 2 ^ 40) {d : Int} (hd : 0 < d) (hd2 : d ≤ 5000) : ItB (ratio n d) := by
  have a := ratio_num_pos h1 hd
  have b := ratio_num_le (Int.le_of_lt h1) hd
  have c : 0 < (ratio n d).2 := ratio_pos hd
  have e := ratio_den_le (n := n) hd
  exact ⟨a, by omega, c, by omega⟩
section
variable {P : Program} {w : World} {K : PySem.W.Frag} {mg : Str → Option Value} {base : Heap} {C : Addr}
abbrev lmoN : List Str := ["draw", "frame", "room", "found", "size", "part", "above", "below"]
theorem sc_law_moved : FnScope lmoN ["draw", "frame", "room"] (defScope s_law_moved) := ⟨rfl, rfl, rfl, by decide +kernel, rfl, by decide +kernel, by decide +kernel⟩
def isBu (n : Nat) : D → Prop := fun d => ∃ its : List Item, d = buD its ∧ its.length = n ∧ ∀ i ∈ its, ItB i
theorem buD_flat (its : List Item) : (buD its).flat = true := flats_map (fun _ => rfl) its
abbrev sp_law_moved (K : PySem.W.Frag) (C : Addr) : Sp := spD K C (fun y : List Int × Int => [iTup y.1, iTup [y.2, 9]]) (fun y => (∀ d ∈ y.1, DuB d) ∧ y.1.length ≤ 36 ∧ 0 ≤ y.2 ∧ y.2 < 9) (fun _ => 80) (fun y => isBu y.1.length)
theorem g_law_moved (T : Tx w K mg C) : GFn P w K mg base "_law_moved" 5 (sp_law_moved K C) :=
  gD T.d_law_moved sc_law_moved (fun _ => rfl) (fun _ _ _ _ _ _ us hl => match us, hl with | [_, _, _], _ => rfl) (fun _ _ h => by
      obtain ⟨its, rfl, _⟩ := h
      exact buD_flat its) fun f y hy ad cd xs u hxs hu cdv A outer s H E hr => by
    have nd := sc_law_moved.nd
    obtain ⟨l, r⟩ := y
    obtain ⟨hl, hlen, hr1, hr2⟩ := hy
    have hl : ∀ d ∈ l, DuB d := hl
    have hlen : l.length ≤ 36 := hlen
    have hr1 : 0 ≤ r := hr1
    have hr2 : r < 9 := hr2
    have hu : u + 80 ≤ LIM := hu
    refine pb_setL 3 nd (pl_lst pvs_nil) ?_
    refine pb_for (pis_tup (ds := l.map D.int) (pv_var 1)).tt (fun i ρ' => ∃ (its : List Item) (s4 s5 s6 s7 : Sl), ρ' = [.ob (drO K ad cd xs (u + 2 * i)), .im (iTup l), .im (iTup [r, 9]), .ow (its.map itD), s4, s5, s6, s7] ∧ its.length = i ∧ ∀ it ∈ its, ItB it) ⟨[], _, _, _, _, rfl, rfl, fun _ h => nomatch h⟩ (fun i ρ' hi hρ => ?_) (fun ρ' hρ => ?_)
    · obtain ⟨its, s4, s5, s6, s7, rfl, hn, hit⟩ := hρ
      rw [List.length_map] at hi
      obtain ⟨sz, hsz⟩ : ∃ sz, l[i]? = some sz := ⟨_, List.getElem?_eq_getElem hi⟩
      have hdu := hl sz (List.mem_of_getElem? hsz)
      obtain ⟨hd1, hd2⟩ := hdu
      have e : (l.map D.int).getD i .non = .int sz := by simp [List.getD_eq_getElem?_getD, hsz]
      refine ⟨[4], [.ob (drO K ad cd xs (u + 2 * i)), .im (iTup l), .im (iTup [r, 9]), .ow (its.map itD), .im (.int sz), s5, s6, s7], ?_, ?_⟩
      · rw [e]
        exact ptg_name 4 nd
      refine pbd_set (ad := ad) 5 nd (pd_mulP (j := r) (PD.mono (pd_callL (lst := fun y : List D => y) 0 (g_law_pick T) (hr.mono (by decide)) rfl [.int 0, .int 1, .int 2, .int 3, .int 3, .int 4] ⟨by simp, by simp, fun d hd => ?_⟩ hxs (by show u + 2 * i + 1 ≤ LIM; omega) (pl_lst (pvs_cons pv_int (pvs_cons pv_int (pvs_cons pv_int (pvs_cons pv_int (pvs_cons pv_int (pvs_cons pv_int pvs_nil)))))))) fun d hd => ?_) (pv_ix (ds := [.int r, .int 9]) (pv_var 2) pv_int rfl)) fun d hd => ?_
      · simp only [List.mem_cons, List.not_mem_nil, or_false] at hd
        rcases hd with e | e | e | e | e | e <;> rw [e] <;> rfl
      · have hd := hd.1
        simp only [List.mem_cons, List.not_mem_nil, or_false] at hd
        rcases hd with e | e | e | e | e | e <;> exact ⟨_, e, by decide, by decide⟩
      obtain ⟨part, rfl, k, hk, hpart⟩ := hd
      have hp1 : 0 ≤ part ∧ part ≤ 32 := by
        obtain ⟨k1, k2⟩ := hk
        have : k = 0 ∨ k = 1 ∨ k = 2 ∨ k = 3 ∨ k = 4 := by omega
        rcases this with e | e | e | e | e <;> subst e <;> constructor <;> omega
      have c3 : CMul 3 9 := .inl (by decide)
      have cs : ∀ j, CMul sz j := fun j => .inl ⟨by omega, by omega⟩
      refine pb_par (da := .int (sz * (3 * 9 - part))) (db := .int (3 * 9)) 6 7 nd (pvs_cons (pv_mul (pv_var 4) (pv_sub (pv_mul pv_int (pv_ix (ds := [.int r, .int 9]) (d := .int 9) (pv_var 2) pv_int rfl) c3) (pv_var 5)) (cs _)) (pvs_cons (pv_mul pv_int (pv_ix (ds := [.int r, .int 9]) (d := .int 9) (pv_var 2) pv_int rfl) c3) pvs_nil)) ?_
      refine pbd_ifOr (ad := ad) (N1 := fun ρ' => ∃ ab : Int, ρ' = [.ob (drO K ad cd xs (u + 2 * i + 1 + 1)), .im (iTup l), .im (iTup [r, 9]), .ow (its.map itD), .im (.int sz), .im (.int part), .im (.int ab), .im (.int (3 * 9))] ∧ 0 < ab ∧ ab < 2 ^ 40) (pdt_eq0 (pd_next 0 T (hr.mono (by decide)) rfl ⟨by decide, by decide⟩ hxs (by omega) pv_int)) (pt_le (pv_var 6) pv_int) ?_ (fun hx => ?_) (fun ρ' hρ => ?_)
      · refine pb_set 6 nd (pv_mul (pv_var 4) (pv_add (pv_mul pv_int (pv_ix (ds := [.int r, .int 9]) (d := .int 9) (pv_var 2) pv_int rfl) c3) (pv_var 5)) (cs _)) (pb_nil ⟨_, rfl, Int.mul_pos hd1 (by omega), ?_⟩)
        have : sz * (3 * 9 + part) ≤ 200000 * 100 := Int.mul_le_mul (by omega) (by omega) (by omega) (by omega)
        omega
      · have hx := of_decide_eq_false hx
        refine pb_nil ⟨_, rfl, by omega, ?_⟩
        have : sz * (3 * 9 - part) ≤ sz * 27 := Int.mul_le_mul_of_nonneg_left (by omega) (by omega)
        omega
      · obtain ⟨ab, rfl, h1, h2⟩ := hρ
        refine pb_append 3 rfl (by rw [List.length_map]; omega) (pv_make (k := 0) T hr (pvs_cons (pv_var 6) (pvs_cons (pv_var 7) pvs_nil)) (Int.le_of_lt h1) (by decide) (by decide)) (pb_nil ⟨its ++ [ratio ab (3 * 9)], .im (.int sz), .im (.int part), .im (.int ab), .im (.int (3 * 9)), ?_, ?_, ?_⟩)
        · rw [List.map_append]
          rfl
        · rw [List.length_append, hn]
          rfl
        · intro it hm
          rcases List.mem_append.mp hm with hm | hm
          · exact hit it hm
          · rw [List.mem_singleton.mp hm]
            exact itB_ratio h1 h2 (by decide) (by decide)
    · obtain ⟨its, s4, s5, s6, s7, rfl, hn, hit⟩ := hρ
      rw [List.length_map] at hn
      refine pb_ret (pv_tupL (ds := its.map itD) T.b_tuple (pr_var 3)) ⟨_, rfl, ⟨its, rfl, hn, hit⟩, _, ?_, rfl⟩
      rw [List.length_map]
      show u + 2 * l.length ≤ u + 80
      omega
end
end Bf

namespace Bf
open PySem PySem.Spec PyProof.Rows L2 BF
def isBurst : D → Prop := fun d => ∃ its : List Item, d = buD its ∧ BuOk its
theorem isBurst_flat {d : D} (h : isBurst d) : d.flat = true := by
  obtain ⟨its, rfl, _⟩ := h
  exact buD_flat its
theorem its_list : ∀ {ds : List D}, (∀ d ∈ ds, ∃ it : Item, d = itD it ∧ ItB it) → ∃ its : List Item, ds = its.map itD ∧ ∀ i ∈ its, ItB i
  | [], _ => ⟨[], rfl, fun _ h => nomatch h⟩
  | d :: ds, h => by
    obtain ⟨i, rfl, hi⟩ := h d (List.mem_cons_self ..)
    obtain ⟨l, e, hl⟩ := its_list (ds := ds) fun d hd => h d (List.mem_cons_of_mem _ hd)
    refine ⟨i :: l, by rw [e]; rfl, fun j hj => ?_⟩
    rcases List.mem_cons.mp hj with e | hj
    · rw [e]; exact hi
    · exact hl j hj
theorem tD_inj {t t' : Tb} (e : tD t = tD t') : t = t' := by
  match t, t', e with
  | .pairs h (z1, z2) (o1, o2) s b, .pairs h' (z1', z2') (o1', o2') s' b', e =>
    have e : D.tup [.str "pairs", iTup h, .tup [.int z1, .int z2], .tup [.int o1, .int o2], .int s, .int (b : Int)] = D.tup [.str "pairs", iTup h', .tup [.int z1', .int z2'], .tup [.int o1', .int o2'], .int s', .int (b' : Int)] := e
    simp only [D.tup.injEq, List.cons.injEq, D.int.injEq, and_true, true_and] at e
    obtain ⟨a1, ⟨a2, a3⟩, ⟨a4, a5⟩, a6, a7⟩ := e
    have a1 : h = h' := List.map_inj_right (f := D.int) (fun x y e => by injection e) |>.mp a1
    have a7 : b = b' := by omega
    subst a1 a2 a3 a4 a5 a6 a7
    rfl
  | .pairs h z o s b, .halves u b', e =>
    injection e with e
    injection e with _ e
    injection e with _ e
    injection e with _ e
    cases e
  | .halves u b', .pairs h z o s b, e =>
    injection e with e
    injection e with _ e
    injection e with _ e
    injection e with _ e
    cases e
  | .halves u b, .halves u' b', e =>
    have e : D.tup [.str "halves", .int u, .int (b : Int)] = D.tup [.str "halves", .int u', .int (b' : Int)] := e
    simp only [D.tup.injEq, List.cons.injEq, D.int.injEq, and_true, true_and] at e
    obtain ⟨a1, a2⟩ := e
    have a2 : b = b' := by omega
    subst a1 a2
    rfl
theorem wD_inj {a b : List Bool} (h : wD a = wD b) : a = b := by
  injection h with h
  refine List.map_inj_right (f := bD) (fun x y e => ?_) |>.mp h
  cases x <;> cases y <;> first | rfl | (injection e with e; cases e)
section
variable {P : Program} {w : World} {K : PySem.W.Frag} {mg : Str → Option Value} {base : Heap} {C : Addr}
abbrev lbuN : List Str := ["draw", "chart", "frame", "k"]
theorem sc_law_burst : FnScope lbuN ["draw", "chart"] (defScope s_law_burst) := ⟨rfl, rfl, rfl, by decide +kernel, rfl, by decide +kernel, by decide +kernel⟩
abbrev sp_law_burst (K : PySem.W.Frag) (C : Addr) : Sp := spD K C (fun t : Tb => [tD t]) TbOk (fun _ => 100) (fun _ => isBurst)
theorem words_pos (n : Nat) : words n ≠ [] := by
  intro h
  have := words_len n
  rw [h] at this
  have h2 : 0 < 2 ^ n := Nat.two_pow_pos n
  rw [← this] at h2
  exact absurd h2 (by decide)
theorem g_law_burst (T : Tx w K mg C) : GFn P w K mg base "_law_burst" 6 (sp_law_burst K C) :=
  gD T.d_law_burst sc_law_burst (fun _ => rfl) (fun _ _ _ _ _ _ us hl => match us, hl with | [_, _], _ => rfl) (fun _ _ h => isBurst_flat h) fun f t ht ad cd xs u hxs hu cdv A outer s H E hr => by
    have nd := sc_law_burst.nd
    have ht : TbOk t := ht
    have hu : u + 100 ≤ LIM := hu
    have b8 := bits8 ht
    have hp := pow8 b8
    refine pbd_set (ad := ad) 2 nd (pd_callP (T := fun ds => ∃ wd : List Bool, ds = [tD t, wD wd] ∧ wd.length = t.bits) (g_law_frame T) (hr.mono (by decide)) (PDs.mono (pds_cons (PV.dd (pv_var 1)) (pds_cons (pd_callL (lst := fun y : List D => y) 0 (g_law_pick T) (hr.mono (by decide)) rfl ((words t.bits).map wD) ⟨fun h => words_pos _ (List.map_eq_nil_iff.mp h), by rw [List.length_map, words_len]; omega, fun d hd => ?_⟩ hxs (by show u + 1 ≤ LIM; omega) (pl_call (g_law_words T) (hr.mono (by decide)) t.bits b8 (pvs_cons (pv_bits (pv_var 1)) pvs_nil))) pds_nil)) fun ds h => ?_) (fun ds h => ?_)) fun d hd => ?_
    · obtain ⟨wd, _, rfl⟩ := List.mem_map.mp hd
      exact wD_flat wd
    · obtain ⟨_, _, rfl, rfl, _, _, rfl, hm, rfl⟩ := h
      obtain ⟨wd, hw, rfl⟩ := List.mem_map.mp hm.1
      exact ⟨wd, rfl, words_length hw⟩
    · obtain ⟨wd, rfl, hw⟩ := h
      exact ⟨(t, wd), rfl, ht, by show wd.length ≤ 8; omega⟩
    obtain ⟨⟨t', wd⟩, rfl, _, wd', hds, hw⟩ := hd
    have hds : [tD t', wD wd] = [tD t, wD wd'] := hds
    have e1 : tD t' = tD t := by injection hds
    have e2 : wD wd = wD wd' := by
      injection hds with _ h
      injection h
    have e2 := wD_inj e2
    subst e2
    have hfr : ∃ fr : List Int, iTup (frameL t' wd) = iTup fr ∧ (∀ d ∈ fr, DuB d) ∧ fr.length ≤ 36 ∧ fr.length % 2 = 1 := by
      have et : t' = t := tD_inj e1
      subst et
      obtain ⟨h1, h2⟩ := frame_b ht hw
      exact ⟨_, rfl, h1, h2, frame_odd ht wd⟩
    obtain ⟨fr, he, hf1, hf2, hf3⟩ := hfr
    show PBd _ C _ ([.ob (drO K ad cd xs (u + 1)), .im (tD t), .im (iTup (frameL t' wd)), .un] : List Sl) _ _
    rw [he]
    refine pbd_ifR (ad := ad) (pdt_eq0 (pd_next 0 T (hr.mono (by decide)) rfl ⟨by decide, by decide⟩ hxs (by omega) pv_int)) ?_ ?_
    · refine pbd_ret (pd_tupC (M := 36) (own := [("k", 3)]) (O := drO K ad cd xs (u + 1 + 1)) (ρs := fun i => [.ob (drO K ad cd xs (u + 1 + 1 + 2 * i)), .im (tD t), .im (iTup fr), .un]) (ρF := [.ob (drO K ad cd xs (u + 100)), .im (tD t), .im (iTup fr), .un]) (T := fun d => ∃ it : Item, d = itD it ∧ ItB it) (U := fun z => z = (fr.length : Int)) T.b_tuple ⟨0, rfl, drO_at⟩ nd T.b_range (by decide) (PD.mono (pd_int (pv_lenT (ds := fr.map D.int) T.b_len (pv_var 2))) fun d hd => ?_) (fun n hn => ?_) (blkOk_by (N := lbuN) (sc := defScope s_law_burst) (by decide +kernel)) (fun i j hj => ?_) (fun i j ds z => ?_) (fun i hi => ?_) (fun σ H0 H n hn rs => ?_)) fun d hd => ?_
      · obtain ⟨z, rfl, hz⟩ := hd
        rw [List.length_map] at hz
        exact ⟨z, rfl, hz⟩
      · rw [hn]
        constructor <;> omega
      · have : j = 3 := by simpa using hj
        subst this
        rfl
      · match j, z with
        | 0, z => cases z
        | 1, z => cases z
        | 2, z => cases z
        | 3, z => cases z
        | _ + 4, z => cases z
      · refine ⟨[3], [.ob (drO K ad cd xs (u + 1 + 1 + 2 * i)), .im (tD t), .im (iTup fr), .im (.int (i : Int))], [.ob (drO K ad cd xs (u + 1 + 1 + 2 * i + 1 + 1)), .im (tD t), .im (iTup fr), .im (.int (i : Int))], by decide, fun s0 H0 Ca cl fp => ptg_name 3 nd, fun s0 H0 Ca cl fp => PD.mono (pd_make (k := 0) T (hr.mono (by decide)) (pds_cons (pd_op op_add' (pd_int pv_int) (pd_next (m := 30) 0 T (hr.mono (by decide)) rfl ⟨by decide, by decide⟩ hxs (by omega) pv_int) (fun _ _ _ _ => trivial)) (pds_cons (pd_op op_add' (pd_int pv_int) (pd_next (m := 4) 0 T (hr.mono (by decide)) rfl ⟨by decide, by decide⟩ hxs (by omega) pv_int) (fun _ _ _ _ => trivial)) pds_nil)) fun ds h => ?_) fun d hd => ?_, rfl⟩
        · obtain ⟨_, _, rfl, ⟨n, rfl, n1, n2, hn1, hn2, hn3⟩, _, _, rfl, ⟨m, rfl, m1, m2, hm1, hm2, hm3⟩, rfl⟩ := h
          exact ⟨n, m, rfl, by omega, by omega, by omega⟩
        · obtain ⟨n, m, rfl, _, _, hz, ⟨n', hn', n1, n2, hn1, hn2, hn3⟩, _, _, hz2, ⟨m', hm', m1, m2, hm1, hm2, hm3⟩, hz3⟩ := hd
          injection hz with hz0 hz
          subst hz0
          subst hz
          injection hz2 with hz0 hz
          subst hz0
          cases hn'
          cases hm'
          exact ⟨ratio n m, rfl, itB_ratio (by omega) (by omega) (by omega) (by omega)⟩
      · exact rs.conv 0 rfl (drO_mono (by omega))
      · obtain ⟨ds, rfl, hlen, hds⟩ := hd
        obtain ⟨its, rfl, hits⟩ := its_list hds
        rw [List.length_map] at hlen
        exact ⟨_, rfl, ⟨its, rfl, by omega, by omega, hits⟩, _, Nat.le_refl _, rfl⟩
    · refine pbd_ret (pd_callD (m := 80) 0 (g_law_moved T) (hr.mono (by decide)) rfl (ρ1 := [.ob (drO K ad cd xs (u + 1 + 1 + 1)), .im (tD t), .im (iTup fr), .un]) (u1 := u + 1 + 1 + 1) rfl hxs (TA := fun ds => ∃ r : Int, ds = [iTup fr, iTup [r, 9]] ∧ 0 ≤ r ∧ r < 9) (PDs.mono (pds_cons (PV.dd (pv_var 2)) (pds_cons (pd_tup (pds_cons (pd_next (m := 9) 0 T (hr.mono (by decide)) rfl ⟨by decide, by decide⟩ hxs (by omega) pv_int) (pds_cons (PV.dd pv_int) pds_nil)) (fun ds h => by
        obtain ⟨_, _, rfl, _, _, _, rfl, _, rfl⟩ := h
        simp)) pds_nil)) fun ds h => ?_) (fun ds h => ?_) (by omega)) fun d hd => ?_
      · obtain ⟨_, _, rfl, rfl, _, _, rfl, ⟨_, rfl, _, _, rfl, ⟨r, rfl, h1, h2⟩, _, _, rfl, rfl, rfl⟩, rfl⟩ := h
        exact ⟨r, rfl, h1, h2⟩
      · obtain ⟨r, rfl, h1, h2⟩ := h
        exact ⟨(fr, r), rfl, ⟨hf1, hf2, h1, h2⟩, rfl⟩
      · obtain ⟨⟨l, r⟩, _, ⟨r', hds, _, _⟩, its, rfl, hl, hits⟩ := hd
        have hl : its.length = l.length := hl
        have hds : [iTup l, iTup [r, 9]] = [iTup fr, iTup [r', 9]] := hds
        have hlf : l.length = fr.length := by
          injection hds with h _
          injection h with h
          have := congrArg List.length h
          simpa using this
        exact ⟨_, rfl, ⟨its, rfl, by omega, by omega, hits⟩, _, by omega, rfl⟩
end
end Bf

namespace Bf
open PySem PySem.Spec PyProof.Rows L2 BF
/-! ### a list that stands anywhere + a list -/
def rCatS (K : PySem.W.Frag) : R2 := fun x y H Q => ∃ l b xs zs, x = .ref l ∧ y = .ref b ∧ SqL K H l xs ∧ SqL K H b zs ∧ xs.length + zs.length ≤ sizeLine ∧ ∀ p, H p = none → Q (.ref p) (upd H p (.lst (xs ++ zs)))
theorem op_catS {X : Cx} : OpR X (binaryOp .Add) (rCatS X.K) := by
  intro pins s σ H x y v u Q I rx ry h
  obtain ⟨l, b, xs, zs, rfl, rfl, hH, hB, hz, q⟩ := h
  cases rx
  cases ry
  obtain ⟨vs, r, ⟨⟨cls, dd, data, sl⟩, n, ho, hc, _, hd⟩, hl⟩ := I.list hH
  obtain ⟨ws, r2, ⟨⟨cls2, dd2, data2, sl2⟩, n2, ho2, hc2, _, hd2⟩, hl2⟩ := I.list hB
  simp only at hc hd hc2 hd2
  subst hc hd hc2 hd2
  have e : vs.toArray ++ ws.toArray = (vs ++ ws).toArray := by simp
  have hsz : vs.toArray.size + ws.toArray.size ≤ sizeLine := by rw [List.size_toArray, List.size_toArray, ← r.length, ← r2.length]; exact hz
  refine concat_meets ⟨_, ho, rfl⟩ ⟨_, ho2, rfl⟩ noFill_list_add seq_list_add PySem.F.slot_list_add PySem.F.entry_list_add (PySem.F.args_list_add_2 _ _) (list_addW l b vs.toArray ws.toArray n n2 dd dd2 sl sl2 hsz) ⟨ho, ho2, ?_⟩
  rw [e]
  exact ⟨.ref _, _, I.lnew (t' := s.toks) (r.append r2) (by rw [List.length_append]; omega), rfl, q _ I.fresh⟩
section
variable {X : Cx} {C : Addr} {ρ : List Sl} {e a b : Expr} {ds us : List D} {pos : Pos}
theorem pl_catS (ha : PV X C a ρ (.lst ds)) (hb : PL X C b ρ us) (hl : ds.length + us.length ≤ 1000) : PL X C (.BinOp a .Add b pos) ρ (ds ++ us) := fun σ H0 H rs Q q =>
  ee (pe_op op_catS (pe X a) (pe X b)) (ha σ H0 H rs _ fun v H1 e1 r1 => hb σ H0 H1 (rs.ex e1) _ fun p2 ys H2 _ e2 h2 r2 => by
    obtain ⟨p, xs, e, hq, hx⟩ := r1.lst_inv
    subst e
    have hB : Ex H0 H2 := (rs.base.trans e1).trans e2
    have hx2 := hx.ex e2
    exact ⟨p, p2, xs, ys, rfl, rfl, sqL_ex hB hq, SqL.of h2, by rw [hx.length, r2.length]; exact small' hl, fun t ht => q t _ _ ((e1.trans e2).free ht) ((e1.trans e2).trans (Ex.new ht)) upd_same ((hx2.append r2).ex (Ex.new ht))⟩)
end
theorem reps_ints {K : PySem.W.Frag} {C : Addr} {B H : Hp} : ∀ {xs : List V} {l : List Int}, Reps K C B H xs (l.map D.int) → xs = l.map V.int
  | [], [], _ => rfl
  | [], _ :: _, r => by cases r
  | _ :: _, [], r => by cases r
  | x :: xs, i :: l, r => by
    cases r with
    | cons h t =>
      have h2 : x = V.int i := h.int_inv
      rw [h2, reps_ints t]
      rfl
section
variable {P : Program} {w : World} {K : PySem.W.Frag} {mg : Str → Option Value} {base : Heap} {C : Addr}
theorem sc_law_begin : FnScope ["script"] ["script"] (defScope s_law_begin) := ⟨rfl, rfl, rfl, by decide +kernel, rfl, by decide +kernel, by decide +kernel⟩
def sp_law_begin (K : PySem.W.Frag) (C : Addr) : Sp := fun vs H Q _ => ∃ ns : List Int, Reps K C H H vs [.lst (ns.map D.int)] ∧ ns.length ≤ 63 ∧ ∀ (a c : Addr) (H' : Hp), H a = none → H c = none → Ex H H' → H' a = some (.dK (drE c 0 0 0)) → H' c = some (.lst ((ns ++ [0]).map V.int)) → Q (.ref a) H'
theorem merge_dr (c : Addr) : mergeK [] [(.inr "cells", .ref c), (.inr "at", .int 0), (.inr "left", .int 0), (.inr "used", .int 0)] = drE c 0 0 0 := by rfl
theorem ret_begin {X : Cx} {ρ : List Sl} {ns : List Int} {a : Expr} {p1 p2 p3 p4 p5 p6 pos pos' : Pos} {k1 k2 k3 k4 k5 k6 k7} (hlen : ns.length ≤ 63) (ha : PV X C a ρ (.lst (ns.map D.int))) {σ : L2.St} {H0 H : Hp} (rs : RS X.K C H0 H σ ρ) {De : Ends} {p7 p8 p9 : Pos} {k8}
    (q : ∀ (a c : Addr) (H' : Hp), H a = none → H c = none → Ex H H' → H' a = some (.dK (drE c 0 0 0)) → H' c = some (.lst ((ns ++ [0]).map V.int)) → De.rt (.ref a) H') :
    ESs X [.Return (some (.Dict [some (.Constant (.str "cells") k1 p1), some (.Constant (.str "at") k2 p2), some (.Constant (.str "left") k3 p3), some (.Constant (.str "used") k4 p4)] [.BinOp a .Add (.List [.Constant (.int 0) k5 p5] p9) p8, .Constant (.int 0) k6 p6, .Constant (.int 0) k7 p7, .Constant (.int 0) k8 pos'] pos)) pos] σ H De := by
  refine ess_cons (Bf.es (ps_ret (pe_disp (pps_cons pe_str (pe X _) (pps_cons pe_str pe_int (pps_cons pe_str pe_int (pps_cons pe_str pe_int pps_nil)))) (by rfl) (by rfl) (fun h => nomatch h) (Nat.le_of_ble_eq_true rfl))) ?_)
  intro p hp
  refine pl_catS ha (pl_lst (pvs_cons pv_int pvs_nil)) (by rw [List.length_map]; show ns.length + 1 ≤ 1000; omega) σ H0 _ (rs.ex (Ex.new hp)) _ fun c xs H1 hc e1 hl r1 => ?_
  have e : ns.map D.int ++ [D.int 0] = (ns ++ [0]).map D.int := by rw [List.map_append]; rfl
  rw [e] at r1
  have hx := reps_ints r1
  subst hx
  have hcp : c ≠ p := fun z => by rw [z, upd_same] at hc; cases hc
  have h1 : H c = none := by rw [upd_ne hcp] at hc; exact hc
  refine ⟨e1 _ _ upd_same, [(.inr "cells", .ref c), (.inr "at", .int 0), (.inr "left", .int 0), (.inr "used", .int 0)], rfl, Nat.le_of_ble_eq_true rfl, ?_⟩
  rw [merge_dr]
  refine q p c _ hp h1 (fun b o hb => ?_) upd_same ?_
  · have hbp := ne_of_none hb hp
    rw [upd_ne hbp]
    refine e1 b o ?_
    rw [upd_ne hbp]
    exact hb
  · rw [upd_ne hcp]
    exact hl
theorem g_law_begin (T : Tx w K mg C) : GFn P w K mg base "_law_begin" 1 (sp_law_begin K C) := by
  obtain ⟨f, fd, F, hm⟩ := T.d_law_begin.ex
  refine ⟨f, fd, ["script"], F.ok sc_law_begin (fun vs H Q E h => ?_) (fun cdv A outer s H vs Q E hr h => ?_), hm, F.kp, F.binds (fun _ _ _ _ _ _ us hl => match us, hl with | [_], _ => rfl)⟩
  · obtain ⟨ns, r, _⟩ := h
    rw [r.length]
    rfl
  · obtain ⟨ns, r, hlen, q⟩ := h
    refine ⟨_, pss _ (defBody s_law_begin), ?_⟩
    exact ret_begin (C := C) hlen (pv_var 0) (rs_start r) q
end
section
variable {X : Cx} {C : Addr} {ρ : List Sl} {e : Expr} {pos pos' p : Pos} {z : Str} {N : List Sl → Prop} {R : Wv → List Sl → Prop} {rest : List Stmt}
/-- draw = _law_begin(e) -/
theorem pb_begin (i : Nat) (T : Tx X.w X.K X.mg C) (hr : Room 1 X.A) {ns : List Int} (hlen : ns.length ≤ 63) (hN : X.N.Nodup) (ha : PV X C e ρ (.lst (ns.map D.int))) (k : ∀ a c, PBd X C rest (ρ.set i (.ob (drO X.K a c (ns ++ [0]) 0))) N R) (hi : X.N[i]? = some z := by rfl) (hx : Loc X.env.scope z := by first | exact Or.inl rfl | exact Or.inr rfl)
    (hg : Gl X "_law_begin" := by rfl) (hs : swapsWith (.Call (.Name "_law_begin" p) [e] [] pos) (some (.Name z pos')) pos.line X.env = pure false := by rfl) (hf : X.fn z = true ∨ X.env.scope.names.lookup z = some .local := by first | exact .inl rfl | exact .inr rfl)
    (he : starEach [e] X.env = (false, eval e X.env) :: starEach [] X.env := by rfl) (hpl : (backTo pos (starEach [] X.env)).any (·.1) = false := by rfl) :
    PBd X C (.Assign [.Name z pos'] (.Call (.Name "_law_begin" p) [e] [] pos) pos :: rest) ρ N R := fun σ H0 H rs D nx rt =>
  ess_cons (Bf.es (ps_set hN hi hx (pe_g (g_law_begin (P := X.prog) (base := X.base) T) hr (pa X [e]) hg (by decide) he hpl) hs hf) (pvs_cons ha pvs_nil he σ H0 H rs _ fun vs H1 e1 r1 => by
    show sp_law_begin X.K C (vs ++ []) H1 _ E0
    rw [List.append_nil]
    refine ⟨ns, Reps.gr (rs.base.trans e1) _ _ r1, hlen, fun a c H2 ha hc e2 h1 h2 => ?_⟩
    have hac : a ≠ c := fun z => by rw [z, h2] at h1; cases h1
    obtain ⟨eB, rsB⟩ := rs.freezeN (e1.free hc) (e1.trans e2) h2
    have ha0 := e1.free ha
    refine k a c _ _ H2 (rsB.setB (i := i) (p := a) (O := drO X.K a c (ns ++ [0]) 0) ?_ ⟨0, 0, 0, ⟨Int.le_refl _, Int.le_refl _⟩, rfl, h1, SqL.of upd_same⟩ (rs.fresh ha0)) D (fun σ' H' B ρ' eB' im => nx σ' H' B ρ' (eB.trans eB') ((e1.trans e2).im.trans im)) fun v H' B w σ' ρ' eB' => rt v H' B w σ' ρ' (eB.trans eB')
    rw [upd_ne hac]
    exact rs.base.free ha0))
end
end Bf

namespace BfN
open PySem PySem.Spec PyProof.Rows PySem.SeqAt
section
variable {prog : Program} {w : World} {A : Around} {E : Value → Shared → Prop} {s : Shared} {K : PySem.W.Frag} {x y C f : Addr} {ox : Obj} {od : Option Obj}
/-- a lookup that ends at the object's own != -/
theorem ifBound_ne {M : Model} {args : List Value} {Q : Option Value → Shared → Prop} (X : K.In s.heap) (I : PySem.W.InstAt s.heap x ox C od) (hs : PySem.W.findIn K (.ref C) "__ne__" = some (some (.builtin "object.__ne__")))
    (h : wpAny M A (call (.builtin "object.__ne__") (.ref x :: args)) (fun v => Q (some v)) E s) : wpAny M A (callSpecialIfBound? (.ref x) "__ne__" args) Q E s := by
  simp only [callSpecialIfBound?, bindSpecialIfBound?]
  refine wpAny_holding (wpAny_bind (wpAny_bind (wpAny_bind (I.type.here ((PySem.W.looks_findIn X hs).here ?_)))))
  refine wpAny_bind (wpAny_askSetting (wpAny_ite ?_))
  have fin : wpAny M A (call (.builtin "object.__ne__") ([.ref x] ++ args) >>= fun v => pure (some v)) Q E s := wpAny_bind (wpAny_mono h (fun v s' h' => wpAny_pure h') fun _ _ h' => h')
  split
  · exact wpAny_bind (wpAny_of_eq (F.cmp_object.ne.bind _) (wpAny_pure (by exact fin)))
  · exact wpAny_tryCatch (wpAny_bind (wpAny_of_eq (F.cmp_object.ne.bind _) (wpAny_pure (by exact fin))))
/-- object.__ne__, an own == that says yes -/
theorem entry_ne {Q : Fin → Shared → Prop} (hu : A.units < cLine) (X : K.In s.heap) (I : PySem.W.InstAt s.heap x ox C od) (hs : PySem.W.findIn K (.ref C) "__eq__" = some (some (.ref f))) (hf : PySem.W.isFn K (.ref f) = true)
    (h : wpAny (model prog w) A (call (.ref f) [.ref x, .ref y]) (fun v s' => v = .bool true ∧ Q (.done (.ret (.bool false))) s') E s) :
    wpAny (model prog w) A (Builtin.«object.__ne__» ⟨[.ref x, .ref y], []⟩) Q E s := by
  have key : ∀ Q' : Option Value → Shared → Prop, (∀ s', Q (.done (.ret (.bool false))) s' → Q' (some (.bool true)) s') → wpAny (model prog w) A (callSpecialIfBound? (.ref x) "__eq__" [.ref y]) Q' E s := fun Q' hQ =>
    PySem.W.ifBound_K X I hs hf (wpAny_mono h (fun v s' q => by rw [q.1]; exact hQ s' q.2) fun _ _ e => e)
  unfold Builtin.«object.__ne__»
  repeat (first | with_reducible refine wpAny_cRoomFor hu ?_ | with_reducible refine key _ ?_ | wp_step)
  intro s' q
  refine wpAny_bind (wpAny_truthy_bool ?_)
  exact wpAny_pure q
theorem call_ne {Q : Value → Shared → Prop} (hu : A.in1.units < cLine) (X : K.In s.heap) (I : PySem.W.InstAt s.heap x ox C od) (hm : PySem.W.mroIn K C (.type "object") = some true) (hs : PySem.W.findIn K (.ref C) "__eq__" = some (some (.ref f))) (hf : PySem.W.isFn K (.ref f) = true)
    (h : wpAny (model prog w) A.in1 (call (.ref f) [.ref x, .ref y]) (fun v s' => v = .bool true ∧ Q (.bool false) s') E s) :
    wpAny (model prog w) A (call (.builtin "object.__ne__") [.ref x, .ref y]) Q E s :=
  wpAny_call (codeAny_call_builtin F.cmp_object.ne.plain F.cmpEntry_ne (PySem.W.check_slot F.cmpKind_ne F.cmpSplit_ne (I.type.andThen (PySem.W.looks_mroIn X hm)) (F.cmpArgs_ne _ _) (entry_ne hu X I hs hf (wpAny_mono h (fun v s' q => q) fun _ _ e => e))))
/-- != of two instances whose own == says yes -/
theorem rc_ne {ox' : Obj} {od' : Option Obj} {Q : Value → Shared → Prop} (hu : A.units < cLine) (hu1 : A.in1.units < cLine) (X : K.In s.heap) (I : PySem.W.InstAt s.heap x ox C od) (J : PySem.W.InstAt s.heap y ox' C od') (hm : PySem.W.mroIn K C (.type "object") = some true)
    (hs : PySem.W.findIn K (.ref C) "__eq__" = some (some (.ref f))) (hf : PySem.W.isFn K (.ref f) = true) (hne : PySem.W.findIn K (.ref C) "__ne__" = some (some (.builtin "object.__ne__")))
    (h : wpAny (model prog w) A.in1 (call (.ref f) [.ref x, .ref y]) (fun v s' => v = .bool true ∧ Q (.bool false) s') E s) :
    wpAny (model prog w) A (richCompare .NotEq (.ref x) (.ref y)) Q E s := by
  have one : wpAny (model prog w) A (tryCompare (.ref x) "__ne__" (.ref y)) (fun r s' => r = some (.bool false) ∧ Q (.bool false) s') E s := by
    unfold tryCompare
    exact wpAny_bind (ifBound_ne X I hne (call_ne hu1 X I hm hs hf (wpAny_mono h (fun v s' q => ⟨q.1, wpAny_pure ⟨rfl, q.2⟩⟩) fun _ _ e => e)))
  simp only [richCompare, cmpInfo_NotEq, oneThing_ref]
  refine wpAny_holding (wpAny_bind (wpAny_cRoomFor hu ?_))
  refine wpAny_bind (I.type.here (wpAny_bind (J.type.here ?_)))
  split
  · rename_i q
    exact absurd q (by simp)
  · refine wpAny_bind (wpAny_pure ?_)
    simp only [Bool.false_eq_true, if_false]
    refine wpAny_bind (wpAny_mono one (fun r s' z => ?_) fun _ _ e => e)
    obtain ⟨z1, z2⟩ := z
    subst z1
    exact wpAny_pure z2
end
end BfN

namespace BfN
open PySem PySem.SeqAt
open AutoSeq1 (wpAny_loadPart')
open MeetsSeq MeetsSeq2 MeetsSeq3 SeqRoads2
section
variable {prog : Program} {w : World} {A : Around} {R : Result → Shared → Prop}
/-- != of two tuples whose items are equal, in turn -/
theorem tup_ne (l b : Addr) (items items2 : Array Value) (n n2 : Nat) (dd dd2 : Option Addr) (sl sl2 : Array (Option Value)) (hsz : items.size = items2.size) (I : Nat → Shared → Prop)
    (turn : ∀ i (h1 : i < items.size) (h2 : i < items2.size) s, I i s → wpAny (model prog w) A.in1 (eqBool items[i] items2[i]) (fun r s' => r = true ∧ I (i + 1) s') (fun e s' => R (.error e) s') s)
    (fin : ∀ s, I items.size s → R (.ok (.ret (.bool false))) s) {s : Shared} (hl1 : s.heap.get? l = some { cls := .type "tuple", dict := dd, data := .seq items n, slots := sl }) (hb1 : s.heap.get? b = some { cls := .type "tuple", dict := dd2, data := .seq items2 n2, slots := sl2 }) (h : I 0 s) :
    wpAny (model prog w) A.in1 (Builtin.«tuple.__ne__» ⟨[.ref l, .ref b], []⟩) (GQ.FinOf prog w A R) (fun e s' => R (.error e) s') s := by
  have f2 := AutoSeq1.sub_tuple_tuple
  have hZ : (items.toList.zip items2.toList).length = items.size := by simp [hsz]
  have h0 := h
  obtain ⟨hp, g, d, tk, os⟩ := s
  wp_walk using wpAny_loadPart' hl1, wpAny_loadPart' hb1, wpAny_forIn_list _ (fun rest b s' => b.1 = none ∧ ∃ i, rest = (items.toList.zip items2.toList).drop i ∧ i ≤ items.size ∧ I i s') _
  case turn =>
    rintro ⟨y, x⟩ rest b s' ⟨hb', i, hz, hi, hI⟩
    have hlt : i < (items.toList.zip items2.toList).length := by
      rcases Nat.lt_or_ge i (items.toList.zip items2.toList).length with h' | h'
      · exact h'
      · rw [List.drop_of_length_le h'] at hz; cases hz
    have h1 : i < items.size := hZ ▸ hlt
    have h2 : i < items2.size := hsz ▸ h1
    rw [List.drop_eq_getElem_cons hlt] at hz
    injection hz with hyx hrest
    have hy : y = items[i] := by have := congrArg Prod.fst hyx; simpa using this
    have hx : x = items2[i] := by have := congrArg Prod.snd hyx; simpa using this
    subst hy hx
    refine wpAny_bind (wpAny_mono (turn i h1 h2 s' hI) (fun r s2 q2 => ?_) fun _ _ x => x)
    obtain ⟨hr, q2⟩ := q2
    subst hr
    wp_walk
    exact ⟨rfl, i + 1, hrest, h1, q2⟩
  case fin =>
    rintro ⟨b1, b2⟩ s' ⟨hb', i, hz, hi, hI⟩
    simp only at hb'
    subst hb'
    have hge : items.size ≤ i := by
      rcases Nat.lt_or_ge i (items.toList.zip items2.toList).length with h' | h'
      · rw [List.drop_eq_getElem_cons h'] at hz; cases hz
      · exact hZ ▸ h'
    have hi' : i = items.size := by omega
    have hR : R (.ok (.ret (.bool false))) s' := fin s' (hi' ▸ hI)
    wp_walk
    simpa [Builtin.Tuple.tupleCompareSizes, hsz] using hR
  case h =>
    exact ⟨rfl, 0, rfl, Nat.zero_le _, h0⟩
end
section
variable {prog : Program} {w : World} {A : Around} {E : Value → Shared → Prop} {s : Shared}
theorem rc_tup_ne {l b : Addr} {items items2 : Array Value} {Q : Value → Shared → Prop} (hsz : items.size = items2.size) (hu : A.units < cLine) (I : Nat → Shared → Prop)
    (hl : s.heap.IsTuple l items) (hb : s.heap.IsTuple b items2)
    (turn : ∀ i (h1 : i < items.size) (h2 : i < items2.size) s, I i s → wpAny (model prog w) A.in1 (eqBool items[i] items2[i]) (fun r s' => r = true ∧ I (i + 1) s') E s)
    (fin : ∀ s, I items.size s → Q (.bool false) s) (h : I 0 s) : wpAny (model prog w) A (richCompare .NotEq (.ref l) (.ref b)) Q E s := by
  obtain ⟨⟨cls, dd, data, sl⟩, ho, hc, n, hd⟩ := id hl
  obtain ⟨⟨cls2, dd2, data2, sl2⟩, ho2, hc2, n2, hd2⟩ := id hb
  simp only at hc hd hc2 hd2
  subst hc hd hc2 hd2
  refine wpAny_richCompare_same_room (op := .NotEq) ⟨_, ho, rfl⟩ ⟨_, ho2, rfl⟩ F.slot_tuple_ne (GQ.call_here F.slot_tuple_ne ⟨_, ho, rfl⟩ F.entry_tuple_ne (F.args_tuple_ne_2 _ _) ?_) hu
  exact tup_ne (R := wants (fun v s' => v ≠ .notImplemented ∧ Q v s') E) l b items items2 n n2 dd dd2 sl sl2 hsz I turn (fun s' q => ⟨(fun x => nomatch x), fin s' q⟩) ho ho2 h
end
end BfN
namespace Bf
open PySem PySem.Spec PyProof.Rows L2 BF
/-- != says no for what D says -/
def RcN (X : Cx) (n : Nat) (D : Eqv) : Prop :=
  ∀ (A : Around) (pins : List (Addr × Obj)) (s : Shared) (σ : L2.St) (H : Hp) (x y : V) (u v : Value), Sub X n A → Inv X pins σ H s → RelV x u → RelV y v → D x y H →
    wpAny (model X.prog X.w) A (richCompare .NotEq u v) (fun r s' => r = .bool false ∧ ∃ H', Inv X pins σ H' s' ∧ Ext H H') X.xe s
section
variable {X : Cx} {n : Nat} {D : Eqv}
theorem rcN_tup (hD : Mon D) (h : EqG X n D) : RcN X (n + 1) (DTup X.K D) := by
  intro A pins s σ H x y u v sb I rx ry d
  obtain ⟨a, b, xs, ys, rfl, rfl, ha, hb, p⟩ := d
  cases rx
  cases ry
  obtain ⟨its, r, e, z⟩ := I.tuple ha
  obtain ⟨its2, r2, e2, z2⟩ := I.tuple hb
  have hsz : its.toArray.size = its2.toArray.size := by rw [List.size_toArray, List.size_toArray, ← r.length, ← r2.length]; exact p.1
  exact BfN.rc_tup_ne hsz sb.room.units0 (fun _ s' => LoopI X pins σ H s') e e2 (fun i h1 h2 s' q => turnG hD h sb p r r2 i h1 h2 s' q) (fun s' q => ⟨rfl, q⟩) ⟨H, I, Ext.rfl'⟩
theorem rcN_ins {CX : CXT} {C f : Addr} {fd : FuncData} {ps : List Str} {R : Addr → Addr → Hp → Prop} {E : XK} (F : FnOk X.prog X.w X.K X.mg X.base CX n f fd ps (spEq R)) (hne : PySem.W.findIn X.K (.ref C) "__ne__" = some (some (.builtin "object.__ne__"))) (hm : PySem.W.mroIn X.K C (.type "object") = some true)
    (hs : PySem.W.findIn X.K (.ref C) "__eq__" = some (some (.ref f))) (hf : PySem.W.isFn X.K (.ref f) = true) (hb : Binds X.K fd ps []) (hx : Passes CX X E) : RcN X (n + 1) (DIns C R) := by
  intro A pins s σ H x y u v sb I rx ry d
  obtain ⟨a, b, dx, dy, fs, gs, rfl, rfl, ha, hb', hr⟩ := d
  cases rx
  cases ry
  obtain ⟨mA, J, _⟩ := ins_get I.hok ha
  obtain ⟨mB, J', _⟩ := ins_get I.hok hb'
  obtain ⟨od, J, _⟩ := J.look
  obtain ⟨od', J', _⟩ := J'.look
  refine BfN.rc_ne sb.room.units0 sb.in1.room.units0 I.kIn J J' hm hs hf hne ?_
  have hsp : spEq R [.ref a, .ref b] H (fun v H' => v = .bl true ∧ Ext H H') E := ⟨a, b, rfl, hr, fun H' e => ⟨rfl, e⟩⟩
  have e0 : Env0 X.prog X.w X.K X.mg X.base A.in1 X.stack s H := by
    have e := I.env0
    exact ⟨by show A.frames = _; rw [sb.fr]; exact e.frames, e.mod, e.bs, e.bsz, e.funs, e.frf, e.hok, e.bare⟩
  have hl := F.len _ _ _ _ hsp
  have r2 : Vals [V.ref a, V.ref b] [Value.ref a, Value.ref b] := .cons rfl (.cons rfl .nil)
  refine wpAny_call (codeAny_mono (F.run A.in1 X.stack s H ⟨[.ref a, .ref b], []⟩ [.ref a, .ref b] [.ref a, .ref b] _ E sb.in1.room e0 (by
    have := hb s [.ref a, .ref b] I.kIn (by simpa using hl)
    simpa using this) r2 hsp) fun r s' hq => ?_)
  cases r with
  | error e => exact hx pins σ H s e s' I hq
  | ok fl =>
    cases fl with
    | ret w =>
      obtain ⟨z, H', I', rz, ez, ex⟩ := I.after hq
      subst ez
      cases rz
      exact ⟨rfl, rfl, H', I', ex⟩
    | next => exact False.elim hq
    | brk => exact False.elim hq
    | cont => exact False.elim hq
/-- x != y as an expression -/
def rNeG (D : Eqv) : R2 := fun x y H Q => D x y H ∧ ∀ H', Ext H H' → Q (.bl false) H'
theorem op_neG (h : RcN X n D) (hr : Room n X.A) : OpR X (compareOp .NotEq) (rNeG D) := by
  intro pins s σ H x y v u Q I rx ry hq
  obtain ⟨d, q⟩ := hq
  show wpAny (model X.prog X.w) X.A (richCompare .NotEq v u) (EP X pins σ Q) X.xe s
  refine wpAny_mono (h X.A pins s σ H x y v u ⟨hr, rfl⟩ I rx ry d) (fun r s' z => ?_) fun _ _ x => x
  obtain ⟨hr', H', I', e⟩ := z
  subst hr'
  exact ⟨.bl false, H', I', rfl, q H' e⟩
end
/-! ### Ratio.__eq__ -/
section
variable {P : Program} {w : World} {K : PySem.W.Frag} {mg : Str → Option Value} {base : Heap} {C : Addr}
theorem sc_R_eq : FnScope ["self", "other"] ["self", "other"] (defScope s_R_eq) := ⟨rfl, rfl, rfl, by decide +kernel, rfl, by decide +kernel, by decide +kernel⟩
def eqR (K : PySem.W.Frag) (C : Addr) : Addr → Addr → Hp → Prop := fun a b H => ∃ n d : Int, Rep K C H H (.ref a) (.rat n d) ∧ Rep K C H H (.ref b) (.rat n d)
theorem fn_R_eq (T : Tx w K mg C) {f : Addr} {fd : FuncData} (F : Fun K "__eq__" "Ratio.__eq__" s_R_eq f fd) : FnOk P w K mg base CX0 1 f fd ["self", "other"] (spEq (eqR K C)) := by
  refine (okF (C := C) (arg := fun y : Int × Int => [.rat y.1 y.2, .rat y.1 y.2]) (pre := fun _ => True) (res := fun _ => .bl true) F sc_R_eq (fun _ => rfl) (fun y _ cdv A outer s H E hr => ?_)).imp fun vs H Q E h => ?_
  · refine pb_ret (pv_and (pv_isR T.R T.b_isinstance (pv_var 1)) fun _ => pv_and (pv_eqI (pv_fldN T.R (pv_var 0)) (pv_fldN T.R (pv_var 1))) fun _ => pv_1 (pv_eqI (pv_fldD T.R (pv_var 0)) (pv_fldD T.R (pv_var 1)))) ?_
    simp
  · obtain ⟨a, b, rfl, ⟨n, d, r1, r2⟩, q⟩ := h
    refine ⟨(n, d), .cons r1 (.cons r2 .nil), trivial, fun v H' e r => ?_⟩
    have hv : v = .bl true := (r H').bl_inv
    rw [hv]
    exact q H' e
end
end Bf

namespace Bf
open PySem PySem.Spec PyProof.Rows L2 BF
/-! ### repr of a word -/
theorem call_reprD {X : Cx} (hg : X.A.guards = some []) (hu : X.A.units + 66 < cLine) : CallR X (.builtin "repr") (fun xs H Q => ∃ a d, xs = [V.ref a] ∧ Dp X.K H (.ref a) d ∧ d.hasDict = false ∧ d.showable = true ∧ d.depth ≤ 64 ∧ d.shown.length ≤ sizeLine ∧ Q (.str d.shown) H) := by
  intro pins s σ H xs us Q I r h
  obtain ⟨a, d, rfl, hd, hnd, hs, hdp, hsz, q⟩ := h
  obtain ⟨u, rfl, ru⟩ := vals1 r
  cases ru
  obtain ⟨as, hr⟩ := Dp.reads I d _ _ hd rfl
  exact repr_of_reads' hr hs (PyData.noDict_hsm hnd) hg (by omega) (fun _ _ e => e) (fun h' u tk hk => ⟨.str _, H, I.kept hk, ⟨_, rfl⟩, q⟩) hsz
/-- a word as data -/
def wPy (w : List Bool) : PyData := .tuple (w.map fun b => PyData.int (bI b))
theorem wD_py (w : List Bool) : (wD w).py = wPy w := by
  show PyData.tuple (D.pys (w.map bD)) = _
  rw [pys_map]
  rfl
theorem showAll_w : ∀ w : List Bool, PyData.showableAll (w.map fun b => PyData.int (bI b)) = true
  | [] => by simp [PyData.showableAll]
  | b :: w => by
    rw [List.map_cons, PyData.showableAll, showAll_w w]
    have e : PyData.showable (.int (bI b)) = true := by
      simp only [PyData.showable]
      cases b <;> decide +kernel
    rw [e]
    rfl
theorem dict_w : ∀ w : List Bool, PyData.hasDictAll (w.map fun b => PyData.int (bI b)) = false
  | [] => by simp [PyData.hasDictAll]
  | b :: w => by
    rw [List.map_cons, PyData.hasDictAll, dict_w w]
    simp [PyData.hasDict]
theorem shown_w : ∀ w : List Bool, ((PyData.shownAll (w.map fun b => PyData.int (bI b))).map (·.length)).sum = w.length ∧ (PyData.shownAll (w.map fun b => PyData.int (bI b))).length = w.length
  | [] => by simp [PyData.shownAll]
  | b :: w => by
    obtain ⟨h1, h2⟩ := shown_w w
    have e : (PyData.shown (.int (bI b))).length = 1 := by
      simp only [PyData.shown]
      cases b <;> decide +kernel
    rw [List.map_cons, PyData.shownAll, List.map_cons, List.sum_cons, List.length_cons, List.length_cons, h1, h2, e]
    exact ⟨by omega, rfl⟩
theorem len_w {w : List Bool} (h : w.length ≤ 1000) : (wPy w).shown.length ≤ sizeLine := by
  have h1 := tupleText_len_le (PyData.shownAll (w.map fun b => PyData.int (bI b)))
  obtain ⟨h2, h3⟩ := shown_w w
  rw [h2, h3] at h1
  have e : (wPy w).shown = tupleText (PyData.shownAll (w.map fun b => PyData.int (bI b))) := by simp only [wPy, PyData.shown]
  rw [e]
  refine Nat.le_trans h1 ?_
  rw [sizeLine_eq]
  omega
theorem depth_w (w : List Bool) : (wPy w).depth ≤ 64 := by
  have h := depth_all (f := fun b => PyData.int (bI b)) (n := 0) (fun b => by simp [PyData.depth]) w
  simp only [wPy, PyData.depth]
  omega
theorem plain_w (w : List Bool) : (wD w).plain = true := plains_map (f := bD) (fun _ => rfl) w
section
variable {X : Cx} {C : Addr} {ρ : List Sl} {a b : Expr} {pos p : Pos} {n d : Int} {w : List Bool}
theorem pv_reprW (hm : X.mg "repr" = none) (hgd : X.A.guards = some []) (hu : X.A.units + 66 < cLine) (hw : w.length ≤ 1000) (ha : PV X C a ρ (wD w)) (hg : Gl X "repr" := by rfl) (he : starEach [a] X.env = (false, eval a X.env) :: starEach [] X.env := by rfl) : PV X C (.Call (.Name "repr" p) [a] [] pos) ρ (.str (wPy w).shown) := fun σ H0 H rs Q q =>
  ee (pe_callB (call_reprD hgd hu) hg hm (by decide +kernel) (pa_cons (pe X a) pa_nil he) (by decide) (by decide) he rfl) (ha σ H0 H rs _ fun v H1 e1 r1 => by
    have hd := rep_dp _ _ r1 (plain_w w)
    rw [wD_py] at hd
    obtain ⟨t, xs, e2, _, _⟩ := r1.tup_inv
    subst e2
    refine ⟨t, wPy w, rfl, hd, ?_, ?_, depth_w w, len_w hw, q _ H1 e1 (.str _)⟩
    · simp only [wPy, PyData.hasDict]
      exact dict_w w
    · simp only [wPy, PyData.showable]
      exact showAll_w w)
/-! ### != of ratios, of what nearest gives -/
theorem mon_eqR {K : PySem.W.Frag} {C : Addr} : Mon (DIns C (eqR K C)) := mon_ins fun a b H H' e h => by
  obtain ⟨n, d, r1, r2⟩ := h
  obtain ⟨t, dx, e1, h1⟩ := r1.rat_inv
  obtain ⟨t2, dx2, e2, h2⟩ := r2.rat_inv
  cases e1
  cases e2
  exact ⟨n, d, .rat (e _ _ h1), .rat (e _ _ h2)⟩
theorem ins_of {K : PySem.W.Frag} {C : Addr} {B H : Hp} {v u : V} (r1 : Rep K C B H v (.rat n d)) (r2 : Rep K C B H u (.rat n d)) : DIns C (eqR K C) v u H := by
  obtain ⟨t, dx, e1, h1⟩ := r1.rat_inv
  obtain ⟨t2, dx2, e2, h2⟩ := r2.rat_inv
  subst e1 e2
  exact ⟨t, t2, dx, dx2, _, _, rfl, rfl, h1, h2, n, d, .rat h1, .rat h2⟩
theorem pt_neRat (T : Tx X.w X.K X.mg C) (hne : PySem.W.findIn X.K (.ref C) "__ne__" = some (some (.builtin "object.__ne__"))) (hr : Room 2 X.A) (ha : PV X C a ρ (.rat n d)) (hb : PV X C b ρ (.rat n d)) : PTt X C (.Compare a [.NotEq] [b] pos) ρ false := by
  obtain ⟨f, fd, F, hs, hf⟩ := T.r_eq
  have hbd : Binds X.K fd ["self", "other"] [] := F.binds fun _ _ _ _ _ _ us hl => match us, hl with | [_, _], _ => rfl
  exact fun σ H0 H rs Q q => et (pt_cmpR (op_neG (rcN_ins (E := E0) (fn_R_eq (P := X.prog) (base := X.base) T F) hne T.R.hm hs hf hbd pass0) hr) (pe X a) (pe X b) (nomark _)) (ha σ H0 H rs _ fun v H1 e1 r1 => hb σ H0 H1 (rs.ex e1) _ fun u H2 e2 r2 => ⟨ins_of (r1.ex e2) r2, fun H' e3 => ⟨false, rfl, q H' ((e1.trans e2).trans e3)⟩⟩)
theorem prs_w {H : Hp} : ∀ w : List Bool, Prs DFlat (w.map fun b => V.int (bI b)) (w.map fun b => V.int (bI b)) H
  | [] => Prs.nil
  | b :: w => Prs.cons ⟨rfl, rfl, by cases b <;> decide +kernel⟩ (prs_w w)
theorem reps_w {K : PySem.W.Frag} {C : Addr} {B H : Hp} : ∀ {w : List Bool} {xs : List V}, Reps K C B H xs (w.map bD) → xs = w.map fun b => V.int (bI b)
  | [], _, r => by cases r; rfl
  | b :: w, _, r => by
    cases r with
    | cons h t =>
      have h2 := Rep.int_inv (i := bI b) h
      rw [h2, reps_w t]
      rfl
theorem pt_neTup (T : Tx X.w X.K X.mg C) (hne : PySem.W.findIn X.K (.ref C) "__ne__" = some (some (.builtin "object.__ne__"))) (hr : Room 2 X.A) (ha : PV X C a ρ (.tup [.rat n d, wD w])) (hb : PV X C b ρ (.tup [.rat n d, wD w])) : PTt X C (.Compare a [.NotEq] [b] pos) ρ false := by
  obtain ⟨f, fd, F, hs, hf⟩ := T.r_eq
  have hbd : Binds X.K fd ["self", "other"] [] := F.binds fun _ _ _ _ _ _ us hl => match us, hl with | [_, _], _ => rfl
  have hE : EqG X 1 (fun x y H => DIns C (eqR X.K C) x y H ∨ DTup X.K DFlat x y H) := EqG.or (eqG_ins (E := E0) (fn_R_eq (P := X.prog) (base := X.base) T F) hs hf hbd pass0) (eqG_tup mon_flat eqG_flat)
  have hM : Mon (fun x y H => DIns C (eqR X.K C) x y H ∨ DTup X.K DFlat x y H) := Mon.or mon_eqR (mon_tup mon_flat)
  exact fun σ H0 H rs Q q => et (pt_cmpR (op_neG (rcN_tup hM hE) hr) (pe X a) (pe X b) (nomark _)) (ha σ H0 H rs _ fun v H1 e1 r1 => hb σ H0 H1 (rs.ex e1) _ fun u H2 e2 r2 => by
    obtain ⟨t, xs, e3, h3, g3⟩ := (r1.ex e2).tup_inv
    obtain ⟨t2, ys, e4, h4, g4⟩ := r2.tup_inv
    subst e3 e4
    obtain ⟨x1, x2, e5, p1, p2⟩ := reps2 g3
    obtain ⟨y1, y2, e6, p3, p4⟩ := reps2 g4
    subst e5 e6
    refine ⟨⟨t, t2, _, _, rfl, rfl, h3, h4, Prs.cons (.inl (ins_of p1 p3)) (Prs.cons (.inr ?_) Prs.nil)⟩, fun H' e3 => ⟨false, rfl, q H' ((e1.trans e2).trans e3)⟩⟩
    obtain ⟨s1, zs, e7, h7, g7⟩ := p2.tup_inv
    obtain ⟨s2, ws, e8, h8, g8⟩ := p4.tup_inv
    subst e7 e8
    have e9 := reps_w g7
    have e10 := reps_w g8
    subst e9 e10
    exact ⟨s1, s2, _, _, rfl, rfl, h7, h8, prs_w w⟩)
end
/-! ### what nearest and the law say together -/
theorem law_fact {t : Tb} (ht : TbOk t) {its : List Item} (hb : BuOk its) :
    (due t its = none ∧ nrD t its = .non) ∨ ∃ (P : Part) (w : List Bool), due t its = some (P, w) ∧ PB P ∧ w.length ≤ 8 ∧ nrD t its = .tup [tolD (ratio P.1 P.2), wD w] := by
  have hL := nearest_law (right_of ht) (its := its) fun i hi => (hb.2.2 i hi).2.2.1
  cases hd : due t its with
  | none =>
    rw [hd] at hL
    have hL : least t its = none := hL
    exact .inl ⟨rfl, by unfold nrD; rw [hL]⟩
  | some q =>
    obtain ⟨P, w⟩ := q
    rw [hd] at hL
    obtain ⟨L, h1, h2, h3, h4, h5⟩ := hL
    have hq := due_pb ht hb.2.2 (ws := words t.bits) (o := none) (fun w h => words_length h) (fun _ z => by cases z) (P, w) hd
    have hP : PB P := hq.1
    have hLb := least_ok ht hb.2.2 h1
    have e1 : ratio L.1 L.2 = ratio P.1 P.2 := ratio_eq h2 hP.2.2.1 h3
    have e2 := h5 (ratio L.1 L.2) (ratio_pos h2) (ratio_nn hLb.1 h2) (ratio_same h2)
    refine .inr ⟨P, w, rfl, hP, ?_, ?_⟩
    · have := bits8 ht
      omega
    · unfold nrD
      rw [h1]
      show D.tup [tolD (ratio L.1 L.2), optD (leastWord t its (ratio L.1 L.2))] = _
      rw [e2, e1]
      rfl
end Bf

namespace Bf
open PySem PySem.Spec PyProof.Rows L2 BF
section
variable {X : Cx} {C ad : Addr} {ρ ρ' ρ1 ρ2 : List Sl} {e a b c tg : Expr} {es body rest' : List Expr} {d : D} {ds : List D} {pos pos' : Pos} {x y : Bool}
theorem pd_ite {T : D → Prop} {b' : Expr} (hc : PDt X C ad c ρ ρ1) (h1 : PD X C ad a ρ1 ρ2 T) (h2 : PD X C ad b' ρ1 ρ2 T) : PD X C ad (.IfExp c a b' pos) ρ ρ2 T := fun σ H0 H rs Q q =>
  ee (pe_ifExp (pt X c) (pe X a) (pe X b')) (hc σ H0 H rs _ fun x H1 im1 rs1 => by
    cases x with
    | true =>
      refine iteT ?_
      exact h1 σ H0 H1 rs1 Q fun u H2 d im2 rs2 r2 => q u H2 d (im1.trans im2) rs2 r2
    | false =>
      refine iteF ?_
      exact h2 σ H0 H1 rs1 Q fun u H2 d im2 rs2 r2 => q u H2 d (im1.trans im2) rs2 r2)
theorem pd_weak {T : D → Prop} {O O' : OwnO} (k : Nat) (hd : ρ'[k]? = some (.ob O)) (hO : ∀ B H p, O.ok B H p → O'.ok B H p) (h : PD X C ad e ρ ρ' T) : PD X C ad e ρ (ρ'.set k (.ob O')) T := fun σ H0 H rs Q q =>
  h σ H0 H rs Q fun v H1 d im1 rs1 r1 t => q v H1 d im1 (rs1.conv k hd hO) r1 t
variable {N : List Sl → Prop} {R : Wv → List Sl → Prop} {rest bd : List Stmt}
/-- for x in (e, f): .., the items draw -/
theorem pbd_forT {T : List D → Prop} {kk : Nat} {tpos : Pos} (h : PDs X C ad es ρ ρ1 T) (hl : ∀ ds, T ds → ds.length ≤ 1000) (Pv : List D → Nat → List Sl → Prop) (h0 : ∀ ds, T ds → Pv ds 0 ρ1) (hs : ∀ ds i ρ', T ds → i < ds.length → Pv ds i ρ' → ∃ js ρ2, PTg X C tg js ρ' (ds.getD i .non) ρ2 ∧ PBd X C bd ρ2 (Pv ds (i + 1)) R) (k : ∀ ds ρ', T ds → Pv ds ds.length ρ' → PBd X C rest ρ' N R)
    (hp : PassesOwn (model X.prog X.w) X.A X.env X.xe := by exact PassesOwn.never) (hc : X.calm = true := by rfl) (hf : ∀ x, foldedSetIterable (.Tuple es kk tpos) X.env x = pure x := by intro _; rfl) : PBd X C (.For tg (.Tuple es kk tpos) bd [] pos :: rest) ρ N R := fun σ H0 H rs D nx rt => by
  refine ess_cons (Bf.es (ps_for hp hc (pi X tg (.Tuple es kk tpos)) (gS_ok X tg) (pss X bd) hf) ?_)
  refine ei (pi_tup (pe_tup (pa X es))) (h σ H0 H rs _ fun vs H1 ds im1 rs1 r1 t => ⟨by rw [r1.length]; exact small' (hl ds t), fun p hp => ?_⟩)
  have eN := Ex.new (o := .tup vs) hp
  have rs2 := rs1.ex eN
  have hq : SqT X.K (upd H1 p (.tup vs)) p vs := SqT.of upd_same
  have hx := r1.ex eN
  refine ⟨p, rfl, ⟨vs, hq⟩, ?_⟩
  have hw := walk_tup (K := X.K) (a := p) (xs := vs)
  rw [hx.length] at hw
  generalize upd H1 p (.tup vs) = H2 at eN rs2 hq hx
  have im2 : Im H H2 := im1.1.trans eN.im
  refine for_it (g := gS X tg) (tb := fun D σ H => ESs X bd σ H D) (D := { D with nx := fun σ' H' => ESs X rest σ' H' D }) hw (fun i σ' H' => Im H2 H' ∧ ∃ B ρ', Ex H0 B ∧ RS X.K C B H' σ' ρ' ∧ Pv ds i ρ') ⟨Im.refl H2, H0, ρ1, Ex.refl H0, rs2, h0 ds t⟩ (fun i σ' H' _ pp => ?_) (fun i v σ' Ha Hb hlt pp y => ?_) fun σ' H' pp => ?_
  · obtain ⟨im, B, ρ', eB, rs', _⟩ := pp
    exact sqT_im im hq
  · obtain ⟨im, B, ρ', eB, rs', pv⟩ := pp
    obtain ⟨e3, h3⟩ := y
    subst e3
    have rv : Rep X.K C H0 Hb v (ds.getD i .non) := Rep.im im _ _ (reps_at hx h3)
    obtain ⟨js, ρ2, htg, hb⟩ := hs ds i ρ' t hlt pv
    intro pins s u I ru
    refine htg σ' B Hb v rs' (Rep.gr eB _ _ rv) pins s u _ I ru fun σ2 rs3 _ _ => ?_
    exact hb σ2 B Hb rs3 _ (fun σ3 H3 B3 ρ3 eB3 im3 rs3 p3 => ⟨im.trans im3, B3, ρ3, eB.trans eB3, rs3, p3⟩) fun v H3 B3 w σ3 ρ3 eB3 => rt v H3 B3 w σ3 ρ3 (eB.trans eB3)
  · obtain ⟨im, B, ρ', eB, rs', pv⟩ := pp
    exact k ds ρ' t pv σ' B H' rs' D (fun σ3 H3 B3 ρ3 eB3 im3 => nx σ3 H3 B3 ρ3 (eB.trans eB3) ((im2.trans im).trans im3)) fun v H3 B3 w σ3 ρ3 eB3 => rt v H3 B3 w σ3 ρ3 (eB.trans eB3)
end
end Bf

namespace Bf
open PySem PySem.Spec PyProof.Rows L2 BF
section
variable {P : Program} {w : World} {K : PySem.W.Frag} {mg : Str → Option Value} {base : Heap} {C : Addr}
abbrev lawN : List Str := ["script", "draw", "turn", "chart", "other", "flash", "due", "found"]
theorem sc_law : FnScope lawN ["script"] (defScope s_law) := ⟨rfl, rfl, rfl, by decide +kernel, rfl, by decide +kernel, by decide +kernel⟩
theorem body_law (T : Tx w K mg C) (hne : PySem.W.findIn K (.ref C) "__ne__" = some (some (.builtin "object.__ne__"))) (f : Addr) (ns : List Int) (hlen : ns.length ≤ 63) (cdv : Value) (A : Around) (outer : List Env) (s : Shared) (H : Hp) (E : XK) (hr : Room 8 (A.deeper (envOfC "law" (defScope s_law) s.heap.objs.size f cdv))) (hgd : A.guards = some []) :
    PBk (fX P w K mg base lawN "law" s_law f cdv A outer s H E) C (defBody s_law) (start' lawN [.lst (ns.map D.int)]) (fun _ => False) (fun w => w = .im (.bl true)) := by
  have nd := sc_law.nd
  have hu66 : (A.deeper (envOfC "law" (defScope s_law) s.heap.objs.size f cdv)).units + 66 < cLine := by have := hr.un; omega
  refine pb_begin 1 T (hr.mono (by decide)) hlen nd (pv_var 0) fun ad cd => ?_
  have hxs : ns ++ [0] ≠ [] := by simp
  generalize ns ++ [0] = xs at hxs
  refine pb_for (pis_range T.b_range pv_int ⟨by decide, by decide⟩).tt (fun i ρ' => ∃ s2 s3 s4 s5 s6 s7, ρ' = [.im (.lst (ns.map D.int)), .ob (drO K ad cd xs (300 * i)), s2, s3, s4, s5, s6, s7]) ⟨_, _, _, _, _, _, rfl⟩ (fun i ρ' hi hρ => ?_) (fun ρ' hρ => ?_)
  · obtain ⟨s2, s3, s4, s5, s6, s7, rfl⟩ := hρ
    have hi : i < 6 := hi
    have hL : LIM = 1099511627776 := by decide
    refine ⟨[2], [.im (.lst (ns.map D.int)), .ob (drO K ad cd xs (300 * i)), .im (.int (i : Int)), s3, s4, s5, s6, s7], ptg_name 2 nd, ?_⟩
    refine pbd_set (ad := ad) 3 nd (pd_call 1 (g_law_table T) (hr.mono (by decide)) rfl (5 : Int) ⟨by decide, by decide⟩ hxs (by show 300 * i + 40 ≤ LIM; omega) (pvs_cons pv_int pvs_nil)) fun d hd => ?_
    obtain ⟨t, rfl, ht⟩ := hd
    refine pbd_set (ad := ad) 4 nd (T := isTb) (ρ1 := [.im (.lst (ns.map D.int)), .ob (drO K ad cd xs (300 * i + 40 + 1 + 40)), .im (.int (i : Int)), .im (tD t), s4, s5, s6, s7]) (pd_ite (ρ1 := [.im (.lst (ns.map D.int)), .ob (drO K ad cd xs (300 * i + 40 + 1)), .im (.int (i : Int)), .im (tD t), s4, s5, s6, s7]) (pdt_eq0 (pd_next 1 T (hr.mono (by decide)) rfl ⟨by decide, by decide⟩ hxs (by omega) pv_int)) (pd_weak (O := drO K ad cd xs (300 * i + 40 + 1 + 1)) 1 rfl (drO_mono (by omega)) (pd_call 1 (g_law_like T) (hr.mono (by decide)) rfl t ht hxs (by show 300 * i + 40 + 1 + 1 ≤ LIM; omega) (pvs_cons (pv_var 3) pvs_nil))) (pd_call 1 (g_law_table T) (hr.mono (by decide)) rfl (5 : Int) ⟨by decide, by decide⟩ hxs (by show 300 * i + 40 + 1 + 40 ≤ LIM; omega) (pvs_cons pv_int pvs_nil))) fun d hd => ?_
    obtain ⟨t2, rfl, ht2⟩ := hd
    refine pbd_forT (ad := ad) (pds_cons (pd_call 1 (g_law_burst T) (hr.mono (by decide)) rfl t ht hxs (by show 300 * i + 40 + 1 + 40 + 100 ≤ LIM; omega) (pvs_cons (pv_var 3) pvs_nil)) (pds_cons (pd_call 1 (g_law_burst T) (hr.mono (by decide)) rfl t2 ht2 hxs (by show 300 * i + 40 + 1 + 40 + 100 + 100 ≤ LIM; omega) (pvs_cons (pv_var 4) pvs_nil)) pds_nil)) (fun ds h => ?_) (fun ds j ρ' => ∃ s5 s6 s7, ρ' = [.im (.lst (ns.map D.int)), .ob (drO K ad cd xs (300 * i + 40 + 1 + 40 + 100 + 100)), .im (.int (i : Int)), .im (tD t), .im (tD t2), s5, s6, s7]) (fun ds h => ⟨_, _, _, rfl⟩) (fun ds j ρ' h hj hρ => ?_) (fun ds ρ' h hρ => ?_)
    · obtain ⟨_, _, rfl, _, _, _, rfl, _, rfl⟩ := h
      simp
    · obtain ⟨s5, s6, s7, rfl⟩ := hρ
      obtain ⟨its, hf, hb⟩ : isBurst (ds.getD j .non) := by
        obtain ⟨_, _, rfl, h1, _, _, rfl, h2, rfl⟩ := h
        match j, hj with
        | 0, _ => exact h1
        | 1, _ => exact h2
      rw [hf]
      refine ⟨[5], [.im (.lst (ns.map D.int)), .ob (drO K ad cd xs (300 * i + 40 + 1 + 40 + 100 + 100)), .im (.int (i : Int)), .im (tD t), .im (tD t2), .im (buD its), s6, s7], ptg_name 5 nd, ?_⟩
      have hi2 : ∀ i ∈ its, ItB i := hb.2.2
      refine pb_par (da := dueD (due t its)) (db := nrD t its) 6 7 nd (pvs_cons (pv_call (g_law_due T) (hr.mono (by decide)) (t, its) ⟨ht, hi2⟩ (pvs_cons (pv_var 3) (pvs_cons (pv_var 5) pvs_nil))) (pvs_cons (pv_call (g_nearest T) (hr.mono (by decide)) (t, its) ⟨ht, hb⟩ (pvs_cons (pv_var 3) (pvs_cons (pv_var 5) pvs_nil))) pvs_nil)) ?_
      show PBd _ C _ ([.im (.lst (ns.map D.int)), .ob (drO K ad cd xs (300 * i + 40 + 1 + 40 + 100 + 100)), .im (.int (i : Int)), .im (tD t), .im (tD t2), .im (buD its), .im (dueD (due t its)), .im (nrD t its)] : List Sl) _ _
      rcases law_fact ht hb with ⟨h1, h2⟩ | ⟨p, wd, h1, h2, h3, h4⟩
      · have e1 : dueD (due t its) = .non := by rw [h1]; rfl
        rw [e1, h2]
        refine pb_ifF (PWt.pt (pw_o (x := false) (y := false) (PWt.pt (pw_a (x := true) (y := false) (pt_isN (d := .non) (pv_var 6)) fun _ => pw_a1 (pt_notN (d := .non) (pv_var 7)))) fun _ => pw_o1 (PWt.pt (pw_a0 (pt_notN (d := .non) (pv_var 6)))))) ?_
        refine pb_ifF (PWt.pt (pw_a0 (pt_notN (d := .non) (pv_var 6)))) ?_
        refine pb_ifF (PWt.pt (pw_a0 (pt_notN (d := .non) (pv_var 6)))) ?_
        refine pb_ifF ((pt_neD (da := .non) (db := .non) hr.units ((pv_nearestK T hr ⟨ht, hb⟩ (pv_var 5) (pv_var 3)).is h2) (pv_var 7) ⟨rfl, rfl⟩ ⟨rfl, rfl⟩).is (by simp [D.py, PyData.eqv])) ?_
        exact pb_nil ⟨_, _, _, rfl⟩
      · have e1 : dueD (due t its) = .tup [pD p, wD wd] := by rw [h1]; rfl
        rw [e1, h4]
        refine pb_ifF (PWt.pt (pw_o (x := false) (y := false) (PWt.pt (pw_a0 (pt_isN (d := .tup [pD p, wD wd]) (pv_var 6)))) fun _ => pw_o1 (PWt.pt (pw_a (x := true) (y := false) (pt_notN (d := .tup [pD p, wD wd]) (pv_var 6)) fun _ => pw_a1 (pt_isN (d := .tup [tolD (ratio p.1 p.2), wD wd]) (pv_var 7)))))) ?_
        refine pb_ifF (PWt.pt (pw_a (x := true) (y := false) (pt_notN (d := .tup [pD p, wD wd]) (pv_var 6)) fun _ => pw_a1 ((pt_neS (pv_reprW (w := wd) T.b_repr hgd hu66 (by omega) (pv_ix (ds := [tolD (ratio p.1 p.2), wD wd]) (pv_var 7) pv_int rfl)) (pv_reprW (w := wd) T.b_repr hgd hu66 (by omega) (pv_ix (ds := [pD p, wD wd]) (pv_var 6) pv_int rfl))).is (by simp)))) ?_
        refine pb_ifF (PWt.pt (pw_a (x := true) (y := false) (pt_notN (d := .tup [pD p, wD wd]) (pv_var 6)) fun _ => pw_a1 (pt_neRat T hne (hr.mono (by decide)) (n := (ratio p.1 p.2).1) (d := (ratio p.1 p.2).2) (pv_ix (ds := [tolD (ratio p.1 p.2), wD wd]) (pv_var 7) pv_int rfl) (pv_make (k := 4) (n := p.1) (d := p.2) T hr (pvs_cons (pv_ix (ds := [.int p.1, .int p.2]) (pv_ix (ds := [pD p, wD wd]) (pv_var 6) pv_int rfl) pv_int rfl) (pvs_cons (pv_ix (ds := [.int p.1, .int p.2]) (pv_ix (ds := [pD p, wD wd]) (pv_var 6) pv_int rfl) pv_int rfl) pvs_nil)) h2.1 h2.2.2.1 (by have := h2.2.2.2; omega))))) ?_
        refine pb_ifF (pt_neTup T hne (hr.mono (by decide)) (n := (ratio p.1 p.2).1) (d := (ratio p.1 p.2).2) (w := wd) ((pv_nearestK T hr ⟨ht, hb⟩ (pv_var 5) (pv_var 3)).is h4) (pv_var 7)) ?_
        exact pb_nil ⟨_, _, _, rfl⟩
    · obtain ⟨s5, s6, s7, rfl⟩ := hρ
      refine pb_conv 1 rfl (drO_mono (u := 300 * i + 40 + 1 + 40 + 100 + 100) (v := 300 * (i + 1)) (by omega)) (pb_nil ⟨_, _, _, _, _, _, rfl⟩)
  · obtain ⟨s2, s3, s4, s5, s6, s7, rfl⟩ := hρ
    exact pb_ret pv_bl rfl
end
end Bf

namespace Bf
open PySem PySem.Spec PyProof.Rows L2 BF
/-- a def at one Around alone (what it may lean on: the reprs that are under way) -/
theorem run_at {P : Program} {w : World} {K : PySem.W.Frag} {mg : Str → Option Value} {base : Heap} {x qual : Str} {st : Stmt} {f : Addr} {fd : FuncData} {N ps : List Str} {k : Nat} {A : Around} {outer : List Env} {s : Shared} {H : Hp} {args : Args} {us : List Value} {vs : List V} {Q : VK} {E : XK}
    (F : Fun K x qual st f fd) (S : FnScope N ps (defScope st)) (hr : Room (k + 1) A) (e0 : Env0 P w K mg base A outer s H) (hb : BindsTo s fd args (ps.zip us)) (r : Vals vs us) (hl : vs.length = ps.length)
    (hbody : ∀ cdv : Value, Room k (A.deeper (envOfC qual (defScope st) s.heap.objs.size f cdv)) → ∃ t, PSs (cxOf CX0 P w K mg base N qual (defScope st) f cdv A outer s H E).nox (defBody st) t ∧ t { nx := fun _ H' => Q .non H', rt := Q } (L2.start N vs) H) :
    codeAny (model P w) A (.call (.ref f) args) (CR CX0 outer P w H s Q E) s := by
  obtain ⟨oc, od, kV, doc, pm, an, cdv, ct, osl, rfl, lk, hcd⟩ := F.ex
  have KX : K.In s.heap := e0.mod.kin.keeps fun b o e => (e0.bs b o e).1
  have lim : s.heap.NoLimit := e0.mod.nolimit.keeps fun b o e => (e0.bs b o e).1
  have hkind : ∀ y ∈ ps.zip us, (defScope st).names.lookup y.1 = some .local ∨ ((defScope st).names.lookup y.1 = some .cell ∧ ((cellsFrom (s.heap.objs.size + 1) (defScope st).names []).lookup y.1).isSome = true) := fun ⟨n, v⟩ hy => by
    rcases S.par n (List.of_mem_zip hy).1 with q | q
    · exact .inl q
    · exact .inr ⟨q, PySem.W.cellsFrom_some _ _ _ (.inl q)⟩
  refine codeAny_call_function hr.depth (KX _ _ lk) rfl S.co S.gen rfl (PySem.W.codeRec_of KX hcd) (hb _ _ _ _ ?_)
  refine wpAny_newFunctionEnv_cells S.kind hkind fun env he s1 z => ?_
  subst he
  refine ⟨lim.keeps z.toInCall.keep, codeAny_func ?_⟩
  obtain ⟨t, ht, hq⟩ := hbody cdv (hr.deeper _)
  have I : Inv (cxOf CX0 P w K mg base N qual (defScope st) f cdv A outer s H E) [] (L2.start N vs) H s1 := inv_start S hr.hd e0 hl r z
  refine wpAny_mono (ht.nox.run [] s1 (L2.start N vs) H _ I hq) (fun fl s' hs => ?_) fun e s' hs => hs
  have fin : ∀ {σ' : L2.St} {H' : Hp} {v : V} {u : Value}, Inv (cxOf CX0 P w K mg base N qual (defScope st) f cdv A outer s H E) [] σ' H' s' → RelV v u → Q v H' → CE outer P w H s Q u s' :=
    fun {σ' H' v u} J rv q => ⟨v, H', J.os, J.bare, J.base, J.hok, rv, q⟩
  cases fl with
  | ret u =>
    obtain ⟨v, σ', H', J, rv, q⟩ := hs
    exact fin J rv q
  | next =>
    obtain ⟨σ', H', J, q⟩ := hs
    exact fin (v := V.non) (u := Value.none) J rfl q
  | brk =>
    obtain ⟨_, _, _, q⟩ := hs
    exact False.elim q
  | cont =>
    obtain ⟨_, _, _, q⟩ := hs
    exact False.elim q
/-- the law's call, its promise wanted at the caller alone -/
theorem call_at {P : Program} {w : World} {K : PySem.W.Frag} {mg mb : Str → Option Value} {fa a : Addr} {s₁ : Shared} {vs : List Value} {ns : List Int}
    (KX : K.In s₁.heap) (hns : s₁.heap.Ns mainGlobals mg) (hb : s₁.heap.Ns builtinsNs mb) (hbb : ∀ x : Str, x ≠ "__name__" → mb x = bootBuiltins x) (hlim : s₁.heap.NoLimit) (hg : s₁.gens = #[])
    (ha : s₁.heap.get? a = some { cls := .type "list", data := .seq vs.toArray }) (hi : IntsAre vs ns) (hl : ns.length ≤ sizeLine)
    (F : ∀ (base : Heap) (H : Hp), SqL K H a (ns.map V.int) → Env0 P w K mg base callerA [] s₁ H → codeAny (model P w) callerA (.call (.ref fa) ⟨[.ref a], []⟩) (CR CX0 [] P w H s₁ (fun v _ => v = .bl true) E0) s₁) :
    codeAny (model P w) callerA (.call (.ref fa) ⟨[.ref a], []⟩) (fun r s' => r = .ok (.ret (.bool true)) ∧ OldK s₁.heap s'.heap ∧ s'.os = s₁.os ∧ AllBare s'.gens) s₁ := by
  have rv := vals_ints hi
  have lenV := hi.length
  have core : ∀ H : Hp, Only H → SqL K H a (ns.map V.int) → HOk P w H s₁.heap → (∀ b, H b ≠ none → b = a) → (H a ≠ none → K.lookup a = none) →
      codeAny (model P w) callerA (.call (.ref fa) ⟨[.ref a], []⟩) (fun r s' => r = .ok (.ret (.bool true)) ∧ OldK s₁.heap s'.heap ∧ s'.os = s₁.os ∧ AllBare s'.gens) s₁ := by
    intro H hO hS hok hA hK
    have base_of : ∀ {b : Addr} {o : Obj}, s₁.heap.get? b = some o → H b = none → (hidT s₁.heap H).get? b = some o := fun e n => hidT_get e n
    have noA : ∀ {b : Addr} {o : Obj} {es : Array DictEntry} {ep : Nat}, s₁.heap.get? b = some o → o.data = .dict es ep → H b = none := fun {b o es ep} e d => by
      cases q : H b with
      | none => rfl
      | some u =>
        have e' : b = a := hA b (by rw [q]; simp)
        subst e'
        rw [ha] at e; cases e
        have d' : Data.seq vs.toArray _ = Data.dict es ep := d
        cases d'
    have nsK : ∀ {b : Addr} {m : Str → Option Value}, s₁.heap.Ns b m → (hidT s₁.heap H).Ns b m := fun {b m} ⟨o, es, ep, e, d, r⟩ => ⟨o, es, ep, base_of e (noA e d), d, r⟩
    have hKb : K.In (hidT s₁.heap H) := fun b o e => base_of (KX b o e) (by
      cases q : H b with
      | none => rfl
      | some u =>
        have e' : b = a := hA b (by rw [q]; simp)
        subst e'
        rw [hK (by rw [q]; simp)] at e; cases e)
    have hM : Mod K mg (hidT s₁.heap H) := ⟨hKb, nsK hns, ⟨mb, nsK hb, hbb⟩, let ⟨mc, h1, h2⟩ := hlim; ⟨mc, nsK h1, h2⟩⟩
    have e0 : Env0 P w K mg (hidT s₁.heap H) callerA [] s₁ H := ⟨rfl, hM, fun b o e => of_hidT e, Nat.le_of_eq (hidT_size _ _), trivial, fun b hb => absurd (show b ∈ ([] : List Addr) from hb) (by simp), hok, .of_eq hg⟩
    refine codeAny_mono (F _ H hS e0) fun r s' h => ?_
    cases r with
    | error e => exact False.elim h
    | ok fl =>
      cases fl with
      | next => exact False.elim h
      | brk => exact False.elim h
      | cont => exact False.elim h
      | ret u =>
        obtain ⟨v, H', os, bare, un, hok', r', q⟩ := h
        have q' : v = .bl true := q
        subst q'
        obtain rfl : u = Value.bool true := r'
        refine ⟨rfl, OldK.of_keep fun b o e => ?_, os, bare⟩
        cases q : H b with
        | none => exact un.keep b o e q (by intro z; exact absurd (show b ∈ ([] : List Addr) from z) (by simp)) (by simp)
        | some u =>
          rcases hO b with z | ⟨ob, xs, z⟩
          · rw [q] at z; cases z
          · have z2 := un.frzs b ob _ z
            obtain ⟨e1, _⟩ := hok b _ z
            obtain ⟨e2, _⟩ := hok' b _ z2
            rw [e] at e1; cases e1
            exact e2
  cases hk : K.lookup a with
  | some o =>
    have e := KX a o hk
    rw [ha] at e
    cases e
    refine core (fun _ => none) (fun _ => .inl rfl) (.inr ⟨_, vs.toArray, _, hk, rfl, rfl, rfl, by rw [List.size_toArray, lenV]; exact hl, by simpa using rv⟩) (fun b u z => by have z' : (none : Option HO) = some u := z; cases z') (fun b z => absurd rfl z) fun z => absurd rfl z
  | none =>
    refine core (fun b => if b = a then some (.frz { cls := .type "list", data := .seq vs.toArray } (.lst (ns.map V.int))) else none) (fun b => ?_) (.inl (.inr ⟨{ cls := .type "list", data := .seq vs.toArray }, if_pos rfl⟩)) (fun b u z => ?_) (fun b z => ?_) fun _ => hk
    · by_cases hb : b = a
      · exact .inr ⟨_, _, if_pos hb⟩
      · exact .inl (if_neg hb)
    · by_cases hb : b = a
      · have z' := (if_pos hb).symm.trans z
        cases z'
        subst hb
        exact ⟨ha, by rw [List.length_map]; exact hl, vs, _, rv, ha⟩
      · have z' := (if_neg hb).symm.trans z
        cases z'
    · by_cases hb : b = a
      · exact hb
      · exact absurd (if_neg hb) z
/-- the law's def, called by the claim -/
theorem law_at {P : Program} {w : World} {K : PySem.W.Frag} {mg : Str → Option Value} {C fa a : Addr} {base : Heap} {s₁ : Shared} {H : Hp} {ns : List Int} (T : Tx w K mg C) (hne : PySem.W.findIn K (.ref C) "__ne__" = some (some (.builtin "object.__ne__"))) (hfa : mg "law" = some (.ref fa)) (hl : ns.length ≤ 63)
    (hS : SqL K H a (ns.map V.int)) (e0 : Env0 P w K mg base callerA [] s₁ H) : codeAny (model P w) callerA (.call (.ref fa) ⟨[.ref a], []⟩) (CR CX0 [] P w H s₁ (fun v _ => v = .bl true) E0) s₁ := by
  obtain ⟨f, fd, F, hm⟩ := T.d_law.ex
  rw [hfa] at hm
  cases hm
  have hr : Room 9 callerA := ⟨rfl, by decide, by decide⟩
  have hb : Binds K fd ["script"] [] := F.binds fun _ _ _ _ _ _ us hl => match us, hl with | [_], _ => rfl
  have KX : K.In s₁.heap := e0.mod.kin.keeps fun b o e => (e0.bs b o e).1
  refine run_at (k := 8) F sc_law hr e0 (us := [.ref a]) (vs := [.ref a]) (by
    have := hb s₁ [.ref a] KX rfl
    simpa using this) (.cons rfl .nil) rfl fun cdv hr8 => ?_
  refine ⟨_, pss _ (defBody s_law), ?_⟩
  have rx : ∀ l : List Int, Reps K C H H (l.map V.int) (l.map D.int) := fun l => by
    induction l with
    | nil => exact .nil
    | cons i l ih => exact .cons (.int i) ih
  exact body_law T hne fa ns hl cdv callerA [] s₁ H E0 hr8 rfl _ H H (rs_start (.cons (.lst hS (rx ns)) .nil)) _ (fun _ _ _ _ _ _ _ z => z.elim) fun v H' B wv σ' ρ' eB rs' rw' hw => by
    have hw : wv = .im (.bl true) := hw
    subst hw
    exact Rep.bl_inv rw'
end Bf

/-! What stands behind the top, gathered (written by genfacts.py). -/
namespace Bf
open PySem PySem.Spec PyProof.Rows L2 BF
theorem gp_vals {t1 t2 : Tok} : Vals [V.str "gap", V.str "pulse"] [Value.str "gap" t1, Value.str "pulse" t2] := .cons (show RelV (V.str "gap") (Value.str "gap" t1) from ⟨_, rfl⟩) (.cons (show RelV (V.str "pulse") (Value.str "pulse" t2) from ⟨_, rfl⟩) .nil)
theorem facts {K : PySem.W.Frag} {h : Heap} {w : World} {mg : Str → Option Value} (X : K.In h) (G : h.Ns mainGlobals mg)
  {C : Addr} {tI : Addr} {oI : Value} {dI : Option Addr} {nI : Nat} {sI : Array (Option Value)} {kJ : Tok} {fI : Addr} {odI anI : Option Addr} {ocI kVI dcI pmI cdI ctI : Value} {slI : Array (Option Value)} {pN : Addr} {rN : List Value} {fN : Addr} {odN anN : Option Addr} {ocN kVN dcN pmN cdN ctN : Value} {slN : Array (Option Value)} {pD : Addr} {rD : List Value} {fD : Addr} {odD anD : Option Addr} {ocD kVD dcD pmD cdD ctD : Value} {slD : Array (Option Value)} {fE : Addr} {odE anE : Option Addr} {ocE kVE dcE pmE cdE ctE : Value} {slE : Array (Option Value)} {f0 : Addr} {od0 an0 : Option Addr} {oc0 kV0 dc0 pm0 cd0 ct0 : Value} {sl0 : Array (Option Value)} {f1 : Addr} {od1 an1 : Option Addr} {oc1 kV1 dc1 pm1 cd1 ct1 : Value} {sl1 : Array (Option Value)} {f2 : Addr} {od2 an2 : Option Addr} {oc2 kV2 dc2 pm2 cd2 ct2 : Value} {sl2 : Array (Option Value)} {f3 : Addr} {od3 an3 : Option Addr} {oc3 kV3 dc3 pm3 cd3 ct3 : Value} {sl3 : Array (Option Value)} {f4 : Addr} {od4 an4 : Option Addr} {oc4 kV4 dc4 pm4 cd4 ct4 : Value} {sl4 : Array (Option Value)} {f5 : Addr} {od5 an5 : Option Addr} {oc5 kV5 dc5 pm5 cd5 ct5 : Value} {sl5 : Array (Option Value)} {f6 : Addr} {od6 an6 : Option Addr} {oc6 kV6 dc6 pm6 cd6 ct6 : Value} {sl6 : Array (Option Value)} {f7 : Addr} {od7 an7 : Option Addr} {oc7 kV7 dc7 pm7 cd7 ct7 : Value} {sl7 : Array (Option Value)} {f8 : Addr} {od8 an8 : Option Addr} {oc8 kV8 dc8 pm8 cd8 ct8 : Value} {sl8 : Array (Option Value)} {f9 : Addr} {od9 an9 : Option Addr} {oc9 kV9 dc9 pm9 cd9 ct9 : Value} {sl9 : Array (Option Value)} {f10 : Addr} {od10 an10 : Option Addr} {oc10 kV10 dc10 pm10 cd10 ct10 : Value} {sl10 : Array (Option Value)} {f11 : Addr} {od11 an11 : Option Addr} {oc11 kV11 dc11 pm11 cd11 ct11 : Value} {sl11 : Array (Option Value)} {f12 : Addr} {od12 an12 : Option Addr} {oc12 kV12 dc12 pm12 cd12 ct12 : Value} {sl12 : Array (Option Value)} {f13 : Addr} {od13 an13 : Option Addr} {oc13 kV13 dc13 pm13 cd13 ct13 : Value} {sl13 : Array (Option Value)} {f14 : Addr} {od14 an14 : Option Addr} {oc14 kV14 dc14 pm14 cd14 ct14 : Value} {sl14 : Array (Option Value)} {f15 : Addr} {od15 an15 : Option Addr} {oc15 kV15 dc15 pm15 cd15 ct15 : Value} {sl15 : Array (Option Value)} {f16 : Addr} {od16 an16 : Option Addr} {oc16 kV16 dc16 pm16 cd16 ct16 : Value} {sl16 : Array (Option Value)} {f17 : Addr} {od17 an17 : Option Addr} {oc17 kV17 dc17 pm17 cd17 ct17 : Value} {sl17 : Array (Option Value)} {f18 : Addr} {od18 an18 : Option Addr} {oc18 kV18 dc18 pm18 cd18 ct18 : Value} {sl18 : Array (Option Value)} {f19 : Addr} {od19 an19 : Option Addr} {oc19 kV19 dc19 pm19 cd19 ct19 : Value} {sl19 : Array (Option Value)} {f20 : Addr} {od20 an20 : Option Addr} {oc20 kV20 dc20 pm20 cd20 ct20 : Value} {sl20 : Array (Option Value)} {f21 : Addr} {od21 an21 : Option Addr} {oc21 kV21 dc21 pm21 cd21 ct21 : Value} {sl21 : Array (Option Value)} {f22 : Addr} {od22 an22 : Option Addr} {oc22 kV22 dc22 pm22 cd22 ct22 : Value} {sl22 : Array (Option Value)} {f23 : Addr} {od23 an23 : Option Addr} {oc23 kV23 dc23 pm23 cd23 ct23 : Value} {sl23 : Array (Option Value)} {f24 : Addr} {od24 an24 : Option Addr} {oc24 kV24 dc24 pm24 cd24 ct24 : Value} {sl24 : Array (Option Value)} {f25 : Addr} {od25 an25 : Option Addr} {oc25 kV25 dc25 pm25 cd25 ct25 : Value} {sl25 : Array (Option Value)} {f26 : Addr} {od26 an26 : Option Addr} {oc26 kV26 dc26 pm26 cd26 ct26 : Value} {sl26 : Array (Option Value)} {f27 : Addr} {od27 an27 : Option Addr} {oc27 kV27 dc27 pm27 cd27 ct27 : Value} {sl27 : Array (Option Value)} {f28 : Addr} {od28 an28 : Option Addr} {oc28 kV28 dc28 pm28 cd28 ct28 : Value} {sl28 : Array (Option Value)} {f29 : Addr} {od29 an29 : Option Addr} {oc29 kV29 dc29 pm29 cd29 ct29 : Value} {sl29 : Array (Option Value)} {f30 : Addr} {od30 an30 : Option Addr} {oc30 kV30 dc30 pm30 cd30 ct30 : Value} {sl30 : Array (Option Value)} {f31 : Addr} {od31 an31 : Option Addr} {oc31 kV31 dc31 pm31 cd31 ct31 : Value} {sl31 : Array (Option Value)} {f32 : Addr} {od32 an32 : Option Addr} {oc32 kV32 dc32 pm32 cd32 ct32 : Value} {sl32 : Array (Option Value)} {f33 : Addr} {od33 an33 : Option Addr} {oc33 kV33 dc33 pm33 cd33 ct33 : Value} {sl33 : Array (Option Value)} {f34 : Addr} {od34 an34 : Option Addr} {oc34 kV34 dc34 pm34 cd34 ct34 : Value} {sl34 : Array (Option Value)} {f35 : Addr} {od35 an35 : Option Addr} {oc35 kV35 dc35 pm35 cd35 ct35 : Value} {sl35 : Array (Option Value)} {tkLONGEST : Tok} {tkMOST_BITS : Tok} {tkMOST_ITEMS : Tok} {tkPAIRS : Tok} {tkHALVES : Tok} {tkPULSE : Tok} {tkGAP : Tok} {aF aO : Addr} {dF : Option Addr} {t1 t2 t3 t4 : Tok} {nF nO : Nat} {sF : Array (Option Value)} {esO : Array DictEntry}
  (gC : PySem.W.nsIn K mainGlobals "Ratio" = some (some (.ref C)))
  (cpg : PySem.W.plainGet K C Str.empty = true)
  (chd : PySem.W.hasDictIn K C = true)
  (cpo : PySem.W.plainOver K C = true)
  (csa : PySem.W.findIn K (.ref C) "__setattr__" = some (some (.builtin "object.__setattr__")))
  (cnN : PySem.W.findIn K (.ref C) "own_num" = some none)
  (cnD : PySem.W.findIn K (.ref C) "own_den" = some none)
  (cha : PySem.W.findIn K (.ref C) "__class__" = some (some (.builtin "object.__class__")))
  (chn : PySem.W.specialIn K (.builtin "object.__class__") "__get__" = some (some (.builtin "getset_descriptor.__get__")))
  (cht : PySem.W.takesIn K (.builtin "object.__class__") = some true)
  (chm : PySem.W.mroIn K C (.type "object") = some true)
  (cmk : PySem.W.makesIn K C = true)
  (ckp : PySem.W.keepIn K (.ref C) = true)
  (cne : PySem.W.findIn K (.ref C) "__ne__" = some (some (.builtin "object.__ne__")))
  (iI : PySem.W.findIn K (.ref C) "__init__" = some (some (.ref fI)))
  (nI1 : PySem.W.isFn K (.ref fI) = true)
  (lI : K.lookup fI = some ⟨ocI, odI, .func (PySem.W.fnOf "__init__" "Ratio.__init__" (defArgs s_R_init) (defBody s_R_init) (defScope s_R_init) (.ref tI) kVI dcI pmI anI cdI ctI), slI⟩)
  (cI : PySem.W.codeIn K cdI "Ratio.__init__" = true)
  (kI : PySem.W.keepIn K (.ref fI) = true)
  (lI2 : K.lookup tI = some ⟨oI, dI, .seq #[.int 1 kJ] nI, sI⟩)
  (aN : PySem.W.findIn K (.ref C) "num" = some (some (.ref pN)))
  (gN : PySem.W.specialIn K (.ref pN) "__get__" = some (some (.builtin "property.__get__")))
  (tN : PySem.W.takesIn K (.ref pN) = some true)
  (eN : PySem.W.recIn K pN "property" = some (.ref fN :: rN))
  (lN : K.lookup fN = some ⟨ocN, odN, .func (PySem.W.fnOf "num" "Ratio.num" (defArgs s_R_num) (defBody s_R_num) (defScope s_R_num) .none kVN dcN pmN anN cdN ctN), slN⟩)
  (cN : PySem.W.codeIn K cdN "Ratio.num" = true)
  (kN : PySem.W.keepIn K (.ref fN) = true)
  (aD : PySem.W.findIn K (.ref C) "den" = some (some (.ref pD)))
  (gD : PySem.W.specialIn K (.ref pD) "__get__" = some (some (.builtin "property.__get__")))
  (tD : PySem.W.takesIn K (.ref pD) = some true)
  (eD : PySem.W.recIn K pD "property" = some (.ref fD :: rD))
  (lD : K.lookup fD = some ⟨ocD, odD, .func (PySem.W.fnOf "den" "Ratio.den" (defArgs s_R_den) (defBody s_R_den) (defScope s_R_den) .none kVD dcD pmD anD cdD ctD), slD⟩)
  (cD : PySem.W.codeIn K cdD "Ratio.den" = true)
  (kD : PySem.W.keepIn K (.ref fD) = true)
  (iE : PySem.W.findIn K (.ref C) "__eq__" = some (some (.ref fE)))
  (nE : PySem.W.isFn K (.ref fE) = true)
  (lE : K.lookup fE = some ⟨ocE, odE, .func (PySem.W.fnOf "__eq__" "Ratio.__eq__" (defArgs s_R_eq) (defBody s_R_eq) (defScope s_R_eq) .none kVE dcE pmE anE cdE ctE), slE⟩)
  (cE : PySem.W.codeIn K cdE "Ratio.__eq__" = true)
  (kE : PySem.W.keepIn K (.ref fE) = true)
  (g0 : PySem.W.nsIn K mainGlobals "is_integer" = some (some (.ref f0)))
  (l0 : K.lookup f0 = some ⟨oc0, od0, .func (PySem.W.fnOf "is_integer" "is_integer" (defArgs s_is_integer) (defBody s_is_integer) (defScope s_is_integer) .none kV0 dc0 pm0 an0 cd0 ct0), sl0⟩)
  (c0 : PySem.W.codeIn K cd0 "is_integer" = true)
  (k0 : PySem.W.keepIn K (.ref f0) = true)
  (g1 : PySem.W.nsIn K mainGlobals "is_whole" = some (some (.ref f1)))
  (l1 : K.lookup f1 = some ⟨oc1, od1, .func (PySem.W.fnOf "is_whole" "is_whole" (defArgs s_is_whole) (defBody s_is_whole) (defScope s_is_whole) .none kV1 dc1 pm1 an1 cd1 ct1), sl1⟩)
  (c1 : PySem.W.codeIn K cd1 "is_whole" = true)
  (k1 : PySem.W.keepIn K (.ref f1) = true)
  (g2 : PySem.W.nsIn K mainGlobals "shared_by" = some (some (.ref f2)))
  (l2 : K.lookup f2 = some ⟨oc2, od2, .func (PySem.W.fnOf "shared_by" "shared_by" (defArgs s_shared_by) (defBody s_shared_by) (defScope s_shared_by) .none kV2 dc2 pm2 an2 cd2 ct2), sl2⟩)
  (c2 : PySem.W.codeIn K cd2 "shared_by" = true)
  (k2 : PySem.W.keepIn K (.ref f2) = true)
  (g3 : PySem.W.nsIn K mainGlobals "is_at_most" = some (some (.ref f3)))
  (l3 : K.lookup f3 = some ⟨oc3, od3, .func (PySem.W.fnOf "is_at_most" "is_at_most" (defArgs s_is_at_most) (defBody s_is_at_most) (defScope s_is_at_most) .none kV3 dc3 pm3 an3 cd3 ct3), sl3⟩)
  (c3 : PySem.W.codeIn K cd3 "is_at_most" = true)
  (k3 : PySem.W.keepIn K (.ref f3) = true)
  (g4 : PySem.W.nsIn K mainGlobals "is_lesser" = some (some (.ref f4)))
  (l4 : K.lookup f4 = some ⟨oc4, od4, .func (PySem.W.fnOf "is_lesser" "is_lesser" (defArgs s_is_lesser) (defBody s_is_lesser) (defScope s_is_lesser) .none kV4 dc4 pm4 an4 cd4 ct4), sl4⟩)
  (c4 : PySem.W.codeIn K cd4 "is_lesser" = true)
  (k4 : PySem.W.keepIn K (.ref f4) = true)
  (g5 : PySem.W.nsIn K mainGlobals "is_duration" = some (some (.ref f5)))
  (l5 : K.lookup f5 = some ⟨oc5, od5, .func (PySem.W.fnOf "is_duration" "is_duration" (defArgs s_is_duration) (defBody s_is_duration) (defScope s_is_duration) .none kV5 dc5 pm5 an5 cd5 ct5), sl5⟩)
  (c5 : PySem.W.codeIn K cd5 "is_duration" = true)
  (k5 : PySem.W.keepIn K (.ref f5) = true)
  (g6 : PySem.W.nsIn K mainGlobals "are_durations" = some (some (.ref f6)))
  (l6 : K.lookup f6 = some ⟨oc6, od6, .func (PySem.W.fnOf "are_durations" "are_durations" (defArgs s_are_durations) (defBody s_are_durations) (defScope s_are_durations) .none kV6 dc6 pm6 an6 cd6 ct6), sl6⟩)
  (c6 : PySem.W.codeIn K cd6 "are_durations" = true)
  (k6 : PySem.W.keepIn K (.ref f6) = true)
  (g7 : PySem.W.nsIn K mainGlobals "wrong_part" = some (some (.ref f7)))
  (l7 : K.lookup f7 = some ⟨oc7, od7, .func (PySem.W.fnOf "wrong_part" "wrong_part" (defArgs s_wrong_part) (defBody s_wrong_part) (defScope s_wrong_part) .none kV7 dc7 pm7 an7 cd7 ct7), sl7⟩)
  (c7 : PySem.W.codeIn K cd7 "wrong_part" = true)
  (k7 : PySem.W.keepIn K (.ref f7) = true)
  (g8 : PySem.W.nsIn K mainGlobals "need_table" = some (some (.ref f8)))
  (l8 : K.lookup f8 = some ⟨oc8, od8, .func (PySem.W.fnOf "need_table" "need_table" (defArgs s_need_table) (defBody s_need_table) (defScope s_need_table) .none kV8 dc8 pm8 an8 cd8 ct8), sl8⟩)
  (c8 : PySem.W.codeIn K cd8 "need_table" = true)
  (k8 : PySem.W.keepIn K (.ref f8) = true)
  (g9 : PySem.W.nsIn K mainGlobals "bits_of" = some (some (.ref f9)))
  (l9 : K.lookup f9 = some ⟨oc9, od9, .func (PySem.W.fnOf "bits_of" "bits_of" (defArgs s_bits_of) (defBody s_bits_of) (defScope s_bits_of) .none kV9 dc9 pm9 an9 cd9 ct9), sl9⟩)
  (c9 : PySem.W.codeIn K cd9 "bits_of" = true)
  (k9 : PySem.W.keepIn K (.ref f9) = true)
  (g10 : PySem.W.nsIn K mainGlobals "begin_in" = some (some (.ref f10)))
  (l10 : K.lookup f10 = some ⟨oc10, od10, .func (PySem.W.fnOf "begin_in" "begin_in" (defArgs s_begin_in) (defBody s_begin_in) (defScope s_begin_in) .none kV10 dc10 pm10 an10 cd10 ct10), sl10⟩)
  (c10 : PySem.W.codeIn K cd10 "begin_in" = true)
  (k10 : PySem.W.keepIn K (.ref f10) = true)
  (g11 : PySem.W.nsIn K mainGlobals "is_end_in" = some (some (.ref f11)))
  (l11 : K.lookup f11 = some ⟨oc11, od11, .func (PySem.W.fnOf "is_end_in" "is_end_in" (defArgs s_is_end_in) (defBody s_is_end_in) (defScope s_is_end_in) .none kV11 dc11 pm11 an11 cd11 ct11), sl11⟩)
  (c11 : PySem.W.codeIn K cd11 "is_end_in" = true)
  (k11 : PySem.W.keepIn K (.ref f11) = true)
  (g12 : PySem.W.nsIn K mainGlobals "settle" = some (some (.ref f12)))
  (l12 : K.lookup f12 = some ⟨oc12, od12, .func (PySem.W.fnOf "settle" "settle" (defArgs s_settle) (defBody s_settle) (defScope s_settle) .none kV12 dc12 pm12 an12 cd12 ct12), sl12⟩)
  (c12 : PySem.W.codeIn K cd12 "settle" = true)
  (k12 : PySem.W.keepIn K (.ref f12) = true)
  (g13 : PySem.W.nsIn K mainGlobals "steps_in" = some (some (.ref f13)))
  (l13 : K.lookup f13 = some ⟨oc13, od13, .func (PySem.W.fnOf "steps_in" "steps_in" (defArgs s_steps_in) (defBody s_steps_in) (defScope s_steps_in) .none kV13 dc13 pm13 an13 cd13 ct13), sl13⟩)
  (c13 : PySem.W.codeIn K cd13 "steps_in" = true)
  (k13 : PySem.W.keepIn K (.ref f13) = true)
  (g14 : PySem.W.nsIn K mainGlobals "need_burst" = some (some (.ref f14)))
  (l14 : K.lookup f14 = some ⟨oc14, od14, .func (PySem.W.fnOf "need_burst" "need_burst" (defArgs s_need_burst) (defBody s_need_burst) (defScope s_need_burst) .none kV14 dc14 pm14 an14 cd14 ct14), sl14⟩)
  (c14 : PySem.W.codeIn K cd14 "need_burst" = true)
  (k14 : PySem.W.keepIn K (.ref f14) = true)
  (g15 : PySem.W.nsIn K mainGlobals "off_parts" = some (some (.ref f15)))
  (l15 : K.lookup f15 = some ⟨oc15, od15, .func (PySem.W.fnOf "off_parts" "off_parts" (defArgs s_off_parts) (defBody s_off_parts) (defScope s_off_parts) .none kV15 dc15 pm15 an15 cd15 ct15), sl15⟩)
  (c15 : PySem.W.codeIn K cd15 "off_parts" = true)
  (k15 : PySem.W.keepIn K (.ref f15) = true)
  (g16 : PySem.W.nsIn K mainGlobals "is_off" = some (some (.ref f16)))
  (l16 : K.lookup f16 = some ⟨oc16, od16, .func (PySem.W.fnOf "is_off" "is_off" (defArgs s_is_off) (defBody s_is_off) (defScope s_is_off) .none kV16 dc16 pm16 an16 cd16 ct16), sl16⟩)
  (c16 : PySem.W.codeIn K cd16 "is_off" = true)
  (k16 : PySem.W.keepIn K (.ref f16) = true)
  (g17 : PySem.W.nsIn K mainGlobals "ends_left" = some (some (.ref f17)))
  (l17 : K.lookup f17 = some ⟨oc17, od17, .func (PySem.W.fnOf "ends_left" "ends_left" (defArgs s_ends_left) (defBody s_ends_left) (defScope s_ends_left) .none kV17 dc17 pm17 an17 cd17 ct17), sl17⟩)
  (c17 : PySem.W.codeIn K cd17 "ends_left" = true)
  (k17 : PySem.W.keepIn K (.ref f17) = true)
  (g18 : PySem.W.nsIn K mainGlobals "least_word" = some (some (.ref f18)))
  (l18 : K.lookup f18 = some ⟨oc18, od18, .func (PySem.W.fnOf "least_word" "least_word" (defArgs s_least_word) (defBody s_least_word) (defScope s_least_word) .none kV18 dc18 pm18 an18 cd18 ct18), sl18⟩)
  (c18 : PySem.W.codeIn K cd18 "least_word" = true)
  (k18 : PySem.W.keepIn K (.ref f18) = true)
  (g19 : PySem.W.nsIn K mainGlobals "least_tolerance" = some (some (.ref f19)))
  (l19 : K.lookup f19 = some ⟨oc19, od19, .func (PySem.W.fnOf "least_tolerance" "least_tolerance" (defArgs s_least_tolerance) (defBody s_least_tolerance) (defScope s_least_tolerance) .none kV19 dc19 pm19 an19 cd19 ct19), sl19⟩)
  (c19 : PySem.W.codeIn K cd19 "least_tolerance" = true)
  (k19 : PySem.W.keepIn K (.ref f19) = true)
  (g20 : PySem.W.nsIn K mainGlobals "nearest" = some (some (.ref f20)))
  (l20 : K.lookup f20 = some ⟨oc20, od20, .func (PySem.W.fnOf "nearest" "nearest" (defArgs s_nearest) (defBody s_nearest) (defScope s_nearest) .none kV20 dc20 pm20 an20 cd20 ct20), sl20⟩)
  (c20 : PySem.W.codeIn K cd20 "nearest" = true)
  (k20 : PySem.W.keepIn K (.ref f20) = true)
  (g21 : PySem.W.nsIn K mainGlobals "_law_begin" = some (some (.ref f21)))
  (l21 : K.lookup f21 = some ⟨oc21, od21, .func (PySem.W.fnOf "_law_begin" "_law_begin" (defArgs s_law_begin) (defBody s_law_begin) (defScope s_law_begin) .none kV21 dc21 pm21 an21 cd21 ct21), sl21⟩)
  (c21 : PySem.W.codeIn K cd21 "_law_begin" = true)
  (k21 : PySem.W.keepIn K (.ref f21) = true)
  (g22 : PySem.W.nsIn K mainGlobals "_law_next" = some (some (.ref f22)))
  (l22 : K.lookup f22 = some ⟨oc22, od22, .func (PySem.W.fnOf "_law_next" "_law_next" (defArgs s_law_next) (defBody s_law_next) (defScope s_law_next) .none kV22 dc22 pm22 an22 cd22 ct22), sl22⟩)
  (c22 : PySem.W.codeIn K cd22 "_law_next" = true)
  (k22 : PySem.W.keepIn K (.ref f22) = true)
  (g23 : PySem.W.nsIn K mainGlobals "_law_pick" = some (some (.ref f23)))
  (l23 : K.lookup f23 = some ⟨oc23, od23, .func (PySem.W.fnOf "_law_pick" "_law_pick" (defArgs s_law_pick) (defBody s_law_pick) (defScope s_law_pick) .none kV23 dc23 pm23 an23 cd23 ct23), sl23⟩)
  (c23 : PySem.W.codeIn K cd23 "_law_pick" = true)
  (k23 : PySem.W.keepIn K (.ref f23) = true)
  (g24 : PySem.W.nsIn K mainGlobals "_law_size" = some (some (.ref f24)))
  (l24 : K.lookup f24 = some ⟨oc24, od24, .func (PySem.W.fnOf "_law_size" "_law_size" (defArgs s_law_size) (defBody s_law_size) (defScope s_law_size) .none kV24 dc24 pm24 an24 cd24 ct24), sl24⟩)
  (c24 : PySem.W.codeIn K cd24 "_law_size" = true)
  (k24 : PySem.W.keepIn K (.ref f24) = true)
  (g25 : PySem.W.nsIn K mainGlobals "_law_table" = some (some (.ref f25)))
  (l25 : K.lookup f25 = some ⟨oc25, od25, .func (PySem.W.fnOf "_law_table" "_law_table" (defArgs s_law_table) (defBody s_law_table) (defScope s_law_table) .none kV25 dc25 pm25 an25 cd25 ct25), sl25⟩)
  (c25 : PySem.W.codeIn K cd25 "_law_table" = true)
  (k25 : PySem.W.keepIn K (.ref f25) = true)
  (g26 : PySem.W.nsIn K mainGlobals "_law_like" = some (some (.ref f26)))
  (l26 : K.lookup f26 = some ⟨oc26, od26, .func (PySem.W.fnOf "_law_like" "_law_like" (defArgs s_law_like) (defBody s_law_like) (defScope s_law_like) .none kV26 dc26 pm26 an26 cd26 ct26), sl26⟩)
  (c26 : PySem.W.codeIn K cd26 "_law_like" = true)
  (k26 : PySem.W.keepIn K (.ref f26) = true)
  (g27 : PySem.W.nsIn K mainGlobals "_law_words" = some (some (.ref f27)))
  (l27 : K.lookup f27 = some ⟨oc27, od27, .func (PySem.W.fnOf "_law_words" "_law_words" (defArgs s_law_words) (defBody s_law_words) (defScope s_law_words) .none kV27 dc27 pm27 an27 cd27 ct27), sl27⟩)
  (c27 : PySem.W.codeIn K cd27 "_law_words" = true)
  (k27 : PySem.W.keepIn K (.ref f27) = true)
  (g28 : PySem.W.nsIn K mainGlobals "_law_frame" = some (some (.ref f28)))
  (l28 : K.lookup f28 = some ⟨oc28, od28, .func (PySem.W.fnOf "_law_frame" "_law_frame" (defArgs s_law_frame) (defBody s_law_frame) (defScope s_law_frame) .none kV28 dc28 pm28 an28 cd28 ct28), sl28⟩)
  (c28 : PySem.W.codeIn K cd28 "_law_frame" = true)
  (k28 : PySem.W.keepIn K (.ref f28) = true)
  (g29 : PySem.W.nsIn K mainGlobals "_law_off" = some (some (.ref f29)))
  (l29 : K.lookup f29 = some ⟨oc29, od29, .func (PySem.W.fnOf "_law_off" "_law_off" (defArgs s_law_off) (defBody s_law_off) (defScope s_law_off) .none kV29 dc29 pm29 an29 cd29 ct29), sl29⟩)
  (c29 : PySem.W.codeIn K cd29 "_law_off" = true)
  (k29 : PySem.W.keepIn K (.ref f29) = true)
  (g30 : PySem.W.nsIn K mainGlobals "_law_is_less" = some (some (.ref f30)))
  (l30 : K.lookup f30 = some ⟨oc30, od30, .func (PySem.W.fnOf "_law_is_less" "_law_is_less" (defArgs s_law_is_less) (defBody s_law_is_less) (defScope s_law_is_less) .none kV30 dc30 pm30 an30 cd30 ct30), sl30⟩)
  (c30 : PySem.W.codeIn K cd30 "_law_is_less" = true)
  (k30 : PySem.W.keepIn K (.ref f30) = true)
  (g31 : PySem.W.nsIn K mainGlobals "_law_farthest" = some (some (.ref f31)))
  (l31 : K.lookup f31 = some ⟨oc31, od31, .func (PySem.W.fnOf "_law_farthest" "_law_farthest" (defArgs s_law_farthest) (defBody s_law_farthest) (defScope s_law_farthest) .none kV31 dc31 pm31 an31 cd31 ct31), sl31⟩)
  (c31 : PySem.W.codeIn K cd31 "_law_farthest" = true)
  (k31 : PySem.W.keepIn K (.ref f31) = true)
  (g32 : PySem.W.nsIn K mainGlobals "_law_moved" = some (some (.ref f32)))
  (l32 : K.lookup f32 = some ⟨oc32, od32, .func (PySem.W.fnOf "_law_moved" "_law_moved" (defArgs s_law_moved) (defBody s_law_moved) (defScope s_law_moved) .none kV32 dc32 pm32 an32 cd32 ct32), sl32⟩)
  (c32 : PySem.W.codeIn K cd32 "_law_moved" = true)
  (k32 : PySem.W.keepIn K (.ref f32) = true)
  (g33 : PySem.W.nsIn K mainGlobals "_law_due" = some (some (.ref f33)))
  (l33 : K.lookup f33 = some ⟨oc33, od33, .func (PySem.W.fnOf "_law_due" "_law_due" (defArgs s_law_due) (defBody s_law_due) (defScope s_law_due) .none kV33 dc33 pm33 an33 cd33 ct33), sl33⟩)
  (c33 : PySem.W.codeIn K cd33 "_law_due" = true)
  (k33 : PySem.W.keepIn K (.ref f33) = true)
  (g34 : PySem.W.nsIn K mainGlobals "_law_burst" = some (some (.ref f34)))
  (l34 : K.lookup f34 = some ⟨oc34, od34, .func (PySem.W.fnOf "_law_burst" "_law_burst" (defArgs s_law_burst) (defBody s_law_burst) (defScope s_law_burst) .none kV34 dc34 pm34 an34 cd34 ct34), sl34⟩)
  (c34 : PySem.W.codeIn K cd34 "_law_burst" = true)
  (k34 : PySem.W.keepIn K (.ref f34) = true)
  (g35 : PySem.W.nsIn K mainGlobals "law" = some (some (.ref f35)))
  (l35 : K.lookup f35 = some ⟨oc35, od35, .func (PySem.W.fnOf "law" "law" (defArgs s_law) (defBody s_law) (defScope s_law) .none kV35 dc35 pm35 an35 cd35 ct35), sl35⟩)
  (c35 : PySem.W.codeIn K cd35 "law" = true)
  (k35 : PySem.W.keepIn K (.ref f35) = true)
  (b_isinstance : PySem.W.nsIn K mainGlobals "isinstance" = some none)
  (b_int : PySem.W.nsIn K mainGlobals "int" = some none)
  (b_bool : PySem.W.nsIn K mainGlobals "bool" = some none)
  (b_tuple : PySem.W.nsIn K mainGlobals "tuple" = some none)
  (b_str : PySem.W.nsIn K mainGlobals "str" = some none)
  (b_len : PySem.W.nsIn K mainGlobals "len" = some none)
  (b_all : PySem.W.nsIn K mainGlobals "all" = some none)
  (b_any : PySem.W.nsIn K mainGlobals "any" = some none)
  (b_list : PySem.W.nsIn K mainGlobals "list" = some none)
  (b_zip : PySem.W.nsIn K mainGlobals "zip" = some none)
  (b_range : PySem.W.nsIn K mainGlobals "range" = some none)
  (b_reversed : PySem.W.nsIn K mainGlobals "reversed" = some none)
  (b_enumerate : PySem.W.nsIn K mainGlobals "enumerate" = some none)
  (b_repr : PySem.W.nsIn K mainGlobals "repr" = some none)
  (vLONGEST : PySem.W.nsIn K mainGlobals "LONGEST" = some (some (.int 99999 tkLONGEST)))
  (vMOST_BITS : PySem.W.nsIn K mainGlobals "MOST_BITS" = some (some (.int 8 tkMOST_BITS)))
  (vMOST_ITEMS : PySem.W.nsIn K mainGlobals "MOST_ITEMS" = some (some (.int 63 tkMOST_ITEMS)))
  (vPAIRS : PySem.W.nsIn K mainGlobals "PAIRS" = some (some (.str "pairs" tkPAIRS)))
  (vHALVES : PySem.W.nsIn K mainGlobals "HALVES" = some (some (.str "halves" tkHALVES)))
  (vPULSE : PySem.W.nsIn K mainGlobals "PULSE" = some (some (.str "pulse" tkPULSE)))
  (vGAP : PySem.W.nsIn K mainGlobals "GAP" = some (some (.str "gap" tkGAP)))
  (vF : PySem.W.nsIn K mainGlobals "FIRST_HALVES" = some (some (.ref aF)))
  (lF : K.lookup aF = some ⟨.type "tuple", dF, .seq #[.str "gap" t1, .str "pulse" t2] nF, sF⟩)
  (vO : PySem.W.nsIn K mainGlobals "OTHERS" = some (some (.ref aO)))
  (lO : K.lookup aO = some ⟨.type "dict", none, .dict esO nO, #[]⟩)
  (kO : PySem.W.KeysLit w.params esO.toList)
  (gO1 : PySem.W.nsIn K aO "gap" = some (some (.str "pulse" t3)))
  (gO2 : PySem.W.nsIn K aO "pulse" = some (some (.str "gap" t4)))
  : ∃ C, Tx w K mg C ∧ PySem.W.findIn K (.ref C) "__ne__" = some (some (.builtin "object.__ne__")) := by
  have h2 : (2 : Nat) ≤ sizeLine := by rw [sizeLine_eq]; decide
  have hF : ∀ H : Hp, SqT K H aF [.str "gap", .str "pulse"] := fun H => .inr ⟨_, _, _, lF, rfl, rfl, h2, gp_vals⟩
  have T : Tx w K mg C := {
    R := ⟨⟨cpg, chd, cpo, csa⟩, cnN, cnD, PySem.W.mg_of X G gC, cha, chn, cht, chm, if_pos (beq_self_eq_true _)⟩,
    d_is_integer := ⟨_, _, fun_mk l0 c0 k0, PySem.W.mg_of X G g0⟩,
    d_is_whole := ⟨_, _, fun_mk l1 c1 k1, PySem.W.mg_of X G g1⟩,
    d_shared_by := ⟨_, _, fun_mk l2 c2 k2, PySem.W.mg_of X G g2⟩,
    d_is_at_most := ⟨_, _, fun_mk l3 c3 k3, PySem.W.mg_of X G g3⟩,
    d_is_lesser := ⟨_, _, fun_mk l4 c4 k4, PySem.W.mg_of X G g4⟩,
    d_is_duration := ⟨_, _, fun_mk l5 c5 k5, PySem.W.mg_of X G g5⟩,
    d_are_durations := ⟨_, _, fun_mk l6 c6 k6, PySem.W.mg_of X G g6⟩,
    d_wrong_part := ⟨_, _, fun_mk l7 c7 k7, PySem.W.mg_of X G g7⟩,
    d_need_table := ⟨_, _, fun_mk l8 c8 k8, PySem.W.mg_of X G g8⟩,
    d_bits_of := ⟨_, _, fun_mk l9 c9 k9, PySem.W.mg_of X G g9⟩,
    d_begin_in := ⟨_, _, fun_mk l10 c10 k10, PySem.W.mg_of X G g10⟩,
    d_is_end_in := ⟨_, _, fun_mk l11 c11 k11, PySem.W.mg_of X G g11⟩,
    d_settle := ⟨_, _, fun_mk l12 c12 k12, PySem.W.mg_of X G g12⟩,
    d_steps_in := ⟨_, _, fun_mk l13 c13 k13, PySem.W.mg_of X G g13⟩,
    d_need_burst := ⟨_, _, fun_mk l14 c14 k14, PySem.W.mg_of X G g14⟩,
    d_off_parts := ⟨_, _, fun_mk l15 c15 k15, PySem.W.mg_of X G g15⟩,
    d_is_off := ⟨_, _, fun_mk l16 c16 k16, PySem.W.mg_of X G g16⟩,
    d_ends_left := ⟨_, _, fun_mk l17 c17 k17, PySem.W.mg_of X G g17⟩,
    d_least_word := ⟨_, _, fun_mk l18 c18 k18, PySem.W.mg_of X G g18⟩,
    d_least_tolerance := ⟨_, _, fun_mk l19 c19 k19, PySem.W.mg_of X G g19⟩,
    d_nearest := ⟨_, _, fun_mk l20 c20 k20, PySem.W.mg_of X G g20⟩,
    d_law_begin := ⟨_, _, fun_mk l21 c21 k21, PySem.W.mg_of X G g21⟩,
    d_law_next := ⟨_, _, fun_mk l22 c22 k22, PySem.W.mg_of X G g22⟩,
    d_law_pick := ⟨_, _, fun_mk l23 c23 k23, PySem.W.mg_of X G g23⟩,
    d_law_size := ⟨_, _, fun_mk l24 c24 k24, PySem.W.mg_of X G g24⟩,
    d_law_table := ⟨_, _, fun_mk l25 c25 k25, PySem.W.mg_of X G g25⟩,
    d_law_like := ⟨_, _, fun_mk l26 c26 k26, PySem.W.mg_of X G g26⟩,
    d_law_words := ⟨_, _, fun_mk l27 c27 k27, PySem.W.mg_of X G g27⟩,
    d_law_frame := ⟨_, _, fun_mk l28 c28 k28, PySem.W.mg_of X G g28⟩,
    d_law_off := ⟨_, _, fun_mk l29 c29 k29, PySem.W.mg_of X G g29⟩,
    d_law_is_less := ⟨_, _, fun_mk l30 c30 k30, PySem.W.mg_of X G g30⟩,
    d_law_farthest := ⟨_, _, fun_mk l31 c31 k31, PySem.W.mg_of X G g31⟩,
    d_law_moved := ⟨_, _, fun_mk l32 c32 k32, PySem.W.mg_of X G g32⟩,
    d_law_due := ⟨_, _, fun_mk l33 c33 k33, PySem.W.mg_of X G g33⟩,
    d_law_burst := ⟨_, _, fun_mk l34 c34 k34, PySem.W.mg_of X G g34⟩,
    d_law := ⟨_, _, fun_mk l35 c35 k35, PySem.W.mg_of X G g35⟩,
    b_isinstance := PySem.W.mg_none_of X G b_isinstance,
    b_int := PySem.W.mg_none_of X G b_int,
    b_bool := PySem.W.mg_none_of X G b_bool,
    b_tuple := PySem.W.mg_none_of X G b_tuple,
    b_str := PySem.W.mg_none_of X G b_str,
    b_len := PySem.W.mg_none_of X G b_len,
    b_all := PySem.W.mg_none_of X G b_all,
    b_any := PySem.W.mg_none_of X G b_any,
    b_list := PySem.W.mg_none_of X G b_list,
    b_zip := PySem.W.mg_none_of X G b_zip,
    b_range := PySem.W.mg_none_of X G b_range,
    b_reversed := PySem.W.mg_none_of X G b_reversed,
    b_enumerate := PySem.W.mg_none_of X G b_enumerate,
    b_repr := PySem.W.mg_none_of X G b_repr,
    c_LONGEST := ⟨_, PySem.W.mg_of X G vLONGEST⟩,
    c_MOST_BITS := ⟨_, PySem.W.mg_of X G vMOST_BITS⟩,
    c_MOST_ITEMS := ⟨_, PySem.W.mg_of X G vMOST_ITEMS⟩,
    c_PAIRS := ⟨_, PySem.W.mg_of X G vPAIRS⟩,
    c_HALVES := ⟨_, PySem.W.mg_of X G vHALVES⟩,
    c_PULSE := ⟨_, PySem.W.mg_of X G vPULSE⟩,
    c_GAP := ⟨_, PySem.W.mg_of X G vGAP⟩,
    c_FIRST := ⟨_, PySem.W.mg_of X G vF, fun B H => .tup (hF H) (.cons (.str _) (.cons (.str _) .nil))⟩,
    c_OTHERS := ⟨_, PySem.W.mg_of X G vO, ⟨_, _, _, lO, kO, gO1, ⟨_, rfl⟩⟩, ⟨_, _, _, lO, kO, gO2, ⟨_, rfl⟩⟩⟩,
    r_init := ⟨_, _, ⟨⟨_, _, _, _, _, _, _, _, _, _, rfl, lI, cI, .inr ⟨(fun z => nomatch z), _, _, [.int 1 kJ], _, rfl, lI2, rfl, .cons ⟨_, rfl⟩ .nil⟩, .inl rfl⟩, kI⟩, ⟨cmk, iI, nI1, ckp⟩⟩,
    r_num := ⟨_, _, _, ⟨aN, gN, tN, ⟨_, eN⟩⟩, fun_mk lN cN kN⟩,
    r_den := ⟨_, _, _, ⟨aD, gD, tD, ⟨_, eD⟩⟩, fun_mk lD cD kD⟩,
    r_eq := ⟨_, _, fun_mk lE cE kE, iE, nE⟩ }
  exact ⟨C, T, cne⟩
end Bf

open PySem PySem.W PyProof.Rows
theorem Bf.use_facts {K : PySem.W.Frag} {h : Heap} {w : World} {mg : Str → Option Value} {p : Prop} (_ : K.In h) (_ : h.Ns mainGlobals mg) (t : ∃ C, Bf.Tx w K mg C ∧ PySem.W.findIn K (.ref C) "__ne__" = some (some (.builtin "object.__ne__"))) (k : ∀ C, Bf.Tx w K mg C → PySem.W.findIn K (.ref C) "__ne__" = some (some (.builtin "object.__ne__")) → p) : p := by
  obtain ⟨C, T, hne⟩ := t
  exact k C T hne
set_option maxHeartbeats 0 in
theorem PySem.Challenge.cw_beamframes_k08_whole_nearest_holds : PySem.Challenge.rw_beamframes_k08_whole_nearest.Holds := by
  w_on; o_law; k_head; (case hw => w_witness2)
  k_fill
  refine Att.attach_call (n := 63) (l := PySem.Challenge.rw_beamframes_k08_whole_nearest) rfl rfl fun w s₀ s₁ mg mb fa o pm cd doc a vs ns G Y ho hd hcd hmg hobj hints hlen hg => ?_
  have KX := PySem.W.kIn_of Y
  refine' Bf.use_facts KX G.T.g (Bf.facts KX G.T.g ?bf0 ?bf1 ?bf2 ?bf3 ?bf4 ?bf5 ?bf6 ?bf7 ?bf8 ?bf9 ?bf10 ?bf11 ?bf12 ?bf13 ?bf14 ?bf15 ?bf16 ?bf17 ?bf18 ?bf19 ?bf20 ?bf21 ?bf22 ?bf23 ?bf24 ?bf25 ?bf26 ?bf27 ?bf28 ?bf29 ?bf30 ?bf31 ?bf32 ?bf33 ?bf34 ?bf35 ?bf36 ?bf37 ?bf38 ?bf39 ?bf40 ?bf41 ?bf42 ?bf43 ?bf44 ?bf45 ?bf46 ?bf47 ?bf48 ?bf49 ?bf50 ?bf51 ?bf52 ?bf53 ?bf54 ?bf55 ?bf56 ?bf57 ?bf58 ?bf59 ?bf60 ?bf61 ?bf62 ?bf63 ?bf64 ?bf65 ?bf66 ?bf67 ?bf68 ?bf69 ?bf70 ?bf71 ?bf72 ?bf73 ?bf74 ?bf75 ?bf76 ?bf77 ?bf78 ?bf79 ?bf80 ?bf81 ?bf82 ?bf83 ?bf84 ?bf85 ?bf86 ?bf87 ?bf88 ?bf89 ?bf90 ?bf91 ?bf92 ?bf93 ?bf94 ?bf95 ?bf96 ?bf97 ?bf98 ?bf99 ?bf100 ?bf101 ?bf102 ?bf103 ?bf104 ?bf105 ?bf106 ?bf107 ?bf108 ?bf109 ?bf110 ?bf111 ?bf112 ?bf113 ?bf114 ?bf115 ?bf116 ?bf117 ?bf118 ?bf119 ?bf120 ?bf121 ?bf122 ?bf123 ?bf124 ?bf125 ?bf126 ?bf127 ?bf128 ?bf129 ?bf130 ?bf131 ?bf132 ?bf133 ?bf134 ?bf135 ?bf136 ?bf137 ?bf138 ?bf139 ?bf140 ?bf141 ?bf142 ?bf143 ?bf144 ?bf145 ?bf146 ?bf147 ?bf148 ?bf149 ?bf150 ?bf151 ?bf152 ?bf153 ?bf154 ?bf155 ?bf156 ?bf157 ?bf158 ?bf159 ?bf160 ?bf161 ?bf162 ?bf163 ?bf164 ?bf165 ?bf166 ?bf167 ?bf168 ?bf169 ?bf170 ?bf171 ?bf172 ?bf173 ?bf174 ?bf175 ?bf176 ?bf177 ?bf178 ?bf179 ?bf180 ?bf181 ?bf182 ?bf183 ?bf184 ?bf185 ?bf186 ?bf187 ?bf188 ?bf189 ?bf190 ?bf191 ?bf192 ?bf193 ?bf194 ?bf195 ?bf196 ?bf197 ?bf198 ?bf199 ?bf200 ?bf201 ?bf202 ?bf203 ?bf204 ?bf205 ?bf206 ?bf207 ?bf208 ?bf209 ?bf210) ?last
  (case bf0 => k_is)
  (case bf1 => k_is)
  (case bf2 => k_is)
  (case bf3 => k_is)
  (case bf4 => k_is)
  (case bf5 => k_is)
  (case bf6 => k_is)
  (case bf7 => k_is)
  (case bf8 => k_is)
  (case bf9 => k_is)
  (case bf10 => k_is)
  (case bf11 => k_is)
  (case bf12 => k_is)
  (case bf13 => k_is)
  (case bf14 => k_is)
  (case bf15 => k_is)
  (case bf16 => k_is)
  (case bf17 => k_is)
  (case bf18 => k_is)
  (case bf19 => k_is)
  (case bf20 => k_is)
  (case bf21 => k_is)
  (case bf22 => k_is)
  (case bf23 => k_is)
  (case bf24 => k_is)
  (case bf25 => k_is)
  (case bf26 => k_is)
  (case bf27 => k_is)
  (case bf28 => k_is)
  (case bf29 => k_is)
  (case bf30 => k_is)
  (case bf31 => k_is)
  (case bf32 => k_is)
  (case bf33 => k_is)
  (case bf34 => k_is)
  (case bf35 => k_is)
  (case bf36 => k_is)
  (case bf37 => k_is)
  (case bf38 => k_is)
  (case bf39 => k_is)
  (case bf40 => k_is)
  (case bf41 => k_is)
  (case bf42 => k_is)
  (case bf43 => k_is)
  (case bf44 => k_is)
  (case bf45 => k_is)
  (case bf46 => k_is)
  (case bf47 => k_is)
  (case bf48 => k_is)
  (case bf49 => k_is)
  (case bf50 => k_is)
  (case bf51 => k_is)
  (case bf52 => k_is)
  (case bf53 => k_is)
  (case bf54 => k_is)
  (case bf55 => k_is)
  (case bf56 => k_is)
  (case bf57 => k_is)
  (case bf58 => k_is)
  (case bf59 => k_is)
  (case bf60 => k_is)
  (case bf61 => k_is)
  (case bf62 => k_is)
  (case bf63 => k_is)
  (case bf64 => k_is)
  (case bf65 => k_is)
  (case bf66 => k_is)
  (case bf67 => k_is)
  (case bf68 => k_is)
  (case bf69 => k_is)
  (case bf70 => k_is)
  (case bf71 => k_is)
  (case bf72 => k_is)
  (case bf73 => k_is)
  (case bf74 => k_is)
  (case bf75 => k_is)
  (case bf76 => k_is)
  (case bf77 => k_is)
  (case bf78 => k_is)
  (case bf79 => k_is)
  (case bf80 => k_is)
  (case bf81 => k_is)
  (case bf82 => k_is)
  (case bf83 => k_is)
  (case bf84 => k_is)
  (case bf85 => k_is)
  (case bf86 => k_is)
  (case bf87 => k_is)
  (case bf88 => k_is)
  (case bf89 => k_is)
  (case bf90 => k_is)
  (case bf91 => k_is)
  (case bf92 => k_is)
  (case bf93 => k_is)
  (case bf94 => k_is)
  (case bf95 => k_is)
  (case bf96 => k_is)
  (case bf97 => k_is)
  (case bf98 => k_is)
  (case bf99 => k_is)
  (case bf100 => k_is)
  (case bf101 => k_is)
  (case bf102 => k_is)
  (case bf103 => k_is)
  (case bf104 => k_is)
  (case bf105 => k_is)
  (case bf106 => k_is)
  (case bf107 => k_is)
  (case bf108 => k_is)
  (case bf109 => k_is)
  (case bf110 => k_is)
  (case bf111 => k_is)
  (case bf112 => k_is)
  (case bf113 => k_is)
  (case bf114 => k_is)
  (case bf115 => k_is)
  (case bf116 => k_is)
  (case bf117 => k_is)
  (case bf118 => k_is)
  (case bf119 => k_is)
  (case bf120 => k_is)
  (case bf121 => k_is)
  (case bf122 => k_is)
  (case bf123 => k_is)
  (case bf124 => k_is)
  (case bf125 => k_is)
  (case bf126 => k_is)
  (case bf127 => k_is)
  (case bf128 => k_is)
  (case bf129 => k_is)
  (case bf130 => k_is)
  (case bf131 => k_is)
  (case bf132 => k_is)
  (case bf133 => k_is)
  (case bf134 => k_is)
  (case bf135 => k_is)
  (case bf136 => k_is)
  (case bf137 => k_is)
  (case bf138 => k_is)
  (case bf139 => k_is)
  (case bf140 => k_is)
  (case bf141 => k_is)
  (case bf142 => k_is)
  (case bf143 => k_is)
  (case bf144 => k_is)
  (case bf145 => k_is)
  (case bf146 => k_is)
  (case bf147 => k_is)
  (case bf148 => k_is)
  (case bf149 => k_is)
  (case bf150 => k_is)
  (case bf151 => k_is)
  (case bf152 => k_is)
  (case bf153 => k_is)
  (case bf154 => k_is)
  (case bf155 => k_is)
  (case bf156 => k_is)
  (case bf157 => k_is)
  (case bf158 => k_is)
  (case bf159 => k_is)
  (case bf160 => k_is)
  (case bf161 => k_is)
  (case bf162 => k_is)
  (case bf163 => k_is)
  (case bf164 => k_is)
  (case bf165 => k_is)
  (case bf166 => k_is)
  (case bf167 => k_is)
  (case bf168 => k_is)
  (case bf169 => k_is)
  (case bf170 => k_is)
  (case bf171 => k_is)
  (case bf172 => k_is)
  (case bf173 => k_is)
  (case bf174 => k_is)
  (case bf175 => k_is)
  (case bf176 => k_is)
  (case bf177 => k_is)
  (case bf178 => k_is)
  (case bf179 => k_is)
  (case bf180 => k_is)
  (case bf181 => k_is)
  (case bf182 => k_is)
  (case bf183 => k_is)
  (case bf184 => k_is)
  (case bf185 => k_is)
  (case bf186 => k_is)
  (case bf187 => k_is)
  (case bf188 => k_is)
  (case bf189 => k_is)
  (case bf190 => k_is)
  (case bf191 => k_is)
  (case bf192 => k_is)
  (case bf193 => k_is)
  (case bf194 => k_is)
  (case bf195 => k_is)
  (case bf196 => k_is)
  (case bf197 => k_is)
  (case bf198 => k_is)
  (case bf199 => k_is)
  (case bf200 => k_is)
  (case bf201 => k_is)
  (case bf202 => k_is)
  (case bf203 => k_is)
  (case bf204 => k_is)
  (case bf205 => k_is)
  (case bf206 => k_is)
  (case bf207 => k_is)
  (case bf208 => k_keys)
  (case bf209 => k_is)
  (case bf210 => k_is)
  case last =>
    intro C T hne
    exact Bf.call_at KX G.T.g G.T.b G.T.builtins G.T.nolimit hg hobj hints (Nat.le_trans hlen (by rw [sizeLine_eq]; decide)) fun base H hS e0 => Bf.law_at T hne hmg hlen hS e0
