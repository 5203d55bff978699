import PyProof.Rows.All
import Wide.All
import OpenK.AllK
import Wide.FinOn
import Open.SpecLaws
import KE.OsHead
import KE.OsGo
import HandS.ForSpec
import HandS.Comp
import HandS.Conv
import HandS.Style
import HandS.Steps
import PySem.Challenge.RW_sweepcycles_s01_answers
section
/-! The mirror: the program's data as a record, each operation as a total function. -/
set_option autoImplicit false
namespace Gc
open Vbxlab (Value)

structure Ent where
  cells : List Value
  code : Nat
  there : Bool
def noEnt : Ent := ⟨[], 0, false⟩

structure M where
  slots : List Value
  ents : List Ent
  owners : List Nat
  states : List Nat
  imported : List Bool
  pinned : List Bool
  running : Bool
  colors : List Nat
  grey : List Nat
  examined : Nat
  units : Nat
  marked : List Bool
  reports : List Nat

/-- 1, 2, .., n -/
def ones (n : Nat) : List Nat := (List.range n).map (· + 1)

/-! heap -/
def M.ent (m : M) (n : Nat) : Ent := (m.ents[n - 1]?).getD noEnt
def M.cells (m : M) (n : Nat) : List Value := (m.ent n).cells
def M.there (m : M) (n : Nat) : Bool := (m.ent n).there
def M.slot (m : M) (i : Nat) : Value := (m.slots[i]?).getD .nothing
def M.put (m : M) (i : Nat) (v : Value) : M := { m with slots := m.slots.set i v }
def M.create (m : M) (size code : Nat) : M := { m with ents := m.ents ++ [⟨List.replicate size .nothing, code, true⟩] }
def M.isPresent (m : M) (x : Int) : Bool := if x < 1 ∨ x > (m.ents.length : Int) then false else m.there x.toNat
def M.present (m : M) : List Nat := (ones m.ents.length).filter fun n => m.there n
def M.setEnt (m : M) (n : Nat) (e : Ent) : M := { m with ents := m.ents.set (n - 1) e }
def M.free (m : M) (n : Nat) : M := m.setEnt n { m.ent n with there := false }
def M.setCell (m : M) (n k : Nat) (v : Value) : M := m.setEnt n { m.ent n with cells := (m.cells n).set k v }

/-! exports -/
def M.state (m : M) (h : Int) : Nat := if h < 1 ∨ h > (m.states.length : Int) then 0 else (m.states[h.toNat - 1]?).getD 0
def M.owner (m : M) (h : Nat) : Nat := (m.owners[h - 1]?).getD 0
def M.handleOf (m : M) (n : Nat) : Nat := ((ones m.owners.length).find? fun (h : Nat) => m.state (h : Int) != 0 && m.owner h == n).getD 0
def M.setState (m : M) (h s : Nat) : M := { m with states := m.states.set (h - 1) s }
def M.export (m : M) (n : Nat) : M × Nat :=
  if m.handleOf n = 0 then ({ m with owners := m.owners ++ [n], states := m.states ++ [2] }, m.owners.length + 1)
  else (m.setState (m.handleOf n) 2, m.handleOf n)
def M.active (m : M) : List Nat := (ones m.states.length).filter fun (h : Nat) => m.state (h : Int) == 2

/-! imports -/
def M.isImported (m : M) (r : Nat) : Bool := (m.imported[r]?).getD false
def M.isPinned (m : M) (r : Nat) : Bool := (m.pinned[r]?).getD false
def M.isMarked (m : M) (r : Nat) : Bool := (m.marked[r]?).getD false
def M.receive (m : M) (r : Nat) : M := { m with imported := m.imported.set r true }
def M.pin (m : M) (r : Nat) (b : Bool) : M := { m with pinned := m.pinned.set r b }
def M.pinnedI (m : M) (x : Int) : Bool := if x < 1 ∨ x > 99 then false else m.isPinned x.toNat
def M.allImported (m : M) : List Nat := (ones 99).filter fun r => m.isImported r
def M.gone (m : M) : List Nat := m.allImported.filter fun r => !m.isMarked r
def M.drop (m : M) (l : List Nat) : M := { m with imported := l.foldl (fun a r => a.set r false) m.imported }

/-! cycle -/
def M.isOld (m : M) (n : Nat) : Bool := decide (n ≤ m.colors.length)
def M.color (m : M) (n : Nat) : Nat := if n ≤ m.colors.length then (m.colors[n - 1]?).getD 0 else 2
def M.start (m : M) : M := { m with running := true, colors := List.replicate m.ents.length 0, grey := [], examined := 0, units := 0, marked := m.pinned }
def M.mark (m : M) (v : Value) : M := match v with
  | .object n => if m.color n = 0 then { m with colors := m.colors.set (n - 1) 1, grey := m.grey ++ [n] } else m
  | .foreign r => { m with marked := m.marked.set r true }
  | _ => m
def M.examine (m : M) (v : Value) : M := { m with examined := m.examined + 1 }.mark v
def M.blacken (m : M) : M := { m with colors := m.colors.set ((m.grey[0]?).getD 0 - 1) 2, grey := m.grey.drop 1, examined := 0 }
def M.count (m : M) : M := { m with units := m.units + 1 }

/-! collector -/
def M.begin (m : M) : M := (m.slots ++ m.active.map fun h => Value.object (m.owner h)).foldl M.mark m.start
def M.unit (m : M) : M := match (m.cells ((m.grey[0]?).getD 0))[m.examined]? with
  | some v => (m.examine v).count
  | none => m.blacken.count
def M.doUnits : Nat → M → M × Nat
  | 0, m => (m, 0)
  | k + 1, m => if m.grey = [] then (m, 0) else ((doUnits k m.unit).1, (doUnits k m.unit).2 + 1)
def M.total (m : M) : Nat := (m.present.map fun n => if m.color n = 2 then 0 else 1 + (m.cells n).length).sum
def M.unitsLeft (m : M) : Int := (m.total : Int) - (m.examined : Int)
def M.white (m : M) : List Nat := m.present.filter fun n => m.color n == 0
def M.freeAll (m : M) (l : List Nat) : M := l.foldl M.free m
def M.codesOf (m : M) (l : List Nat) : List Nat := (l.map fun n => (m.ent n).code).filter fun c => c != 0
def M.report (m : M) (l : List Nat) : M := { m with reports := m.reports ++ l }
def M.stop (m : M) : M := { m with running := false }
def zints (l : List Nat) : List Int := l.map fun (n : Nat) => (n : Int)
def M.finish (m : M) : M × List Int :=
  ((((m.freeAll m.white).report (m.codesOf m.white)).drop m.gone).stop,
   [(m.white.length : Int), ((m.codesOf m.white).length : Int)] ++ zints (m.codesOf m.white) ++ [(m.gone.length : Int)] ++ zints m.gone)
def M.complete (m : M) : M × List Int := (M.doUnits m.unitsLeft.toNat m).1.finish

/-! tests of arguments -/
def between (x lo hi : Int) : Bool := decide (lo ≤ x) && decide (x ≤ hi)
def isSlot (x : Int) : Bool := between x 0 5
def isField (x : Int) : Bool := between x 0 3
def isRef (x : Int) : Bool := between x 1 99

/-! operations 0 to 14 -/
def M.opCreate (m : M) (slot size code : Int) : M × List Int :=
  if (!isSlot slot || (!between size 0 4 || !between code 0 1000000000)) = true then (m, [-1]) else
  if 60 ≤ m.ents.length then (m, [-2]) else
  ((m.create size.toNat code.toNat).put slot.toNat (.object (m.ents.length + 1)), [((m.ents.length + 1 : Nat) : Int)])
def M.opSet (m : M) (slot : Int) (v : Value) : M × List Int := if (!isSlot slot) = true then (m, [-1]) else (m.put slot.toNat v, [0])
def M.opCopy (m : M) (i j : Int) : M × List Int := if (!isSlot i || !isSlot j) = true then (m, [-1]) else (m.put j.toNat (m.slot i.toNat), [0])
def M.fieldError (m : M) (i k : Int) : Int := match m.slot i.toNat with
  | .object n => if ((m.cells n).length : Int) ≤ k then -4 else 0
  | _ => -3
def num : Value → Nat
  | .object n => n
  | .foreign r => r
  | _ => 0
def M.opRead (m : M) (i k j : Int) : M × List Int := if (!isSlot i || (!isField k || !isSlot j)) = true then (m, [-1]) else
  if m.fieldError i k ≠ 0 then (m, [m.fieldError i k]) else
  (m.put j.toNat (((m.cells (num (m.slot i.toNat)))[k.toNat]?).getD .nothing), [0])
def M.guard (m : M) (n k : Nat) : M := if (m.running && m.isOld n) = true then m.mark (((m.cells n)[k]?).getD .nothing) else m
def M.opWrite (m : M) (i k j : Int) : M × List Int := if (!isSlot i || (!isField k || !isSlot j)) = true then (m, [-1]) else
  if m.fieldError i k ≠ 0 then (m, [m.fieldError i k]) else
  ((m.guard (num (m.slot i.toNat)) k.toNat).setCell (num (m.slot i.toNat)) k.toNat (m.slot j.toNat), [0])
def M.opCompare (m : M) (i j : Int) : M × List Int := if (!isSlot i || !isSlot j) = true then (m, [-1]) else
  (m, [if m.slot i.toNat = m.slot j.toNat then 1 else 0])
def M.opInspect (m : M) (i : Int) : M × List Int := if (!isSlot i) = true then (m, [-1]) else
  (m, match m.slot i.toNat with
    | .nothing => [0]
    | .integer n => [1, n]
    | .object n => [2, (n : Int), ((m.cells n).length : Int)]
    | .foreign r => [3, (r : Int)])
def M.opExport (m : M) (i : Int) : M × List Int := if (!isSlot i) = true then (m, [-1]) else
  match m.slot i.toNat with
  | .object n => ((m.export n).1, [((m.export n).2 : Int)])
  | _ => (m, [-3])
def M.opAccept (m : M) (h i : Int) : M × List Int := if (!isSlot i) = true then (m, [-1]) else
  if m.state h ≠ 2 then (m, [-5]) else (m.put i.toNat (.object (m.owner h.toNat)), [0])
def M.opRetire (m : M) (h : Int) : M × List Int := if m.state h ≠ 2 then (m, [-5]) else (m.setState h.toNat 1, [0])
def M.opWithdraw (m : M) (h : Int) : M × List Int := if m.state h = 0 then (m, [-5]) else (m.setState h.toNat 0, [0])
def M.markIf (m : M) (v : Value) : M := if m.running = true then m.mark v else m
def M.opImport (m : M) (r i : Int) : M × List Int := if (!isRef r || !isSlot i) = true then (m, [-1]) else
  (((m.receive r.toNat).markIf (.foreign r.toNat)).put i.toNat (.foreign r.toNat), [0])
def M.opPin (m : M) (i : Int) : M × List Int := if (!isSlot i) = true then (m, [-1]) else
  match m.slot i.toNat with
  | .foreign r => (m.pin r true, [0])
  | _ => (m, [-6])
def M.opUnpin (m : M) (r : Int) : M × List Int := if (!m.pinnedI r) = true then (m, [-7]) else (m.pin r.toNat false, [0])

/-! operations 15 to 18 -/
def M.opBegin (m : M) : M × List Int := if m.running = true then (m, [-8]) else (m.begin, [0])
def M.opWork (m : M) (b : Int) : M × List Int := if (!between b 1 1000) = true then (m, [-1]) else
  if (!m.running) = true then (m, [-9]) else
  ((M.doUnits b.toNat m).1, [((M.doUnits b.toNat m).2 : Int), if (M.doUnits b.toNat m).1.grey = [] then 1 else 0])
def M.opEnd (m : M) : M × List Int := if (!m.running) = true then (m, [-9]) else if m.grey ≠ [] then (m, [-10]) else m.finish
def M.first (m : M) : M × List Int := if m.running = true then m.complete else (m, [0, 0, 0])
def M.opCollect (m : M) : M × List Int := (m.first.1.begin.complete.1, m.first.2 ++ m.first.1.begin.complete.2)

/-! inquiries -/
structure Sr where
  seen : List Bool
  found : List Nat
  par : List Int
  lab : List Nat
def Sr.visit (s : Sr) (n : Nat) (p : Int) (l : Nat) : Sr :=
  if (s.seen[n]?).getD false = true then s else ⟨s.seen.set n true, s.found ++ [n], s.par ++ [p], s.lab ++ [l]⟩
def M.slotRoots (m : M) (k : Nat) : List (Nat × Nat × Nat) := (List.range k).filterMap fun i => match m.slot i with
  | .object n => some (0, i, n)
  | _ => none
def M.roots (m : M) : List (Nat × Nat × Nat) := m.slotRoots 6 ++ m.active.map fun h => (1, h, m.owner h)
def Sr.field (s : Sr) (cs : List Value) (place f : Nat) : Sr := match (cs[f]?).getD .nothing with
  | .object n => s.visit n (place : Int) f
  | _ => s
def M.expand (m : M) (s : Sr) (place : Nat) : Sr :=
  (List.range (m.cells ((s.found[place]?).getD 0)).length).foldl (fun t f => t.field (m.cells ((s.found[place]?).getD 0)) place f) s
def Sr.new (n : Nat) : Sr := ⟨List.replicate (n + 1) false, [], [], []⟩
def Sr.root (rs : List (Nat × Nat × Nat)) (s : Sr) (k : Nat) : Sr := s.visit ((rs[k]?).getD (0, 0, 0)).2.2 (-1) k
def M.turn (m : M) (s : Sr) (k : Nat) : Sr := if k < s.found.length then m.expand s k else s
def M.searchFrom (m : M) (rs : List (Nat × Nat × Nat)) : Sr :=
  (List.range m.ents.length).foldl m.turn ((List.range rs.length).foldl (Sr.root rs) (Sr.new m.ents.length))
def Sr.back (s : Sr) : Nat → Nat → List Nat → List Nat × Nat
  | 0, p, acc => (acc, p)
  | f + 1, p, acc => if 0 ≤ (s.par[p]?).getD (-1) then back s f ((s.par[p]?).getD (-1)).toNat (acc ++ [(s.lab[p]?).getD 0]) else (acc, p)
def Sr.tell (s : Sr) (rs : List (Nat × Nat × Nat)) (n : Nat) : List Int :=
  let b := s.back (s.found.idxOf n + 1) (s.found.idxOf n) []
  let r := (rs[(s.lab[b.2]?).getD 0]?).getD (0, 0, 0)
  [1, (r.1 : Int), (r.2.1 : Int), (b.1.length : Int)] ++ zints b.1.reverse
def M.tellPath (m : M) (x : Int) : List Int := if (!m.isPresent x) = true then [-11] else
  if (!(((m.searchFrom m.roots).seen[x.toNat]?).getD false)) = true then [0] else (m.searchFrom m.roots).tell m.roots x.toNat
def M.black (m : M) : List Nat := m.present.filter fun n => m.color n == 2
def M.tellStatus (m : M) : List Int := if (!m.running) = true then
    [0, (m.present.length : Int), 0, 0, (m.active.length : Int), (m.allImported.length : Int), 0]
  else [1, (m.present.length : Int), (m.grey.length : Int), (m.black.length : Int), (m.active.length : Int), (m.allImported.length : Int), (m.units : Int)]
def M.tellPresent (m : M) : List Int := (m.present.length : Int) :: zints m.present
def M.tellReported (m : M) : List Int := (m.reports.length : Int) :: zints m.reports
def M.tellRemaining (m : M) : List Int := if (!m.running) = true then [-9] else [m.unitsLeft]

def M.op (m : M) : Vbxlab.Call → M × List Int
  | .create i n c => m.opCreate i n c
  | .setInteger i n => m.opSet i (.integer n)
  | .clear i => m.opSet i .nothing
  | .copy i j => m.opCopy i j
  | .read i k j => m.opRead i k j
  | .write i k j => m.opWrite i k j
  | .compare i j => m.opCompare i j
  | .inspect i => m.opInspect i
  | .exportObject i => m.opExport i
  | .accept h i => m.opAccept h i
  | .retire h => m.opRetire h
  | .withdraw h => m.opWithdraw h
  | .importReference r i => m.opImport r i
  | .pin i => m.opPin i
  | .unpin r => m.opUnpin r
  | .beginCycle => m.opBegin
  | .work b => m.opWork b
  | .endCycle => m.opEnd
  | .collect => m.opCollect
  | .status => (m, m.tellStatus)
  | .present => (m, m.tellPresent)
  | .path x => (m, m.tellPath x)
  | .reported => (m, m.tellReported)
  | .remaining => (m, m.tellRemaining)

def M0 : M := ⟨List.replicate 6 .nothing, [], [], [], List.replicate 100 false, List.replicate 100 false, false, [], [], 0, 0, [], []⟩
end Gc

end

section
/-! Lists, the abstraction, the bounds. -/
set_option autoImplicit false
namespace Gc
open Vbxlab (Value State HeapObject Exported Imported Cycle Mark)

/-! ### lists -/
theorem mem_ones {n k : Nat} : k ∈ ones n ↔ 1 ≤ k ∧ k ≤ n := by
  unfold ones
  rw [List.mem_map]
  constructor
  · rintro ⟨a, h, rfl⟩
    have := List.mem_range.mp h
    omega
  · intro h
    exact ⟨k - 1, List.mem_range.mpr (by omega), by omega⟩
theorem ones_succ (n : Nat) : ones (n + 1) = ones n ++ [n + 1] := by
  unfold ones
  rw [List.range_succ, List.map_append]
  rfl
theorem ones_zero : ones 0 = [] := rfl
theorem nodup_map_inj {α β : Type} {f : α → β} : ∀ {l : List α}, (∀ a ∈ l, ∀ b ∈ l, f a = f b → a = b) → l.Nodup → (l.map f).Nodup
  | [], _, _ => List.nodup_nil
  | a :: l, h, d => by
    rw [List.map_cons, List.nodup_cons]
    obtain ⟨d1, d2⟩ := List.nodup_cons.mp d
    refine ⟨fun hm => ?_, nodup_map_inj (fun x hx y hy => h x (List.mem_cons_of_mem _ hx) y (List.mem_cons_of_mem _ hy)) d2⟩
    obtain ⟨b, hb, e⟩ := List.mem_map.mp hm
    exact d1 (h b (List.mem_cons_of_mem _ hb) a (List.mem_cons_self) e ▸ hb)
theorem nodup_ones (n : Nat) : (ones n).Nodup := nodup_map_inj (fun a _ b _ h => by omega) List.nodup_range
theorem find_map {α : Type} {f : Nat → α} {key : α → Nat} (hk : ∀ k, key (f k) = k) (n : Nat) : ∀ l : List Nat, (l.map f).find? (fun x => key x == n) = if n ∈ l then some (f n) else none
  | [] => by simp
  | a :: l => by
    rw [List.map_cons, List.find?_cons, find_map hk n l, hk]
    by_cases e : a = n
    · subst e
      simp
    · have : (a == n) = false := by simpa using e
      rw [this]
      have h2 : ¬ n = a := fun q => e q.symm
      simp [h2]
theorem any_map_key {α : Type} {f : Nat → α} {key : α → Nat} (hk : ∀ k, key (f k) = k) (n : Nat) (p : α → Bool) : ∀ l : List Nat, (l.map f).any (fun x => key x == n && p x) = (decide (n ∈ l) && p (f n))
  | [] => by simp
  | a :: l => by
    rw [List.map_cons, List.any_cons, any_map_key hk n p l, hk]
    by_cases e : a = n
    · subst e
      cases h : p (f a) <;> simp
    · have : (a == n) = false := by simpa using e
      rw [this]
      have h2 : ¬ n = a := fun q => e q.symm
      simp [h2]
theorem nodup_le : ∀ (N : Nat) (l : List Nat), l.Nodup → (∀ x ∈ l, 1 ≤ x ∧ x ≤ N) → l.length ≤ N
  | 0, l, _, h => by
    cases l with
    | nil => exact Nat.le_refl _
    | cons a r =>
      have := h a List.mem_cons_self
      omega
  | N + 1, l, d, h => by
    have h1 : (l.erase (N + 1)).length ≤ N := nodup_le N _ (d.erase _) fun x hx => by
      have hx' := (List.Nodup.mem_erase_iff d).mp hx
      have := h x hx'.2
      have := hx'.1
      omega
    have h2 : l.length ≤ (l.erase (N + 1)).length + 1 := by
      rw [List.length_erase]
      split <;> omega
    omega
theorem filter_map_comm {α β : Type} (f : α → β) (p : β → Bool) (l : List α) : (l.map f).filter p = (l.filter fun a => p (f a)).map f := by
  rw [List.filter_map]
  rfl
theorem filter_congr' {α : Type} {p q : α → Bool} {l : List α} (h : ∀ a ∈ l, p a = q a) : l.filter p = l.filter q := List.filter_congr h
theorem map_congr' {α β : Type} {f g : α → β} {l : List α} (h : ∀ a ∈ l, f a = g a) : l.map f = l.map g := List.map_congr_left h

/-! ### the abstraction -/
def M.mkOf (m : M) (n : Nat) : Mark := if m.running = true then (if m.color n = 0 then .white else if m.color n = 1 then .grey else .black) else .white
def M.obj (m : M) (n : Nat) : HeapObject := ⟨n, m.cells n, (m.ent n).code, m.mkOf n⟩
def M.hand (m : M) (h : Nat) : Exported := ⟨h, m.owner h, m.state (h : Int) == 2⟩
def M.imp (m : M) (r : Nat) : Imported := ⟨r, m.isPinned r, m.running && m.isMarked r⟩
def M.known (m : M) : List Nat := (ones m.states.length).filter fun (h : Nat) => m.state (h : Int) != 0
def M.abs (m : M) : State := {
  objects := m.present.map m.obj
  slots := m.slots
  exported := m.known.map m.hand
  imported := m.allImported.map m.imp
  cycle := if m.running = true then some ⟨m.colors.length + 1, m.grey, m.examined, m.units⟩ else none
  created := m.ents.length
  handles := m.owners.length
  reported := m.reports }

theorem abs_start : M0.abs = Vbxlab.start := by decide +kernel

/-- what a value that is held must be -/
def M.Live (m : M) : Value → Prop
  | .object n => 1 ≤ n ∧ m.there n = true
  | .foreign r => 1 ≤ r ∧ r ≤ 99 ∧ m.isImported r = true
  | _ => True
/-- the bounds -/
structure Wf (m : M) : Prop where
  sl : m.slots.length = 6
  im : m.imported.length = 100
  pi : m.pinned.length = 100
  ow : m.owners.length = m.states.length
  en : m.ents.length ≤ 60
  ce : ∀ e ∈ m.ents, e.cells.length ≤ 4
  ma : m.running = true → m.marked.length = 100
  co : m.colors.length ≤ m.ents.length
  cr : ∀ c ∈ m.colors, c ≤ 2
  gc : ∀ n, n ∈ m.grey ↔ (1 ≤ n ∧ n ≤ m.colors.length ∧ m.color n = 1)
  gd : m.grey.Nodup
  ex : (m.grey = [] ∧ m.examined = 0) ∨ (∃ n r, m.grey = n :: r ∧ m.examined ≤ (m.cells n).length)

theorem there_len {m : M} {n : Nat} (h : m.there n = true) : n - 1 < m.ents.length := by
  unfold M.there M.ent at h
  by_cases q : n - 1 < m.ents.length
  · exact q
  · rw [List.getElem?_eq_none (by omega)] at h
    exact absurd h (by decide)
theorem mem_present {m : M} {n : Nat} : n ∈ m.present ↔ 1 ≤ n ∧ m.there n = true := by
  unfold M.present
  rw [List.mem_filter, mem_ones]
  constructor
  · rintro ⟨⟨a, _⟩, b⟩
    exact ⟨a, b⟩
  · rintro ⟨a, b⟩
    have := there_len b
    exact ⟨⟨a, by omega⟩, b⟩
theorem present_nodup (m : M) : m.present.Nodup := (nodup_ones _).filter _
theorem cells_le {m : M} (w : Wf m) (n : Nat) : (m.cells n).length ≤ 4 := by
  unfold M.cells M.ent
  by_cases q : n - 1 < m.ents.length
  · rw [List.getElem?_eq_getElem q]
    exact w.ce _ (List.getElem_mem q)
  · rw [List.getElem?_eq_none (by omega)]
    exact Nat.zero_le _
theorem grey_len {m : M} (w : Wf m) : m.grey.length ≤ m.colors.length := nodup_le _ _ w.gd fun x hx => ⟨((w.gc x).mp hx).1, ((w.gc x).mp hx).2.1⟩
theorem objectAt_abs (m : M) (n : Nat) : Vbxlab.objectAt m.abs n = if 1 ≤ n ∧ m.there n = true then some (m.obj n) else none := by
  unfold Vbxlab.objectAt
  have h := find_map (f := m.obj) (key := fun x => x.number) (fun _ => rfl) n m.present
  refine h.trans ?_
  by_cases q : n ∈ m.present
  · rw [if_pos q, if_pos (mem_present.mp q)]
  · rw [if_neg q, if_neg fun z => q (mem_present.mpr z)]
theorem objectAt_of {m : M} {n : Nat} (h : m.Live (.object n)) : Vbxlab.objectAt m.abs n = some (m.obj n) := by
  rw [objectAt_abs]
  exact if_pos h
theorem mkOf_run {m : M} (hr : m.running = true) (n : Nat) : m.mkOf n = if m.color n = 0 then .white else if m.color n = 1 then .grey else .black := if_pos hr
theorem abs_running (m : M) : m.abs.cycle.isSome = m.running := by
  unfold M.abs
  cases m.running <;> rfl
theorem abs_cycle {m : M} (h : m.running = true) : m.abs.cycle = some ⟨m.colors.length + 1, m.grey, m.examined, m.units⟩ := if_pos h
theorem abs_stopped {m : M} (h : m.running = false) : m.abs.cycle = none := if_neg (by rw [h]; decide)
theorem abs_grey {m : M} (h : m.running = true) : Vbxlab.greyObjects m.abs = m.grey := by
  unfold Vbxlab.greyObjects
  rw [abs_cycle h]

/-! ### marking -/
section
variable (m : M) (v : Value)
theorem mark_frame : m.mark v = { m with colors := (m.mark v).colors, grey := (m.mark v).grey, marked := (m.mark v).marked } := by
  unfold M.mark
  cases v with
  | object n =>
    dsimp only
    split <;> rfl
  | _ => rfl
@[simp] theorem mark_slots : (m.mark v).slots = m.slots := by rw [mark_frame]
@[simp] theorem mark_ents : (m.mark v).ents = m.ents := by rw [mark_frame]
@[simp] theorem mark_owners : (m.mark v).owners = m.owners := by rw [mark_frame]
@[simp] theorem mark_states : (m.mark v).states = m.states := by rw [mark_frame]
@[simp] theorem mark_imported : (m.mark v).imported = m.imported := by rw [mark_frame]
@[simp] theorem mark_pinned : (m.mark v).pinned = m.pinned := by rw [mark_frame]
@[simp] theorem mark_running : (m.mark v).running = m.running := by rw [mark_frame]
@[simp] theorem mark_examined : (m.mark v).examined = m.examined := by rw [mark_frame]
@[simp] theorem mark_units : (m.mark v).units = m.units := by rw [mark_frame]
@[simp] theorem mark_reports : (m.mark v).reports = m.reports := by rw [mark_frame]
@[simp] theorem mark_colors_len : (m.mark v).colors.length = m.colors.length := by
  unfold M.mark
  cases v with
  | object n =>
    dsimp only
    split
    · exact List.length_set
    · rfl
  | _ => rfl
@[simp] theorem mark_marked_len : (m.mark v).marked.length = m.marked.length := by
  unfold M.mark
  cases v with
  | object n =>
    dsimp only
    split <;> rfl
  | foreign r => exact List.length_set
  | _ => rfl
@[simp] theorem mark_cells (n : Nat) : (m.mark v).cells n = m.cells n := by unfold M.cells M.ent; rw [mark_ents]
@[simp] theorem mark_ent (n : Nat) : (m.mark v).ent n = m.ent n := by unfold M.ent; rw [mark_ents]
@[simp] theorem mark_there (n : Nat) : (m.mark v).there n = m.there n := by unfold M.there; rw [mark_ent]
@[simp] theorem mark_present : (m.mark v).present = m.present := by
  unfold M.present
  rw [mark_ents]
  exact filter_congr' fun n _ => mark_there m v n
@[simp] theorem mark_isImported (r : Nat) : (m.mark v).isImported r = m.isImported r := by unfold M.isImported; rw [mark_imported]
@[simp] theorem mark_isPinned (r : Nat) : (m.mark v).isPinned r = m.isPinned r := by unfold M.isPinned; rw [mark_pinned]
@[simp] theorem mark_state (h : Int) : (m.mark v).state h = m.state h := by unfold M.state; rw [mark_states]
@[simp] theorem mark_owner (h : Nat) : (m.mark v).owner h = m.owner h := by unfold M.owner; rw [mark_owners]
@[simp] theorem mark_live (u : Value) : (m.mark v).Live u ↔ m.Live u := by
  cases u <;> simp [M.Live]
end
theorem mark_object {m : M} {n : Nat} (h : m.color n = 0) : m.mark (.object n) = { m with colors := m.colors.set (n - 1) 1, grey := m.grey ++ [n] } := if_pos h
theorem mark_object_not {m : M} {n : Nat} (h : ¬ m.color n = 0) : m.mark (.object n) = m := if_neg h
theorem color_old {m : M} {n : Nat} (h : m.color n ≠ 2) : n ≤ m.colors.length := by
  unfold M.color at h
  split at h
  · assumption
  · exact absurd rfl h
theorem color_set {m : M} {n k c : Nat} (hn : 1 ≤ n) (hk : 1 ≤ k) (ho : n ≤ m.colors.length) : M.color { m with colors := m.colors.set (n - 1) c } k = if k = n then c else m.color k := by
  unfold M.color
  dsimp only
  rw [List.length_set]
  by_cases e : k = n
  · subst e
    rw [if_pos ho, if_pos rfl, List.getElem?_set_self (by omega)]
    rfl
  · rw [if_neg e, List.getElem?_set_ne (by omega)]
theorem mark_color {m : M} {n k : Nat} (hn : 1 ≤ n) (hk : 1 ≤ k) : (m.mark (.object n)).color k = if k = n ∧ m.color n = 0 then 1 else m.color k := by
  by_cases h : m.color n = 0
  · rw [mark_object h]
    have ho : n ≤ m.colors.length := color_old (by omega)
    have := color_set (m := { m with grey := m.grey ++ [n] }) (c := 1) hn hk ho
    refine this.trans ?_
    by_cases e : k = n
    · rw [if_pos e, if_pos ⟨e, h⟩]
    · rw [if_neg e, if_neg fun q => e q.1]
      rfl
  · rw [mark_object_not h, if_neg fun q => h q.2]
theorem mark_color_other {m : M} {v : Value} (k : Nat) (h : ∀ n, v ≠ .object n) : (m.mark v).color k = m.color k := by
  cases v with
  | object n => exact absurd rfl (h n)
  | _ => rfl
theorem mark_isMarked {m : M} {r s : Nat} (hr : r < m.marked.length) : (m.mark (.foreign r)).isMarked s = (decide (s = r) || m.isMarked s) := by
  unfold M.isMarked M.mark
  dsimp only
  by_cases e : s = r
  · subst e
    rw [List.getElem?_set_self hr]
    simp
  · rw [List.getElem?_set_ne (Ne.symm e)]
    simp [e]
theorem mark_isMarked_other {m : M} {v : Value} (s : Nat) (h : ∀ n, v ≠ .foreign n) : (m.mark v).isMarked s = m.isMarked s := by
  cases v with
  | foreign n => exact absurd rfl (h n)
  | object n =>
    unfold M.mark
    dsimp only
    split <;> rfl
  | _ => rfl

theorem Wf.mark {m : M} (w : Wf m) {v : Value} (hv : ∀ n, v = .object n → 1 ≤ n) : Wf (m.mark v) := by
  refine ⟨by simpa using w.sl, by simpa using w.im, by simpa using w.pi, by simpa using w.ow, by simpa using w.en, by simpa using w.ce, fun h => by simpa using w.ma (by simpa using h), by simpa using w.co, ?_, ?_, ?_, ?_⟩
  · intro c hc
    cases v with
    | object n =>
      by_cases h : m.color n = 0
      · rw [mark_object h] at hc
        rcases List.mem_or_eq_of_mem_set hc with q | q
        · exact w.cr c q
        · omega
      · rw [mark_object_not h] at hc
        exact w.cr c hc
    | _ => exact w.cr c hc
  · intro k
    cases v with
    | object n =>
      have h1 := hv n rfl
      by_cases h : m.color n = 0
      · have ho : n ≤ m.colors.length := color_old (by omega)
        rw [mark_colors_len]
        constructor
        · intro hk
          rw [mark_object h] at hk
          rcases List.mem_append.mp hk with q | q
          · have := (w.gc k).mp q
            refine ⟨this.1, this.2.1, ?_⟩
            rw [mark_color h1 this.1]
            split
            · rfl
            · exact this.2.2
          · have e : k = n := by simpa using q
            subst e
            exact ⟨h1, ho, by rw [mark_color h1 h1, if_pos ⟨rfl, h⟩]⟩
        · rintro ⟨a, b, c⟩
          rw [mark_object h]
          rw [mark_color h1 a] at c
          by_cases e : k = n
          · exact List.mem_append_right _ (by simp [e])
          · rw [if_neg fun q => e q.1] at c
            exact List.mem_append_left _ ((w.gc k).mpr ⟨a, b, c⟩)
      · rw [mark_object_not h]
        exact w.gc k
    | _ => exact w.gc k
  · cases v with
    | object n =>
      by_cases h : m.color n = 0
      · rw [mark_object h]
        refine List.nodup_append.mpr ⟨w.gd, by simp, fun a ha b hb e => ?_⟩
        have e2 : b = n := by simpa using hb
        have := ((w.gc a).mp ha).2.2
        rw [e, e2, h] at this
        omega
      · rw [mark_object_not h]
        exact w.gd
    | _ => exact w.gd
  · cases v with
    | object n =>
      by_cases h : m.color n = 0
      · rw [mark_object h]
        rcases w.ex with ⟨a, b⟩ | ⟨k, r, a, b⟩
        · exact .inr ⟨n, [], by simp [a], by simp [b]⟩
        · exact .inr ⟨k, r ++ [n], by simp [a], b⟩
      · rw [mark_object_not h]
        exact w.ex
    | _ => exact w.ex

theorem obj_congr {m m' : M} {n : Nat} (h1 : m'.cells n = m.cells n) (h2 : (m'.ent n).code = (m.ent n).code) (h3 : m'.mkOf n = m.mkOf n) : m'.obj n = m.obj n := by
  unfold M.obj
  rw [h1, h2, h3]
theorem known_congr {m m' : M} (h : m'.states = m.states) : m'.known = m.known := by
  unfold M.known
  rw [h]
  exact filter_congr' fun h' _ => by
    unfold M.state
    rw [h]
theorem hand_congr {m m' : M} (h : m'.states = m.states) (h2 : m'.owners = m.owners) (n : Nat) : m'.hand n = m.hand n := by
  unfold M.hand M.state M.owner
  rw [h, h2]

/-- the specification's marking of a live value is the mirror's -/
theorem abs_mark {m : M} (ml : m.marked.length = 100) (hr : m.running = true) {v : Value} (hv : m.Live v) : Vbxlab.markValue m.abs v = (m.mark v).abs := by
  cases v with
  | nothing =>
    unfold Vbxlab.markValue
    rw [abs_cycle hr]
    rfl
  | integer n =>
    unfold Vbxlab.markValue
    rw [abs_cycle hr]
    rfl
  | object n =>
    unfold Vbxlab.markValue
    rw [abs_cycle hr]
    dsimp only
    rw [objectAt_of hv]
    by_cases h : m.color n = 0
    · have ho : n ≤ m.colors.length := color_old (by omega)
      have hw : m.mkOf n = .white := by
        unfold M.mkOf
        rw [if_pos hr, if_pos h]
      rw [if_pos (by
        show ((m.mkOf n == Mark.white) && decide (n < m.colors.length + 1)) = true
        rw [hw, decide_eq_true (by omega)]
        rfl)]
      unfold Vbxlab.replaceObject M.abs
      dsimp only
      have e1 : ((m.present.map m.obj).map fun x => if x.number = n then { x with mark := Mark.grey } else x) = (m.mark (.object n)).present.map (m.mark (.object n)).obj := by
        rw [List.map_map, mark_present]
        refine map_congr' fun k hk => ?_
        have hk1 := (mem_present.mp hk).1
        show (if k = n then { m.obj k with mark := Mark.grey } else m.obj k) = _
        have hc := mark_color (m := m) hv.1 hk1
        by_cases e : k = n
        · subst e
          rw [if_pos rfl]
          have : (m.mark (.object k)).mkOf k = Mark.grey := by
            rw [mkOf_run (by rw [mark_running]; exact hr), hc, if_pos (show k = k ∧ m.color k = 0 from ⟨rfl, h⟩)]
            rfl
          unfold M.obj
          rw [this, mark_cells, mark_ent]
        · rw [if_neg e]
          refine (obj_congr (mark_cells _ _ _) (by rw [mark_ent]) ?_).symm
          rw [mkOf_run (by rw [mark_running]; exact hr), mkOf_run hr, hc, if_neg (show ¬ (k = n ∧ m.color n = 0) from fun q => e q.1)]
      rw [e1, known_congr (mark_states m _), mark_running]
      have e2 : m.mark (.object n) = _ := mark_object h
      have e3 : (m.mark (.object n)).grey = m.grey ++ [n] := by rw [e2]
      simp only [mark_slots, mark_colors_len, mark_examined, mark_units, mark_ents, mark_owners, mark_reports, e3, hr, if_true]
      congr 1
      · exact (map_congr' fun k _ => hand_congr (mark_states _ _) (mark_owners _ _) k).symm
      · unfold M.allImported
        have e4 : (fun r => (m.mark (.object n)).isImported r) = fun r => m.isImported r := by
          funext r
          exact mark_isImported _ _ _
        rw [e4]
        refine (map_congr' fun k _ => ?_).symm
        unfold M.imp
        rw [mark_isPinned, mark_running, mark_isMarked_other _ (fun _ => by intro q; cases q)]
    · have hw : m.mkOf n ≠ .white := by
        unfold M.mkOf
        rw [if_pos hr, if_neg h]
        split <;> (intro q; cases q)
      rw [if_neg (by
        show ¬ ((m.mkOf n == Mark.white) && decide (n < m.colors.length + 1)) = true
        intro q
        rw [Bool.and_eq_true] at q
        exact hw (eq_of_beq q.1)), mark_object_not h]
  | foreign r =>
    unfold Vbxlab.markValue
    rw [abs_cycle hr]
    dsimp only
    unfold M.abs
    dsimp only
    have e0 : (m.mark (.foreign r)).colors = m.colors := rfl
    have e1 : (m.mark (.foreign r)).grey = m.grey := rfl
    have e5 : (m.mark (.foreign r)).present.map (m.mark (.foreign r)).obj = m.present.map m.obj := by
      rw [mark_present]
      refine map_congr' fun k _ => obj_congr (mark_cells _ _ _) (by rw [mark_ent]) ?_
      unfold M.mkOf
      rw [mark_color_other _ (fun _ => by intro q; cases q), mark_running]
    have e6 : ((m.allImported.map m.imp).map fun e => if e.reference = r then { e with marked := true } else e) = (m.mark (.foreign r)).allImported.map (m.mark (.foreign r)).imp := by
      rw [List.map_map]
      have e4 : (m.mark (.foreign r)).allImported = m.allImported := rfl
      rw [e4]
      refine map_congr' fun k _ => ?_
      show (if k = r then { m.imp k with marked := true } else m.imp k) = _
      have hl : r < m.marked.length := by
        rw [ml]
        have := hv.2.1
        omega
      unfold M.imp
      rw [mark_isMarked hl, mark_isPinned, mark_running, hr]
      by_cases e : k = r
      · simp [e]
      · simp [e]
    rw [e0, e1, e5, ← e6, known_congr (mark_states m _), map_congr' fun k _ => hand_congr (mark_states m (.foreign r)) (mark_owners m (.foreign r)) k]
    simp [hr]
end Gc

end

section
/-! The invariant: what is white and held is protected. -/
set_option autoImplicit false
namespace Gc
open Vbxlab (Value State HeapObject Exported Imported Cycle Mark)

def M.White (m : M) : Value → Prop
  | .object n => m.color n = 0
  | .foreign r => m.isMarked r = false
  | _ => False
inductive Prot (m : M) : Value → Prop
  | base (n i : Nat) (v : Value) : n ∈ m.grey → (m.grey[0]? = some n → m.examined ≤ i) → (m.cells n)[i]? = some v → Prot m v
  | step (n : Nat) (v : Value) : 1 ≤ n → Prot m (.object n) → m.color n = 0 → v ∈ m.cells n → Prot m v
def Safe (m : M) (v : Value) : Prop := m.White v → Prot m v
structure Run (m : M) : Prop where
  gl : ∀ n ∈ m.grey, m.there n = true
  ss : ∀ v ∈ m.slots, Safe m v
  sh : ∀ h : Nat, m.state (h : Int) = 2 → Safe m (.object (m.owner h))
  sp : ∀ r, m.isPinned r = true → Safe m (.foreign r)
  sb : ∀ n, m.Live (.object n) → m.color n = 2 → ∀ v ∈ m.cells n, Safe m v
  sf : ∀ n, m.grey[0]? = some n → ∀ i v, i < m.examined → (m.cells n)[i]? = some v → Safe m v
structure Good (m : M) : Prop where
  wf : Wf m
  pi : ∀ r, m.isPinned r = true → m.Live (.foreign r)
  ls : ∀ v ∈ m.slots, m.Live v
  lc : ∀ n, m.Live (.object n) → ∀ v ∈ m.cells n, m.Live v
  lh : ∀ h : Nat, m.state (h : Int) = 2 → m.Live (.object (m.owner h))
  rest : m.running = false → m.grey = []
  run : m.running = true → Run m

theorem Wf.gr1 {m : M} (w : Wf m) {n : Nat} (h : n ∈ m.grey) : 1 ≤ n ∧ n ≤ m.colors.length ∧ m.color n = 1 := (w.gc n).mp h
theorem first_mem {m : M} {n : Nat} (h : m.grey[0]? = some n) : n ∈ m.grey := List.mem_of_getElem? h
theorem prot_congr {m m' : M} (h1 : m'.grey = m.grey) (h2 : m'.examined = m.examined) (h3 : ∀ n, n ∈ m.grey ∨ m.color n = 0 → 1 ≤ n → m'.cells n = m.cells n) (h4 : ∀ n, m'.color n = m.color n) (g1 : ∀ n ∈ m.grey, 1 ≤ n) {v : Value} (p : Prot m v) : Prot m' v := by
  induction p with
  | base n i v a b c => exact .base n i v (by rw [h1]; exact a) (by rw [h1, h2]; exact b) (by rw [h3 n (.inl a) (g1 n a)]; exact c)
  | step n v a _ c d ih => exact .step n v a ih (by rw [h4]; exact c) (by rw [h3 n (.inr c) a]; exact d)
theorem safe_congr {m m' : M} (h1 : m'.grey = m.grey) (h2 : m'.examined = m.examined) (h3 : ∀ n, n ∈ m.grey ∨ m.color n = 0 → 1 ≤ n → m'.cells n = m.cells n) (h4 : ∀ n, m'.color n = m.color n) (h5 : ∀ r, m'.isMarked r = m.isMarked r) (g1 : ∀ n ∈ m.grey, 1 ≤ n) {v : Value} (p : Safe m v) : Safe m' v := by
  intro hw
  refine prot_congr h1 h2 h3 h4 g1 (p ?_)
  cases v with
  | object n =>
    show m.color n = 0
    rw [← h4]
    exact hw
  | foreign r =>
    show m.isMarked r = false
    rw [← h5]
    exact hw
  | nothing => exact hw
  | integer _ => exact hw
/-- the parts that only look at what is not changed -/
theorem safe_same {m m' : M} (w : Wf m) (h1 : m'.grey = m.grey) (h2 : m'.examined = m.examined) (h3 : m'.ents = m.ents) (h4 : m'.colors = m.colors) (h5 : m'.marked = m.marked) {v : Value} (p : Safe m v) : Safe m' v :=
  safe_congr h1 h2 (fun n _ _ => by unfold M.cells M.ent; rw [h3]) (fun n => by unfold M.color; rw [h4]) (fun r => by unfold M.isMarked; rw [h5]) (fun n h => (w.gr1 h).1) p
theorem not_white_safe {m : M} {v : Value} (h : ¬ m.White v) : Safe m v := fun q => absurd q h

/-! ### marking keeps what is safe -/
/-- what may be marked -/
def M.Ok (m : M) : Value → Prop
  | .object n => 1 ≤ n
  | .foreign r => r < m.marked.length
  | _ => True
theorem Good.ok {m : M} (w : Wf m) (hr : m.running = true) {v : Value} (h : m.Live v) : m.Ok v := by
  cases v with
  | object n => exact h.1
  | foreign r =>
    show r < m.marked.length
    rw [w.ma hr]
    have := h.2.1
    omega
  | _ => trivial
theorem Wf.mark' {m : M} (w : Wf m) {v : Value} (hv : m.Ok v) : Wf (m.mark v) := w.mark fun n e => by
  subst e
  exact hv
theorem mark_not_white {m : M} {v : Value} (hv : m.Ok v) : ¬ (m.mark v).White v := by
  cases v with
  | object n =>
    show ¬ (m.mark (.object n)).color n = 0
    have h1 : 1 ≤ n := hv
    rw [mark_color h1 h1]
    by_cases h : m.color n = 0
    · rw [if_pos ⟨rfl, h⟩]
      omega
    · rw [if_neg fun q => h q.2]
      exact h
  | foreign r =>
    show ¬ (m.mark (.foreign r)).isMarked r = false
    rw [mark_isMarked hv]
    simp
  | _ => exact fun h => h
theorem mark_white {m : M} {u v : Value} (hu : m.Ok u) (h : (m.mark u).White v) : m.White v := by
  cases v with
  | object k =>
    have h' : (m.mark u).color k = 0 := h
    show m.color k = 0
    cases u with
    | object n =>
      by_cases c : m.color n = 0
      · rw [mark_object c] at h'
        unfold M.color at h' ⊢
        dsimp only at h'
        rw [List.length_set] at h'
        split at h'
        · rename_i hk
          rw [if_pos hk]
          rw [List.getElem?_set] at h'
          split at h'
          · split at h'
            · cases h'
            · rename_i q1 q2
              rw [List.getElem?_eq_none (by omega)]
              rfl
          · exact h'
        · cases h'
      · rw [mark_object_not c] at h'
        exact h'
    | _ => exact h'
  | foreign r =>
    have h' : (m.mark u).isMarked r = false := h
    show m.isMarked r = false
    cases u with
    | foreign s =>
      rw [mark_isMarked hu] at h'
      exact (Bool.or_eq_false_iff.mp h').2
    | object n =>
      rw [mark_isMarked_other _ (fun _ => by intro q; cases q)] at h'
      exact h'
    | _ => exact h'
  | _ => exact h
theorem mark_grey_cases {m : M} {u : Value} : (m.mark u).grey = m.grey ∨ ∃ n, u = .object n ∧ m.color n = 0 ∧ (m.mark u).grey = m.grey ++ [n] := by
  cases u with
  | object n =>
    by_cases c : m.color n = 0
    · exact .inr ⟨n, rfl, c, by rw [mark_object c]⟩
    · exact .inl (by rw [mark_object_not c])
  | _ => exact .inl rfl
theorem mark_grey_mem {m : M} {u : Value} {n : Nat} (h : n ∈ m.grey) : n ∈ (m.mark u).grey := by
  rcases mark_grey_cases (m := m) (u := u) with e | ⟨k, _, _, e⟩
  · rw [e]
    exact h
  · rw [e]
    exact List.mem_append_left _ h
theorem mark_first {m : M} {u : Value} {a n : Nat} (h : a ∈ m.grey) (e : (m.mark u).grey[0]? = some n) : m.grey[0]? = some n := by
  rcases mark_grey_cases (m := m) (u := u) with q | ⟨k, _, _, q⟩
  · rw [q] at e
    exact e
  · rw [q] at e
    cases g : m.grey with
    | nil =>
      rw [g] at h
      cases h
    | cons b r =>
      rw [g] at e
      exact e
/-- a white object that is white no longer has been marked -/
theorem mark_turned {m : M} {u : Value} (hu : m.Ok u) {n : Nat} (h1 : 1 ≤ n) (hc : m.color n = 0) (hn : ¬ (m.mark u).color n = 0) : u = .object n := by
  cases u with
  | object k =>
    rw [mark_color hu h1] at hn
    by_cases e : n = k
    · rw [e]
    · rw [if_neg fun q => e q.1] at hn
      exact absurd hc hn
  | _ => exact absurd hc hn
theorem safe_mark {m : M} (w : Wf m) {u v : Value} (hu : m.Ok u) (h : Safe m v) : Safe (m.mark u) v := by
  intro hw
  have p := h (mark_white hu hw)
  clear h
  induction p with
  | base n i v a b c => exact .base n i v (mark_grey_mem a) (fun q => by rw [mark_examined]; exact b (mark_first a q)) (by rw [mark_cells]; exact c)
  | step n v a _ c d ih =>
    by_cases z : (m.mark u).color n = 0
    · exact .step n v a (ih z) z (by rw [mark_cells]; exact d)
    · have e := mark_turned hu a c z
      subst e
      obtain ⟨i, hi⟩ := List.getElem?_of_mem d
      have hg : (m.mark (.object n)).grey = m.grey ++ [n] := by rw [mark_object c]
      refine .base n i v (by rw [hg]; exact List.mem_append_right _ (by simp)) (fun q => ?_) (by rw [mark_cells]; exact hi)
      rw [hg] at q
      rw [mark_examined]
      rcases w.ex with ⟨_, e2⟩ | ⟨k, r, e1, _⟩
      · rw [e2]
        exact Nat.zero_le _
      · rw [e1] at q
        have : k = n := by simpa using q
        subst this
        have := (w.gr1 (n := k) (by rw [e1]; exact List.mem_cons_self)).2.2
        omega
theorem Run.mark {m : M} (w : Wf m) (r : Run m) {u : Value} (hu : m.Live u) (hr : m.running = true) : Run (m.mark u) := by
  have ho := Good.ok w hr hu
  have sm : ∀ {v}, Safe m v → Safe (m.mark u) v := fun h => safe_mark w ho h
  refine ⟨fun n hn => ?_, fun v hv => sm (r.ss v (by simpa using hv)), fun h hh => ?_, fun q hq => sm (r.sp q (by simpa using hq)), fun n hn hc v hv => ?_, fun n hn i v hi hv => ?_⟩
  · rcases mark_grey_cases (m := m) (u := u) with e | ⟨k, e0, _, e⟩
    · rw [e] at hn
      simpa using r.gl n hn
    · rw [e] at hn
      rcases List.mem_append.mp hn with q | q
      · simpa using r.gl n q
      · have : n = k := by simpa using q
        subst this
        subst e0
        simpa using hu.2
  · rw [mark_state] at hh
    rw [mark_owner]
    exact sm (r.sh h hh)
  · rw [mark_cells] at hv
    have hl : m.Live (.object n) := by simpa using hn
    refine sm (r.sb n hl ?_ v hv)
    cases u with
    | object k =>
      rw [mark_color ho hl.1] at hc
      split at hc
      · cases hc
      · exact hc
    | _ => exact hc
  · rw [mark_cells] at hv
    rw [mark_examined] at hi
    cases g : m.grey with
    | nil =>
      rcases w.ex with ⟨_, e2⟩ | ⟨k, s, e1, _⟩
      · omega
      · rw [g] at e1
        cases e1
    | cons b s => exact sm (r.sf n (mark_first (a := b) (by rw [g]; exact List.mem_cons_self) hn) i v hi hv)
theorem Good.mark {m : M} (g : Good m) (hr : m.running = true) {u : Value} (hu : m.Live u) : Good (m.mark u) := by
  refine ⟨g.wf.mark' (Good.ok g.wf hr hu), fun r h => ?_, fun v hv => ?_, fun n hn v hv => ?_, fun h hh => ?_, fun h => ?_, fun _ => (g.run hr).mark g.wf hu hr⟩
  · rw [mark_live]
    exact g.pi r (by simpa using h)
  · rw [mark_live]
    exact g.ls v (by simpa using hv)
  · rw [mark_live] at hn ⊢
    rw [mark_cells] at hv
    exact g.lc n hn v hv
  · rw [mark_live, mark_owner]
    exact g.lh h (by simpa using hh)
  · rw [mark_running, hr] at h
    cases h

/-! ### a unit of work -/
theorem Good.examine {m : M} (g : Good m) (hr : m.running = true) {n : Nat} {u : Value} (hn : m.grey[0]? = some n) (hu : (m.cells n)[m.examined]? = some u) : Good (m.examine u) := by
  have w := g.wf
  have R := g.run hr
  have n1 := w.gr1 (first_mem hn)
  have hlive : m.Live (.object n) := ⟨n1.1, R.gl n (first_mem hn)⟩
  have hul : m.Live u := g.lc n hlive u (List.mem_of_getElem? hu)
  have ho : m.Ok u := Good.ok w hr hul
  let m1 : M := { m with examined := m.examined + 1 }
  have w1 : Wf m1 := by
    refine ⟨w.sl, w.im, w.pi, w.ow, w.en, w.ce, w.ma, w.co, w.cr, w.gc, w.gd, .inr ?_⟩
    rcases w.ex with ⟨e1, _⟩ | ⟨k, s, e1, _⟩
    · rw [e1] at hn
      cases hn
    · refine ⟨k, s, e1, ?_⟩
      have : k = n := by
        rw [e1] at hn
        simpa using hn
      subst this
      show m.examined + 1 ≤ (m.cells k).length
      exact (List.getElem?_eq_some_iff.mp hu).1
  have ho1 : m1.Ok u := by
    cases u <;> exact ho
  have nw : ¬ (m1.mark u).White u := mark_not_white ho1
  have sm : ∀ {v}, Safe m v → Safe (m1.mark u) v := by
    intro v h hw
    have hw1 : m1.White v := mark_white ho1 hw
    have p : Prot m v := h (by cases v <;> exact hw1)
    clear h hw1
    induction p with
    | base k i v a b c =>
      by_cases e : m.grey[0]? = some k ∧ i = m.examined
      · have e1 : k = n := by
          have := e.1
          rw [hn] at this
          exact (Option.some.inj this).symm
        rw [e1, e.2, hu] at c
        cases c
        exact absurd hw nw
      · refine .base k i v (mark_grey_mem (m := m1) a) (fun q => ?_) (by rw [mark_cells]; exact c)
        rw [mark_examined]
        have q' : m.grey[0]? = some k := mark_first (m := m1) a q
        have := b q'
        have : i ≠ m.examined := fun z => e ⟨q', z⟩
        show m.examined + 1 ≤ i
        omega
    | step k v a _ c d ih =>
      by_cases z : (m1.mark u).color k = 0
      · exact .step k v a (ih z) z (by rw [mark_cells]; exact d)
      · have e := mark_turned (m := m1) ho1 a c z
        subst e
        obtain ⟨i, hi⟩ := List.getElem?_of_mem d
        have c' : m1.color k = 0 := c
        have hg : (m1.mark (.object k)).grey = m.grey ++ [k] := by rw [mark_object c']
        refine .base k i v (by rw [hg]; exact List.mem_append_right _ (by simp)) (fun q => ?_) (by rw [mark_cells]; exact hi)
        have q' : m.grey[0]? = some k := mark_first (m := m1) (first_mem hn) q
        have := (w.gr1 (first_mem q')).2.2
        omega
  have hul1 : m1.Live u := by cases u <;> exact hul
  refine ⟨w1.mark' ho1, fun r h => ?_, fun v hv => ?_, fun k hk v hv => ?_, fun h hh => ?_, fun h => ?_, fun _ => ⟨fun k hk => ?_, fun v hv => sm (R.ss v (by simpa [M.examine] using hv)), fun h hh => ?_, fun q hq => sm (R.sp q ((mark_isPinned m1 u q).symm.trans hq)), fun k hk hc v hv => ?_, fun k hk i v hi hv => ?_⟩⟩
  · have := g.pi r ((mark_isPinned m1 u r).symm.trans h)
    exact (mark_live m1 u _).mpr this
  · have := g.ls v (by simpa [M.examine] using hv)
    exact (mark_live m1 u _).mpr (by cases v <;> exact this)
  · have hk' : m.Live (.object k) := (mark_live m1 u _).mp hk
    have hv' : v ∈ m.cells k := by
      have := hv
      rw [M.examine, mark_cells] at this
      exact this
    exact (mark_live m1 u _).mpr (by cases v <;> exact g.lc k hk' _ hv')
  · have hh' : m.state (h : Int) = 2 := by
      rw [M.examine, mark_state] at hh
      exact hh
    have := g.lh h hh'
    refine (mark_live m1 u _).mpr ?_
    rw [M.examine, mark_owner]
    exact this
  · rw [M.examine, mark_running] at h
    have : m.running = false := h
    rw [hr] at this
    cases this
  · rcases mark_grey_cases (m := m1) (u := u) with e | ⟨j, e0, _, e⟩
    · rw [M.examine, e] at hk
      exact (mark_there m1 u k).trans (R.gl k hk)
    · rw [M.examine, e] at hk
      rcases List.mem_append.mp hk with q | q
      · exact (mark_there m1 u k).trans (R.gl k q)
      · have e1 : k = j := by simpa using q
        rw [e1, M.examine, mark_there]
        rw [e0] at hul
        exact hul.2
  · have hh' : m.state (h : Int) = 2 := by
      rw [M.examine, mark_state] at hh
      exact hh
    rw [M.examine, mark_owner]
    exact sm (R.sh h hh')
  · have hk' : m.Live (.object k) := (mark_live m1 u _).mp hk
    have hv' : v ∈ m.cells k := by
      have := hv
      rw [M.examine, mark_cells] at this
      exact this
    refine sm (R.sb k hk' ?_ v hv')
    have hc' : (m1.mark u).color k = 2 := hc
    cases u with
    | object j =>
      rw [mark_color ho1 hk'.1] at hc'
      split at hc'
      · cases hc'
      · exact hc'
    | _ => exact hc'
  · have hv' : (m.cells k)[i]? = some v := by
      rw [M.examine, mark_cells] at hv
      exact hv
    have hi' : i < m.examined + 1 := by
      rw [M.examine, mark_examined] at hi
      exact hi
    have hk' : m.grey[0]? = some k := mark_first (m := m1) (first_mem hn) hk
    by_cases e : i = m.examined
    · have e1 : k = n := by
        rw [hn] at hk'
        exact (Option.some.inj hk').symm
      rw [e1, e, hu] at hv'
      cases hv'
      exact not_white_safe nw
    · exact sm (R.sf k hk' i v (by omega) hv')
theorem Good.blacken {m : M} (g : Good m) (hr : m.running = true) {n : Nat} (hn : m.grey[0]? = some n) (hu : (m.cells n)[m.examined]? = none) : Good m.blacken := by
  have w := g.wf
  have R := g.run hr
  have n1 := w.gr1 (first_mem hn)
  obtain ⟨s, hs⟩ : ∃ s, m.grey = n :: s := by
    cases q : m.grey with
    | nil =>
      rw [q] at hn
      cases hn
    | cons a s =>
      rw [q] at hn
      have : a = n := by simpa using hn
      exact ⟨s, by rw [this]⟩
  have he : (m.cells n).length ≤ m.examined := List.getElem?_eq_none_iff.mp hu
  have nd := w.gd
  rw [hs, List.nodup_cons] at nd
  have hb : m.blacken = { m with colors := m.colors.set (n - 1) 2, grey := s, examined := 0 } := by
    unfold M.blacken
    rw [hs]
    rfl
  have hcol : ∀ k, 1 ≤ k → m.blacken.color k = if k = n then 2 else m.color k := fun k hk => by
    rw [hb]
    exact color_set (m := { m with grey := s, examined := 0 }) n1.1 hk n1.2.1
  have hg : m.blacken.grey = s := by rw [hb]
  have hmem : ∀ k, k ∈ s ↔ k ∈ m.grey ∧ k ≠ n := fun k => by
    rw [hs, List.mem_cons]
    constructor
    · intro h
      exact ⟨.inr h, fun e => nd.1 (e ▸ h)⟩
    · rintro ⟨h | h, e⟩
      · exact absurd h e
      · exact h
  have pm : ∀ {v}, Prot m v → Prot m.blacken v := by
    intro v p
    induction p with
    | base k i v a b c =>
      by_cases e : k = n
      · subst e
        have := b hn
        have := (List.getElem?_eq_some_iff.mp c).1
        omega
      · exact .base k i v (by rw [hg]; exact (hmem k).mpr ⟨a, e⟩) (fun _ => Nat.zero_le _) c
    | step k v a _ c d ih =>
      refine .step k v a ih ?_ d
      rw [hcol k a, if_neg (fun e => by rw [e] at c; omega)]
      exact c
  have sm : ∀ {v}, (∀ k, v = .object k → 1 ≤ k) → Safe m v → Safe m.blacken v := by
    intro v hv h hw
    refine pm (h ?_)
    cases v with
    | object k =>
      have hw' : m.blacken.color k = 0 := hw
      rw [hcol k (hv k rfl)] at hw'
      split at hw'
      · cases hw'
      · exact hw'
    | foreign r => exact hw
    | _ => exact hw
  have l1 : ∀ {v}, m.Live v → ∀ k, v = .object k → 1 ≤ k := fun h k e => by
    subst e
    exact h.1
  have wb : Wf m.blacken := by
    refine ⟨w.sl, w.im, w.pi, w.ow, w.en, w.ce, w.ma, ?_, fun c hc => ?_, fun k => ?_, ?_, ?_⟩
    · rw [hb]
      dsimp only
      rw [List.length_set]
      exact w.co
    · rw [hb] at hc
      rcases List.mem_or_eq_of_mem_set hc with q | q
      · exact w.cr c q
      · omega
    · rw [hg, hmem, w.gc]
      have hl : m.blacken.colors.length = m.colors.length := by
        rw [hb]
        exact List.length_set
      rw [hl]
      constructor
      · rintro ⟨⟨a, b, c⟩, e⟩
        exact ⟨a, b, by rw [hcol k a, if_neg e]; exact c⟩
      · rintro ⟨a, b, c⟩
        rw [hcol k a] at c
        split at c
        · cases c
        · rename_i e
          exact ⟨⟨a, b, c⟩, e⟩
    · rw [hg]
      exact nd.2
    · rw [hg]
      cases s with
      | nil => exact .inl ⟨rfl, rfl⟩
      | cons b t => exact .inr ⟨b, t, rfl, Nat.zero_le _⟩
  refine ⟨wb, g.pi, g.ls, g.lc, g.lh, fun h => ?_, fun _ => ⟨fun k hk => ?_, fun v hv => sm (l1 (g.ls v hv)) (R.ss v hv), fun h hh => sm (l1 (g.lh h hh)) (R.sh h hh), fun q hq => sm (fun _ e => by cases e) (R.sp q hq), fun k hk hc v hv => ?_, fun k hk i v hi hv => ?_⟩⟩
  · have : m.running = false := h
    rw [hr] at this
    cases this
  · rw [hg] at hk
    exact R.gl k ((hmem k).mp hk).1
  · have hl : m.Live v := g.lc k hk v hv
    refine sm (l1 hl) ?_
    have hk1 : 1 ≤ k := hk.1
    rw [hcol k hk1] at hc
    by_cases e : k = n
    · subst e
      obtain ⟨i, hi⟩ := List.getElem?_of_mem hv
      refine R.sf k hn i v ?_ hi
      have := (List.getElem?_eq_some_iff.mp hi).1
      have : (m.cells k).length ≤ m.examined := he
      have q : i < (m.cells k).length := by assumption
      omega
    · rw [if_neg e] at hc
      exact R.sb k hk hc v hv
  · have : m.blacken.examined = 0 := rfl
    omega
theorem Good.count {m : M} (g : Good m) : Good m.count := by
  have w := g.wf
  have sm : ∀ {v}, Safe m v → Safe m.count v := fun h => safe_same (m' := m.count) w rfl rfl rfl rfl rfl h
  exact ⟨⟨w.sl, w.im, w.pi, w.ow, w.en, w.ce, w.ma, w.co, w.cr, w.gc, w.gd, w.ex⟩, g.pi, g.ls, g.lc, g.lh, g.rest, fun h => let R := g.run h; ⟨R.gl, fun v hv => sm (R.ss v hv), fun h hh => sm (R.sh h hh), fun q hq => sm (R.sp q hq), fun k hk hc v hv => sm (R.sb k hk hc v hv), fun k hk i v hi hv => sm (R.sf k hk i v hi hv)⟩⟩
theorem first_some {m : M} (h : m.grey ≠ []) : ∃ n, m.grey[0]? = some n := by
  cases g : m.grey with
  | nil => exact absurd g h
  | cons n r => exact ⟨n, rfl⟩
theorem Good.unit {m : M} (g : Good m) (hr : m.running = true) (hg : m.grey ≠ []) : Good m.unit := by
  obtain ⟨n, hn⟩ := first_some hg
  unfold M.unit
  rw [hn]
  show Good (match (m.cells n)[m.examined]? with | some v => (m.examine v).count | none => m.blacken.count)
  cases h : (m.cells n)[m.examined]? with
  | some v => exact (g.examine hr hn h).count
  | none => exact (g.blacken hr hn h).count
theorem unit_running (m : M) : m.unit.running = m.running := by
  unfold M.unit
  split
  · exact mark_running _ _
  · rfl
theorem Good.doUnits : ∀ (k : Nat) {m : M}, Good m → m.running = true → Good (M.doUnits k m).1 ∧ (M.doUnits k m).1.running = true
  | 0, _, g, hr => ⟨g, hr⟩
  | k + 1, m, g, hr => by
    unfold M.doUnits
    by_cases h : m.grey = []
    · rw [if_pos h]
      exact ⟨g, hr⟩
    · rw [if_neg h]
      exact Good.doUnits k (g.unit hr h) (by rw [unit_running]; exact hr)
end Gc

end

section
/-! The collector: begin, units, the end. -/
set_option autoImplicit false
namespace Gc
open Vbxlab (Value State HeapObject Exported Imported Cycle Mark)

/-! ### sums -/
theorem sumOf_aux : ∀ (l : List Nat) (a : Nat), l.foldl (fun a b => a + b) a = a + l.sum
  | [], a => by simp
  | b :: l, a => by
    rw [List.foldl_cons, sumOf_aux l, List.sum_cons]
    omega
theorem sumOf_eq (l : List Nat) : Vbxlab.sumOf l = l.sum := by
  unfold Vbxlab.sumOf
  rw [sumOf_aux]
  omega
theorem sum_congr {f g : Nat → Nat} : ∀ {l : List Nat}, (∀ k ∈ l, f k = g k) → (l.map f).sum = (l.map g).sum := fun h => by rw [map_congr' h]
theorem sum_change {f g : Nat → Nat} {n : Nat} : ∀ {l : List Nat}, l.Nodup → n ∈ l → (∀ k ∈ l, k ≠ n → f k = g k) → (l.map f).sum + g n = (l.map g).sum + f n
  | [], _, h, _ => by cases h
  | a :: l, d, h, e => by
    rw [List.map_cons, List.map_cons, List.sum_cons, List.sum_cons]
    obtain ⟨d1, d2⟩ := List.nodup_cons.mp d
    by_cases q : a = n
    · subst q
      have : (l.map f).sum = (l.map g).sum := sum_congr fun k hk => e k (List.mem_cons_of_mem _ hk) fun z => d1 (z ▸ hk)
      omega
    · have h' : n ∈ l := by
        rcases List.mem_cons.mp h with z | z
        · exact absurd z.symm q
        · exact z
      have := sum_change d2 h' fun k hk => e k (List.mem_cons_of_mem _ hk)
      have := e a List.mem_cons_self q
      omega
theorem sum_filter_if {p : Nat → Bool} {f : Nat → Nat} : ∀ (l : List Nat), ((l.filter p).map f).sum = (l.map fun k => if p k = true then f k else 0).sum
  | [] => rfl
  | a :: l => by
    rw [List.filter_cons, List.map_cons, List.sum_cons, ← sum_filter_if l]
    by_cases h : p a = true
    · rw [if_pos h, if_pos h, List.map_cons, List.sum_cons]
    · rw [if_neg h, if_neg h]
      omega
theorem sum_pos {f : Nat → Nat} {n : Nat} : ∀ {l : List Nat}, n ∈ l → f n ≤ (l.map f).sum
  | [], h => by cases h
  | a :: l, h => by
    rw [List.map_cons, List.sum_cons]
    rcases List.mem_cons.mp h with z | z
    · subst z
      omega
    · have := sum_pos (f := f) z
      omega

/-! ### beginning -/
theorem activeObjects_abs (m : M) : Vbxlab.activeObjects m.abs = m.active.map m.owner := by
  unfold Vbxlab.activeObjects M.abs
  dsimp only
  rw [filter_map_comm, List.map_map]
  unfold M.known M.active
  rw [List.filter_filter]
  have e : ((ones m.states.length).filter fun (h : Nat) => (m.hand h).active && (m.state (h : Int) != 0)) = (ones m.states.length).filter fun (h : Nat) => m.state (h : Int) == 2 := by
    refine filter_congr' fun h _ => ?_
    show ((m.state (h : Int) == 2) && (m.state (h : Int) != 0)) = (m.state (h : Int) == 2)
    by_cases q : m.state (h : Int) = 2
    · rw [q]
      rfl
    · have : (m.state (h : Int) == 2) = false := by simpa using q
      rw [this]
      rfl
  rw [e]
  rfl
theorem mem_active {m : M} {h : Nat} : h ∈ m.active ↔ m.state (h : Int) = 2 := by
  unfold M.active
  rw [List.mem_filter, mem_ones]
  constructor
  · rintro ⟨_, b⟩
    exact eq_of_beq b
  · intro b
    refine ⟨?_, by rw [b]; rfl⟩
    unfold M.state at b
    split at b
    · cases b
    · omega
theorem color_start (m : M) {n : Nat} (h : n ≤ m.ents.length) : m.start.color n = 0 := by
  unfold M.color M.start
  dsimp only
  rw [List.length_replicate, if_pos h, List.getElem?_replicate]
  split <;> rfl
theorem Wf.start {m : M} (w : Wf m) : Wf m.start := by
  refine ⟨w.sl, w.im, w.pi, w.ow, w.en, w.ce, fun _ => w.pi, ?_, fun c hc => ?_, fun k => ?_, List.nodup_nil, .inl ⟨rfl, rfl⟩⟩
  · show (List.replicate m.ents.length 0).length ≤ _
    rw [List.length_replicate]
    exact Nat.le_refl _
  · have := List.eq_of_mem_replicate (show c ∈ List.replicate m.ents.length 0 from hc)
    omega
  · constructor
    · intro h
      cases h
    · rintro ⟨a, b, c⟩
      have : k ≤ m.ents.length := by
        have : m.start.colors.length = m.ents.length := List.length_replicate
        omega
      rw [color_start m this] at c
      cases c
theorem abs_marks : ∀ (l : List Value) {m : M}, m.marked.length = 100 → m.running = true → (∀ v ∈ l, m.Live v) → l.foldl Vbxlab.markValue m.abs = (l.foldl M.mark m).abs
  | [], _, _, _, _ => rfl
  | v :: l, m, ml, hr, h => by
    rw [List.foldl_cons, List.foldl_cons, abs_mark ml hr (h v List.mem_cons_self)]
    exact abs_marks l (by rw [mark_marked_len]; exact ml) (by rw [mark_running]; exact hr) fun u hu => (mark_live m v u).mpr (h u (List.mem_cons_of_mem _ hu))
theorem Good.roots {m : M} (g : Good m) : ∀ v ∈ m.slots ++ m.active.map fun h => Value.object (m.owner h), m.Live v := by
  intro v hv
  rcases List.mem_append.mp hv with h | h
  · exact g.ls v h
  · obtain ⟨k, hk, rfl⟩ := List.mem_map.mp h
    exact g.lh k (mem_active.mp hk)
theorem abs_begin {m : M} (g : Good m) : Vbxlab.beginCycle m.abs = m.begin.abs := by
  unfold Vbxlab.beginCycle M.begin
  dsimp only
  rw [activeObjects_abs, List.map_map]
  have e : ({ m.abs with
      objects := m.abs.objects.map fun x => { x with mark := Mark.white }
      imported := m.abs.imported.map fun e => { e with marked := e.pinned }
      cycle := some ⟨m.abs.created + 1, [], 0, 0⟩ } : State) = m.start.abs := by
    unfold M.abs
    dsimp only
    have e1 : ((m.present.map m.obj).map fun x => { x with mark := Mark.white }) = m.start.present.map m.start.obj := by
      rw [List.map_map]
      refine map_congr' fun k hk => ?_
      show (⟨k, m.cells k, (m.ent k).code, Mark.white⟩ : HeapObject) = ⟨k, m.cells k, (m.ent k).code, m.start.mkOf k⟩
      have h1 := mem_present.mp hk
      have h2 := there_len h1.2
      rw [mkOf_run (m := m.start) rfl, color_start m (by omega)]
      rfl
    have e2 : ((m.allImported.map m.imp).map fun e => { e with marked := e.pinned }) = m.start.allImported.map m.start.imp := by
      rw [List.map_map]
      exact map_congr' fun k _ => rfl
    rw [e1, e2]
    have e3 : m.start.running = true := rfl
    rw [if_pos e3]
    have e4 : m.start.colors.length = m.ents.length := List.length_replicate
    rw [e4]
    rfl
  rw [e]
  exact abs_marks _ g.wf.pi rfl g.roots
theorem fold_mark_white : ∀ (l : List Value) {m : M}, (∀ v ∈ l, m.Ok v) → ∀ {u : Value}, (l.foldl M.mark m).White u → m.White u ∧ u ∉ l
  | [], _, _, _, h => ⟨h, fun z => nomatch z⟩
  | v :: l, m, ho, u, h => by
    have hv := ho v List.mem_cons_self
    have ih := fold_mark_white l (m := m.mark v) (fun x hx => by
      have := ho x (List.mem_cons_of_mem _ hx)
      cases x with
      | foreign r =>
        show r < _
        rw [mark_marked_len]
        exact this
      | _ => exact this) h
    refine ⟨mark_white hv ih.1, fun z => ?_⟩
    rcases List.mem_cons.mp z with q | q
    · subst q
      exact mark_not_white hv ih.1
    · exact ih.2 q
/-- without slots and handles -/
def M.bare (m : M) : M := { m with slots := List.replicate 6 .nothing, owners := [], states := [] }
theorem mark_bare (m : M) (v : Value) : m.bare.mark v = (m.mark v).bare := by
  cases v with
  | object n =>
    by_cases h : m.color n = 0
    · rw [mark_object h, mark_object (m := m.bare) h]
      rfl
    · rw [mark_object_not h, mark_object_not (m := m.bare) h]
  | _ => rfl
theorem marks_bare : ∀ (l : List Value) (m : M), l.foldl M.mark m.bare = (l.foldl M.mark m).bare
  | [], _ => rfl
  | v :: l, m => by
    rw [List.foldl_cons, List.foldl_cons, mark_bare, marks_bare l]
theorem fold_mark_frame : ∀ (l : List Value) (m : M), (l.foldl M.mark m).slots = m.slots ∧ (l.foldl M.mark m).states = m.states ∧ (l.foldl M.mark m).owners = m.owners ∧ (l.foldl M.mark m).running = m.running ∧ (l.foldl M.mark m).ents = m.ents
  | [], _ => ⟨rfl, rfl, rfl, rfl, rfl⟩
  | v :: l, m => by
    rw [List.foldl_cons]
    have := fold_mark_frame l (m.mark v)
    rw [mark_slots, mark_states, mark_owners, mark_running, mark_ents] at this
    exact this
theorem Good.bare_start {m : M} (g : Good m) : Good m.start.bare := by
  have w := g.wf.start
  refine ⟨⟨List.length_replicate, w.im, w.pi, rfl, w.en, w.ce, w.ma, w.co, w.cr, w.gc, w.gd, w.ex⟩, g.pi, fun v hv => ?_, g.lc, fun h hh => ?_, fun h => (nomatch h), fun _ => ⟨fun n hn => (nomatch hn), fun v hv => ?_, fun h hh => ?_, fun q hq => ?_, fun n hn hc v hv => ?_, fun n hn => (nomatch hn)⟩⟩
  · have := List.eq_of_mem_replicate hv
    subst this
    trivial
  · exfalso
    unfold M.state M.bare at hh
    dsimp only at hh
    split at hh
    · cases hh
    · rename_i q
      simp at q
      omega
  · have := List.eq_of_mem_replicate hv
    subst this
    exact not_white_safe fun h => h
  · exfalso
    unfold M.state M.bare at hh
    dsimp only at hh
    split at hh
    · cases hh
    · rename_i q
      simp at q
      omega
  · refine not_white_safe fun (h : m.isPinned q = false) => ?_
    have : m.isPinned q = true := hq
    rw [h] at this
    cases this
  · exfalso
    have h2 := there_len (show m.there n = true from hn.2)
    have h1 : 1 ≤ n := hn.1
    have : m.start.color n = 2 := hc
    rw [color_start m (by omega)] at this
    cases this
theorem Good.marks : ∀ (l : List Value) {m : M}, Good m → m.running = true → (∀ v ∈ l, m.Live v) → Good (l.foldl M.mark m)
  | [], _, g, _, _ => g
  | v :: l, m, g, hr, h => Good.marks l (g.mark hr (h v List.mem_cons_self)) (by rw [mark_running]; exact hr) fun u hu => (mark_live m v u).mpr (h u (List.mem_cons_of_mem _ hu))
theorem Good.begin {m : M} (g : Good m) : Good m.begin ∧ m.begin.running = true := by
  have gb := Good.marks (m.slots ++ m.active.map fun h => Value.object (m.owner h)) g.bare_start rfl g.roots
  rw [marks_bare] at gb
  obtain ⟨f1, f2, f3, f4, f5⟩ := fold_mark_frame (m.slots ++ m.active.map fun h => Value.object (m.owner h)) m.start
  have nw := fun {u} => fold_mark_white (m.slots ++ m.active.map fun h => Value.object (m.owner h)) (m := m.start) (fun v hv => Good.ok g.wf.start rfl (g.roots v hv)) (u := u)
  have hb : m.begin = (m.slots ++ m.active.map fun h => Value.object (m.owner h)).foldl M.mark m.start := rfl
  rw [← hb] at gb f1 f2 f3 f4 f5 nw
  have hr : m.begin.running = true := f4
  have w := gb.wf
  have R := gb.run hr
  have hlive : ∀ v, m.begin.Live v ↔ m.Live v := fun v => by
    have e1 : ∀ n, m.begin.there n = m.there n := fun n => by
      unfold M.there M.ent
      rw [f5]
      rfl
    have e2 : m.begin.imported = m.imported := by
      rw [hb]
      have : ∀ (l : List Value) (k : M), (l.foldl M.mark k).imported = k.imported := by
        intro l
        induction l with
        | nil => intro k; rfl
        | cons a l ih => intro k; rw [List.foldl_cons, ih, mark_imported]
      exact this _ _
    cases v with
    | object n =>
      show (1 ≤ n ∧ m.begin.there n = true) ↔ _
      rw [e1]
      exact Iff.rfl
    | foreign r =>
      show (1 ≤ r ∧ r ≤ 99 ∧ m.begin.isImported r = true) ↔ _
      unfold M.isImported
      rw [e2]
      exact Iff.rfl
    | _ => exact Iff.rfl
  have sm : ∀ {v}, Safe m.begin.bare v → Safe m.begin v := fun h => safe_same (m := m.begin.bare) (m' := m.begin) w rfl rfl rfl rfl rfl h
  refine ⟨⟨⟨by rw [f1]; exact g.wf.sl, w.im, w.pi, by rw [f2, f3]; exact g.wf.ow, w.en, w.ce, w.ma, w.co, w.cr, w.gc, w.gd, w.ex⟩, gb.pi, fun v hv => ?_, gb.lc, fun h hh => ?_, fun h => ?_, fun _ => ⟨R.gl, fun v hv => ?_, fun h hh => ?_, fun q hq => sm (R.sp q hq), fun n hn hc v hv => sm (R.sb n hn hc v hv), fun n hn i v hi hv => sm (R.sf n hn i v hi hv)⟩⟩, hr⟩
  · rw [hlive]
    rw [f1] at hv
    exact g.ls v hv
  · rw [hlive]
    have e : m.begin.owner h = m.owner h := by
      unfold M.owner
      rw [f3]
      rfl
    rw [e]
    refine g.lh h ?_
    unfold M.state at hh ⊢
    rw [f2] at hh
    exact hh
  · rw [hr] at h
    cases h
  · rw [f1] at hv
    exact not_white_safe fun z => (nw z).2 (List.mem_append_left _ hv)
  · have e : m.begin.owner h = m.owner h := by
      unfold M.owner
      rw [f3]
      rfl
    have hh' : m.state (h : Int) = 2 := by
      unfold M.state at hh ⊢
      rw [f2] at hh
      exact hh
    rw [e]
    exact not_white_safe fun z => (nw z).2 (List.mem_append_right _ (List.mem_map.mpr ⟨h, mem_active.mpr hh', rfl⟩))

/-! ### units -/
theorem mark_count (m : M) (v : Value) : m.count.mark v = (m.mark v).count := by
  cases v with
  | object n =>
    by_cases h : m.color n = 0
    · rw [mark_object h, mark_object (m := m.count) h]
      rfl
    · rw [mark_object_not h, mark_object_not (m := m.count) h]
  | _ => rfl
theorem abs_unit {m : M} (g : Good m) (hr : m.running = true) (hg : m.grey ≠ []) : Vbxlab.unitOfWork m.abs = m.unit.abs := by
  obtain ⟨n, hn⟩ := first_some hg
  have w := g.wf
  have R := g.run hr
  have n1 := w.gr1 (first_mem hn)
  have hlive : m.Live (.object n) := ⟨n1.1, R.gl n (first_mem hn)⟩
  obtain ⟨s, hs⟩ : ∃ s, m.grey = n :: s := by
    cases q : m.grey with
    | nil => exact absurd q hg
    | cons a s =>
      rw [q] at hn
      have : a = n := by simpa using hn
      exact ⟨s, by rw [this]⟩
  unfold Vbxlab.unitOfWork
  rw [abs_cycle hr]
  dsimp only
  rw [hs]
  dsimp only
  rw [objectAt_of hlive]
  show (match (m.cells n).drop m.examined with | [] => _ | v :: _ => _) = _
  have hu : m.unit = (match (m.cells n)[m.examined]? with | some v => (m.examine v).count | none => m.blacken.count) := by
    unfold M.unit
    rw [hn]
    rfl
  rw [hu]
  cases h : (m.cells n)[m.examined]? with
  | some v =>
    obtain ⟨h1, h2⟩ := List.getElem?_eq_some_iff.mp h
    rw [List.drop_eq_getElem_cons h1, h2]
    dsimp only
    have hv : m.Live v := g.lc n hlive v (List.mem_of_getElem? h)
    have e := abs_mark (m := { m with examined := m.examined + 1, units := m.units + 1 }) (w.ma hr) hr (v := v) (by cases v <;> exact hv)
    have e2 : M.mark { m with examined := m.examined + 1, units := m.units + 1 } v = (m.examine v).count := mark_count { m with examined := m.examined + 1 } v
    rw [e2] at e
    rw [← e]
    congr 1
    unfold M.abs
    dsimp only
    rw [if_pos hr, hs]
    rfl
  | none =>
    have h1 := List.getElem?_eq_none_iff.mp h
    rw [List.drop_eq_nil_of_le h1]
    dsimp only
    have hb : m.blacken = { m with colors := m.colors.set (n - 1) 2, grey := s, examined := 0 } := by
      unfold M.blacken
      rw [hs]
      rfl
    have hcol : ∀ k, 1 ≤ k → m.blacken.color k = if k = n then 2 else m.color k := fun k hk => by
      rw [hb]
      exact color_set (m := { m with grey := s, examined := 0 }) n1.1 hk n1.2.1
    unfold Vbxlab.replaceObject M.abs
    dsimp only
    have e1 : ((m.present.map m.obj).map fun x => if x.number = n then { x with mark := Mark.black } else x) = m.blacken.count.present.map m.blacken.count.obj := by
      rw [List.map_map]
      refine map_congr' fun k hk => ?_
      have hk1 := (mem_present.mp hk).1
      show (if k = n then { m.obj k with mark := Mark.black } else m.obj k) = (⟨k, m.cells k, (m.ent k).code, m.blacken.mkOf k⟩ : HeapObject)
      rw [mkOf_run (m := m.blacken) hr, hcol k hk1]
      by_cases e : k = n
      · rw [if_pos e, if_pos e]
        rfl
      · rw [if_neg e, if_neg e, ← mkOf_run hr]
        rfl
    rw [e1]
    have hl : m.blacken.count.colors.length = m.colors.length := by
      show m.blacken.colors.length = _
      rw [hb]
      exact List.length_set
    have hg2 : m.blacken.count.grey = s := by
      show m.blacken.grey = s
      rw [hb]
    have hr2 : m.blacken.count.running = true := hr
    rw [if_pos hr2, hl, hg2]
    rfl
theorem unit_units (m : M) : m.unit.units = m.units + 1 := by
  unfold M.unit
  split
  · show (m.examine _).units + 1 = _
    unfold M.examine
    rw [mark_units]
  · rfl
theorem abs_work : ∀ (k : Nat) {m : M}, Good m → m.running = true → Vbxlab.work k m.abs = (M.doUnits k m).1.abs
  | 0, _, _, _ => rfl
  | k + 1, m, g, hr => by
    unfold Vbxlab.work M.doUnits
    rw [abs_grey hr]
    by_cases h : m.grey = []
    · rw [if_pos h, h]
      rfl
    · have h2 : m.grey.isEmpty = false := by
        cases q : m.grey with
        | nil => exact absurd q h
        | cons _ _ => rfl
      rw [if_neg h, h2, if_neg (by decide), abs_unit g hr h]
      exact abs_work k (g.unit hr h) (by rw [unit_running]; exact hr)
theorem doUnits_units : ∀ (k : Nat) (m : M), (M.doUnits k m).1.units = m.units + (M.doUnits k m).2
  | 0, _ => rfl
  | k + 1, m => by
    unfold M.doUnits
    by_cases h : m.grey = []
    · rw [if_pos h]
      rfl
    · rw [if_neg h]
      dsimp only
      rw [doUnits_units k, unit_units]
      omega

/-! ### how much is left -/
theorem color_le {m : M} (w : Wf m) (n : Nat) : m.color n ≤ 2 := by
  unfold M.color
  split
  · cases h : m.colors[n - 1]? with
    | none => exact Nat.zero_le _
    | some c => exact w.cr c (List.mem_of_getElem? h)
  · exact Nat.le_refl _
theorem mkOf_black {m : M} (w : Wf m) (hr : m.running = true) (n : Nat) : (m.mkOf n == Mark.black) = (m.color n == 2) := by
  rw [mkOf_run hr]
  have := color_le w n
  have h : m.color n = 0 ∨ m.color n = 1 ∨ m.color n = 2 := by omega
  rcases h with h | h | h <;> rw [h] <;> rfl
theorem mkOf_white {m : M} (w : Wf m) (hr : m.running = true) (n : Nat) : (m.mkOf n == Mark.white) = (m.color n == 0) := by
  rw [mkOf_run hr]
  have := color_le w n
  have h : m.color n = 0 ∨ m.color n = 1 ∨ m.color n = 2 := by omega
  rcases h with h | h | h <;> rw [h] <;> rfl
theorem abs_remaining {m : M} (w : Wf m) (hr : m.running = true) : Vbxlab.remaining m.abs = m.total - m.examined := by
  unfold Vbxlab.remaining
  rw [abs_cycle hr]
  dsimp only
  congr 1
  rw [sumOf_eq]
  show (((m.present.map m.obj).filter fun x => decide (x.number < m.colors.length + 1) && x.mark != Mark.black).map fun x => 1 + x.fields.length).sum = _
  rw [filter_map_comm, List.map_map, sum_filter_if]
  unfold M.total
  refine sum_congr fun k _ => ?_
  show (if (decide (k < m.colors.length + 1) && m.mkOf k != Mark.black) = true then 1 + (m.cells k).length else 0) = _
  by_cases h : m.color k = 2
  · have : (m.mkOf k == Mark.black) = true := by rw [mkOf_black w hr, h]; rfl
    rw [if_pos h]
    have h2 : (m.mkOf k != Mark.black) = false := by simp [bne, this]
    rw [h2, Bool.and_false]
    rfl
  · have : (m.mkOf k == Mark.black) = false := by rw [mkOf_black w hr]; simpa using h
    have h2 : (m.mkOf k != Mark.black) = true := by simp [bne, this]
    have h3 : k < m.colors.length + 1 := by
      have := color_old h
      omega
    rw [if_neg h, h2, decide_eq_true h3]
    rfl
theorem first_total {m : M} (g : Good m) (hr : m.running = true) {n : Nat} (hn : m.grey[0]? = some n) : 1 + (m.cells n).length ≤ m.total := by
  have n1 := g.wf.gr1 (first_mem hn)
  have hp : n ∈ m.present := mem_present.mpr ⟨n1.1, (g.run hr).gl n (first_mem hn)⟩
  unfold M.total
  have h1 := sum_pos (f := fun n => if m.color n = 2 then 0 else 1 + (m.cells n).length) hp
  rw [if_neg (by omega)] at h1
  exact h1
theorem mark_total {m : M} {u : Value} (hu : m.Ok u) : (m.mark u).total = m.total := by
  unfold M.total
  rw [mark_present]
  refine sum_congr fun k hk => ?_
  rw [mark_cells]
  have h1 := (mem_present.mp hk).1
  cases u with
  | object n =>
    rw [mark_color hu h1]
    by_cases e : k = n ∧ m.color n = 0
    · rw [if_pos e, if_neg (by decide), e.1, if_neg (by omega)]
    · rw [if_neg e]
  | _ => rfl
theorem examined_le {m : M} (w : Wf m) {n : Nat} (hn : m.grey[0]? = some n) : m.examined ≤ (m.cells n).length := by
  rcases w.ex with ⟨a, _⟩ | ⟨k, r, a, b⟩
  · rw [a] at hn
    cases hn
  · rw [a] at hn
    have : k = n := by simpa using hn
    rw [← this]
    exact b
theorem unit_total {m : M} (g : Good m) (hr : m.running = true) {n : Nat} (hn : m.grey[0]? = some n) : m.unit.total + m.examined + 1 = m.total + m.unit.examined ∧ m.unit.examined ≤ m.unit.total := by
  have w := g.wf
  have n1 := w.gr1 (first_mem hn)
  have he := examined_le w hn
  have ht := first_total g hr hn
  have hlive : m.Live (.object n) := ⟨n1.1, (g.run hr).gl n (first_mem hn)⟩
  have hu : m.unit = (match (m.cells n)[m.examined]? with | some v => (m.examine v).count | none => m.blacken.count) := by
    unfold M.unit
    rw [hn]
    rfl
  rw [hu]
  cases h : (m.cells n)[m.examined]? with
  | some v =>
    have hv : m.Live v := g.lc n hlive v (List.mem_of_getElem? h)
    have e1 : (m.examine v).count.total = m.total := by
      show (m.examine v).total = m.total
      unfold M.examine
      exact mark_total (m := { m with examined := m.examined + 1 }) (by have := Good.ok w hr hv; cases v <;> exact this)
    have e2 : (m.examine v).count.examined = m.examined + 1 := mark_examined _ _
    have := (List.getElem?_eq_some_iff.mp h).1
    dsimp only
    rw [e1, e2]
    omega
  | none =>
    have h1 := List.getElem?_eq_none_iff.mp h
    have hcol : ∀ k, 1 ≤ k → m.blacken.color k = if k = n then 2 else m.color k := fun k hk => by
      have hb : m.blacken = { m with colors := m.colors.set (n - 1) 2, grey := m.grey.drop 1, examined := 0 } := by
        unfold M.blacken
        rw [hn]
        rfl
      rw [hb]
      exact color_set (m := { m with grey := m.grey.drop 1, examined := 0 }) n1.1 hk n1.2.1
    have e2 : m.blacken.count.examined = 0 := rfl
    have e1 : m.blacken.count.total + (1 + (m.cells n).length) = m.total + 0 := by
      have := sum_change (f := fun k => if m.blacken.color k = 2 then 0 else 1 + (m.cells k).length) (g := fun k => if m.color k = 2 then 0 else 1 + (m.cells k).length) (n := n) (present_nodup m)
        (mem_present.mpr hlive) (fun k hk e => by
          show (if m.blacken.color k = 2 then 0 else 1 + (m.cells k).length) = (if m.color k = 2 then 0 else 1 + (m.cells k).length)
          rw [hcol k (mem_present.mp hk).1, if_neg e])
      rw [hcol n n1.1, if_pos rfl, if_pos rfl, if_neg (by omega)] at this
      exact this
    dsimp only
    rw [e2]
    omega
theorem doUnits_done : ∀ (k : Nat) {m : M}, Good m → m.running = true → m.total ≤ m.examined + k → (M.doUnits k m).1.grey = []
  | 0, m, g, hr, h => by
    show m.grey = []
    cases q : m.grey with
    | nil => rfl
    | cons n r =>
      have hn : m.grey[0]? = some n := by rw [q]; rfl
      have := first_total g hr hn
      have := examined_le g.wf hn
      omega
  | k + 1, m, g, hr, h => by
    unfold M.doUnits
    by_cases q : m.grey = []
    · rw [if_pos q]
      exact q
    · rw [if_neg q]
      obtain ⟨n, hn⟩ := first_some q
      have := (unit_total g hr hn).1
      exact doUnits_done k (g.unit hr q) (by rw [unit_running]; exact hr) (by omega)
theorem Wf.ex_total {m : M} (g : Good m) (hr : m.running = true) : m.examined ≤ m.total := by
  rcases g.wf.ex with ⟨_, b⟩ | ⟨n, r, a, b⟩
  · omega
  · have hn : m.grey[0]? = some n := by rw [a]; rfl
    have := first_total g hr hn
    omega
theorem unitsLeft_nat {m : M} (g : Good m) (hr : m.running = true) : m.unitsLeft = ((m.total - m.examined : Nat) : Int) ∧ m.unitsLeft.toNat = m.total - m.examined := by
  have := Wf.ex_total g hr
  unfold M.unitsLeft
  omega
end Gc

end

section
/-! The end of a cycle; the operations against the specification. -/
set_option autoImplicit false
namespace Gc
open Vbxlab (Value State HeapObject Exported Imported Cycle Mark Call)

/-! ### the end of a cycle -/
theorem no_prot {m : M} (h : m.grey = []) {v : Value} (p : Prot m v) : False := by
  induction p with
  | base n i v a b c =>
    rw [h] at a
    cases a
  | step n v a _ c d ih => exact ih
theorem Safe.black {m : M} (h : m.grey = []) {v : Value} (s : Safe m v) : ¬ m.White v := fun w => no_prot h (s w)
theorem ent_set {m : M} {n k : Nat} {e : Ent} (hn : 1 ≤ n) (hk : 1 ≤ k) (hl : n - 1 < m.ents.length) : (m.setEnt n e).ent k = if k = n then e else m.ent k := by
  unfold M.ent M.setEnt
  dsimp only
  by_cases q : k = n
  · subst q
    rw [if_pos rfl, List.getElem?_set_self hl]
    rfl
  · rw [if_neg q, List.getElem?_set_ne (by omega)]
theorem ent_free {m : M} {n k : Nat} (hn : 1 ≤ n) (hk : 1 ≤ k) : (m.free n).ent k = if k = n then { m.ent k with there := false } else m.ent k := by
  unfold M.free
  by_cases hl : n - 1 < m.ents.length
  · rw [ent_set hn hk hl]
    by_cases q : k = n
    · rw [if_pos q, if_pos q, q]
    · rw [if_neg q, if_neg q]
  · have e1 : (m.setEnt n { m.ent n with there := false }) = m := by
      unfold M.setEnt
      rw [List.set_eq_of_length_le (by omega)]
    rw [e1]
    by_cases q : k = n
    · rw [if_pos q]
      have : m.ent k = noEnt := by
        unfold M.ent
        rw [List.getElem?_eq_none (by omega)]
        rfl
      rw [this]
      rfl
    · rw [if_neg q]
theorem free_len (m : M) (n : Nat) : (m.free n).ents.length = m.ents.length := List.length_set
theorem freeAll_frame : ∀ (l : List Nat) (m : M), m.freeAll l = { m with ents := (m.freeAll l).ents }
  | [], _ => rfl
  | n :: l, m => by
    show (m.free n).freeAll l = _
    rw [freeAll_frame l (m.free n)]
    rfl
theorem freeAll_len : ∀ (l : List Nat) (m : M), (m.freeAll l).ents.length = m.ents.length
  | [], _ => rfl
  | n :: l, m => by
    show ((m.free n).freeAll l).ents.length = _
    rw [freeAll_len l (m.free n), free_len]
theorem freeAll_ent : ∀ (l : List Nat) (m : M), (∀ n ∈ l, 1 ≤ n) → ∀ {k : Nat}, 1 ≤ k → (m.freeAll l).ent k = if k ∈ l then { m.ent k with there := false } else m.ent k
  | [], _, _, _, _ => rfl
  | n :: l, m, h, k, hk => by
    show ((m.free n).freeAll l).ent k = _
    rw [freeAll_ent l (m.free n) (fun a ha => h a (List.mem_cons_of_mem _ ha)) hk, ent_free (h n List.mem_cons_self) hk]
    by_cases a : k ∈ l
    · rw [if_pos a, if_pos (List.mem_cons_of_mem _ a)]
      split <;> rfl
    · rw [if_neg a]
      by_cases q : k = n
      · rw [if_pos q, if_pos (by rw [q]; exact List.mem_cons_self)]
      · rw [if_neg q, if_neg (fun z => (List.mem_cons.mp z).elim q a)]
theorem freeAll_ce : ∀ (l : List Nat) (m : M), (∀ e ∈ m.ents, e.cells.length ≤ 4) → ∀ e ∈ (m.freeAll l).ents, e.cells.length ≤ 4
  | [], _, h => h
  | n :: l, m, h => by
    refine freeAll_ce l (m.free n) fun e he => ?_
    rcases List.mem_or_eq_of_mem_set he with q | q
    · exact h e q
    · rw [q]
      show (m.ent n).cells.length ≤ 4
      unfold M.ent
      cases z : m.ents[n - 1]? with
      | none => exact Nat.zero_le _
      | some a => exact h a (List.mem_of_getElem? z)
theorem drops_get : ∀ (l : List Nat) (a : List Bool) (r : Nat), ((l.foldl (fun a r => a.set r false) a)[r]?).getD false = if r ∈ l then false else (a[r]?).getD false
  | [], _, _ => rfl
  | n :: l, a, r => by
    rw [List.foldl_cons, drops_get l]
    by_cases h : r ∈ l
    · rw [if_pos h, if_pos (List.mem_cons_of_mem _ h)]
    · rw [if_neg h]
      by_cases q : r = n
      · subst q
        rw [if_pos List.mem_cons_self]
        by_cases z : r < a.length
        · rw [List.getElem?_set_self z]
          rfl
        · rw [List.getElem?_eq_none (by rw [List.length_set]; omega)]
          rfl
      · rw [if_neg fun z => (List.mem_cons.mp z).elim q h, List.getElem?_set_ne (Ne.symm q)]
theorem drops_len : ∀ (l : List Nat) (a : List Bool), (l.foldl (fun a r => a.set r false) a).length = a.length
  | [], _ => rfl
  | _ :: l, a => by rw [List.foldl_cons, drops_len l, List.length_set]
section
variable {m : M}
theorem white_ge : ∀ n ∈ m.white, 1 ≤ n := fun n h => (mem_present.mp (List.mem_filter.mp h).1).1
theorem mem_white {n : Nat} : n ∈ m.white ↔ (1 ≤ n ∧ m.there n = true) ∧ m.color n = 0 := by
  unfold M.white
  rw [List.mem_filter, mem_present]
  simp
theorem mem_imported {r : Nat} : r ∈ m.allImported ↔ (1 ≤ r ∧ r ≤ 99) ∧ m.isImported r = true := by
  unfold M.allImported
  rw [List.mem_filter, mem_ones]
theorem mem_gone {r : Nat} : r ∈ m.gone ↔ ((1 ≤ r ∧ r ≤ 99) ∧ m.isImported r = true) ∧ m.isMarked r = false := by
  unfold M.gone
  rw [List.mem_filter, mem_imported]
  simp
theorem finish_eq : m.finish.1 = { m with ents := (m.freeAll m.white).ents, imported := m.gone.foldl (fun a r => a.set r false) m.imported, reports := m.reports ++ m.codesOf m.white, running := false } := by
  unfold M.finish M.stop M.drop M.report
  dsimp only
  rw [freeAll_frame]
theorem finish_ent {k : Nat} (hk : 1 ≤ k) : m.finish.1.ent k = if k ∈ m.white then { m.ent k with there := false } else m.ent k := by
  rw [finish_eq]
  exact freeAll_ent m.white m white_ge hk
theorem finish_there {k : Nat} (hk : 1 ≤ k) : m.finish.1.there k = (m.there k && !(m.color k == 0)) := by
  unfold M.there
  rw [finish_ent hk]
  by_cases h : k ∈ m.white
  · rw [if_pos h, (mem_white.mp h).2]
    simp
  · rw [if_neg h]
    cases z : (m.ent k).there with
    | false => rfl
    | true =>
      have : ¬ m.color k = 0 := fun q => h (mem_white.mpr ⟨⟨hk, z⟩, q⟩)
      simp [this]
theorem finish_cells {k : Nat} (hk : 1 ≤ k) : m.finish.1.cells k = m.cells k ∧ (m.finish.1.ent k).code = (m.ent k).code := by
  unfold M.cells
  rw [finish_ent hk]
  split <;> exact ⟨rfl, rfl⟩
theorem finish_imported {r : Nat} (h1 : 1 ≤ r) (h2 : r ≤ 99) : m.finish.1.isImported r = (m.isImported r && m.isMarked r) := by
  unfold M.isImported
  rw [finish_eq]
  dsimp only
  rw [drops_get]
  by_cases h : r ∈ m.gone
  · rw [if_pos h, (mem_gone.mp h).2]
    simp
  · rw [if_neg h]
    cases z : (m.imported[r]?).getD false with
    | false => rfl
    | true =>
      cases q : m.isMarked r with
      | true => rfl
      | false => exact absurd (mem_gone.mpr ⟨⟨⟨h1, h2⟩, z⟩, q⟩) h
theorem finish_running : m.finish.1.running = false := by rw [finish_eq]
theorem finish_grey : m.finish.1.grey = m.grey := by rw [finish_eq]
end
theorem finish_present (m : M) : m.finish.1.present = m.present.filter fun k => !(m.color k == 0) := by
  unfold M.present
  have e : m.finish.1.ents.length = m.ents.length := by
    rw [finish_eq]
    exact freeAll_len _ _
  rw [e, List.filter_filter]
  refine filter_congr' fun k hk => ?_
  rw [finish_there (mem_ones.mp hk).1, Bool.and_comm]
theorem abs_finish {m : M} (g : Good m) (hr : m.running = true) : Vbxlab.endCycle m.abs = m.finish.1.abs ∧ Vbxlab.endResult m.abs = m.finish.2 := by
  have w := g.wf
  have ef : Vbxlab.freedObjects m.abs = m.white.map m.obj := by
    unfold Vbxlab.freedObjects
    show (m.present.map m.obj).filter _ = _
    rw [filter_map_comm]
    unfold M.white
    congr 1
    exact filter_congr' fun k _ => mkOf_white w hr k
  have ec : Vbxlab.codesOf (Vbxlab.freedObjects m.abs) = m.codesOf m.white := by
    rw [ef]
    unfold Vbxlab.codesOf M.codesOf
    rw [filter_map_comm, List.map_map, filter_map_comm]
    rfl
  have ed : Vbxlab.droppedReferences m.abs = m.gone := by
    unfold Vbxlab.droppedReferences
    show ((m.allImported.map m.imp).filter _).map _ = _
    rw [filter_map_comm, List.map_map]
    unfold M.gone
    have e1 : (m.allImported.filter fun r => !(m.imp r).marked) = m.allImported.filter fun r => !m.isMarked r := filter_congr' fun r _ => by
      show (!(m.running && m.isMarked r)) = _
      rw [hr]
      rfl
    rw [e1]
    exact List.map_id _
  refine ⟨?_, ?_⟩
  · have er : m.finish.1.abs = ⟨m.finish.1.present.map m.finish.1.obj, m.slots, m.known.map m.hand, m.finish.1.allImported.map m.finish.1.imp, none, m.ents.length, m.owners.length, m.reports ++ m.codesOf m.white⟩ := by
      have e1 : m.finish.1.abs = ⟨m.finish.1.present.map m.finish.1.obj, m.finish.1.slots, m.finish.1.known.map m.finish.1.hand, m.finish.1.allImported.map m.finish.1.imp, none, m.finish.1.ents.length, m.finish.1.owners.length, m.finish.1.reports⟩ := by
        unfold M.abs
        rw [finish_running]
        rfl
      have h1 : m.finish.1.slots = m.slots := by rw [finish_eq]
      have h2 : m.finish.1.known = m.known := known_congr (by rw [finish_eq])
      have h3 : m.finish.1.hand = m.hand := by
        funext k
        exact hand_congr (by rw [finish_eq]) (by rw [finish_eq]) k
      have h4 : m.finish.1.ents.length = m.ents.length := by
        rw [finish_eq]
        exact freeAll_len _ _
      have h5 : m.finish.1.owners = m.owners := by rw [finish_eq]
      have h6 : m.finish.1.reports = m.reports ++ m.codesOf m.white := by rw [finish_eq]
      rw [e1, h1, h2, h3, h4, h5, h6]
    rw [er]
    unfold Vbxlab.endCycle
    rw [ec]
    have e1 : ((m.abs.objects.filter fun x => x.mark != Mark.white).map fun x => { x with mark := Mark.white }) = m.finish.1.present.map m.finish.1.obj := by
      show (((m.present.map m.obj).filter fun x => x.mark != Mark.white).map fun x => { x with mark := Mark.white }) = _
      rw [filter_map_comm, List.map_map, finish_present]
      have e2 : (m.present.filter fun a => (m.obj a).mark != Mark.white) = m.present.filter fun k => !(m.color k == 0) := filter_congr' fun k _ => by
        show (!(m.mkOf k == Mark.white)) = _
        rw [mkOf_white w hr]
      rw [e2]
      refine map_congr' fun k hk => ?_
      have hk1 := (mem_present.mp (List.mem_filter.mp hk).1).1
      obtain ⟨c1, c2⟩ := finish_cells (m := m) hk1
      show (⟨k, m.cells k, (m.ent k).code, Mark.white⟩ : HeapObject) = ⟨k, m.finish.1.cells k, (m.finish.1.ent k).code, m.finish.1.mkOf k⟩
      rw [c1, c2]
      unfold M.mkOf
      rw [finish_running]
      rfl
    have e3 : ((m.abs.imported.filter fun e => e.marked).map fun e => { e with marked := false }) = m.finish.1.allImported.map m.finish.1.imp := by
      show (((m.allImported.map m.imp).filter fun e => e.marked).map fun e => { e with marked := false }) = _
      rw [filter_map_comm, List.map_map]
      have e4 : m.finish.1.allImported = m.allImported.filter fun r => (m.imp r).marked := by
        unfold M.allImported
        rw [List.filter_filter]
        refine filter_congr' fun r hr' => ?_
        have := mem_ones.mp hr'
        rw [finish_imported this.1 this.2, Bool.and_comm]
        show (m.isMarked r && m.isImported r) = ((m.running && m.isMarked r) && m.isImported r)
        rw [hr]
        rfl
      rw [e4]
      refine map_congr' fun r _ => ?_
      show (⟨r, m.isPinned r, false⟩ : Imported) = ⟨r, m.finish.1.isPinned r, m.finish.1.running && m.finish.1.isMarked r⟩
      rw [finish_running]
      have : m.finish.1.isPinned r = m.isPinned r := by
        unfold M.isPinned
        rw [finish_eq]
      rw [this]
      rfl
    rw [e1, e3]
    rfl
  · unfold Vbxlab.endResult
    rw [ec, ed, ef, List.length_map]
    unfold Vbxlab.counted Vbxlab.toInts M.finish zints
    simp
theorem Good.finish {m : M} (g : Good m) (hr : m.running = true) (hg : m.grey = []) : Good m.finish.1 := by
  have w := g.wf
  have R := g.run hr
  have keep : ∀ {v}, m.Live v → Safe m v → m.finish.1.Live v := by
    intro v hl hs
    have nw := hs.black hg
    cases v with
    | object n =>
      refine ⟨hl.1, ?_⟩
      rw [finish_there hl.1, hl.2]
      have : ¬ m.color n = 0 := nw
      simp [this]
    | foreign r =>
      refine ⟨hl.1, hl.2.1, ?_⟩
      rw [finish_imported hl.1 hl.2.1, hl.2.2]
      have : ¬ m.isMarked r = false := nw
      simpa using this
    | _ => trivial
  have eo : ∀ h, m.finish.1.owner h = m.owner h := fun h => by
    unfold M.owner
    rw [finish_eq]
  have es : ∀ h, m.finish.1.state h = m.state h := fun h => by
    unfold M.state
    rw [finish_eq]
  have w' : Wf m.finish.1 := by
    rw [finish_eq]
    refine ⟨w.sl, (drops_len _ _).trans w.im, w.pi, w.ow, Nat.le_trans (Nat.le_of_eq (freeAll_len _ _)) w.en, freeAll_ce _ _ w.ce, fun h => (nomatch h), ?_, w.cr, w.gc, w.gd, ?_⟩
    · show m.colors.length ≤ (m.freeAll m.white).ents.length
      rw [freeAll_len]
      exact w.co
    · rcases w.ex with q | ⟨k, r, q, _⟩
      · exact .inl q
      · rw [hg] at q
        cases q
  refine ⟨w', fun r h => ?_, fun v hv => ?_, fun n hn v hv => ?_, fun h hh => ?_, fun _ => by rw [finish_grey]; exact hg, fun h => ?_⟩
  · have h' : m.isPinned r = true := by
      unfold M.isPinned at h ⊢
      rw [finish_eq] at h
      exact h
    exact keep (g.pi r h') (R.sp r h')
  · have hv' : v ∈ m.slots := by
      rw [finish_eq] at hv
      exact hv
    exact keep (g.ls v hv') (R.ss v hv')
  · have hn1 : 1 ≤ n := hn.1
    have ht : m.finish.1.there n = true := hn.2
    rw [finish_there hn1, Bool.and_eq_true] at ht
    have hc : m.color n ≠ 0 := by
      have := ht.2
      simpa using this
    have hc2 : m.color n = 2 := by
      have := color_le w n
      by_cases q : m.color n = 1
      · have h3 : n ∈ m.grey := (w.gc n).mpr ⟨hn1, color_old (by omega), q⟩
        rw [hg] at h3
        cases h3
      · omega
    rw [(finish_cells hn1).1] at hv
    exact keep (g.lc n ⟨hn1, ht.1⟩ v hv) (R.sb n ⟨hn1, ht.1⟩ hc2 v hv)
  · rw [eo]
    rw [es] at hh
    exact keep (g.lh h hh) (R.sh h hh)
  · rw [finish_running] at h
    cases h
theorem Good.complete {m : M} (g : Good m) (hr : m.running = true) : Good (M.doUnits m.unitsLeft.toNat m).1 ∧ (M.doUnits m.unitsLeft.toNat m).1.running = true ∧ (M.doUnits m.unitsLeft.toNat m).1.grey = [] := by
  obtain ⟨g1, r1⟩ := Good.doUnits m.unitsLeft.toNat g hr
  refine ⟨g1, r1, doUnits_done _ g hr ?_⟩
  have := (unitsLeft_nat g hr).2
  have := Wf.ex_total g hr
  omega
theorem abs_complete {m : M} (g : Good m) (hr : m.running = true) : Vbxlab.complete m.abs = (M.doUnits m.unitsLeft.toNat m).1.abs := by
  unfold Vbxlab.complete
  rw [abs_remaining g.wf hr, ← (unitsLeft_nat g hr).2]
  exact abs_work _ g hr
theorem complete_both {m : M} (g : Good m) (hr : m.running = true) :
    Vbxlab.endCycle (Vbxlab.complete m.abs) = m.complete.1.abs ∧ Vbxlab.endResult (Vbxlab.complete m.abs) = m.complete.2 ∧ Good m.complete.1 ∧ m.complete.1.running = false := by
  obtain ⟨g1, r1, h1⟩ := Good.complete g hr
  rw [abs_complete g hr]
  have := abs_finish g1 r1
  exact ⟨this.1, this.2, g1.finish r1 h1, finish_running⟩

/-! ### what the operations keep -/
theorem slot_mem {m : M} (i : Nat) : m.slot i ∈ m.slots ∨ m.slot i = .nothing := by
  unfold M.slot
  cases h : m.slots[i]? with
  | none => exact .inr rfl
  | some v => exact .inl (List.mem_of_getElem? h)
theorem Good.slot {m : M} (g : Good m) (i : Nat) : m.Live (m.slot i) := by
  rcases slot_mem (m := m) i with h | h
  · exact g.ls _ h
  · rw [h]
    trivial
theorem Good.slotSafe {m : M} (g : Good m) (hr : m.running = true) (i : Nat) : Safe m (m.slot i) := by
  rcases slot_mem (m := m) i with h | h
  · exact (g.run hr).ss _ h
  · rw [h]
    exact not_white_safe fun q => q
theorem Good.put {m : M} (g : Good m) (i : Nat) {v : Value} (hl : m.Live v) (hs : m.running = true → Safe m v) : Good (m.put i v) := by
  have w := g.wf
  have sm : ∀ {u}, Safe m u → Safe (m.put i v) u := fun h => safe_same (m' := m.put i v) w rfl rfl rfl rfl rfl h
  refine ⟨⟨by show (m.slots.set i v).length = 6; rw [List.length_set]; exact w.sl, w.im, w.pi, w.ow, w.en, w.ce, w.ma, w.co, w.cr, w.gc, w.gd, w.ex⟩, g.pi, fun u hu => ?_, g.lc, g.lh, g.rest, fun h => ?_⟩
  · rcases List.mem_or_eq_of_mem_set hu with q | q
    · exact g.ls u q
    · rw [q]
      exact hl
  · have R := g.run h
    refine ⟨R.gl, fun u hu => ?_, fun h hh => sm (R.sh h hh), fun q hq => sm (R.sp q hq), fun k hk hc v hv => sm (R.sb k hk hc v hv), fun k hk i v hi hv => sm (R.sf k hk i v hi hv)⟩
    rcases List.mem_or_eq_of_mem_set hu with q | q
    · exact sm (R.ss u q)
    · rw [q]
      exact sm (hs h)
theorem put_abs (m : M) (i : Nat) (v : Value) : (m.put i v).abs = Vbxlab.setSlot m.abs i v := rfl
theorem Good.pin {m : M} (g : Good m) (r : Nat) (b : Bool) (h : b = true → m.Live (.foreign r) ∧ (m.running = true → Safe m (.foreign r))) : Good (m.pin r b) := by
  have w := g.wf
  have sm : ∀ {u}, Safe m u → Safe (m.pin r b) u := fun h => safe_same (m' := m.pin r b) w rfl rfl rfl rfl rfl h
  have hp : ∀ s, (m.pin r b).isPinned s = true → (s = r ∧ b = true) ∨ m.isPinned s = true := fun s hs => by
    unfold M.isPinned M.pin at hs
    dsimp only at hs
    by_cases e : s = r
    · subst e
      by_cases z : s < m.pinned.length
      · rw [List.getElem?_set_self z] at hs
        exact .inl ⟨rfl, hs⟩
      · rw [List.getElem?_eq_none (by rw [List.length_set]; omega)] at hs
        cases hs
    · rw [List.getElem?_set_ne (Ne.symm e)] at hs
      exact .inr hs
  refine ⟨⟨w.sl, w.im, by show (m.pinned.set r b).length = 100; rw [List.length_set]; exact w.pi, w.ow, w.en, w.ce, w.ma, w.co, w.cr, w.gc, w.gd, w.ex⟩, fun s hs => ?_, g.ls, g.lc, g.lh, g.rest, fun h' => ?_⟩
  · rcases hp s hs with ⟨e, q⟩ | q
    · rw [e]
      exact (h q).1
    · exact g.pi s q
  · have R := g.run h'
    refine ⟨R.gl, fun v hv => sm (R.ss v hv), fun h hh => sm (R.sh h hh), fun q hq => ?_, fun k hk hc v hv => sm (R.sb k hk hc v hv), fun k hk i v hi hv => sm (R.sf k hk i v hi hv)⟩
    rcases hp q hq with ⟨e, z⟩ | z
    · rw [e]
      exact sm ((h z).2 h')
    · exact sm (R.sp q z)
theorem state_set {m : M} {h s : Nat} {k : Int} (h1 : 1 ≤ h) (h2 : h ≤ m.states.length) : (m.setState h s).state k = if k = (h : Int) then s else m.state k := by
  unfold M.state M.setState
  dsimp only
  rw [List.length_set]
  by_cases e : k = (h : Int)
  · subst e
    rw [if_pos rfl, if_neg (by omega)]
    show ((m.states.set (h - 1) s)[h - 1]?).getD 0 = s
    rw [List.getElem?_set_self (by omega)]
    rfl
  · rw [if_neg e]
    by_cases q : k < 1 ∨ k > (m.states.length : Int)
    · rw [if_pos q, if_pos q]
    · rw [if_neg q, if_neg q, List.getElem?_set_ne (by omega)]
theorem Good.setState {m : M} (g : Good m) {h s : Nat} (h1 : 1 ≤ h) (h2 : h ≤ m.states.length) (hs : s = 2 → m.Live (.object (m.owner h)) ∧ (m.running = true → Safe m (.object (m.owner h)))) : Good (m.setState h s) := by
  have w := g.wf
  have sm : ∀ {u}, Safe m u → Safe (m.setState h s) u := fun q => safe_same (m' := m.setState h s) w rfl rfl rfl rfl rfl q
  have hp : ∀ k : Nat, (m.setState h s).state (k : Int) = 2 → (k = h ∧ s = 2) ∨ m.state (k : Int) = 2 := fun k hk => by
    rw [state_set h1 h2] at hk
    split at hk
    · rename_i e
      exact .inl ⟨by omega, hk⟩
    · exact .inr hk
  refine ⟨⟨w.sl, w.im, w.pi, by show m.owners.length = (m.states.set (h - 1) s).length; rw [List.length_set]; exact w.ow, w.en, w.ce, w.ma, w.co, w.cr, w.gc, w.gd, w.ex⟩, g.pi, g.ls, g.lc, fun k hk => ?_, g.rest, fun h' => ?_⟩
  · rcases hp k hk with ⟨e, q⟩ | q
    · rw [e]
      exact (hs q).1
    · exact g.lh k q
  · have R := g.run h'
    refine ⟨R.gl, fun v hv => sm (R.ss v hv), fun k hk => ?_, fun q hq => sm (R.sp q hq), fun k hk hc v hv => sm (R.sb k hk hc v hv), fun k hk i v hi hv => sm (R.sf k hk i v hi hv)⟩
    rcases hp k hk with ⟨e, q⟩ | q
    · rw [e]
      exact sm ((hs q).2 h')
    · exact sm (R.sh k q)
theorem state_pos {m : M} {h : Int} (q : m.state h ≠ 0) : 1 ≤ h ∧ h ≤ (m.states.length : Int) := by
  unfold M.state at q
  split at q
  · exact absurd rfl q
  · omega
theorem Good.newHandle {m : M} (g : Good m) {n : Nat} (hl : m.Live (.object n)) (hs : m.running = true → Safe m (.object n)) : Good { m with owners := m.owners ++ [n], states := m.states ++ [2] } := by
  have w := g.wf
  have sm : ∀ {u}, Safe m u → Safe { m with owners := m.owners ++ [n], states := m.states ++ [2] } u := fun q => safe_same (m' := { m with owners := m.owners ++ [n], states := m.states ++ [2] }) w rfl rfl rfl rfl rfl q
  have hp : ∀ k : Nat, M.state { m with owners := m.owners ++ [n], states := m.states ++ [2] } (k : Int) = 2 →
      (m.state (k : Int) = 2 ∧ M.owner { m with owners := m.owners ++ [n], states := m.states ++ [2] } k = m.owner k) ∨ M.owner { m with owners := m.owners ++ [n], states := m.states ++ [2] } k = n := fun k hk => by
    unfold M.state at hk
    dsimp only at hk
    rw [List.length_append, List.length_singleton] at hk
    split at hk
    · cases hk
    · rename_i q
      unfold M.owner
      dsimp only
      by_cases z : k ≤ m.states.length
      · refine .inl ⟨?_, ?_⟩
        · unfold M.state
          rw [if_neg (by omega)]
          rw [List.getElem?_append_left (by omega)] at hk
          exact hk
        · rw [List.getElem?_append_left (by have := w.ow; omega)]
      · refine .inr ?_
        have e : k - 1 = m.owners.length := by
          have := w.ow
          omega
        rw [e, List.getElem?_append_right (Nat.le_refl _)]
        simp
  refine ⟨⟨w.sl, w.im, w.pi, by simp [w.ow], w.en, w.ce, w.ma, w.co, w.cr, w.gc, w.gd, w.ex⟩, g.pi, g.ls, g.lc, fun k hk => ?_, g.rest, fun h' => ?_⟩
  · rcases hp k hk with ⟨a, b⟩ | b
    · rw [b]
      exact g.lh k a
    · rw [b]
      exact hl
  · have R := g.run h'
    refine ⟨R.gl, fun v hv => sm (R.ss v hv), fun k hk => ?_, fun q hq => sm (R.sp q hq), fun k hk hc v hv => sm (R.sb k hk hc v hv), fun k hk i v hi hv => sm (R.sf k hk i v hi hv)⟩
    rcases hp k hk with ⟨a, b⟩ | b
    · rw [b]
      exact sm (R.sh k a)
    · rw [b]
      exact sm (hs h')
end Gc

end

section
/-! The operations against the specification. -/
set_option autoImplicit false
namespace Gc
open Vbxlab (Value State HeapObject Exported Imported Cycle Mark Call)

theorem isSlot_eq (i : Int) : Vbxlab.isSlot i = isSlot i := rfl
theorem inRange_field (k : Int) : Vbxlab.inRange k 0 (Vbxlab.MAX_FIELDS - 1) = isField k := rfl
theorem slotValue_eq (m : M) (i : Nat) : Vbxlab.slotValue m.abs i = m.slot i := by
  unfold Vbxlab.slotValue M.slot
  rw [List.getD_eq_getElem?_getD]
  rfl
def Sim (m : M) (c : Call) : Prop := Vbxlab.step m.abs c = ((m.op c).1.abs, (m.op c).2) ∧ Good (m.op c).1

theorem slotObject_eq {m : M} (g : Good m) (i : Int) : Vbxlab.slotObject m.abs i = match m.slot i.toNat with | .object n => some (m.obj n) | _ => none := by
  unfold Vbxlab.slotObject
  rw [slotValue_eq]
  have h := g.slot i.toNat
  cases q : m.slot i.toNat with
  | object n =>
    rw [q] at h
    exact objectAt_of h
  | _ => rfl
theorem sim_set {m : M} (g : Good m) (i n : Int) : Sim m (.setInteger i n) := by
  unfold Sim
  show (if isSlot i = false then Vbxlab.fails m.abs (-1) else (Vbxlab.setSlot m.abs i.toNat (.integer n), [0])) = ((m.opSet i (.integer n)).1.abs, (m.opSet i (.integer n)).2) ∧ Good (m.opSet i (.integer n)).1
  unfold M.opSet
  cases h : isSlot i
  · exact ⟨rfl, g⟩
  · exact ⟨rfl, g.put _ trivial fun _ => not_white_safe fun q => q⟩
theorem sim_clear {m : M} (g : Good m) (i : Int) : Sim m (.clear i) := by
  unfold Sim
  show (if isSlot i = false then Vbxlab.fails m.abs (-1) else (Vbxlab.setSlot m.abs i.toNat .nothing, [0])) = ((m.opSet i .nothing).1.abs, (m.opSet i .nothing).2) ∧ Good (m.opSet i .nothing).1
  unfold M.opSet
  cases h : isSlot i
  · exact ⟨rfl, g⟩
  · exact ⟨rfl, g.put _ trivial fun _ => not_white_safe fun q => q⟩
theorem sim_copy {m : M} (g : Good m) (i j : Int) : Sim m (.copy i j) := by
  unfold Sim
  show (if (isSlot i && isSlot j) = false then Vbxlab.fails m.abs (-1) else (Vbxlab.setSlot m.abs j.toNat (Vbxlab.slotValue m.abs i.toNat), [0])) = ((m.opCopy i j).1.abs, (m.opCopy i j).2) ∧ Good (m.opCopy i j).1
  unfold M.opCopy
  rw [slotValue_eq]
  cases h : isSlot i
  · exact ⟨rfl, g⟩
  · cases h2 : isSlot j
    · exact ⟨rfl, g⟩
    · exact ⟨rfl, g.put _ (g.slot _) fun hr => g.slotSafe hr _⟩
theorem sim_compare {m : M} (g : Good m) (i j : Int) : Sim m (.compare i j) := by
  unfold Sim
  show (if (isSlot i && isSlot j) = false then Vbxlab.fails m.abs (-1) else (m.abs, [if Vbxlab.slotValue m.abs i.toNat = Vbxlab.slotValue m.abs j.toNat then 1 else 0])) = ((m.opCompare i j).1.abs, (m.opCompare i j).2) ∧ Good (m.opCompare i j).1
  unfold M.opCompare
  rw [slotValue_eq, slotValue_eq]
  cases h : isSlot i
  · exact ⟨rfl, g⟩
  · cases h2 : isSlot j
    · exact ⟨rfl, g⟩
    · exact ⟨rfl, g⟩
theorem sim_inspect {m : M} (g : Good m) (i : Int) : Sim m (.inspect i) := by
  unfold Sim
  show (if isSlot i = false then Vbxlab.fails m.abs (-1) else (m.abs, match Vbxlab.slotValue m.abs i.toNat with
    | .nothing => [0]
    | .integer n => [1, n]
    | .object n => [2, (n : Int), ((((Vbxlab.objectAt m.abs n).map fun x => x.fields.length).getD 0 : Nat) : Int)]
    | .foreign r => [3, (r : Int)])) = ((m.opInspect i).1.abs, (m.opInspect i).2) ∧ Good (m.opInspect i).1
  unfold M.opInspect
  rw [slotValue_eq]
  have hs := g.slot i.toNat
  cases h : isSlot i
  · exact ⟨rfl, g⟩
  · refine ⟨?_, g⟩
    rw [if_neg (by decide), if_neg (by decide)]
    cases q : m.slot i.toNat with
    | object n =>
      rw [q] at hs
      dsimp only
      rw [objectAt_of hs]
      rfl
    | _ => rfl

/-! ### handles -/
theorem mem_known {m : M} {h : Nat} : h ∈ m.known ↔ m.state (h : Int) ≠ 0 := by
  unfold M.known
  rw [List.mem_filter, mem_ones]
  constructor
  · rintro ⟨_, b⟩ q
    rw [q] at b
    cases b
  · intro b
    have := state_pos b
    exact ⟨by omega, by simpa using b⟩
theorem handleAt_abs (m : M) (h : Int) : Vbxlab.handleAt m.abs h = if m.state h ≠ 0 then some (m.hand h.toNat) else none := by
  unfold Vbxlab.handleAt
  show (m.known.map m.hand).find? _ = _
  by_cases hp : 0 ≤ h
  · obtain ⟨n, rfl⟩ := Int.eq_ofNat_of_zero_le hp
    have e : (fun (e : Exported) => ((e.handle : Int) == (n : Int))) = fun e => e.handle == n := by
      funext e
      by_cases q : e.handle = n
      · rw [q]
        simp
      · have : ¬ (e.handle : Int) = (n : Int) := by omega
        have a1 : ((e.handle : Int) == (n : Int)) = false := by simpa using this
        have a2 : (e.handle == n) = false := by simpa using q
        rw [a1, a2]
    rw [e, find_map (key := fun (x : Exported) => x.handle) (fun _ => rfl)]
    by_cases q : m.state (n : Int) ≠ 0
    · rw [if_pos q, if_pos (mem_known.mpr q)]
      rfl
    · rw [if_neg q, if_neg fun z => q (mem_known.mp z)]
  · rw [if_neg (fun q => by have := state_pos q; omega), List.find?_eq_none.mpr]
    intro x _
    have : ¬ (x.handle : Int) = h := by omega
    simpa using this
theorem sim_accept {m : M} (g : Good m) (h i : Int) : Sim m (.accept h i) := by
  unfold Sim
  show (if isSlot i = false then Vbxlab.fails m.abs (-1) else (match Vbxlab.handleAt m.abs h with
    | some e => if e.active = true then (Vbxlab.setSlot m.abs i.toNat (.object e.object), [0]) else Vbxlab.fails m.abs (-5)
    | none => Vbxlab.fails m.abs (-5))) = ((m.opAccept h i).1.abs, (m.opAccept h i).2) ∧ Good (m.opAccept h i).1
  unfold M.opAccept
  rw [handleAt_abs]
  cases hi : isSlot i
  · exact ⟨rfl, g⟩
  · rw [if_neg (show ¬ true = false by decide), if_neg (show ¬ (!true) = true by decide)]
    by_cases h0 : m.state h ≠ 0
    · have hp := state_pos h0
      have eh : ((h.toNat : Nat) : Int) = h := by omega
      rw [if_pos h0]
      dsimp only
      have ea : (m.hand h.toNat).active = (m.state h == 2) := by
        unfold M.hand
        rw [eh]
      rw [ea]
      by_cases h2 : m.state h = 2
      · rw [h2, if_pos (show (2 == 2) = true from rfl), if_neg (show ¬ 2 ≠ 2 by decide)]
        have h2' : m.state ((h.toNat : Nat) : Int) = 2 := by rw [eh]; exact h2
        exact ⟨rfl, g.put _ (g.lh _ h2') fun hr => (g.run hr).sh _ h2'⟩
      · rw [if_neg (by simpa using h2), if_pos h2]
        exact ⟨rfl, g⟩
    · have e0 : m.state h = 0 := by omega
      rw [if_neg h0, e0]
      exact ⟨rfl, g⟩
theorem hand_set {m : M} {h s : Nat} (h1 : 1 ≤ h) (h2 : h ≤ m.states.length) (k : Nat) : (m.setState h s).hand k = ⟨k, m.owner k, if k = h then s == 2 else m.state (k : Int) == 2⟩ := by
  unfold M.hand
  rw [state_set h1 h2]
  by_cases e : k = h
  · rw [if_pos e, if_pos (by rw [e])]
    rfl
  · rw [if_neg e, if_neg (by omega)]
    rfl
theorem known_set {m : M} {h s : Nat} (h1 : 1 ≤ h) (h2 : h ≤ m.states.length) (hs : s ≠ 0) (h0 : m.state (h : Int) ≠ 0) : (m.setState h s).known = m.known := by
  unfold M.known
  have : (m.setState h s).states.length = m.states.length := List.length_set
  rw [this]
  refine filter_congr' fun k _ => ?_
  rw [state_set h1 h2]
  by_cases e : (k : Int) = (h : Int)
  · rw [if_pos e, e]
    have a1 : (s != 0) = true := by simpa using hs
    have a2 : (m.state (h : Int) != 0) = true := by simpa using h0
    rw [a1, a2]
  · rw [if_neg e]
theorem abs_setState {m : M} {h s : Nat} (h1 : 1 ≤ h) (h2 : h ≤ m.states.length) (hs : s ≠ 0) (h0 : m.state (h : Int) ≠ 0) :
    (m.setState h s).abs = { m.abs with exported := m.abs.exported.map fun y => if y.handle = h then { y with active := s == 2 } else y } := by
  have e1 : (m.setState h s).known.map (m.setState h s).hand = (m.known.map m.hand).map fun y => if y.handle = h then { y with active := s == 2 } else y := by
    rw [known_set h1 h2 hs h0, List.map_map]
    refine map_congr' fun k _ => ?_
    rw [hand_set h1 h2]
    show _ = if k = h then { m.hand k with active := s == 2 } else m.hand k
    by_cases e : k = h
    · rw [if_pos e, if_pos e]
      rfl
    · rw [if_neg e, if_neg e]
      rfl
  show (⟨m.present.map m.obj, m.slots, (m.setState h s).known.map (m.setState h s).hand, m.allImported.map m.imp, if m.running = true then some ⟨m.colors.length + 1, m.grey, m.examined, m.units⟩ else none, m.ents.length, m.owners.length, m.reports⟩ : State) = _
  rw [e1]
  rfl
theorem sim_retire {m : M} (g : Good m) (h : Int) : Sim m (.retire h) := by
  unfold Sim
  show (match Vbxlab.handleAt m.abs h with
    | some e => if e.active = true then ({ m.abs with exported := m.abs.exported.map fun y => if y.handle = e.handle then { y with active := false } else y }, [0]) else Vbxlab.fails m.abs (-5)
    | none => Vbxlab.fails m.abs (-5)) = ((m.opRetire h).1.abs, (m.opRetire h).2) ∧ Good (m.opRetire h).1
  unfold M.opRetire
  rw [handleAt_abs]
  by_cases h0 : m.state h ≠ 0
  · have hp := state_pos h0
    have eh : ((h.toNat : Nat) : Int) = h := by omega
    rw [if_pos h0]
    dsimp only
    have ea : (m.hand h.toNat).active = (m.state h == 2) := by
      unfold M.hand
      rw [eh]
    rw [ea]
    by_cases h2 : m.state h = 2
    · rw [if_pos (by rw [h2]; rfl), if_neg (by rw [h2]; decide), abs_setState (by omega) (by omega) (by decide) (by rw [eh]; exact h0)]
      exact ⟨rfl, g.setState (by omega) (by omega) fun q => (nomatch q)⟩
    · rw [if_neg (by simpa using h2), if_pos h2]
      exact ⟨rfl, g⟩
  · have e0 : m.state h = 0 := by omega
    rw [if_neg h0, e0]
    exact ⟨rfl, g⟩
theorem sim_withdraw {m : M} (g : Good m) (h : Int) : Sim m (.withdraw h) := by
  unfold Sim
  show (match Vbxlab.handleAt m.abs h with
    | some e => ({ m.abs with exported := m.abs.exported.filter fun y => y.handle != e.handle }, [0])
    | none => Vbxlab.fails m.abs (-5)) = ((m.opWithdraw h).1.abs, (m.opWithdraw h).2) ∧ Good (m.opWithdraw h).1
  unfold M.opWithdraw
  rw [handleAt_abs]
  by_cases h0 : m.state h ≠ 0
  · have hp := state_pos h0
    have eh : ((h.toNat : Nat) : Int) = h := by omega
    rw [if_pos h0, if_neg h0]
    dsimp only
    refine ⟨?_, g.setState (by omega) (by omega) fun q => (nomatch q)⟩
    have hh1 : 1 ≤ h.toNat := by omega
    have hh2 : h.toNat ≤ m.states.length := by omega
    have e1 : (m.setState h.toNat 0).known.map (m.setState h.toNat 0).hand = (m.known.map m.hand).filter fun y => y.handle != h.toNat := by
      rw [filter_map_comm]
      have ek : (m.setState h.toNat 0).known = m.known.filter fun a => a != h.toNat := by
        unfold M.known
        have : (m.setState h.toNat 0).states.length = m.states.length := List.length_set
        rw [this, List.filter_filter]
        refine filter_congr' fun k _ => ?_
        rw [state_set hh1 hh2]
        by_cases e : k = h.toNat
        · rw [if_pos (by omega), e]
          simp
        · rw [if_neg (by omega)]
          have : (k != h.toNat) = true := by simpa using e
          rw [this]
          rfl
      rw [ek]
      refine map_congr' fun k hk => ?_
      have e : ¬ k = h.toNat := by
        have := (List.mem_filter.mp hk).2
        simpa using this
      rw [hand_set hh1 hh2, if_neg e]
      rfl
    show ((⟨m.present.map m.obj, m.slots, (m.known.map m.hand).filter fun y => y.handle != h.toNat, m.allImported.map m.imp, if m.running = true then some ⟨m.colors.length + 1, m.grey, m.examined, m.units⟩ else none, m.ents.length, m.owners.length, m.reports⟩ : State), _) = _
    rw [← e1]
    rfl
  · have e0 : m.state h = 0 := by omega
    rw [if_neg h0, if_pos e0]
    exact ⟨rfl, g⟩
theorem handleOf_pos {m : M} (g : Good m) {n : Nat} (h : m.handleOf n ≠ 0) : 1 ≤ m.handleOf n ∧ m.handleOf n ≤ m.states.length ∧ m.state (m.handleOf n : Int) ≠ 0 ∧ m.owner (m.handleOf n) = n := by
  unfold M.handleOf at h ⊢
  cases q : (ones m.owners.length).find? fun (h : Nat) => m.state (h : Int) != 0 && m.owner h == n with
  | none =>
    rw [q] at h
    exact absurd rfl h
  | some k =>
    have a := mem_ones.mp (List.mem_of_find?_eq_some q)
    have b := List.find?_some q
    simp only [Bool.and_eq_true, bne_iff_ne, ne_eq, beq_iff_eq] at b
    show 1 ≤ k ∧ k ≤ m.states.length ∧ m.state (k : Int) ≠ 0 ∧ m.owner k = n
    exact ⟨a.1, by rw [← g.wf.ow]; exact a.2, b.1, b.2⟩
theorem find_owner {m : M} (g : Good m) (n : Nat) : (m.known.map m.hand).find? (fun e => e.object == n) = if m.handleOf n = 0 then none else some (m.hand (m.handleOf n)) := by
  have e1 : (m.known.map m.hand).find? (fun e => e.object == n) = ((ones m.owners.length).find? fun (h : Nat) => m.state (h : Int) != 0 && m.owner h == n).map m.hand := by
    rw [List.find?_map]
    unfold M.known
    rw [List.find?_filter, g.wf.ow]
    congr 2
    funext h
    show decide ((m.state (h : Int) != 0) = true ∧ (m.owner h == n) = true) = _
    cases m.state (h : Int) != 0 <;> cases m.owner h == n <;> rfl
  rw [e1]
  unfold M.handleOf
  cases q : (ones m.owners.length).find? fun (h : Nat) => m.state (h : Int) != 0 && m.owner h == n with
  | none => rfl
  | some k =>
    have a := mem_ones.mp (List.mem_of_find?_eq_some q)
    show some (m.hand k) = if k = 0 then none else some (m.hand k)
    rw [if_neg (by omega)]
theorem abs_newHandle {m : M} (g : Good m) (n : Nat) : M.abs { m with owners := m.owners ++ [n], states := m.states ++ [2] } = { m.abs with exported := m.abs.exported ++ [⟨m.abs.handles + 1, n, true⟩], handles := m.abs.handles + 1 } := by
  have w := g.wf
  have hst : ∀ k : Nat, k ≤ m.states.length → M.state { m with owners := m.owners ++ [n], states := m.states ++ [2] } (k : Int) = m.state (k : Int) := fun k hk => by
    unfold M.state
    dsimp only
    rw [List.length_append, List.length_singleton]
    by_cases q : (k : Int) < 1
    · rw [if_pos (.inl q), if_pos (.inl q)]
    · rw [if_neg (by omega), if_neg (by omega), List.getElem?_append_left (by omega)]
  have hst2 : M.state { m with owners := m.owners ++ [n], states := m.states ++ [2] } ((m.states.length + 1 : Nat) : Int) = 2 := by
    unfold M.state
    dsimp only
    rw [List.length_append, List.length_singleton, if_neg (by omega)]
    show ((m.states ++ [2])[m.states.length + 1 - 1]?).getD 0 = 2
    rw [Nat.add_sub_cancel, List.getElem?_append_right (Nat.le_refl _)]
    simp
  have ek : M.known { m with owners := m.owners ++ [n], states := m.states ++ [2] } = m.known ++ [m.states.length + 1] := by
    unfold M.known
    have e1 : (M.states { m with owners := m.owners ++ [n], states := m.states ++ [2] }).length = m.states.length + 1 := by
      show (m.states ++ [2]).length = _
      simp
    rw [e1, ones_succ, List.filter_append]
    congr 1
    · refine filter_congr' fun k hk => ?_
      rw [hst k (mem_ones.mp hk).2]
    · rw [List.filter_cons, hst2]
      rfl
  have eh : (M.known { m with owners := m.owners ++ [n], states := m.states ++ [2] }).map (M.hand { m with owners := m.owners ++ [n], states := m.states ++ [2] }) = m.known.map m.hand ++ [⟨m.owners.length + 1, n, true⟩] := by
    rw [ek, List.map_append]
    congr 1
    · refine map_congr' fun k hk => ?_
      have hk0 := mem_known.mp hk
      have hp := state_pos hk0
      unfold M.hand
      rw [hst k (by omega)]
      congr 1
      unfold M.owner
      dsimp only
      rw [List.getElem?_append_left (by rw [w.ow]; omega)]
    · show [M.hand { m with owners := m.owners ++ [n], states := m.states ++ [2] } (m.states.length + 1)] = _
      unfold M.hand
      rw [hst2]
      unfold M.owner
      dsimp only
      rw [Nat.add_sub_cancel, ← w.ow, List.getElem?_append_right (Nat.le_refl _)]
      simp
  show (⟨m.present.map m.obj, m.slots, (M.known { m with owners := m.owners ++ [n], states := m.states ++ [2] }).map (M.hand { m with owners := m.owners ++ [n], states := m.states ++ [2] }), m.allImported.map m.imp, if m.running = true then some ⟨m.colors.length + 1, m.grey, m.examined, m.units⟩ else none, m.ents.length, (m.owners ++ [n]).length, m.reports⟩ : State) = _
  rw [eh, List.length_append, List.length_singleton]
  rfl
theorem sim_handle {m : M} (g : Good m) (i : Int) : Sim m (.exportObject i) := by
  unfold Sim
  show (if isSlot i = false then Vbxlab.fails m.abs (-1) else (match Vbxlab.slotObject m.abs i with
    | none => Vbxlab.fails m.abs (-3)
    | some x => match m.abs.exported.find? fun e => e.object == x.number with
      | some e => ({ m.abs with exported := m.abs.exported.map fun y => if y.handle = e.handle then { y with active := true } else y }, [(e.handle : Int)])
      | none => ({ m.abs with exported := m.abs.exported ++ [⟨m.abs.handles + 1, x.number, true⟩], handles := m.abs.handles + 1 }, [((m.abs.handles + 1 : Nat) : Int)]))) = ((m.opExport i).1.abs, (m.opExport i).2) ∧ Good (m.opExport i).1
  unfold M.opExport
  rw [slotObject_eq g]
  have hs := g.slot i.toNat
  have hsafe := fun hr => g.slotSafe hr i.toNat
  cases hi : isSlot i
  · exact ⟨rfl, g⟩
  · rw [if_neg (show ¬ true = false by decide), if_neg (show ¬ (!true) = true by decide)]
    cases q : m.slot i.toNat with
    | object n =>
      rw [q] at hs hsafe
      dsimp only
      have e1 : m.abs.exported.find? (fun e => e.object == (m.obj n).number) = _ := find_owner g n
      rw [e1]
      unfold M.export
      by_cases h0 : m.handleOf n = 0
      · rw [if_pos h0, if_pos h0]
        dsimp only
        exact ⟨by rw [abs_newHandle g]; rfl, g.newHandle hs hsafe⟩
      · rw [if_neg h0, if_neg h0]
        dsimp only
        obtain ⟨p1, p2, p3, p4⟩ := handleOf_pos g h0
        refine ⟨?_, g.setState p1 p2 fun _ => ?_⟩
        · rw [abs_setState p1 p2 (by decide) p3]
          rfl
        · rw [p4]
          exact ⟨hs, hsafe⟩
    | _ => exact ⟨rfl, g⟩
end Gc

end

section
/-! The operations against the specification, second part. -/
set_option autoImplicit false
namespace Gc
open Vbxlab (Value State HeapObject Exported Imported Cycle Mark Call)

/-! ### create -/
theorem create_ent (m : M) (size code k : Nat) (hk : 1 ≤ k) : (m.create size code).ent k = if k = m.ents.length + 1 then ⟨List.replicate size .nothing, code, true⟩ else m.ent k := by
  unfold M.ent M.create
  dsimp only
  by_cases h : k = m.ents.length + 1
  · rw [if_pos h, h, Nat.add_sub_cancel, List.getElem?_append_right (Nat.le_refl _)]
    simp
  · rw [if_neg h]
    by_cases q : k ≤ m.ents.length
    · rw [List.getElem?_append_left (by omega)]
    · rw [List.getElem?_eq_none (by rw [List.length_append, List.length_singleton]; omega), List.getElem?_eq_none (by omega)]
theorem create_live {m : M} {size code : Nat} {v : Value} (h : m.Live v) : (m.create size code).Live v := by
  cases v with
  | object n =>
    refine ⟨h.1, ?_⟩
    unfold M.there
    rw [create_ent _ _ _ _ h.1]
    split
    · rfl
    · exact h.2
  | foreign r => exact h
  | _ => trivial
theorem Good.create {m : M} (g : Good m) {size code : Nat} (hs : size ≤ 4) (hl : m.ents.length < 60) : Good (m.create size code) := by
  have w := g.wf
  have sm : ∀ {v}, Safe m v → Safe (m.create size code) v := fun h => by
    refine safe_congr (m := m) (m' := m.create size code) rfl rfl (fun n hn h1 => ?_) (fun _ => rfl) (fun _ => rfl) (fun n hn => (w.gr1 hn).1) h
    have hle : n ≤ m.colors.length := hn.elim (fun q => (w.gr1 q).2.1) fun q => color_old (by omega)
    have := w.co
    unfold M.cells
    rw [create_ent _ _ _ _ h1, if_neg (by omega)]
  have hcells : ∀ n, (m.create size code).Live (.object n) → (n = m.ents.length + 1 ∧ (m.create size code).cells n = List.replicate size .nothing) ∨ (m.Live (.object n) ∧ (m.create size code).cells n = m.cells n) := fun n hn => by
    have h2 : (m.create size code).there n = true := hn.2
    unfold M.there at h2
    unfold M.cells
    rw [create_ent _ _ _ _ hn.1] at h2 ⊢
    by_cases q : n = m.ents.length + 1
    · rw [if_pos q]
      exact .inl ⟨q, rfl⟩
    · rw [if_neg q] at h2 ⊢
      exact .inr ⟨⟨hn.1, h2⟩, rfl⟩
  refine ⟨⟨w.sl, w.im, w.pi, w.ow, ?_, fun e he => ?_, w.ma, ?_, w.cr, w.gc, w.gd, ?_⟩, g.pi, fun v hv => create_live (g.ls v hv), fun n hn v hv => ?_, fun h hh => create_live (g.lh h hh), g.rest, fun h => ?_⟩
  · show (m.ents ++ _).length ≤ 60
    rw [List.length_append, List.length_singleton]
    omega
  · rcases List.mem_append.mp (show e ∈ m.ents ++ _ from he) with q | q
    · exact w.ce e q
    · have : e = ⟨List.replicate size .nothing, code, true⟩ := by simpa using q
      rw [this]
      show (List.replicate size Value.nothing).length ≤ 4
      rw [List.length_replicate]
      exact hs
  · show m.colors.length ≤ (m.ents ++ _).length
    rw [List.length_append]
    have := w.co
    omega
  · rcases w.ex with q | ⟨k, r, q, z⟩
    · exact .inl q
    · refine .inr ⟨k, r, q, ?_⟩
      have hk := w.gr1 (n := k) (by rw [q]; exact List.mem_cons_self)
      have := w.co
      unfold M.cells
      rw [create_ent _ _ _ _ hk.1, if_neg (by omega)]
      exact z
  · rcases hcells n hn with ⟨_, e⟩ | ⟨hl, e⟩
    · rw [e] at hv
      have := List.eq_of_mem_replicate hv
      rw [this]
      trivial
    · rw [e] at hv
      exact create_live (g.lc n hl v hv)
  · have R := g.run h
    refine ⟨fun n hn => ?_, fun v hv => sm (R.ss v hv), fun h hh => sm (R.sh h hh), fun q hq => sm (R.sp q hq), fun n hn hc v hv => ?_, fun n hn i v hi hv => ?_⟩
    · exact (create_live (m := m) (v := .object n) ⟨(w.gr1 hn).1, R.gl n hn⟩).2
    · rcases hcells n hn with ⟨_, e⟩ | ⟨hl, e⟩
      · rw [e] at hv
        have := List.eq_of_mem_replicate hv
        rw [this]
        exact not_white_safe fun q => q
      · rw [e] at hv
        exact sm (R.sb n hl hc v hv)
    · have hk := w.gr1 (first_mem (show m.grey[0]? = some n from hn))
      have := w.co
      have e : (m.create size code).cells n = m.cells n := by
        unfold M.cells
        rw [create_ent _ _ _ _ hk.1, if_neg (by omega)]
      rw [e] at hv
      exact sm (R.sf n hn i v hi hv)
theorem abs_create {m : M} (g : Good m) (size code : Nat) :
    (m.create size code).abs = { m.abs with objects := m.abs.objects ++ [⟨m.abs.created + 1, List.replicate size .nothing, code, if m.abs.cycle.isSome = true then Mark.black else Mark.white⟩], created := m.abs.created + 1 } := by
  have w := g.wf
  have e0 : (m.create size code).ents.length = m.ents.length + 1 := by
    show (m.ents ++ _).length = _
    simp
  have e1 : (m.create size code).present = m.present ++ [m.ents.length + 1] := by
    unfold M.present
    rw [e0, ones_succ, List.filter_append]
    congr 1
    · refine filter_congr' fun k hk => ?_
      have := mem_ones.mp hk
      unfold M.there
      rw [create_ent _ _ _ _ this.1, if_neg (by omega)]
    · rw [List.filter_cons]
      have : (m.create size code).there (m.ents.length + 1) = true := by
        unfold M.there
        rw [create_ent _ _ _ _ (by omega), if_pos rfl]
      rw [this]
      rfl
  have e2 : (m.create size code).present.map (m.create size code).obj = m.present.map m.obj ++ [⟨m.ents.length + 1, List.replicate size .nothing, code, if m.abs.cycle.isSome = true then Mark.black else Mark.white⟩] := by
    rw [e1, List.map_append]
    congr 1
    · refine map_congr' fun k hk => ?_
      have hp := mem_present.mp hk
      have := there_len hp.2
      refine obj_congr ?_ ?_ rfl
      · unfold M.cells
        rw [create_ent _ _ _ _ hp.1, if_neg (by omega)]
      · rw [create_ent _ _ _ _ hp.1, if_neg (by omega)]
    · show [(m.create size code).obj (m.ents.length + 1)] = _
      unfold M.obj M.cells
      rw [create_ent _ _ _ _ (by omega), if_pos rfl, abs_running]
      have : (m.create size code).mkOf (m.ents.length + 1) = if m.running = true then Mark.black else Mark.white := by
        cases hr : m.running with
        | false =>
          unfold M.mkOf
          rw [if_neg (by rw [show (m.create size code).running = m.running from rfl, hr]; decide)]
          rfl
        | true =>
          rw [mkOf_run (m := m.create size code) hr]
          have hc : (m.create size code).color (m.ents.length + 1) = 2 := by
            show m.color (m.ents.length + 1) = 2
            unfold M.color
            have := w.co
            rw [if_neg (by omega)]
          rw [hc]
          rfl
      rw [this]
  show (⟨(m.create size code).present.map (m.create size code).obj, m.slots, m.known.map m.hand, m.allImported.map m.imp, if m.running = true then some ⟨m.colors.length + 1, m.grey, m.examined, m.units⟩ else none, (m.create size code).ents.length, m.owners.length, m.reports⟩ : State) = _
  rw [e2, e0]
  rfl
theorem sim_create {m : M} (g : Good m) (i n c : Int) : Sim m (.create i n c) := by
  unfold Sim
  show (if (isSlot i && (between n 0 4 && between c 0 1000000000)) = false then Vbxlab.fails m.abs (-1) else if 60 ≤ m.abs.created then Vbxlab.fails m.abs (-2) else
      (Vbxlab.setSlot { m.abs with objects := m.abs.objects ++ [⟨m.abs.created + 1, List.replicate n.toNat .nothing, c.toNat, if m.abs.cycle.isSome = true then Mark.black else Mark.white⟩], created := m.abs.created + 1 } i.toNat (.object (m.abs.created + 1)), [((m.abs.created + 1 : Nat) : Int)])) = ((m.opCreate i n c).1.abs, (m.opCreate i n c).2) ∧ Good (m.opCreate i n c).1
  unfold M.opCreate
  rw [← abs_create g]
  cases h : isSlot i
  · exact ⟨rfl, g⟩
  cases h2 : between n 0 4
  · exact ⟨rfl, g⟩
  cases h3 : between c 0 1000000000
  · exact ⟨rfl, g⟩
  rw [if_neg (show ¬ (true && (true && true)) = false by decide), if_neg (show ¬ (!true || (!true || !true)) = true by decide)]
  by_cases hl : 60 ≤ m.ents.length
  · rw [if_pos hl, if_pos (show 60 ≤ m.abs.created from hl)]
    exact ⟨rfl, g⟩
  · rw [if_neg hl, if_neg (show ¬ 60 ≤ m.abs.created from hl)]
    have hn : n.toNat ≤ 4 := by
      unfold between at h2
      rw [Bool.and_eq_true, decide_eq_true_eq, decide_eq_true_eq] at h2
      omega
    refine ⟨rfl, (g.create hn (by omega)).put _ ⟨by omega, ?_⟩ fun _ => not_white_safe fun q => ?_⟩
    · unfold M.there
      rw [create_ent _ _ _ _ (by omega), if_pos rfl]
    · have q' : m.color (m.ents.length + 1) = 0 := q
      unfold M.color at q'
      have := g.wf.co
      rw [if_neg (by omega)] at q'
      cases q'

/-! ### read, write -/
theorem field_iff {k : Int} (h : isField k = true) : 0 ≤ k := by
  unfold isField between at h
  rw [Bool.and_eq_true, decide_eq_true_eq, decide_eq_true_eq] at h
  exact h.1
theorem fieldError_object {m : M} {i k : Int} {n : Nat} (q : m.slot i.toNat = .object n) : m.fieldError i k = if ((m.cells n).length : Int) ≤ k then -4 else 0 := by
  unfold M.fieldError
  rw [q]
theorem sim_read {m : M} (g : Good m) (i k j : Int) : Sim m (.read i k j) := by
  unfold Sim
  show (if (isSlot i && (isField k && isSlot j)) = false then Vbxlab.fails m.abs (-1) else (match Vbxlab.slotObject m.abs i with
    | none => Vbxlab.fails m.abs (-3)
    | some x => match x.fields[k.toNat]? with
      | none => Vbxlab.fails m.abs (-4)
      | some v => (Vbxlab.setSlot m.abs j.toNat v, [0]))) = ((m.opRead i k j).1.abs, (m.opRead i k j).2) ∧ Good (m.opRead i k j).1
  unfold M.opRead
  rw [slotObject_eq g]
  have hs := g.slot i.toNat
  have hsafe := fun hr => g.slotSafe hr i.toNat
  cases h : isSlot i
  · exact ⟨rfl, g⟩
  cases h2 : isField k
  · exact ⟨rfl, g⟩
  cases h3 : isSlot j
  · exact ⟨rfl, g⟩
  rw [if_neg (show ¬ (true && (true && true)) = false by decide), if_neg (show ¬ (!true || (!true || !true)) = true by decide)]
  have hk := field_iff h2
  cases q : m.slot i.toNat with
  | object n =>
    rw [q] at hs hsafe
    rw [fieldError_object q]
    show (match (m.cells n)[k.toNat]? with
      | none => Vbxlab.fails m.abs (-4)
      | some v => (Vbxlab.setSlot m.abs j.toNat v, [0])) = _ ∧ _
    cases z : (m.cells n)[k.toNat]? with
    | none =>
      have := List.getElem?_eq_none_iff.mp z
      rw [if_pos (show ((m.cells n).length : Int) ≤ k by omega), if_pos (by decide)]
      exact ⟨rfl, g⟩
    | some v =>
      have := (List.getElem?_eq_some_iff.mp z).1
      rw [if_neg (show ¬ ((m.cells n).length : Int) ≤ k by omega), if_neg (by decide)]
      have ev : ((m.cells (num (.object n)))[k.toNat]?).getD .nothing = v := by
        show ((m.cells n)[k.toNat]?).getD .nothing = v
        rw [z]
        rfl
      rw [ev]
      have hvm := List.mem_of_getElem? z
      refine ⟨rfl, g.put _ (g.lc n hs v hvm) fun hr => ?_⟩
      have R := g.run hr
      have w := g.wf
      have hc := color_le w n
      by_cases c2 : m.color n = 2
      · exact R.sb n hs c2 v hvm
      · by_cases c1 : m.color n = 1
        · have hg : n ∈ m.grey := (w.gc n).mpr ⟨hs.1, color_old c2, c1⟩
          by_cases hf : m.grey[0]? = some n ∧ k.toNat < m.examined
          · exact R.sf n hf.1 _ v hf.2 z
          · exact fun _ => .base n k.toNat v hg (fun e => by
              have : ¬ k.toNat < m.examined := fun y => hf ⟨e, y⟩
              omega) z
        · have c0 : m.color n = 0 := by omega
          exact fun _ => .step n v hs.1 (hsafe hr c0) c0 hvm
  | _ =>
    have e : m.fieldError i k = -3 := by
      unfold M.fieldError
      rw [q]
    rw [e, if_pos (by decide)]
    exact ⟨rfl, g⟩
theorem setCell_ent {m : M} {n k : Nat} {v : Value} {a : Nat} (hn : m.Live (.object n)) (ha : 1 ≤ a) : (m.setCell n k v).ent a = if a = n then { m.ent n with cells := (m.cells n).set k v } else m.ent a :=
  ent_set hn.1 ha (there_len hn.2)
theorem setCell_cells {m : M} {n k : Nat} {v : Value} {a : Nat} (hn : m.Live (.object n)) (ha : 1 ≤ a) : (m.setCell n k v).cells a = if a = n then (m.cells n).set k v else m.cells a := by
  unfold M.cells
  rw [setCell_ent hn ha]
  by_cases q : a = n
  · rw [if_pos q, if_pos q]
    rfl
  · rw [if_neg q, if_neg q]
theorem setCell_there {m : M} {n k : Nat} {v : Value} {a : Nat} (hn : m.Live (.object n)) (ha : 1 ≤ a) : (m.setCell n k v).there a = m.there a := by
  unfold M.there
  rw [setCell_ent hn ha]
  by_cases q : a = n
  · rw [if_pos q, q]
  · rw [if_neg q]
theorem setCell_live {m : M} {n k : Nat} {v u : Value} (hn : m.Live (.object n)) : (m.setCell n k v).Live u ↔ m.Live u := by
  cases u with
  | object a =>
    constructor
    · intro h
      exact ⟨h.1, by rw [← setCell_there (k := k) (v := v) hn h.1]; exact h.2⟩
    · intro h
      exact ⟨h.1, by rw [setCell_there hn h.1]; exact h.2⟩
  | _ => exact Iff.rfl
theorem abs_setCell {m : M} {n k : Nat} {v : Value} (hn : m.Live (.object n)) : (m.setCell n k v).abs = Vbxlab.replaceObject m.abs n fun y => { y with fields := y.fields.set k v } := by
  have e0 : (m.setCell n k v).ents.length = m.ents.length := List.length_set
  have e1 : (m.setCell n k v).present = m.present := by
    unfold M.present
    rw [e0]
    exact filter_congr' fun a ha => setCell_there hn (mem_ones.mp ha).1
  have e2 : (m.setCell n k v).present.map (m.setCell n k v).obj = (m.present.map m.obj).map fun x => if x.number = n then { x with fields := x.fields.set k v } else x := by
    rw [e1, List.map_map]
    refine map_congr' fun a ha => ?_
    have h1 := (mem_present.mp ha).1
    show (⟨a, (m.setCell n k v).cells a, ((m.setCell n k v).ent a).code, m.mkOf a⟩ : HeapObject) = if a = n then { m.obj a with fields := (m.cells a).set k v } else m.obj a
    rw [setCell_cells hn h1, setCell_ent hn h1]
    by_cases q : a = n
    · rw [if_pos q, if_pos q, if_pos q, q]
      rfl
    · rw [if_neg q, if_neg q, if_neg q]
      rfl
  show (⟨(m.setCell n k v).present.map (m.setCell n k v).obj, m.slots, m.known.map m.hand, m.allImported.map m.imp, if m.running = true then some ⟨m.colors.length + 1, m.grey, m.examined, m.units⟩ else none, (m.setCell n k v).ents.length, m.owners.length, m.reports⟩ : State) = _
  rw [e2, e0]
  rfl
theorem Good.setCell {m : M} (g : Good m) {n k : Nat} {v old : Value} (hn : m.Live (.object n)) (hold : (m.cells n)[k]? = some old) (hv : m.Live v) (hs : m.running = true → Safe m v) (ho : m.running = true → n ≤ m.colors.length → ¬ m.White old) : Good (m.setCell n k v) := by
  have w := g.wf
  have hk := (List.getElem?_eq_some_iff.mp hold).1
  have sm : m.running = true → ∀ {u}, Safe m u → Safe (m.setCell n k v) u := by
    intro hr u h hw
    have hw' : m.White u := by cases u <;> exact hw
    have p := h hw'
    clear h
    induction p with
    | base a i u ha b c =>
      have ha1 := w.gr1 ha
      by_cases e : a = n ∧ i = k
      · rw [e.1, e.2, hold] at c
        cases c
        exact absurd hw' (ho hr (by rw [← e.1]; exact ha1.2.1))
      · refine .base a i u ha b ?_
        rw [setCell_cells hn ha1.1]
        by_cases q : a = n
        · rw [if_pos q, List.getElem?_set_ne (fun z => e ⟨q, z.symm⟩), ← q]
          exact c
        · rw [if_neg q]
          exact c
    | step a u ha _ c d ih =>
      obtain ⟨i, hi⟩ := List.getElem?_of_mem d
      by_cases e : a = n ∧ i = k
      · rw [e.1, e.2, hold] at hi
        cases hi
        exact absurd hw' (ho hr (by rw [← e.1]; exact color_old (by omega)))
      · refine .step a u ha (ih c c) c ?_
        rw [setCell_cells hn ha]
        by_cases q : a = n
        · rw [if_pos q]
          refine List.mem_of_getElem? (i := i) ?_
          rw [List.getElem?_set_ne (fun z => e ⟨q, z.symm⟩), ← q]
          exact hi
        · rw [if_neg q]
          exact d
  have hcl : ∀ a, 1 ≤ a → ∀ u ∈ (m.setCell n k v).cells a, u ∈ m.cells a ∨ u = v := fun a ha u hu => by
    rw [setCell_cells hn ha] at hu
    by_cases q : a = n
    · rw [if_pos q] at hu
      rcases List.mem_or_eq_of_mem_set hu with z | z
      · rw [q]
        exact .inl z
      · exact .inr z
    · rw [if_neg q] at hu
      exact .inl hu
  refine ⟨⟨w.sl, w.im, w.pi, w.ow, Nat.le_trans (Nat.le_of_eq List.length_set) w.en, fun e he => ?_, w.ma, Nat.le_trans w.co (Nat.le_of_eq List.length_set.symm), w.cr, w.gc, w.gd, ?_⟩, g.pi, fun u hu => (setCell_live hn).mpr (g.ls u hu), fun a ha u hu => ?_, fun h hh => (setCell_live hn).mpr (g.lh h hh), g.rest, fun h => ?_⟩
  · rcases List.mem_or_eq_of_mem_set he with q | q
    · exact w.ce e q
    · rw [q]
      show ((m.cells n).set k v).length ≤ 4
      rw [List.length_set]
      exact cells_le w n
  · rcases w.ex with q | ⟨a, r, q, z⟩
    · exact .inl q
    · refine .inr ⟨a, r, q, ?_⟩
      have ha := w.gr1 (n := a) (by rw [q]; exact List.mem_cons_self)
      rw [setCell_cells hn ha.1]
      split
      · rename_i e
        rw [List.length_set, ← e]
        exact z
      · exact z
  · have hl := (setCell_live (k := k) (v := v) hn).mp ha
    refine (setCell_live hn).mpr ?_
    rcases hcl a hl.1 u hu with z | z
    · exact g.lc a hl u z
    · rw [z]
      exact hv
  · have R := g.run h
    refine ⟨fun a ha => ?_, fun u hu => sm h (R.ss u hu), fun h' hh => sm h (R.sh h' hh), fun q hq => sm h (R.sp q hq), fun a ha hc u hu => ?_, fun a ha i u hi hu => ?_⟩
    · rw [setCell_there hn (w.gr1 ha).1]
      exact R.gl a ha
    · have hl := (setCell_live (k := k) (v := v) hn).mp ha
      rcases hcl a hl.1 u hu with z | z
      · exact sm h (R.sb a hl hc u z)
      · rw [z]
        exact sm h (hs h)
    · have ha1 := (w.gr1 (first_mem (show m.grey[0]? = some a from ha))).1
      rw [setCell_cells hn ha1] at hu
      by_cases q : a = n
      · rw [if_pos q] at hu
        by_cases e : i = k
        · rw [e, List.getElem?_set_self hk] at hu
          cases hu
          exact sm h (hs h)
        · rw [List.getElem?_set_ne (Ne.symm e), ← q] at hu
          exact sm h (R.sf a ha i u hi hu)
      · rw [if_neg q] at hu
        exact sm h (R.sf a ha i u hi hu)
theorem mark_old {m : M} {v : Value} (h : m.Ok v) : ¬ (m.mark v).White v := mark_not_white h
theorem sim_write {m : M} (g : Good m) (i k j : Int) : Sim m (.write i k j) := by
  unfold Sim
  show (if (isSlot i && (isField k && isSlot j)) = false then Vbxlab.fails m.abs (-1) else (match Vbxlab.slotObject m.abs i with
    | none => Vbxlab.fails m.abs (-3)
    | some x => match x.fields[k.toNat]? with
      | none => Vbxlab.fails m.abs (-4)
      | some old =>
        (Vbxlab.replaceObject (if m.abs.cycle.any (fun (c : Cycle) => decide (x.number < c.firstNew)) = true then Vbxlab.markValue m.abs old else m.abs) x.number (fun y => { y with fields := y.fields.set k.toNat (Vbxlab.slotValue m.abs j.toNat) }), [0]))) = ((m.opWrite i k j).1.abs, (m.opWrite i k j).2) ∧ Good (m.opWrite i k j).1
  unfold M.opWrite
  rw [slotObject_eq g, slotValue_eq]
  have hs := g.slot i.toNat
  cases h : isSlot i
  · exact ⟨rfl, g⟩
  cases h2 : isField k
  · exact ⟨rfl, g⟩
  cases h3 : isSlot j
  · exact ⟨rfl, g⟩
  rw [if_neg (show ¬ (true && (true && true)) = false by decide), if_neg (show ¬ (!true || (!true || !true)) = true by decide)]
  have hk := field_iff h2
  cases q : m.slot i.toNat with
  | object n =>
    rw [q] at hs
    rw [fieldError_object q]
    show (match (m.cells n)[k.toNat]? with
      | none => Vbxlab.fails m.abs (-4)
      | some old => (Vbxlab.replaceObject (if m.abs.cycle.any (fun (c : Cycle) => decide (n < c.firstNew)) = true then Vbxlab.markValue m.abs old else m.abs) n (fun y => { y with fields := y.fields.set k.toNat (m.slot j.toNat) }), [0])) = _ ∧ _
    cases z : (m.cells n)[k.toNat]? with
    | none =>
      have := List.getElem?_eq_none_iff.mp z
      rw [if_pos (show ((m.cells n).length : Int) ≤ k by omega), if_pos (by decide)]
      exact ⟨rfl, g⟩
    | some old =>
      have := (List.getElem?_eq_some_iff.mp z).1
      rw [if_neg (show ¬ ((m.cells n).length : Int) ≤ k by omega), if_neg (by decide)]
      have hol : m.Live old := g.lc n hs old (List.mem_of_getElem? z)
      have eg : m.guard (num (.object n)) k.toNat = if (m.running && m.isOld n) = true then m.mark old else m := by
        show m.guard n k.toNat = _
        unfold M.guard
        rw [z]
        rfl
      rw [eg]
      show (Vbxlab.replaceObject (if m.abs.cycle.any (fun (c : Cycle) => decide (n < c.firstNew)) = true then Vbxlab.markValue m.abs old else m.abs) n (fun y => { y with fields := y.fields.set k.toNat (m.slot j.toNat) }), [0]) = ((M.setCell (if (m.running && m.isOld n) = true then m.mark old else m) n k.toNat (m.slot j.toNat)).abs, [0]) ∧ Good (M.setCell (if (m.running && m.isOld n) = true then m.mark old else m) n k.toNat (m.slot j.toNat))
      have ec : m.abs.cycle.any (fun (c : Cycle) => decide (n < c.firstNew)) = (m.running && m.isOld n) := by
        cases hr : m.running with
        | false =>
          rw [abs_stopped hr]
          rfl
        | true =>
          rw [abs_cycle hr]
          show decide (n < m.colors.length + 1) = decide (n ≤ m.colors.length)
          exact decide_eq_decide.mpr ⟨fun y => by omega, fun y => by omega⟩
      rw [ec]
      by_cases hb : (m.running && m.isOld n) = true
      · rw [if_pos hb, if_pos hb]
        have hr : m.running = true := (Bool.and_eq_true _ _ ▸ hb).1
        have g1 := g.mark hr hol
        have hn1 : (m.mark old).Live (.object n) := (mark_live _ _ _).mpr hs
        rw [abs_mark (g.wf.ma hr) hr hol, ← abs_setCell hn1]
        refine ⟨rfl, g1.setCell (old := old) hn1 (by rw [mark_cells]; exact z) ((mark_live _ _ _).mpr (g.slot _)) (fun _ => ?_) fun _ _ => mark_not_white (Good.ok g.wf hr hol)⟩
        exact safe_mark g.wf (Good.ok g.wf hr hol) (g.slotSafe hr _)
      · rw [if_neg hb, if_neg hb, ← abs_setCell hs]
        refine ⟨rfl, g.setCell (old := old) hs z (g.slot _) (fun hr => g.slotSafe hr _) fun hr hle => ?_⟩
        exfalso
        refine hb ?_
        rw [hr]
        exact decide_eq_true hle
  | _ =>
    have e : m.fieldError i k = -3 := by
      unfold M.fieldError
      rw [q]
    rw [e, if_pos (by decide)]
    exact ⟨rfl, g⟩
end Gc

end

section
/-! The operations against the specification, third part. -/
set_option autoImplicit false
namespace Gc
open Vbxlab (Value State HeapObject Exported Imported Cycle Mark Call)

/-! ### imports -/
theorem addReference_ones {P : Nat → Bool} {f : Nat → Imported} {r : Nat} {b : Bool} (hf : ∀ k, (f k).reference = k) : ∀ {L : List Nat}, L.Pairwise (· < ·) → r ∈ L →
    Vbxlab.addReference r b ((L.filter P).map f) = (L.filter fun k => P k || k == r).map fun k => if k = r then (if P r = true then { f r with marked := (f r).marked || b } else ⟨r, false, b⟩) else f k
  | [], _, h => by cases h
  | a :: L, hp, h => by
    obtain ⟨h1, h2⟩ := List.pairwise_cons.mp hp
    have tail : ∀ {q : Nat}, (∀ k ∈ L, q < k) → ∀ x, (L.filter fun k => P k || k == q).map (fun k => if k = q then x else f k) = (L.filter P).map f := fun {q} hq x => by
      have e : (L.filter fun k => P k || k == q) = L.filter P := filter_congr' fun k hk => by
        have := hq k hk
        have e2 : (k == q) = false := by
          have : ¬ k = q := by omega
          simpa using this
        rw [e2, Bool.or_false]
      rw [e]
      refine map_congr' fun k hk => ?_
      have := hq k (List.mem_filter.mp hk).1
      rw [if_neg (by omega)]
    rcases Nat.lt_trichotomy a r with c | c | c
    · have hm : r ∈ L := by
        rcases List.mem_cons.mp h with e | e
        · omega
        · exact e
      have ih := addReference_ones (P := P) (b := b) hf h2 hm
      have e2 : (a == r) = false := by
        have : ¬ a = r := by omega
        simpa using this
      cases hpa : P a with
      | true =>
        rw [List.filter_cons_of_pos hpa, List.filter_cons_of_pos (p := fun k => P k || k == r) (by show (P a || a == r) = true; rw [hpa]; rfl), List.map_cons, List.map_cons, ← ih, if_neg (show ¬ a = r by omega)]
        show (if r < (f a).reference then _ else if r = (f a).reference then _ else _) = _
        rw [hf, if_neg (by omega), if_neg (by omega)]
      | false =>
        rw [List.filter_cons_of_neg (by rw [hpa]; decide), List.filter_cons_of_neg (p := fun k => P k || k == r) (by show ¬ (P a || a == r) = true; rw [hpa, e2]; decide), ih]
    · subst c
      have ht := tail h1
      have e2 : (a == a) = true := by simp
      rw [List.filter_cons_of_pos (p := fun k => P k || k == a) (by show (P a || a == a) = true; rw [e2, Bool.or_true]), List.map_cons, ht, if_pos rfl]
      cases hpa : P a with
      | true =>
        rw [List.filter_cons_of_pos hpa, List.map_cons]
        show (if a < (f a).reference then _ else if a = (f a).reference then _ else _) = _
        rw [hf, if_neg (by omega), if_pos rfl, if_pos rfl]
        show _ = (⟨(f a).reference, (f a).pinned, (f a).marked || b⟩ : Imported) :: _
        rw [hf]
      | false =>
        rw [List.filter_cons_of_neg (by rw [hpa]; decide)]
        cases q : L.filter P with
        | nil => rfl
        | cons k R =>
          have hk : a < k := h1 k (List.mem_filter.mp (show k ∈ L.filter P by rw [q]; exact List.mem_cons_self)).1
          show (if a < (f k).reference then _ else _) = _
          rw [hf, if_pos hk]
          rfl
    · exfalso
      rcases List.mem_cons.mp h with e | e
      · omega
      · have := h1 r e
        omega
theorem ones_sorted (n : Nat) : (ones n).Pairwise (· < ·) := by
  unfold ones
  rw [List.pairwise_map]
  refine List.Pairwise.imp (fun {a b} h => ?_) List.pairwise_lt_range
  omega
theorem receive_imported {m : M} {r s : Nat} (hr : r < m.imported.length) : (m.receive r).isImported s = (m.isImported s || s == r) := by
  unfold M.isImported M.receive
  dsimp only
  by_cases e : s = r
  · subst e
    rw [List.getElem?_set_self hr]
    simp
  · rw [List.getElem?_set_ne (Ne.symm e)]
    have : (s == r) = false := by simpa using e
    rw [this, Bool.or_false]
theorem Good.receive {m : M} (g : Good m) {r : Nat} (hr : r < 100) : Good (m.receive r) := by
  have w := g.wf
  have hl : ∀ {v}, m.Live v → (m.receive r).Live v := fun {v} h => by
    cases v with
    | foreign s =>
      refine ⟨h.1, h.2.1, ?_⟩
      rw [receive_imported (by rw [w.im]; exact hr), h.2.2]
      rfl
    | _ => exact h
  have sm : ∀ {v}, Safe m v → Safe (m.receive r) v := fun h => safe_same (m' := m.receive r) w rfl rfl rfl rfl rfl h
  refine ⟨⟨w.sl, by show (m.imported.set r true).length = 100; rw [List.length_set]; exact w.im, w.pi, w.ow, w.en, w.ce, w.ma, w.co, w.cr, w.gc, w.gd, w.ex⟩, fun s hs => hl (g.pi s hs), fun v hv => hl (g.ls v hv), fun n hn v hv => hl (g.lc n hn v hv), fun h hh => hl (v := .object (m.owner h)) (g.lh h hh), g.rest, fun h => ?_⟩
  have R := g.run h
  exact ⟨R.gl, fun v hv => sm (R.ss v hv), fun h hh => sm (R.sh h hh), fun q hq => sm (R.sp q hq), fun k hk hc v hv => sm (R.sb k hk hc v hv), fun k hk i v hi hv => sm (R.sf k hk i v hi hv)⟩
theorem abs_import {m : M} (g : Good m) {r : Nat} (h1 : 1 ≤ r) (h2 : r ≤ 99) :
    ((m.receive r).markIf (.foreign r)).abs = { m.abs with imported := Vbxlab.addReference r m.abs.cycle.isSome m.abs.imported } := by
  have w := g.wf
  rw [abs_running]
  have hi : r < m.imported.length := by rw [w.im]; omega
  have hf : ((m.receive r).markIf (.foreign r)) = { m.receive r with marked := if m.running = true then m.marked.set r true else m.marked } := by
    unfold M.markIf
    cases hr : m.running with
    | true =>
      rw [if_pos (show (m.receive r).running = true from hr)]
      rfl
    | false =>
      rw [if_neg (by rw [show (m.receive r).running = m.running from rfl, hr]; decide)]
      rfl
  have e1 : ((m.receive r).markIf (.foreign r)).allImported.map ((m.receive r).markIf (.foreign r)).imp = Vbxlab.addReference r m.running (m.allImported.map m.imp) := by
    have := addReference_ones (P := fun k => m.isImported k) (f := m.imp) (r := r) (b := m.running) (fun _ => rfl) (ones_sorted 99) (mem_ones.mpr ⟨h1, h2⟩)
    refine Eq.trans ?_ this.symm
    have e2 : ((m.receive r).markIf (.foreign r)).allImported = (ones 99).filter fun k => m.isImported k || k == r := by
      unfold M.allImported
      refine filter_congr' fun k _ => ?_
      rw [← receive_imported hi, hf]
      rfl
    rw [e2]
    refine map_congr' fun k _ => ?_
    have ep : ∀ k, ((m.receive r).markIf (.foreign r)).isPinned k = m.isPinned k := fun k => by rw [hf]; rfl
    have er : ((m.receive r).markIf (.foreign r)).running = m.running := by rw [hf]; rfl
    unfold M.imp
    rw [ep, er]
    by_cases e : k = r
    · rw [if_pos e, e]
      cases hr : m.running with
      | false =>
        cases hq : m.isImported r with
        | true => rfl
        | false =>
          have : m.isPinned r = false := by
            cases z : m.isPinned r with
            | false => rfl
            | true =>
              have := (g.pi r z).2.2
              rw [hq] at this
              cases this
          rw [this]
          rfl
      | true =>
        have hm : ((m.receive r).markIf (.foreign r)).isMarked r = true := by
          rw [hf]
          unfold M.isMarked
          dsimp only
          rw [if_pos hr, List.getElem?_set_self (by rw [w.ma hr]; omega)]
          rfl
        rw [hm]
        cases hq : m.isImported r with
        | true =>
          rw [if_pos rfl]
          simp
        | false =>
          have : m.isPinned r = false := by
            cases z : m.isPinned r with
            | false => rfl
            | true =>
              have := (g.pi r z).2.2
              rw [hq] at this
              cases this
          rw [this]
          rfl
    · rw [if_neg e]
      congr 2
      rw [hf]
      unfold M.isMarked
      dsimp only
      split
      · rw [List.getElem?_set_ne (Ne.symm e)]
      · rfl
  have e3 : ((m.receive r).markIf (.foreign r)).abs = ⟨m.present.map m.obj, m.slots, m.known.map m.hand, ((m.receive r).markIf (.foreign r)).allImported.map ((m.receive r).markIf (.foreign r)).imp, if m.running = true then some ⟨m.colors.length + 1, m.grey, m.examined, m.units⟩ else none, m.ents.length, m.owners.length, m.reports⟩ := by
    rw [hf]
    rfl
  rw [e3, e1]
  rfl
theorem isRef_iff {r : Int} (h : isRef r = true) : 1 ≤ r ∧ r ≤ 99 := by
  unfold isRef between at h
  rw [Bool.and_eq_true, decide_eq_true_eq, decide_eq_true_eq] at h
  exact h
theorem sim_import {m : M} (g : Good m) (r i : Int) : Sim m (.importReference r i) := by
  unfold Sim
  show (if (isRef r && isSlot i) = false then Vbxlab.fails m.abs (-1) else
      (Vbxlab.setSlot { m.abs with imported := Vbxlab.addReference r.toNat m.abs.cycle.isSome m.abs.imported } i.toNat (.foreign r.toNat), [0])) = ((m.opImport r i).1.abs, (m.opImport r i).2) ∧ Good (m.opImport r i).1
  unfold M.opImport
  cases h : isRef r
  · exact ⟨rfl, g⟩
  cases h2 : isSlot i
  · exact ⟨rfl, g⟩
  rw [if_neg (show ¬ (true && true) = false by decide), if_neg (show ¬ (!true || !true) = true by decide)]
  have hr := isRef_iff h
  rw [← abs_import g (by omega) (by omega)]
  refine ⟨rfl, ?_⟩
  have w := g.wf
  have g1 := g.receive (r := r.toNat) (by omega)
  have hl : (m.receive r.toNat).Live (.foreign r.toNat) := by
    refine ⟨by omega, by omega, ?_⟩
    rw [receive_imported (by rw [w.im]; omega)]
    simp
  unfold M.markIf
  by_cases hrun : (m.receive r.toNat).running = true
  · rw [if_pos hrun]
    exact (g1.mark hrun hl).put _ ((mark_live _ _ _).mpr hl) fun _ => not_white_safe (mark_not_white (Good.ok g1.wf hrun hl))
  · rw [if_neg hrun]
    exact g1.put _ hl fun h => absurd h hrun
theorem abs_pin {m : M} (g : Good m) {r : Nat} {b : Bool} (hr : r < 100) : (m.pin r b).abs = { m.abs with imported := m.abs.imported.map fun e => if e.reference = r then { e with pinned := b } else e } := by
  have e1 : (m.pin r b).allImported.map (m.pin r b).imp = (m.allImported.map m.imp).map fun e => if e.reference = r then { e with pinned := b } else e := by
    rw [List.map_map]
    show m.allImported.map _ = _
    refine map_congr' fun k _ => ?_
    show (⟨k, (m.pin r b).isPinned k, m.running && m.isMarked k⟩ : Imported) = if k = r then { m.imp k with pinned := b } else m.imp k
    unfold M.isPinned M.pin
    dsimp only
    by_cases e : k = r
    · subst e
      rw [if_pos rfl, List.getElem?_set_self (by rw [g.wf.pi]; exact hr)]
      rfl
    · rw [if_neg e, List.getElem?_set_ne (Ne.symm e)]
      rfl
  show (⟨m.present.map m.obj, m.slots, m.known.map m.hand, (m.pin r b).allImported.map (m.pin r b).imp, if m.running = true then some ⟨m.colors.length + 1, m.grey, m.examined, m.units⟩ else none, m.ents.length, m.owners.length, m.reports⟩ : State) = _
  rw [e1]
  rfl
theorem sim_pin {m : M} (g : Good m) (i : Int) : Sim m (.pin i) := by
  unfold Sim
  show (if isSlot i = false then Vbxlab.fails m.abs (-1) else (match Vbxlab.slotValue m.abs i.toNat with
    | .foreign r => ({ m.abs with imported := m.abs.imported.map fun e => if e.reference = r then { e with pinned := true } else e }, [0])
    | _ => Vbxlab.fails m.abs (-6))) = ((m.opPin i).1.abs, (m.opPin i).2) ∧ Good (m.opPin i).1
  unfold M.opPin
  rw [slotValue_eq]
  have hs := g.slot i.toNat
  have hsafe := fun hr => g.slotSafe hr i.toNat
  cases h : isSlot i
  · exact ⟨rfl, g⟩
  rw [if_neg (show ¬ true = false by decide), if_neg (show ¬ (!true) = true by decide)]
  cases q : m.slot i.toNat with
  | foreign r =>
    rw [q] at hs hsafe
    dsimp only
    have := hs.2.1
    rw [abs_pin g (by omega)]
    exact ⟨rfl, g.pin _ _ fun _ => ⟨hs, hsafe⟩⟩
  | _ => exact ⟨rfl, g⟩
theorem sim_unpin {m : M} (g : Good m) (r : Int) : Sim m (.unpin r) := by
  unfold Sim
  show (if (m.abs.imported.any fun e => (e.reference : Int) == r && e.pinned) = false then Vbxlab.fails m.abs (-7) else
      ({ m.abs with imported := m.abs.imported.map fun e => if (e.reference : Int) = r then { e with pinned := false } else e }, [0])) = ((m.opUnpin r).1.abs, (m.opUnpin r).2) ∧ Good (m.opUnpin r).1
  unfold M.opUnpin
  have ea : (m.abs.imported.any fun e => (e.reference : Int) == r && e.pinned) = m.pinnedI r := by
    show ((m.allImported.map m.imp).any fun e => (e.reference : Int) == r && e.pinned) = _
    unfold M.pinnedI
    by_cases hr : r < 1 ∨ r > 99
    · rw [if_pos hr, List.any_map]
      rw [List.any_eq_false]
      intro k hk
      have := (mem_imported.mp hk).1
      have e : ¬ (((m.imp k).reference : Int) = r) := by
        show ¬ (k : Int) = r
        omega
      show ¬ (((m.imp k).reference : Int) == r && (m.imp k).pinned) = true
      simp [e]
    · rw [if_neg hr]
      have e : (fun (e : Imported) => (e.reference : Int) == r && e.pinned) = fun e => e.reference == r.toNat && e.pinned := by
        funext e
        congr 1
        by_cases q : e.reference = r.toNat
        · rw [q]
          have : ((r.toNat : Nat) : Int) = r := by omega
          rw [this]
          simp
        · have a1 : ((e.reference : Int) == r) = false := by
            have : ¬ (e.reference : Int) = r := by omega
            simpa using this
          have a2 : (e.reference == r.toNat) = false := by simpa using q
          rw [a1, a2]
      rw [e, any_map_key (key := fun (x : Imported) => x.reference) (fun _ => rfl) r.toNat (fun x => x.pinned)]
      show (decide (r.toNat ∈ m.allImported) && m.isPinned r.toNat) = _
      cases z : m.isPinned r.toNat with
      | false => rw [Bool.and_false]
      | true =>
        have := g.pi _ z
        rw [decide_eq_true (mem_imported.mpr ⟨⟨this.1, this.2.1⟩, this.2.2⟩)]
        rfl
  rw [ea]
  cases h : m.pinnedI r
  · exact ⟨rfl, g⟩
  rw [if_neg (show ¬ true = false by decide), if_neg (show ¬ (!true) = true by decide)]
  have hr : ¬ (r < 1 ∨ r > 99) := fun q => by
    unfold M.pinnedI at h
    rw [if_pos q] at h
    cases h
  refine ⟨?_, g.pin _ _ fun q => (nomatch q)⟩
  rw [abs_pin g (by omega)]
  have e : (fun (e : Imported) => if (e.reference : Int) = r then ({ e with pinned := false } : Imported) else e) = fun e => if e.reference = r.toNat then { e with pinned := false } else e := by
    funext e
    by_cases q : e.reference = r.toNat
    · rw [if_pos q, if_pos (by omega)]
    · rw [if_neg q, if_neg (by omega)]
  rw [e]

/-! ### the collector's operations -/
theorem sim_begin {m : M} (g : Good m) : Sim m .beginCycle := by
  unfold Sim
  show (if m.abs.cycle.isSome = true then Vbxlab.fails m.abs (-8) else (Vbxlab.beginCycle m.abs, [0])) = (m.opBegin.1.abs, m.opBegin.2) ∧ Good m.opBegin.1
  unfold M.opBegin
  rw [abs_running]
  cases hr : m.running with
  | true => exact ⟨rfl, g⟩
  | false =>
    rw [if_neg (by decide), if_neg (by decide), abs_begin g]
    exact ⟨rfl, g.begin.1⟩
theorem abs_units {m : M} (hr : m.running = true) : ((m.abs.cycle.map fun d => d.units).getD 0) = m.units := by
  rw [abs_cycle hr]
  rfl
theorem isEmpty_iff' (l : List Nat) : (if l.isEmpty = true then (1 : Int) else 0) = if l = [] then 1 else 0 := by
  cases l with
  | nil => rfl
  | cons a r => rfl
theorem sim_work {m : M} (g : Good m) (b : Int) : Sim m (.work b) := by
  unfold Sim
  show (if between b 1 1000 = false then Vbxlab.fails m.abs (-1) else (match m.abs.cycle with
    | none => Vbxlab.fails m.abs (-9)
    | some c => (Vbxlab.work b.toNat m.abs, [(((((Vbxlab.work b.toNat m.abs).cycle.map fun d => d.units).getD 0) - c.units : Nat) : Int), if (Vbxlab.greyObjects (Vbxlab.work b.toNat m.abs)).isEmpty = true then 1 else 0]))) = ((m.opWork b).1.abs, (m.opWork b).2) ∧ Good (m.opWork b).1
  unfold M.opWork
  cases h : between b 1 1000
  · exact ⟨rfl, g⟩
  rw [if_neg (show ¬ true = false by decide), if_neg (show ¬ (!true) = true by decide)]
  cases hr : m.running with
  | false =>
    rw [abs_stopped hr]
    exact ⟨rfl, g⟩
  | true =>
    obtain ⟨g1, r1⟩ := Good.doUnits b.toNat g hr
    rw [abs_cycle hr]
    dsimp only
    rw [if_neg (show ¬ (!true) = true by decide), abs_work _ g hr, abs_units r1, abs_grey r1, isEmpty_iff', doUnits_units]
    refine ⟨?_, g1⟩
    have : m.units + (M.doUnits b.toNat m).2 - m.units = (M.doUnits b.toNat m).2 := by omega
    rw [this]
theorem sim_end {m : M} (g : Good m) : Sim m .endCycle := by
  unfold Sim
  show (if m.abs.cycle.isNone = true then Vbxlab.fails m.abs (-9) else if (Vbxlab.greyObjects m.abs).isEmpty = false then Vbxlab.fails m.abs (-10) else (Vbxlab.endCycle m.abs, Vbxlab.endResult m.abs)) = (m.opEnd.1.abs, m.opEnd.2) ∧ Good m.opEnd.1
  unfold M.opEnd
  cases hr : m.running with
  | false =>
    rw [abs_stopped hr]
    exact ⟨rfl, g⟩
  | true =>
    have h1 : m.abs.cycle.isNone = false := by
      rw [abs_cycle hr]
      rfl
    rw [h1, if_neg (show ¬ false = true by decide), if_neg (show ¬ (!true) = true by decide), abs_grey hr]
    cases q : m.grey with
    | cons a r =>
      rw [if_pos (show (a :: r).isEmpty = false from rfl), if_pos (show a :: r ≠ [] from fun z => nomatch z)]
      exact ⟨rfl, g⟩
    | nil =>
      rw [if_neg (show ¬ ([] : List Nat).isEmpty = false by decide), if_neg (show ¬ ([] : List Nat) ≠ [] from fun z => z rfl)]
      have := abs_finish g hr
      rw [this.1, this.2]
      exact ⟨rfl, g.finish hr q⟩
theorem first_both {m : M} (g : Good m) : (if m.abs.cycle.isSome = true then (let t := Vbxlab.complete m.abs; (Vbxlab.endCycle t, Vbxlab.endResult t)) else (m.abs, [0, 0, 0])) = (m.first.1.abs, m.first.2) ∧ Good m.first.1 ∧ m.first.1.running = false := by
  unfold M.first
  rw [abs_running]
  cases hr : m.running with
  | false => exact ⟨rfl, g, hr⟩
  | true =>
    have := complete_both g hr
    rw [if_pos rfl, if_pos rfl]
    dsimp only
    rw [this.1, this.2.1]
    exact ⟨rfl, this.2.2⟩
theorem sim_collect {m : M} (g : Good m) : Sim m .collect := by
  unfold Sim
  obtain ⟨e1, g1, r1⟩ := first_both g
  obtain ⟨g2, r2⟩ := g1.begin
  have h3 := complete_both g2 r2
  show (let first : State × Vbxlab.Result := if m.abs.cycle.isSome = true then (let t := Vbxlab.complete m.abs; (Vbxlab.endCycle t, Vbxlab.endResult t)) else (m.abs, [0, 0, 0])
    let second := Vbxlab.wholeCycle first.1
    (second.1, first.2 ++ second.2)) = (m.opCollect.1.abs, m.opCollect.2) ∧ Good m.opCollect.1
  rw [e1]
  dsimp only
  unfold Vbxlab.wholeCycle M.opCollect
  dsimp only
  rw [abs_begin g1, h3.1, h3.2.1]
  exact ⟨rfl, h3.2.2.1⟩

/-! ### the inquiries -/
theorem sim_status {m : M} (g : Good m) : Sim m .status := by
  refine ⟨?_, g⟩
  show (m.abs, Vbxlab.toInts [if m.abs.cycle.isSome = true then 1 else 0, m.abs.objects.length, (Vbxlab.greyObjects m.abs).length, (m.abs.objects.filter fun x => x.mark == Mark.black).length, (Vbxlab.activeObjects m.abs).length, m.abs.imported.length, (m.abs.cycle.map fun c => c.units).getD 0]) = (m.abs, m.tellStatus)
  rw [abs_running, activeObjects_abs, List.length_map]
  have e1 : m.abs.objects.length = m.present.length := List.length_map _
  have e2 : m.abs.imported.length = m.allImported.length := List.length_map _
  rw [e1, e2]
  unfold M.tellStatus
  cases hr : m.running with
  | true =>
    have e3 : (m.abs.objects.filter fun x => x.mark == Mark.black).length = m.black.length := by
      show ((m.present.map m.obj).filter _).length = _
      rw [filter_map_comm, List.length_map]
      unfold M.black
      congr 1
      exact filter_congr' fun k _ => mkOf_black g.wf hr k
    rw [abs_grey hr, e3, abs_units hr]
    rfl
  | false =>
    have e3 : (m.abs.objects.filter fun x => x.mark == Mark.black).length = 0 := by
      show ((m.present.map m.obj).filter _).length = _
      rw [filter_map_comm, List.length_map]
      have : (m.present.filter fun a => (m.obj a).mark == Mark.black) = [] := by
        rw [List.filter_eq_nil_iff]
        intro k _
        show ¬ (m.mkOf k == Mark.black) = true
        unfold M.mkOf
        rw [if_neg (by rw [hr]; decide)]
        decide
      rw [this]
      rfl
    have e4 : Vbxlab.greyObjects m.abs = [] := by
      unfold Vbxlab.greyObjects
      rw [abs_stopped hr]
    rw [e3, e4, abs_stopped hr]
    rfl
theorem sim_present {m : M} (g : Good m) : Sim m .present := by
  refine ⟨?_, g⟩
  show (m.abs, Vbxlab.counted ((m.present.map m.obj).map fun x => x.number)) = (m.abs, m.tellPresent)
  rw [List.map_map]
  have : m.present.map ((fun x => x.number) ∘ m.obj) = m.present := List.map_id _
  rw [this]
  rfl
theorem sim_reported {m : M} (g : Good m) : Sim m .reported := ⟨rfl, g⟩
theorem sim_remaining {m : M} (g : Good m) : Sim m .remaining := by
  refine ⟨?_, g⟩
  show (if m.abs.cycle.isNone = true then Vbxlab.fails m.abs (-9) else (m.abs, [(Vbxlab.remaining m.abs : Int)])) = (m.abs, m.tellRemaining)
  unfold M.tellRemaining
  cases hr : m.running with
  | false =>
    rw [abs_stopped hr]
    rfl
  | true =>
    have h1 : m.abs.cycle.isNone = false := by
      rw [abs_cycle hr]
      rfl
    rw [h1, if_neg (show ¬ false = true by decide), if_neg (show ¬ (!true) = true by decide), abs_remaining g.wf hr, (unitsLeft_nat g hr).1]
end Gc

end

section
/-! The search for paths. -/
set_option autoImplicit false
namespace Gc
open Vbxlab (Value State HeapObject Exported Imported Cycle Mark Call Path Root)

/-! ### lists -/
theorem nodup_subset : ∀ {l l' : List Nat}, l.Nodup → (∀ x ∈ l, x ∈ l') → l.length ≤ l'.length
  | [], _, _, _ => Nat.zero_le _
  | a :: r, l', d, h => by
    obtain ⟨d1, d2⟩ := List.nodup_cons.mp d
    have ha := h a List.mem_cons_self
    have := nodup_subset (l := r) (l' := l'.erase a) d2 fun x hx => (List.mem_erase_of_ne (fun e : x = a => d1 (e ▸ hx))).mpr (h x (List.mem_cons_of_mem _ hx))
    rw [List.length_erase_of_mem ha] at this
    have : 0 < l'.length := List.length_pos_of_mem ha
    rw [List.length_cons]
    omega
theorem as_range {α : Type} (d : α) (l : List α) : l = (List.range l.length).map fun i => (l[i]?).getD d := by
  refine List.ext_getElem? fun i => ?_
  rw [List.getElem?_map]
  by_cases h : i < l.length
  · rw [List.getElem?_range h]
    show l[i]? = some ((l[i]?).getD d)
    rw [List.getElem?_eq_getElem h]
    rfl
  · rw [List.getElem?_eq_none (by omega), List.getElem?_eq_none (by rw [List.length_range]; omega)]
    rfl
theorem zipIdx_range {α : Type} (d : α) (l : List α) : l.zipIdx = (List.range l.length).map fun i => ((l[i]?).getD d, i) := by
  refine List.ext_getElem? fun i => ?_
  rw [List.getElem?_zipIdx, List.getElem?_map]
  by_cases h : i < l.length
  · rw [List.getElem?_range h, Nat.zero_add]
    show (l[i]?).map (fun a => (a, i)) = some ((l[i]?).getD d, i)
    rw [List.getElem?_eq_getElem h]
    rfl
  · rw [List.getElem?_eq_none (by omega), List.getElem?_eq_none (by rw [List.length_range]; omega)]
    rfl
theorem fold_rel {α β ι : Type} {R : α → β → Prop} {f : α → ι → α} {g : β → ι → β} : ∀ {l : List ι} {a : α} {b : β}, R a b → (∀ i ∈ l, ∀ a b, R a b → R (f a i) (g b i)) → R (l.foldl f a) (l.foldl g b)
  | [], _, _, r, _ => r
  | i :: l, a, b, r, h => fold_rel (l := l) (h i List.mem_cons_self a b r) fun j hj => h j (List.mem_cons_of_mem _ hj)
theorem foldl_fm {α β γ : Type} {f : α → Option β} {g : γ → β → γ} : ∀ {l : List α} {a : γ}, (l.filterMap f).foldl g a = l.foldl (fun x y => (f y).elim x (g x)) a
  | [], _ => rfl
  | b :: l, a => by
    rw [List.filterMap_cons, List.foldl_cons]
    cases h : f b with
    | none =>
      dsimp only
      rw [foldl_fm]
      rfl
    | some c =>
      dsimp only
      rw [List.foldl_cons, foldl_fm]
      rfl
theorem getElem?_snoc {α : Type} {l : List α} {x y : α} {k : Nat} (h : (l ++ [x])[k]? = some y) : l[k]? = some y ∨ (k = l.length ∧ x = y) := by
  by_cases q : k < l.length
  · rw [List.getElem?_append_left q] at h
    exact .inl h
  · rw [List.getElem?_append_right (by omega)] at h
    cases z : k - l.length with
    | zero =>
      rw [z] at h
      exact .inr ⟨by omega, by simpa using h⟩
    | succ j =>
      rw [z] at h
      simp at h
theorem getElem?_old {α : Type} {l : List α} {x y : α} {k : Nat} (h : l[k]? = some y) : (l ++ [x])[k]? = some y := by
  rw [List.getElem?_append_left (List.getElem?_eq_some_iff.mp h).1]
  exact h
theorem getElem?_new {α : Type} {l : List α} {x : α} : (l ++ [x])[l.length]? = some x := by
  rw [List.getElem?_append_right (Nat.le_refl _), Nat.sub_self]
  rfl

/-! ### paths against the search's lists -/
def addOne (ps : List Path) (p : Path) : List Path := if (ps.any fun q => q.object == p.object) = true then ps else ps ++ [p]
theorem addPaths_eq (ps new : List Path) : Vbxlab.addPaths ps new = new.foldl addOne ps := rfl
def rootOf (r : Nat × Nat × Nat) : Root := if r.1 = 0 then .slot r.2.1 else .handle r.2.1
def Chain (rs : List (Nat × Nat × Nat)) (ps : List Path) (pa : Int) (la : Nat) (k : Nat) (p : Path) : Prop :=
  (pa = -1 ∧ ∃ r, rs[la]? = some r ∧ p.root = rootOf r ∧ p.fields = []) ∨
  (∃ (j : Nat) (q : Path), pa = (j : Int) ∧ j < k ∧ ps[j]? = some q ∧ p.root = q.root ∧ p.fields = q.fields ++ [la])
theorem Chain.more {rs : List (Nat × Nat × Nat)} {ps : List Path} {pa : Int} {la k : Nat} {p x : Path} (h : Chain rs ps pa la k p) : Chain rs (ps ++ [x]) pa la k p := by
  rcases h with h | ⟨j, q, a, b, c, d⟩
  · exact .inl h
  · exact .inr ⟨j, q, a, b, getElem?_old c, d⟩
structure RelP (m : M) (rs : List (Nat × Nat × Nat)) (s : Sr) (ps : List Path) : Prop where
  fo : s.found = ps.map fun p => p.object
  pl : s.par.length = ps.length
  ll : s.lab.length = ps.length
  sl : s.seen.length = m.ents.length + 1
  se : ∀ n, (s.seen[n]?).getD false = true ↔ n ∈ s.found
  nd : s.found.Nodup
  li : ∀ n ∈ s.found, m.Live (.object n)
  ch : ∀ (k : Nat) (p : Path) (pa : Int) (la : Nat), ps[k]? = some p → s.par[k]? = some pa → s.lab[k]? = some la → Chain rs ps pa la k p
theorem any_found {m : M} {rs : List (Nat × Nat × Nat)} {s : Sr} {ps : List Path} (R : RelP m rs s ps) (n : Nat) : (ps.any fun q => q.object == n) = (s.seen[n]?).getD false := by
  rw [Bool.eq_iff_iff, R.se, R.fo, List.any_eq_true, List.mem_map]
  constructor
  · rintro ⟨q, h, e⟩
    exact ⟨q, h, eq_of_beq e⟩
  · rintro ⟨q, h, e⟩
    exact ⟨q, h, by rw [e]; exact beq_self_eq_true n⟩
theorem RelP.visit {m : M} {rs : List (Nat × Nat × Nat)} {s : Sr} {ps : List Path} (R : RelP m rs s ps) {p : Path} {n : Nat} {pa : Int} {la : Nat} (hp : p.object = n) (hn : m.Live (.object n)) (hc : Chain rs ps pa la ps.length p) :
    RelP m rs (s.visit n pa la) (addOne ps p) ∧ (∀ (k : Nat) (q : Path), ps[k]? = some q → (addOne ps p)[k]? = some q) := by
  unfold addOne Sr.visit
  rw [hp, any_found R]
  by_cases h : (s.seen[n]?).getD false = true
  · rw [if_pos h, if_pos h]
    exact ⟨R, fun _ _ q => q⟩
  · rw [if_neg h, if_neg h]
    have hnf : n ∉ s.found := fun z => h ((R.se n).mpr z)
    have hlen : n < s.seen.length := by
      rw [R.sl]
      have := there_len hn.2
      have : 1 ≤ n := hn.1
      omega
    refine ⟨⟨?_, ?_, ?_, ?_, fun k => ?_, ?_, fun k hk => ?_, fun k q pb lb h1 h2 h3 => ?_⟩, fun k q z => getElem?_old z⟩
    · show s.found ++ [n] = _
      rw [List.map_append, ← R.fo]
      simp [hp]
    · show (s.par ++ [pa]).length = _
      simp [R.pl]
    · show (s.lab ++ [la]).length = _
      simp [R.ll]
    · show (s.seen.set n true).length = _
      rw [List.length_set]
      exact R.sl
    · show ((s.seen.set n true)[k]?).getD false = true ↔ k ∈ s.found ++ [n]
      by_cases e : k = n
      · subst e
        rw [List.getElem?_set_self hlen]
        simp
      · rw [List.getElem?_set_ne (Ne.symm e), R.se]
        simp [e]
    · show (s.found ++ [n]).Nodup
      refine List.nodup_append.mpr ⟨R.nd, by simp, fun a ha b hb e => ?_⟩
      have : b = n := by simpa using hb
      rw [e, this] at ha
      exact hnf ha
    · rcases List.mem_append.mp (show k ∈ s.found ++ [n] from hk) with z | z
      · exact R.li k z
      · have : k = n := by simpa using z
        rw [this]
        exact hn
    · rcases getElem?_snoc h1 with z | ⟨z, e⟩
      · have hk := (List.getElem?_eq_some_iff.mp z).1
        have h2' : s.par[k]? = some pb := by
          have := h2
          rw [List.getElem?_append_left (by rw [R.pl]; exact hk)] at this
          exact this
        have h3' : s.lab[k]? = some lb := by
          have := h3
          rw [List.getElem?_append_left (by rw [R.ll]; exact hk)] at this
          exact this
        exact (R.ch k q pb lb z h2' h3').more
      · subst e
        have h2' : pa = pb := by
          have := h2
          rw [z, ← R.pl, getElem?_new] at this
          exact Option.some.inj this
        have h3' : la = lb := by
          have := h3
          rw [z, ← R.ll, getElem?_new] at this
          exact Option.some.inj this
        rw [← h2', ← h3', z]
        exact hc.more
theorem RelP.new (m : M) (rs : List (Nat × Nat × Nat)) : RelP m rs (Sr.new m.ents.length) [] := by
  refine ⟨rfl, rfl, rfl, ?_, fun n => ?_, List.nodup_nil, fun n hn => (nomatch hn), fun k p pa la h => ?_⟩
  · show (List.replicate _ _).length = _
    rw [List.length_replicate]
  · show ((List.replicate (m.ents.length + 1) false)[n]?).getD false = true ↔ n ∈ ([] : List Nat)
    rw [List.getElem?_replicate]
    constructor
    · intro h
      split at h <;> cases h
    · intro h
      cases h
  · simp at h

/-! ### the roots -/
theorem roots_live {m : M} (g : Good m) : ∀ r ∈ m.roots, m.Live (.object r.2.2) ∧ r.1 ≤ 1 := by
  intro r hr
  unfold M.roots at hr
  rcases List.mem_append.mp hr with h | h
  · unfold M.slotRoots at h
    obtain ⟨i, _, e⟩ := List.mem_filterMap.mp h
    have hs := g.slot i
    cases q : m.slot i with
    | object n =>
      rw [q] at e hs
      have : (0, i, n) = r := Option.some.inj e
      subst this
      exact ⟨hs, Nat.zero_le _⟩
    | _ =>
      rw [q] at e
      cases e
  · obtain ⟨k, hk, rfl⟩ := List.mem_map.mp h
    exact ⟨g.lh k (mem_active.mp hk), Nat.le_refl _⟩
def toPath (r : Nat × Nat × Nat) : Path := ⟨r.2.2, rootOf r, []⟩
theorem rootPaths_abs {m : M} (g : Good m) : Vbxlab.rootPaths m.abs = m.roots.map toPath := by
  unfold Vbxlab.rootPaths M.roots
  rw [List.map_append]
  congr 1
  · show (m.slots.zipIdx.filterMap _) = _
    rw [zipIdx_range .nothing, List.filterMap_map, g.wf.sl]
    unfold M.slotRoots
    rw [List.map_filterMap]
    congr 1
    funext i
    show (Vbxlab.objectOf (m.slot i)).map _ = _
    cases m.slot i <;> rfl
  · show ((m.known.map m.hand).filter _).map _ = _
    rw [filter_map_comm, List.map_map, List.map_map]
    unfold M.known M.active
    rw [List.filter_filter]
    have e : ((ones m.states.length).filter fun (h : Nat) => (m.hand h).active && (m.state (h : Int) != 0)) = (ones m.states.length).filter fun (h : Nat) => m.state (h : Int) == 2 := by
      refine filter_congr' fun h _ => ?_
      show ((m.state (h : Int) == 2) && (m.state (h : Int) != 0)) = (m.state (h : Int) == 2)
      by_cases q : m.state (h : Int) = 2
      · rw [q]
        rfl
      · have : (m.state (h : Int) == 2) = false := by simpa using q
        rw [this]
        rfl
    rw [e]
    rfl
theorem root_step {m : M} {rs : List (Nat × Nat × Nat)} (hl : ∀ r ∈ rs, m.Live (.object r.2.2)) {s : Sr} {ps : List Path} (R : RelP m rs s ps) {k : Nat} (hk : k < rs.length) :
    RelP m rs (Sr.root rs s k) (addOne ps (toPath ((rs[k]?).getD (0, 0, 0)))) := by
  have e : (rs[k]?).getD (0, 0, 0) = rs[k] := by
    rw [List.getElem?_eq_getElem hk]
    rfl
  unfold Sr.root
  rw [e]
  exact (R.visit (p := toPath rs[k]) rfl (hl _ (List.getElem_mem hk)) (.inl ⟨rfl, rs[k], List.getElem?_eq_getElem hk, rfl, rfl⟩)).1
theorem roots_rel {m : M} {rs : List (Nat × Nat × Nat)} (hl : ∀ r ∈ rs, m.Live (.object r.2.2)) :
    RelP m rs ((List.range rs.length).foldl (Sr.root rs) (Sr.new m.ents.length)) (Vbxlab.addPaths [] (rs.map toPath)) := by
  rw [addPaths_eq]
  have e : (rs.map toPath).foldl addOne [] = (List.range rs.length).foldl (fun ps k => addOne ps (toPath ((rs[k]?).getD (0, 0, 0)))) [] := by
    conv =>
      lhs
      rw [as_range (0, 0, 0) rs]
    rw [List.map_map, List.foldl_map]
    rfl
  rw [e]
  exact fold_rel (RelP.new m rs) fun k hk s ps R => root_step hl R (List.mem_range.mp hk)

/-! ### one object's fields -/
theorem expand_rel {m : M} (g : Good m) {rs : List (Nat × Nat × Nat)} {s : Sr} {ps : List Path} (R : RelP m rs s ps) {place : Nat} {p : Path} (hp : ps[place]? = some p) :
    RelP m rs (m.expand s place) (Vbxlab.addPaths ps (Vbxlab.extendPath m.abs p)) := by
  have hf : s.found[place]? = some p.object := by
    rw [R.fo, List.getElem?_map, hp]
    rfl
  have hlive := R.li p.object (List.mem_of_getElem? hf)
  rw [addPaths_eq]
  unfold Vbxlab.extendPath M.expand
  rw [objectAt_of hlive, hf]
  show RelP m rs ((List.range (m.cells p.object).length).foldl (fun t f => t.field (m.cells p.object) place f) s) (((m.cells p.object).zipIdx.filterMap fun y => (Vbxlab.objectOf y.1).map fun n => ⟨n, p.root, p.fields ++ [y.2]⟩).foldl addOne ps)
  rw [zipIdx_range .nothing, List.filterMap_map, foldl_fm]
  have := fold_rel (R := fun (s : Sr) (ps : List Path) => RelP m rs s ps ∧ ps[place]? = some p) (f := fun t f => t.field (m.cells p.object) place f)
    (g := fun (x : List Path) y => (((fun (y : Value × Nat) => (Vbxlab.objectOf y.1).map fun n => (⟨n, p.root, p.fields ++ [y.2]⟩ : Path)) ∘ fun i => (((m.cells p.object)[i]?).getD .nothing, i)) y).elim x (addOne x)) (l := List.range (m.cells p.object).length) ⟨R, hp⟩ fun i hi t qs ⟨R', hp'⟩ => by
    have hi' := List.mem_range.mp hi
    show RelP m rs (t.field (m.cells p.object) place i) (((Vbxlab.objectOf (((m.cells p.object)[i]?).getD .nothing)).map fun n => (⟨n, p.root, p.fields ++ [i]⟩ : Path)).elim qs (addOne qs)) ∧ (((Vbxlab.objectOf (((m.cells p.object)[i]?).getD .nothing)).map fun n => (⟨n, p.root, p.fields ++ [i]⟩ : Path)).elim qs (addOne qs))[place]? = some p
    unfold Sr.field
    have hl : m.Live (((m.cells p.object)[i]?).getD .nothing) := by
      rw [List.getElem?_eq_getElem hi']
      exact g.lc _ hlive _ (List.getElem_mem hi')
    cases q : ((m.cells p.object)[i]?).getD .nothing with
    | object n =>
      rw [q] at hl
      have := R'.visit (p := ⟨n, p.root, p.fields ++ [i]⟩) rfl hl (pa := (place : Int)) (la := i) (.inr ⟨place, p, rfl, (List.getElem?_eq_some_iff.mp hp').1, hp', rfl, rfl⟩)
      exact ⟨this.1, this.2 _ _ hp'⟩
    | _ => exact ⟨R', hp'⟩
  exact this.1
theorem found_len {m : M} {rs : List (Nat × Nat × Nat)} {s : Sr} {ps : List Path} (R : RelP m rs s ps) : s.found.length = ps.length := by
  rw [R.fo, List.length_map]
theorem found_le {m : M} {rs : List (Nat × Nat × Nat)} {s : Sr} {ps : List Path} (R : RelP m rs s ps) : ps.length ≤ m.present.length := by
  rw [← found_len R]
  exact nodup_subset R.nd fun x hx => mem_present.mpr (R.li x hx)
theorem search_rel {m : M} (g : Good m) {rs : List (Nat × Nat × Nat)} : ∀ (n i : Nat) {s : Sr} {ps : List Path}, RelP m rs s ps → RelP m rs ((List.range' i n).foldl m.turn s) (Vbxlab.search m.abs n i ps)
  | 0, _, _, _, R => R
  | n + 1, i, s, ps, R => by
    rw [List.range'_succ, List.foldl_cons]
    unfold Vbxlab.search M.turn
    cases h : ps[i]? with
    | none =>
      have hl := List.getElem?_eq_none_iff.mp h
      dsimp only
      have stop : ∀ (n j : Nat), i ≤ j → (List.range' j n).foldl m.turn s = s := by
        intro n
        induction n with
        | zero => intro j _; rfl
        | succ n ih =>
          intro j hj
          rw [List.range'_succ, List.foldl_cons]
          have : m.turn s j = s := by
            unfold M.turn
            rw [if_neg (by rw [found_len R]; omega)]
          rw [this]
          exact ih (j + 1) (by omega)
      have e1 : (if i < s.found.length then m.expand s i else s) = s := if_neg (by rw [found_len R]; omega)
      rw [e1]
      have := stop n (i + 1) (by omega)
      unfold M.turn at this
      rw [this]
      exact R
    | some p =>
      have hl := (List.getElem?_eq_some_iff.mp h).1
      dsimp only
      have e1 : (if i < s.found.length then m.expand s i else s) = m.expand s i := if_pos (by rw [found_len R]; omega)
      rw [e1]
      have := search_rel g n (i + 1) (expand_rel g R h)
      unfold M.turn at this
      exact this
theorem search_fuel {m : M} (g : Good m) {rs : List (Nat × Nat × Nat)} : ∀ (n i k : Nat) {s : Sr} {ps : List Path}, RelP m rs s ps → m.present.length ≤ n + i → Vbxlab.search m.abs (n + k) i ps = Vbxlab.search m.abs n i ps
  | 0, i, 0, _, _, _, _ => rfl
  | 0, i, k + 1, s, ps, R, h => by
    have := found_le R
    rw [Nat.zero_add]
    unfold Vbxlab.search
    rw [List.getElem?_eq_none (by omega)]
  | n + 1, i, k, s, ps, R, h => by
    rw [show n + 1 + k = (n + k) + 1 by omega]
    unfold Vbxlab.search
    cases q : ps[i]? with
    | none => rfl
    | some p =>
      dsimp only
      exact search_fuel g n (i + 1) k (expand_rel g R q) (by omega)
theorem paths_rel {m : M} (g : Good m) : RelP m m.roots (m.searchFrom m.roots) (Vbxlab.paths m.abs) := by
  have hr := roots_rel (rs := m.roots) fun r h => (roots_live g r h).1
  have h1 := search_rel g m.ents.length 0 hr
  have h2 : m.abs.objects.length = m.present.length := List.length_map _
  have hle : m.present.length ≤ m.ents.length := by
    unfold M.present
    refine Nat.le_trans (List.length_filter_le _ _) ?_
    unfold ones
    rw [List.length_map, List.length_range]
    exact Nat.le_refl _
  have h3 := search_fuel g m.present.length 0 (m.ents.length - m.present.length) hr (by omega)
  rw [Nat.add_sub_cancel' hle] at h3
  unfold Vbxlab.paths M.searchFrom
  rw [rootPaths_abs g, h2, ← h3, List.range_eq_range' (n := m.ents.length)]
  exact h1

/-! ### the way back -/
theorem back_rel {m : M} {rs : List (Nat × Nat × Nat)} {s : Sr} {ps : List Path} (R : RelP m rs s ps) : ∀ (f k : Nat) (p : Path) (acc : List Nat), ps[k]? = some p → k < f →
    (s.back f k acc).1 = acc ++ p.fields.reverse ∧ ∃ r, rs[(s.lab[(s.back f k acc).2]?).getD 0]? = some r ∧ p.root = rootOf r
  | 0, _, _, _, _, h => absurd h (Nat.not_lt_zero _)
  | f + 1, k, p, acc, hp, hk => by
    have hl := (List.getElem?_eq_some_iff.mp hp).1
    have h1 : k < s.par.length := by rw [R.pl]; exact hl
    have h2 : k < s.lab.length := by rw [R.ll]; exact hl
    have c := R.ch k p s.par[k] s.lab[k] hp (List.getElem?_eq_getElem h1) (List.getElem?_eq_getElem h2)
    have e0 : s.back (f + 1) k acc = if 0 ≤ s.par[k] then s.back f s.par[k].toNat (acc ++ [s.lab[k]]) else (acc, k) := by
      show (if 0 ≤ (s.par[k]?).getD (-1) then s.back f ((s.par[k]?).getD (-1)).toNat (acc ++ [(s.lab[k]?).getD 0]) else (acc, k)) = _
      rw [List.getElem?_eq_getElem h1, List.getElem?_eq_getElem h2]
      rfl
    rw [e0]
    rcases c with ⟨e, r, e1, e2, e3⟩ | ⟨j, q, e, hj, hq, e2, e3⟩
    · have hn : ¬ 0 ≤ s.par[k] := by omega
      rw [if_neg hn]
      refine ⟨by rw [e3]; simp, r, ?_, e2⟩
      show rs[(s.lab[k]?).getD 0]? = some r
      rw [List.getElem?_eq_getElem h2]
      exact e1
    · have hn : 0 ≤ s.par[k] := by omega
      rw [if_pos hn]
      have ej : s.par[k].toNat = j := by omega
      rw [ej]
      obtain ⟨a, r, b, c⟩ := back_rel R f j q (acc ++ [s.lab[k]]) hq (by omega)
      refine ⟨?_, r, b, e2.trans c⟩
      rw [a, e3]
      simp
theorem find_first {n : Nat} : ∀ {ps : List Path}, n ∈ (ps.map fun p => p.object) → ∃ p, ps.find? (fun p => p.object == n) = some p ∧ ps[(ps.map fun p => p.object).idxOf n]? = some p
  | [], h => by cases h
  | p :: ps, h => by
    rw [List.map_cons, List.idxOf_cons, List.find?_cons]
    cases e : p.object == n with
    | true => exact ⟨p, rfl, rfl⟩
    | false =>
      rw [List.map_cons] at h
      rcases List.mem_cons.mp h with q | q
      · rw [q] at e
        simp at e
      · obtain ⟨x, a, b⟩ := find_first q
        exact ⟨x, a, by simpa using b⟩
theorem present_any {m : M} (x : Int) : (m.abs.objects.any fun y => (y.number : Int) == x) = m.isPresent x := by
  show ((m.present.map m.obj).any fun y => (y.number : Int) == x) = _
  unfold M.isPresent
  rw [List.any_map]
  by_cases h : x < 1 ∨ x > (m.ents.length : Int)
  · rw [if_pos h, List.any_eq_false]
    intro k hk
    have h1 := mem_present.mp hk
    have := there_len h1.2
    have e : ¬ ((k : Int) = x) := by omega
    show ¬ ((k : Int) == x) = true
    simpa using e
  · rw [if_neg h, Bool.eq_iff_iff, List.any_eq_true]
    constructor
    · rintro ⟨k, hk, e⟩
      have e' : (k : Int) = x := eq_of_beq e
      have : x.toNat = k := by omega
      rw [this]
      exact (mem_present.mp hk).2
    · intro ht
      refine ⟨x.toNat, mem_present.mpr ⟨by omega, ht⟩, ?_⟩
      show (((x.toNat : Nat) : Int) == x) = true
      have : ((x.toNat : Nat) : Int) = x := by omega
      rw [this]
      simp
theorem sim_path {m : M} (g : Good m) (x : Int) : Sim m (.path x) := by
  refine ⟨?_, g⟩
  show (if (m.abs.objects.any fun y => (y.number : Int) == x) = false then Vbxlab.fails m.abs (-11) else (m.abs, match (Vbxlab.paths m.abs).find? fun p => (p.object : Int) == x with
    | none => [0]
    | some p => (match p.root with
      | .slot i => [1, 0, (i : Int)]
      | .handle h => [1, 1, (h : Int)]) ++ Vbxlab.counted p.fields)) = (m.abs, m.tellPath x)
  rw [present_any]
  unfold M.tellPath
  cases hp : m.isPresent x with
  | false => rfl
  | true =>
    rw [if_neg (show ¬ true = false by decide), if_neg (show ¬ (!true) = true by decide)]
    have hx : 0 ≤ x := by
      unfold M.isPresent at hp
      split at hp
      · cases hp
      · omega
    have R := paths_rel g
    have e0 : (fun (p : Path) => (p.object : Int) == x) = fun p => p.object == x.toNat := by
      funext p
      by_cases q : p.object = x.toNat
      · have : (p.object : Int) = x := by omega
        rw [this, q]
        simp
      · have a1 : ((p.object : Int) == x) = false := by
          have : ¬ (p.object : Int) = x := by omega
          simpa using this
        have a2 : (p.object == x.toNat) = false := by simpa using q
        rw [a1, a2]
    rw [e0]
    congr 1
    cases hs : ((m.searchFrom m.roots).seen[x.toNat]?).getD false with
    | false =>
      rw [if_pos (by decide)]
      have : (Vbxlab.paths m.abs).find? (fun p => p.object == x.toNat) = none := by
        rw [List.find?_eq_none]
        intro p hp' e
        have h1 : x.toNat ∈ (m.searchFrom m.roots).found := by
          rw [R.fo]
          exact List.mem_map.mpr ⟨p, hp', eq_of_beq e⟩
        have := (R.se _).mpr h1
        rw [hs] at this
        cases this
      rw [this]
    | true =>
      rw [if_neg (by decide)]
      have hm := (R.se _).mp hs
      rw [R.fo] at hm
      obtain ⟨p, h1, h2⟩ := find_first hm
      rw [h1]
      dsimp only
      unfold Sr.tell
      have ei : (m.searchFrom m.roots).found.idxOf x.toNat = ((Vbxlab.paths m.abs).map fun p => p.object).idxOf x.toNat := by rw [R.fo]
      rw [ei]
      obtain ⟨a, r, b, c⟩ := back_rel R (((Vbxlab.paths m.abs).map fun p => p.object).idxOf x.toNat + 1) _ p [] h2 (Nat.lt_succ_self _)
      rw [List.nil_append] at a
      have hr := (roots_live g r (List.mem_of_getElem? b)).2
      dsimp only
      rw [b, a]
      show _ = [1, (r.1 : Int), (r.2.1 : Int), (p.fields.reverse.length : Int)] ++ zints p.fields.reverse.reverse
      rw [List.reverse_reverse, List.length_reverse, c]
      unfold rootOf
      by_cases h0 : r.1 = 0
      · rw [if_pos h0, h0]
        rfl
      · have : r.1 = 1 := by omega
        rw [if_neg h0, this]
        rfl

/-! ### every operation -/
theorem sim {m : M} (g : Good m) : ∀ c : Call, Sim m c
  | .create i n c => sim_create g i n c
  | .setInteger i n => sim_set g i n
  | .clear i => sim_clear g i
  | .copy i j => sim_copy g i j
  | .read i k j => sim_read g i k j
  | .write i k j => sim_write g i k j
  | .compare i j => sim_compare g i j
  | .inspect i => sim_inspect g i
  | .exportObject i => sim_handle g i
  | .accept h i => sim_accept g h i
  | .retire h => sim_retire g h
  | .withdraw h => sim_withdraw g h
  | .importReference r i => sim_import g r i
  | .pin i => sim_pin g i
  | .unpin r => sim_unpin g r
  | .beginCycle => sim_begin g
  | .work b => sim_work g b
  | .endCycle => sim_end g
  | .collect => sim_collect g
  | .status => sim_status g
  | .present => sim_present g
  | .path x => sim_path g x
  | .reported => sim_reported g
  | .remaining => sim_remaining g
theorem good_start : Good M0 := by
  have hs : ∀ v ∈ M0.slots, v = Value.nothing := fun v h => List.eq_of_mem_replicate h
  refine ⟨⟨rfl, rfl, rfl, rfl, Nat.zero_le _, fun e h => (nomatch h), fun h => (nomatch h), Nat.le_refl _, fun c h => (nomatch h), fun n => ⟨fun h => (nomatch h), fun h => ?_⟩, List.nodup_nil, .inl ⟨rfl, rfl⟩⟩, fun r h => ?_, fun v hv => ?_, fun n hn => ?_, fun h hh => ?_, fun _ => rfl, fun h => (nomatch h)⟩
  · have := h.1
    have : n ≤ 0 := h.2.1
    omega
  · exfalso
    have h' : ((List.replicate 100 false)[r]?).getD false = true := h
    rw [List.getElem?_replicate] at h'
    split at h' <;> cases h'
  · rw [hs v hv]
    trivial
  · exact absurd (there_len hn.2) (Nat.not_lt_zero _)
  · exfalso
    have := state_pos (m := M0) (h := (h : Int)) (by rw [hh]; decide)
    have h2 : (h : Int) ≤ ((0 : Nat) : Int) := this.2
    omega
end Gc

end

section
/-! The flat list of calls. -/
set_option autoImplicit false
namespace Gc
open Vbxlab (Value State Call)

def code : Call → Nat × List Int
  | .create a b c => (0, [a, b, c])
  | .setInteger a b => (1, [a, b])
  | .clear a => (2, [a])
  | .copy a b => (3, [a, b])
  | .read a b c => (4, [a, b, c])
  | .write a b c => (5, [a, b, c])
  | .compare a b => (6, [a, b])
  | .inspect a => (7, [a])
  | .exportObject a => (8, [a])
  | .accept a b => (9, [a, b])
  | .retire a => (10, [a])
  | .withdraw a => (11, [a])
  | .importReference a b => (12, [a, b])
  | .pin a => (13, [a])
  | .unpin a => (14, [a])
  | .beginCycle => (15, [])
  | .work a => (16, [a])
  | .endCycle => (17, [])
  | .collect => (18, [])
  | .status => (19, [])
  | .present => (20, [])
  | .path a => (21, [a])
  | .reported => (22, [])
  | .remaining => (23, [])
def arity : List Nat := [3, 2, 1, 2, 3, 3, 2, 1, 1, 2, 1, 1, 2, 1, 1, 0, 1, 0, 0, 0, 0, 1, 0, 0]
theorem arity_code (c : Call) : arity[(code c).1]? = some (code c).2.length := by cases c <;> rfl
theorem shape_cases {p : Int} {n k : Nat} (h : PyVbxlab.shape p = some (n, k)) : k = 0 ∧ ∀ l : List Int, l.length = n → ∃ c : Call, ((code c).1 : Int) = p ∧ (code c).2 = l ∧ VbxlabNeutral.callOf (PyVbxlab.whole [p :: l]) = some c := by
  unfold PyVbxlab.shape at h
  by_cases h0 : p = 0
  · rw [if_pos h0] at h
    cases h
    subst h0
    refine ⟨rfl, fun l hl => ?_⟩
    match l, hl with
    | [a, b, c], _ => exact ⟨.create a b c, rfl, rfl, rfl⟩
  rw [if_neg h0] at h
  by_cases h1 : p = 1
  · rw [if_pos h1] at h
    cases h
    subst h1
    refine ⟨rfl, fun l hl => ?_⟩
    match l, hl with
    | [a, b], _ => exact ⟨.setInteger a b, rfl, rfl, rfl⟩
  rw [if_neg h1] at h
  by_cases h2 : p = 2
  · rw [if_pos h2] at h
    cases h
    subst h2
    refine ⟨rfl, fun l hl => ?_⟩
    match l, hl with
    | [a], _ => exact ⟨.clear a, rfl, rfl, rfl⟩
  rw [if_neg h2] at h
  by_cases h3 : p = 3
  · rw [if_pos h3] at h
    cases h
    subst h3
    refine ⟨rfl, fun l hl => ?_⟩
    match l, hl with
    | [a, b], _ => exact ⟨.copy a b, rfl, rfl, rfl⟩
  rw [if_neg h3] at h
  by_cases h4 : p = 4
  · rw [if_pos h4] at h
    cases h
    subst h4
    refine ⟨rfl, fun l hl => ?_⟩
    match l, hl with
    | [a, b, c], _ => exact ⟨.read a b c, rfl, rfl, rfl⟩
  rw [if_neg h4] at h
  by_cases h5 : p = 5
  · rw [if_pos h5] at h
    cases h
    subst h5
    refine ⟨rfl, fun l hl => ?_⟩
    match l, hl with
    | [a, b, c], _ => exact ⟨.write a b c, rfl, rfl, rfl⟩
  rw [if_neg h5] at h
  by_cases h6 : p = 6
  · rw [if_pos h6] at h
    cases h
    subst h6
    refine ⟨rfl, fun l hl => ?_⟩
    match l, hl with
    | [a, b], _ => exact ⟨.compare a b, rfl, rfl, rfl⟩
  rw [if_neg h6] at h
  by_cases h7 : p = 7
  · rw [if_pos h7] at h
    cases h
    subst h7
    refine ⟨rfl, fun l hl => ?_⟩
    match l, hl with
    | [a], _ => exact ⟨.inspect a, rfl, rfl, rfl⟩
  rw [if_neg h7] at h
  by_cases h8 : p = 8
  · rw [if_pos h8] at h
    cases h
    subst h8
    refine ⟨rfl, fun l hl => ?_⟩
    match l, hl with
    | [a], _ => exact ⟨.exportObject a, rfl, rfl, rfl⟩
  rw [if_neg h8] at h
  by_cases h9 : p = 9
  · rw [if_pos h9] at h
    cases h
    subst h9
    refine ⟨rfl, fun l hl => ?_⟩
    match l, hl with
    | [a, b], _ => exact ⟨.accept a b, rfl, rfl, rfl⟩
  rw [if_neg h9] at h
  by_cases h10 : p = 10
  · rw [if_pos h10] at h
    cases h
    subst h10
    refine ⟨rfl, fun l hl => ?_⟩
    match l, hl with
    | [a], _ => exact ⟨.retire a, rfl, rfl, rfl⟩
  rw [if_neg h10] at h
  by_cases h11 : p = 11
  · rw [if_pos h11] at h
    cases h
    subst h11
    refine ⟨rfl, fun l hl => ?_⟩
    match l, hl with
    | [a], _ => exact ⟨.withdraw a, rfl, rfl, rfl⟩
  rw [if_neg h11] at h
  by_cases h12 : p = 12
  · rw [if_pos h12] at h
    cases h
    subst h12
    refine ⟨rfl, fun l hl => ?_⟩
    match l, hl with
    | [a, b], _ => exact ⟨.importReference a b, rfl, rfl, rfl⟩
  rw [if_neg h12] at h
  by_cases h13 : p = 13
  · rw [if_pos h13] at h
    cases h
    subst h13
    refine ⟨rfl, fun l hl => ?_⟩
    match l, hl with
    | [a], _ => exact ⟨.pin a, rfl, rfl, rfl⟩
  rw [if_neg h13] at h
  by_cases h14 : p = 14
  · rw [if_pos h14] at h
    cases h
    subst h14
    refine ⟨rfl, fun l hl => ?_⟩
    match l, hl with
    | [a], _ => exact ⟨.unpin a, rfl, rfl, rfl⟩
  rw [if_neg h14] at h
  by_cases h15 : p = 15
  · rw [if_pos h15] at h
    cases h
    subst h15
    refine ⟨rfl, fun l hl => ?_⟩
    match l, hl with
    | [], _ => exact ⟨.beginCycle, rfl, rfl, rfl⟩
  rw [if_neg h15] at h
  by_cases h16 : p = 16
  · rw [if_pos h16] at h
    cases h
    subst h16
    refine ⟨rfl, fun l hl => ?_⟩
    match l, hl with
    | [a], _ => exact ⟨.work a, rfl, rfl, rfl⟩
  rw [if_neg h16] at h
  by_cases h17 : p = 17
  · rw [if_pos h17] at h
    cases h
    subst h17
    refine ⟨rfl, fun l hl => ?_⟩
    match l, hl with
    | [], _ => exact ⟨.endCycle, rfl, rfl, rfl⟩
  rw [if_neg h17] at h
  by_cases h18 : p = 18
  · rw [if_pos h18] at h
    cases h
    subst h18
    refine ⟨rfl, fun l hl => ?_⟩
    match l, hl with
    | [], _ => exact ⟨.collect, rfl, rfl, rfl⟩
  rw [if_neg h18] at h
  by_cases h19 : p = 19
  · rw [if_pos h19] at h
    cases h
    subst h19
    refine ⟨rfl, fun l hl => ?_⟩
    match l, hl with
    | [], _ => exact ⟨.status, rfl, rfl, rfl⟩
  rw [if_neg h19] at h
  by_cases h20 : p = 20
  · rw [if_pos h20] at h
    cases h
    subst h20
    refine ⟨rfl, fun l hl => ?_⟩
    match l, hl with
    | [], _ => exact ⟨.present, rfl, rfl, rfl⟩
  rw [if_neg h20] at h
  by_cases h21 : p = 21
  · rw [if_pos h21] at h
    cases h
    subst h21
    refine ⟨rfl, fun l hl => ?_⟩
    match l, hl with
    | [a], _ => exact ⟨.path a, rfl, rfl, rfl⟩
  rw [if_neg h21] at h
  by_cases h22 : p = 22
  · rw [if_pos h22] at h
    cases h
    subst h22
    refine ⟨rfl, fun l hl => ?_⟩
    match l, hl with
    | [], _ => exact ⟨.reported, rfl, rfl, rfl⟩
  rw [if_neg h22] at h
  by_cases h23 : p = 23
  · rw [if_pos h23] at h
    cases h
    subst h23
    refine ⟨rfl, fun l hl => ?_⟩
    match l, hl with
    | [], _ => exact ⟨.remaining, rfl, rfl, rfl⟩
  rw [if_neg h23] at h
  cases h

theorem parse {f : Nat} {p : Int} {r : List Int} {cs : List (List (List Int))} (h : PyFlat.calls PyVbxlab.shape f (p :: r) = some cs) :
    ∃ (c : Call) (f' : Nat) (cs' : List (List (List Int))), p = ((code c).1 : Int) ∧ (code c).2 = r.take (code c).2.length ∧ (code c).2.length ≤ r.length ∧
      PyFlat.calls PyVbxlab.shape f' (r.drop (code c).2.length) = some cs' ∧
      ∀ s : State, PyFlat.played VbxlabNeutral.step s (cs.map PyVbxlab.whole) = (Vbxlab.step s c).2 :: PyFlat.played VbxlabNeutral.step (Vbxlab.step s c).1 (cs'.map PyVbxlab.whole) := by
  cases f with
  | zero => cases h
  | succ f =>
    unfold PyFlat.calls PyFlat.call at h
    dsimp only at h
    cases hs : PyVbxlab.shape p with
    | none =>
      rw [hs] at h
      cases h
    | some nk =>
      obtain ⟨n, k⟩ := nk
      obtain ⟨hk, hc⟩ := shape_cases hs
      subst hk
      rw [hs] at h
      dsimp only at h
      by_cases hl : r.length < n
      · rw [if_pos hl] at h
        cases h
      · rw [if_neg hl] at h
        unfold PyFlat.rows at h
        dsimp only at h
        have hln : (r.take n).length = n := by
          rw [List.length_take]
          omega
        obtain ⟨c, e1, e2, e3⟩ := hc (r.take n) hln
        cases hq : PyFlat.calls PyVbxlab.shape f (r.drop n) with
        | none =>
          rw [hq] at h
          cases h
        | some cs' =>
          rw [hq] at h
          cases h
          have en : (code c).2.length = n := by rw [e2, hln]
          refine ⟨c, f, cs', e1.symm, by rw [en, e2], by rw [en]; omega, by rw [en]; exact hq, fun s => ?_⟩
          have est : VbxlabNeutral.step s (PyVbxlab.whole [p :: r.take n]) = Vbxlab.step s c := by
            unfold VbxlabNeutral.step
            rw [e3]
          show (VbxlabNeutral.step s (PyVbxlab.whole [p :: r.take n])).2 :: PyFlat.played VbxlabNeutral.step (VbxlabNeutral.step s (PyVbxlab.whole [p :: r.take n])).1 (cs'.map PyVbxlab.whole) = _
          rw [est]

/-- what the loop over the calls keeps: at this place of ns, with this state, this has been told -/
structure Loop (ns : List Int) (place : Nat) (m : M) (told : List Int) : Prop where
  good : Good m
  le : place ≤ ns.length
  ow : m.owners.length ≤ place
  rest : ∃ (f : Nat) (cs : List (List (List Int))), PyFlat.calls PyVbxlab.shape f (ns.drop place) = some cs ∧
    PyVbxlab.answers ns = told ++ PyFlat.told (PyFlat.played VbxlabNeutral.step m.abs (cs.map PyVbxlab.whole))
theorem loop_start {ns : List Int} (h : PyVbxlab.answers_asked ns = true) : Loop ns 0 M0 [] := by
  refine ⟨good_start, Nat.zero_le _, Nat.le_refl _, ?_⟩
  unfold PyVbxlab.answers_asked at h
  cases q : PyFlat.calls PyVbxlab.shape ns.length ns with
  | none =>
    rw [q] at h
    cases h
  | some cs =>
    refine ⟨ns.length, cs, q, ?_⟩
    unfold PyVbxlab.answers PyVbxlab.calls
    rw [q, abs_start]
    rfl
theorem asked_short {ns : List Int} (h : PyVbxlab.answers_asked ns = true) : (PyVbxlab.answers ns).length ≤ 10000000 := by
  unfold PyVbxlab.answers_asked at h
  cases q : PyFlat.calls PyVbxlab.shape ns.length ns with
  | none =>
    rw [q] at h
    cases h
  | some cs =>
    rw [q] at h
    have h' : ((((!cs.isEmpty && PyFlat.atMost 300 cs) && PyInside.calls PyVbxlab.bound cs) && VbxlabNeutral.asked (cs.map PyVbxlab.whole)) && PyFlat.short 10000000 (PyVbxlab.answers ns)) = true := h
    rw [Bool.and_eq_true] at h'
    exact of_decide_eq_true h'.2
theorem setState_owners (m : M) (h s : Nat) : (m.setState h s).owners = m.owners := rfl
theorem unit_owners (m : M) : m.unit.owners = m.owners := by
  unfold M.unit
  split
  · exact mark_owners _ _
  · rfl
theorem doUnits_owners : ∀ (k : Nat) (m : M), (M.doUnits k m).1.owners = m.owners
  | 0, _ => rfl
  | k + 1, m => by
    unfold M.doUnits
    split
    · rfl
    · exact (doUnits_owners k m.unit).trans (unit_owners m)
theorem finish_owners (m : M) : m.finish.1.owners = m.owners := by rw [finish_eq]
theorem complete_owners (m : M) : m.complete.1.owners = m.owners := (finish_owners _).trans (doUnits_owners _ _)
theorem begin_owners (m : M) : m.begin.owners = m.owners := (fold_mark_frame _ m.start).2.2.1
theorem op_owners (m : M) (c : Call) : (m.op c).1.owners.length ≤ m.owners.length + 1 := by
  cases c with
  | create i n c =>
    show (m.opCreate i n c).1.owners.length ≤ _
    unfold M.opCreate
    split
    · exact Nat.le_succ _
    · split
      · exact Nat.le_succ _
      · exact Nat.le_succ _
  | setInteger i n =>
    show (m.opSet i _).1.owners.length ≤ _
    unfold M.opSet
    split <;> exact Nat.le_succ _
  | clear i =>
    show (m.opSet i _).1.owners.length ≤ _
    unfold M.opSet
    split <;> exact Nat.le_succ _
  | copy i j =>
    show (m.opCopy i j).1.owners.length ≤ _
    unfold M.opCopy
    split <;> exact Nat.le_succ _
  | read i k j =>
    show (m.opRead i k j).1.owners.length ≤ _
    unfold M.opRead
    split
    · exact Nat.le_succ _
    · split <;> exact Nat.le_succ _
  | write i k j =>
    show (m.opWrite i k j).1.owners.length ≤ _
    unfold M.opWrite
    split
    · exact Nat.le_succ _
    · split
      · exact Nat.le_succ _
      · show (m.guard _ _).owners.length ≤ _
        unfold M.guard
        split
        · rw [mark_owners]
          exact Nat.le_succ _
        · exact Nat.le_succ _
  | compare i j =>
    show (m.opCompare i j).1.owners.length ≤ _
    unfold M.opCompare
    split <;> exact Nat.le_succ _
  | inspect i =>
    show (m.opInspect i).1.owners.length ≤ _
    unfold M.opInspect
    split <;> exact Nat.le_succ _
  | exportObject i =>
    show (m.opExport i).1.owners.length ≤ _
    unfold M.opExport
    split
    · exact Nat.le_succ _
    · split
      · unfold M.export
        split
        · show (m.owners ++ _).length ≤ _
          simp
        · exact Nat.le_succ _
      · exact Nat.le_succ _
  | accept h i =>
    show (m.opAccept h i).1.owners.length ≤ _
    unfold M.opAccept
    split
    · exact Nat.le_succ _
    · split <;> exact Nat.le_succ _
  | retire h =>
    show (m.opRetire h).1.owners.length ≤ _
    unfold M.opRetire
    split <;> exact Nat.le_succ _
  | withdraw h =>
    show (m.opWithdraw h).1.owners.length ≤ _
    unfold M.opWithdraw
    split <;> exact Nat.le_succ _
  | importReference r i =>
    show (m.opImport r i).1.owners.length ≤ _
    unfold M.opImport
    split
    · exact Nat.le_succ _
    · show ((m.receive _).markIf _).owners.length ≤ _
      unfold M.markIf
      split
      · rw [mark_owners]
        exact Nat.le_succ _
      · exact Nat.le_succ _
  | pin i =>
    show (m.opPin i).1.owners.length ≤ _
    unfold M.opPin
    split
    · exact Nat.le_succ _
    · split <;> exact Nat.le_succ _
  | unpin r =>
    show (m.opUnpin r).1.owners.length ≤ _
    unfold M.opUnpin
    split <;> exact Nat.le_succ _
  | beginCycle =>
    show m.opBegin.1.owners.length ≤ _
    unfold M.opBegin
    split
    · exact Nat.le_succ _
    · rw [begin_owners]
      exact Nat.le_succ _
  | work b =>
    show (m.opWork b).1.owners.length ≤ _
    unfold M.opWork
    split
    · exact Nat.le_succ _
    · split
      · exact Nat.le_succ _
      · rw [doUnits_owners]
        exact Nat.le_succ _
  | endCycle =>
    show m.opEnd.1.owners.length ≤ _
    unfold M.opEnd
    split
    · exact Nat.le_succ _
    · split
      · exact Nat.le_succ _
      · rw [finish_owners]
        exact Nat.le_succ _
  | collect =>
    show m.opCollect.1.owners.length ≤ _
    unfold M.opCollect
    rw [complete_owners, begin_owners]
    unfold M.first
    split
    · rw [complete_owners]
      exact Nat.le_succ _
    · exact Nat.le_succ _
  | _ => exact Nat.le_succ _
theorem loop_turn {ns : List Int} {place : Nat} {m : M} {told : List Int} (L : Loop ns place m told) (h : place < ns.length) :
    ∃ c : Call, ns[place]? = some ((code c).1 : Int) ∧ (code c).2 = (ns.drop (place + 1)).take (code c).2.length ∧ place + 1 + (code c).2.length ≤ ns.length ∧
      told.length + 1 + (m.op c).2.length ≤ (PyVbxlab.answers ns).length ∧
      Loop ns (place + 1 + (code c).2.length) (m.op c).1 (told ++ (((m.op c).2.length : Int) :: (m.op c).2)) := by
  obtain ⟨f, cs, h1, h2⟩ := L.rest
  have ed : ns.drop place = ns[place] :: ns.drop (place + 1) := List.drop_eq_getElem_cons h
  rw [ed] at h1
  obtain ⟨c, f', cs', e1, e2, e3, e4, e5⟩ := parse h1
  obtain ⟨s1, s2⟩ := sim L.good c
  rw [e5, s1] at h2
  have h3 : PyVbxlab.answers ns = (told ++ (((m.op c).2.length : Int) :: (m.op c).2)) ++ PyFlat.told (PyFlat.played VbxlabNeutral.step (m.op c).1.abs (cs'.map PyVbxlab.whole)) := by
    rw [h2]
    show told ++ (((((m.op c).2.length : Int) :: (m.op c).2)) ++ PyFlat.told _) = _
    rw [List.append_assoc]
  rw [List.length_drop] at e3
  refine ⟨c, by rw [List.getElem?_eq_getElem h, e1], e2, by omega, ?_, s2, by omega, ?_, f', cs', ?_, h3⟩
  · rw [h3]
    simp only [List.length_append, List.length_cons]
    omega
  · have := op_owners m c
    have := L.ow
    omega
  · rw [List.drop_drop] at e4
    exact e4
theorem loop_end {ns : List Int} {place : Nat} {m : M} {told : List Int} (L : Loop ns place m told) (h : ¬ place < ns.length) : told = PyVbxlab.answers ns := by
  obtain ⟨f, cs, h1, h2⟩ := L.rest
  rw [List.drop_eq_nil_of_le (by omega)] at h1
  have : cs = [] := by
    cases f <;> exact (Option.some.inj h1).symm
  rw [h2, this]
  show told = told ++ []
  rw [List.append_nil]
end Gc

end

set_option Elab.async false
set_option maxRecDepth 100000
set_option maxHeartbeats 4000000
set_option linter.all false
/-! The text by places, its facts (printed by gen.py). -/
namespace Gw
open PySem PySem.Spec PyProof.Rows L2
def top (i : Nat) : Stmt := PySem.Challenge.pw_sweepcycles_s01_answers.main.body.getD i (.Pass ⟨0, 0, 0, 0⟩)

abbrev s_between : Stmt := top 28
abbrev N_between : List Str := ["number", "low", "high"]
theorem sc_between : FnScope N_between ["number", "low", "high"] (defScope s_between) := ⟨rfl, rfl, rfl, by decide +kernel, rfl, by decide +kernel, by decide +kernel⟩
abbrev s_is_slot : Stmt := top 29
abbrev N_is_slot : List Str := ["number"]
theorem sc_is_slot : FnScope N_is_slot ["number"] (defScope s_is_slot) := ⟨rfl, rfl, rfl, by decide +kernel, rfl, by decide +kernel, by decide +kernel⟩
abbrev s_is_field : Stmt := top 30
abbrev N_is_field : List Str := ["number"]
theorem sc_is_field : FnScope N_is_field ["number"] (defScope s_is_field) := ⟨rfl, rfl, rfl, by decide +kernel, rfl, by decide +kernel, by decide +kernel⟩
abbrev s_is_reference : Stmt := top 31
abbrev N_is_reference : List Str := ["number"]
theorem sc_is_reference : FnScope N_is_reference ["number"] (defScope s_is_reference) := ⟨rfl, rfl, rfl, by decide +kernel, rfl, by decide +kernel, by decide +kernel⟩
abbrev s_begin : Stmt := top 33
abbrev N_begin : List Str := ["world", "cycle", "value", "handle"]
theorem sc_begin : FnScope N_begin ["world"] (defScope s_begin) := ⟨rfl, rfl, rfl, by decide +kernel, rfl, by decide +kernel, by decide +kernel⟩
abbrev s_do_unit : Stmt := top 34
abbrev N_do_unit : List Str := ["world", "cycle", "cells"]
theorem sc_do_unit : FnScope N_do_unit ["world"] (defScope s_do_unit) := ⟨rfl, rfl, rfl, by decide +kernel, rfl, by decide +kernel, by decide +kernel⟩
abbrev s_do_units : Stmt := top 35
abbrev N_do_units : List Str := ["world", "budget", "done", "turn"]
theorem sc_do_units : FnScope N_do_units ["world", "budget"] (defScope s_do_units) := ⟨rfl, rfl, rfl, by decide +kernel, rfl, by decide +kernel, by decide +kernel⟩
abbrev s_units_left : Stmt := top 36
abbrev N_units_left : List Str := ["world", "total", "number"]
theorem sc_units_left : FnScope N_units_left ["world"] (defScope s_units_left) := ⟨rfl, rfl, rfl, by decide +kernel, rfl, by decide +kernel, by decide +kernel⟩
abbrev s_free_white : Stmt := top 37
abbrev N_free_white : List Str := ["world", "white", "number"]
theorem sc_free_white : FnScope N_free_white ["world"] (defScope s_free_white) := ⟨rfl, rfl, rfl, by decide +kernel, rfl, by decide +kernel, by decide +kernel⟩
abbrev s_codes_of : Stmt := top 38
abbrev N_codes_of : List Str := ["heap", "numbers", "codes", "number", "code"]
theorem sc_codes_of : FnScope N_codes_of ["heap", "numbers"] (defScope s_codes_of) := ⟨rfl, rfl, rfl, by decide +kernel, rfl, by decide +kernel, by decide +kernel⟩
abbrev s_finish : Stmt := top 39
abbrev N_finish : List Str := ["world", "white", "codes", "gone"]
theorem sc_finish : FnScope N_finish ["world"] (defScope s_finish) := ⟨rfl, rfl, rfl, by decide +kernel, rfl, by decide +kernel, by decide +kernel⟩
abbrev s_complete : Stmt := top 40
abbrev N_complete : List Str := ["world"]
theorem sc_complete : FnScope N_complete ["world"] (defScope s_complete) := ⟨rfl, rfl, rfl, by decide +kernel, rfl, by decide +kernel, by decide +kernel⟩
abbrev s_begin_cycle : Stmt := top 41
abbrev N_begin_cycle : List Str := ["world"]
theorem sc_begin_cycle : FnScope N_begin_cycle ["world"] (defScope s_begin_cycle) := ⟨rfl, rfl, rfl, by decide +kernel, rfl, by decide +kernel, by decide +kernel⟩
abbrev s_work : Stmt := top 42
abbrev N_work : List Str := ["world", "budget", "done"]
theorem sc_work : FnScope N_work ["world", "budget"] (defScope s_work) := ⟨rfl, rfl, rfl, by decide +kernel, rfl, by decide +kernel, by decide +kernel⟩
abbrev s_end_cycle : Stmt := top 43
abbrev N_end_cycle : List Str := ["world"]
theorem sc_end_cycle : FnScope N_end_cycle ["world"] (defScope s_end_cycle) := ⟨rfl, rfl, rfl, by decide +kernel, rfl, by decide +kernel, by decide +kernel⟩
abbrev s_collect : Stmt := top 44
abbrev N_collect : List Str := ["world", "first"]
theorem sc_collect : FnScope N_collect ["world"] (defScope s_collect) := ⟨rfl, rfl, rfl, by decide +kernel, rfl, by decide +kernel, by decide +kernel⟩
abbrev s_Search_init : Stmt := inClass (top 46) 0
abbrev N_Search_init : List Str := ["self", "created", "k"]
theorem sc_Search_init : FnScope N_Search_init ["self", "created"] (defScope s_Search_init) := ⟨rfl, rfl, rfl, by decide +kernel, rfl, by decide +kernel, by decide +kernel⟩
abbrev s_Search_visit : Stmt := inClass (top 46) 1
abbrev N_Search_visit : List Str := ["self", "number", "parent", "label"]
theorem sc_Search_visit : FnScope N_Search_visit ["self", "number", "parent", "label"] (defScope s_Search_visit) := ⟨rfl, rfl, rfl, by decide +kernel, rfl, by decide +kernel, by decide +kernel⟩
abbrev s_list_roots : Stmt := top 47
abbrev N_list_roots : List Str := ["world", "roots", "slot", "kind", "number", "handle"]
theorem sc_list_roots : FnScope N_list_roots ["world"] (defScope s_list_roots) := ⟨rfl, rfl, rfl, by decide +kernel, rfl, by decide +kernel, by decide +kernel⟩
abbrev s_expand : Stmt := top 48
abbrev N_expand : List Str := ["heap", "search", "place", "cells", "field", "kind", "number"]
theorem sc_expand : FnScope N_expand ["heap", "search", "place"] (defScope s_expand) := ⟨rfl, rfl, rfl, by decide +kernel, rfl, by decide +kernel, by decide +kernel⟩
abbrev s_search_from : Stmt := top 49
abbrev N_search_from : List Str := ["heap", "roots", "search", "place"]
theorem sc_search_from : FnScope N_search_from ["heap", "roots"] (defScope s_search_from) := ⟨rfl, rfl, rfl, by decide +kernel, rfl, by decide +kernel, by decide +kernel⟩
abbrev s_tell_status : Stmt := top 50
abbrev N_tell_status : List Str := ["world", "present", "handles", "references", "black", "number"]
theorem sc_tell_status : FnScope N_tell_status ["world"] (defScope s_tell_status) := ⟨rfl, rfl, rfl, by decide +kernel, rfl, by decide +kernel, by decide +kernel⟩
abbrev s_tell_present : Stmt := top 51
abbrev N_tell_present : List Str := ["world", "present"]
theorem sc_tell_present : FnScope N_tell_present ["world"] (defScope s_tell_present) := ⟨rfl, rfl, rfl, by decide +kernel, rfl, by decide +kernel, by decide +kernel⟩
abbrev s_tell_path : Stmt := top 52
abbrev N_tell_path : List Str := ["world", "number", "roots", "search", "place", "backward", "kind", "root", "start"]
theorem sc_tell_path : FnScope N_tell_path ["world", "number"] (defScope s_tell_path) := ⟨rfl, rfl, rfl, by decide +kernel, rfl, by decide +kernel, by decide +kernel⟩
abbrev s_tell_reported : Stmt := top 53
abbrev N_tell_reported : List Str := ["world"]
theorem sc_tell_reported : FnScope N_tell_reported ["world"] (defScope s_tell_reported) := ⟨rfl, rfl, rfl, by decide +kernel, rfl, by decide +kernel, by decide +kernel⟩
abbrev s_tell_remaining : Stmt := top 54
abbrev N_tell_remaining : List Str := ["world"]
theorem sc_tell_remaining : FnScope N_tell_remaining ["world"] (defScope s_tell_remaining) := ⟨rfl, rfl, rfl, by decide +kernel, rfl, by decide +kernel, by decide +kernel⟩
abbrev s_create : Stmt := top 56
abbrev N_create : List Str := ["world", "slot", "size", "code", "number"]
theorem sc_create : FnScope N_create ["world", "slot", "size", "code"] (defScope s_create) := ⟨rfl, rfl, rfl, by decide +kernel, rfl, by decide +kernel, by decide +kernel⟩
abbrev s_set_integer : Stmt := top 57
abbrev N_set_integer : List Str := ["world", "slot", "n"]
theorem sc_set_integer : FnScope N_set_integer ["world", "slot", "n"] (defScope s_set_integer) := ⟨rfl, rfl, rfl, by decide +kernel, rfl, by decide +kernel, by decide +kernel⟩
abbrev s_clear_slot : Stmt := top 58
abbrev N_clear_slot : List Str := ["world", "slot"]
theorem sc_clear_slot : FnScope N_clear_slot ["world", "slot"] (defScope s_clear_slot) := ⟨rfl, rfl, rfl, by decide +kernel, rfl, by decide +kernel, by decide +kernel⟩
abbrev s_copy_slot : Stmt := top 59
abbrev N_copy_slot : List Str := ["world", "source", "target"]
theorem sc_copy_slot : FnScope N_copy_slot ["world", "source", "target"] (defScope s_copy_slot) := ⟨rfl, rfl, rfl, by decide +kernel, rfl, by decide +kernel, by decide +kernel⟩
abbrev s_field_error : Stmt := top 60
abbrev N_field_error : List Str := ["world", "slot", "field", "kind", "number"]
theorem sc_field_error : FnScope N_field_error ["world", "slot", "field"] (defScope s_field_error) := ⟨rfl, rfl, rfl, by decide +kernel, rfl, by decide +kernel, by decide +kernel⟩
abbrev s_read_field : Stmt := top 61
abbrev N_read_field : List Str := ["world", "slot", "field", "target", "error", "kind", "number"]
theorem sc_read_field : FnScope N_read_field ["world", "slot", "field", "target"] (defScope s_read_field) := ⟨rfl, rfl, rfl, by decide +kernel, rfl, by decide +kernel, by decide +kernel⟩
abbrev s_write_field : Stmt := top 62
abbrev N_write_field : List Str := ["world", "slot", "field", "source", "error", "kind", "number", "holder"]
theorem sc_write_field : FnScope N_write_field ["world", "slot", "field", "source"] (defScope s_write_field) := ⟨rfl, rfl, rfl, by decide +kernel, rfl, by decide +kernel, by decide +kernel⟩
abbrev s_compare : Stmt := top 63
abbrev N_compare : List Str := ["world", "first", "second"]
theorem sc_compare : FnScope N_compare ["world", "first", "second"] (defScope s_compare) := ⟨rfl, rfl, rfl, by decide +kernel, rfl, by decide +kernel, by decide +kernel⟩
abbrev s_inspect_slot : Stmt := top 64
abbrev N_inspect_slot : List Str := ["world", "slot", "kind", "number"]
theorem sc_inspect_slot : FnScope N_inspect_slot ["world", "slot"] (defScope s_inspect_slot) := ⟨rfl, rfl, rfl, by decide +kernel, rfl, by decide +kernel, by decide +kernel⟩
abbrev s_export_object : Stmt := top 65
abbrev N_export_object : List Str := ["world", "slot", "kind", "number"]
theorem sc_export_object : FnScope N_export_object ["world", "slot"] (defScope s_export_object) := ⟨rfl, rfl, rfl, by decide +kernel, rfl, by decide +kernel, by decide +kernel⟩
abbrev s_accept_handle : Stmt := top 66
abbrev N_accept_handle : List Str := ["world", "handle", "slot"]
theorem sc_accept_handle : FnScope N_accept_handle ["world", "handle", "slot"] (defScope s_accept_handle) := ⟨rfl, rfl, rfl, by decide +kernel, rfl, by decide +kernel, by decide +kernel⟩
abbrev s_retire_handle : Stmt := top 67
abbrev N_retire_handle : List Str := ["world", "handle"]
theorem sc_retire_handle : FnScope N_retire_handle ["world", "handle"] (defScope s_retire_handle) := ⟨rfl, rfl, rfl, by decide +kernel, rfl, by decide +kernel, by decide +kernel⟩
abbrev s_withdraw_handle : Stmt := top 68
abbrev N_withdraw_handle : List Str := ["world", "handle"]
theorem sc_withdraw_handle : FnScope N_withdraw_handle ["world", "handle"] (defScope s_withdraw_handle) := ⟨rfl, rfl, rfl, by decide +kernel, rfl, by decide +kernel, by decide +kernel⟩
abbrev s_import_reference : Stmt := top 69
abbrev N_import_reference : List Str := ["world", "reference", "slot"]
theorem sc_import_reference : FnScope N_import_reference ["world", "reference", "slot"] (defScope s_import_reference) := ⟨rfl, rfl, rfl, by decide +kernel, rfl, by decide +kernel, by decide +kernel⟩
abbrev s_pin_reference : Stmt := top 70
abbrev N_pin_reference : List Str := ["world", "slot", "kind", "number"]
theorem sc_pin_reference : FnScope N_pin_reference ["world", "slot"] (defScope s_pin_reference) := ⟨rfl, rfl, rfl, by decide +kernel, rfl, by decide +kernel, by decide +kernel⟩
abbrev s_unpin_reference : Stmt := top 71
abbrev N_unpin_reference : List Str := ["world", "reference"]
theorem sc_unpin_reference : FnScope N_unpin_reference ["world", "reference"] (defScope s_unpin_reference) := ⟨rfl, rfl, rfl, by decide +kernel, rfl, by decide +kernel, by decide +kernel⟩
abbrev s_Cycle_init : Stmt := inClass (top 73) 0
abbrev N_Cycle_init : List Str := ["self"]
theorem sc_Cycle_init : FnScope N_Cycle_init ["self"] (defScope s_Cycle_init) := ⟨rfl, rfl, rfl, by decide +kernel, rfl, by decide +kernel, by decide +kernel⟩
abbrev s_Cycle_start : Stmt := inClass (top 73) 1
abbrev N_Cycle_start : List Str := ["self", "created", "pinned", "k"]
theorem sc_Cycle_start : FnScope N_Cycle_start ["self", "created", "pinned"] (defScope s_Cycle_start) := ⟨rfl, rfl, rfl, by decide +kernel, rfl, by decide +kernel, by decide +kernel⟩
abbrev s_Cycle_stop : Stmt := inClass (top 73) 2
abbrev N_Cycle_stop : List Str := ["self"]
theorem sc_Cycle_stop : FnScope N_Cycle_stop ["self"] (defScope s_Cycle_stop) := ⟨rfl, rfl, rfl, by decide +kernel, rfl, by decide +kernel, by decide +kernel⟩
abbrev s_Cycle_is_old : Stmt := inClass (top 73) 3
abbrev N_Cycle_is_old : List Str := ["self", "number"]
theorem sc_Cycle_is_old : FnScope N_Cycle_is_old ["self", "number"] (defScope s_Cycle_is_old) := ⟨rfl, rfl, rfl, by decide +kernel, rfl, by decide +kernel, by decide +kernel⟩
abbrev s_Cycle_color : Stmt := inClass (top 73) 4
abbrev N_Cycle_color : List Str := ["self", "number"]
theorem sc_Cycle_color : FnScope N_Cycle_color ["self", "number"] (defScope s_Cycle_color) := ⟨rfl, rfl, rfl, by decide +kernel, rfl, by decide +kernel, by decide +kernel⟩
abbrev s_Cycle_mark : Stmt := inClass (top 73) 5
abbrev N_Cycle_mark : List Str := ["self", "value", "kind", "number"]
theorem sc_Cycle_mark : FnScope N_Cycle_mark ["self", "value"] (defScope s_Cycle_mark) := ⟨rfl, rfl, rfl, by decide +kernel, rfl, by decide +kernel, by decide +kernel⟩
abbrev s_Cycle_examine : Stmt := inClass (top 73) 6
abbrev N_Cycle_examine : List Str := ["self", "value"]
theorem sc_Cycle_examine : FnScope N_Cycle_examine ["self", "value"] (defScope s_Cycle_examine) := ⟨rfl, rfl, rfl, by decide +kernel, rfl, by decide +kernel, by decide +kernel⟩
abbrev s_Cycle_blacken : Stmt := inClass (top 73) 7
abbrev N_Cycle_blacken : List Str := ["self"]
theorem sc_Cycle_blacken : FnScope N_Cycle_blacken ["self"] (defScope s_Cycle_blacken) := ⟨rfl, rfl, rfl, by decide +kernel, rfl, by decide +kernel, by decide +kernel⟩
abbrev s_Cycle_count_unit : Stmt := inClass (top 73) 8
abbrev N_Cycle_count_unit : List Str := ["self"]
theorem sc_Cycle_count_unit : FnScope N_Cycle_count_unit ["self"] (defScope s_Cycle_count_unit) := ⟨rfl, rfl, rfl, by decide +kernel, rfl, by decide +kernel, by decide +kernel⟩
abbrev s_Entry_init : Stmt := inClass (top 75) 0
abbrev N_Entry_init : List Str := ["self", "size", "code", "k"]
theorem sc_Entry_init : FnScope N_Entry_init ["self", "size", "code"] (defScope s_Entry_init) := ⟨rfl, rfl, rfl, by decide +kernel, rfl, by decide +kernel, by decide +kernel⟩
abbrev s_Heap_init : Stmt := inClass (top 76) 0
abbrev N_Heap_init : List Str := ["self", "k"]
theorem sc_Heap_init : FnScope N_Heap_init ["self"] (defScope s_Heap_init) := ⟨rfl, rfl, rfl, by decide +kernel, rfl, by decide +kernel, by decide +kernel⟩
abbrev s_Heap_created : Stmt := inClass (top 76) 1
abbrev N_Heap_created : List Str := ["self"]
theorem sc_Heap_created : FnScope N_Heap_created ["self"] (defScope s_Heap_created) := ⟨rfl, rfl, rfl, by decide +kernel, rfl, by decide +kernel, by decide +kernel⟩
abbrev s_Heap_entry : Stmt := inClass (top 76) 2
abbrev N_Heap_entry : List Str := ["self", "number"]
theorem sc_Heap_entry : FnScope N_Heap_entry ["self", "number"] (defScope s_Heap_entry) := ⟨rfl, rfl, rfl, by decide +kernel, rfl, by decide +kernel, by decide +kernel⟩
abbrev s_Heap_create : Stmt := inClass (top 76) 3
abbrev N_Heap_create : List Str := ["self", "size", "code"]
theorem sc_Heap_create : FnScope N_Heap_create ["self", "size", "code"] (defScope s_Heap_create) := ⟨rfl, rfl, rfl, by decide +kernel, rfl, by decide +kernel, by decide +kernel⟩
abbrev s_Heap_put : Stmt := inClass (top 76) 4
abbrev N_Heap_put : List Str := ["self", "slot", "value"]
theorem sc_Heap_put : FnScope N_Heap_put ["self", "slot", "value"] (defScope s_Heap_put) := ⟨rfl, rfl, rfl, by decide +kernel, rfl, by decide +kernel, by decide +kernel⟩
abbrev s_Heap_is_present : Stmt := inClass (top 76) 5
abbrev N_Heap_is_present : List Str := ["self", "number"]
theorem sc_Heap_is_present : FnScope N_Heap_is_present ["self", "number"] (defScope s_Heap_is_present) := ⟨rfl, rfl, rfl, by decide +kernel, rfl, by decide +kernel, by decide +kernel⟩
abbrev s_Heap_present : Stmt := inClass (top 76) 6
abbrev N_Heap_present : List Str := ["self", "number"]
theorem sc_Heap_present : FnScope N_Heap_present ["self"] (defScope s_Heap_present) := ⟨rfl, rfl, rfl, by decide +kernel, rfl, by decide +kernel, by decide +kernel⟩
abbrev s_Heap_free : Stmt := inClass (top 76) 7
abbrev N_Heap_free : List Str := ["self", "number", "freed"]
theorem sc_Heap_free : FnScope N_Heap_free ["self", "number"] (defScope s_Heap_free) := ⟨rfl, rfl, rfl, by decide +kernel, rfl, by decide +kernel, by decide +kernel⟩
abbrev s_Exports_init : Stmt := inClass (top 78) 0
abbrev N_Exports_init : List Str := ["self"]
theorem sc_Exports_init : FnScope N_Exports_init ["self"] (defScope s_Exports_init) := ⟨rfl, rfl, rfl, by decide +kernel, rfl, by decide +kernel, by decide +kernel⟩
abbrev s_Exports_state : Stmt := inClass (top 78) 1
abbrev N_Exports_state : List Str := ["self", "handle"]
theorem sc_Exports_state : FnScope N_Exports_state ["self", "handle"] (defScope s_Exports_state) := ⟨rfl, rfl, rfl, by decide +kernel, rfl, by decide +kernel, by decide +kernel⟩
abbrev s_Exports_owner : Stmt := inClass (top 78) 2
abbrev N_Exports_owner : List Str := ["self", "handle"]
theorem sc_Exports_owner : FnScope N_Exports_owner ["self", "handle"] (defScope s_Exports_owner) := ⟨rfl, rfl, rfl, by decide +kernel, rfl, by decide +kernel, by decide +kernel⟩
abbrev s_Exports_handle_of : Stmt := inClass (top 78) 3
abbrev N_Exports_handle_of : List Str := ["self", "number", "handle"]
theorem sc_Exports_handle_of : FnScope N_Exports_handle_of ["self", "number"] (defScope s_Exports_handle_of) := ⟨rfl, rfl, rfl, by decide +kernel, rfl, by decide +kernel, by decide +kernel⟩
abbrev s_Exports_export : Stmt := inClass (top 78) 4
abbrev N_Exports_export : List Str := ["self", "number", "handle"]
theorem sc_Exports_export : FnScope N_Exports_export ["self", "number"] (defScope s_Exports_export) := ⟨rfl, rfl, rfl, by decide +kernel, rfl, by decide +kernel, by decide +kernel⟩
abbrev s_Exports_retire : Stmt := inClass (top 78) 5
abbrev N_Exports_retire : List Str := ["self", "handle"]
theorem sc_Exports_retire : FnScope N_Exports_retire ["self", "handle"] (defScope s_Exports_retire) := ⟨rfl, rfl, rfl, by decide +kernel, rfl, by decide +kernel, by decide +kernel⟩
abbrev s_Exports_withdraw : Stmt := inClass (top 78) 6
abbrev N_Exports_withdraw : List Str := ["self", "handle"]
theorem sc_Exports_withdraw : FnScope N_Exports_withdraw ["self", "handle"] (defScope s_Exports_withdraw) := ⟨rfl, rfl, rfl, by decide +kernel, rfl, by decide +kernel, by decide +kernel⟩
abbrev s_Exports_active : Stmt := inClass (top 78) 7
abbrev N_Exports_active : List Str := ["self", "handle"]
theorem sc_Exports_active : FnScope N_Exports_active ["self"] (defScope s_Exports_active) := ⟨rfl, rfl, rfl, by decide +kernel, rfl, by decide +kernel, by decide +kernel⟩
abbrev s_Imports_init : Stmt := inClass (top 79) 0
abbrev N_Imports_init : List Str := ["self", "k"]
theorem sc_Imports_init : FnScope N_Imports_init ["self"] (defScope s_Imports_init) := ⟨rfl, rfl, rfl, by decide +kernel, rfl, by decide +kernel, by decide +kernel⟩
abbrev s_Imports_receive : Stmt := inClass (top 79) 1
abbrev N_Imports_receive : List Str := ["self", "reference"]
theorem sc_Imports_receive : FnScope N_Imports_receive ["self", "reference"] (defScope s_Imports_receive) := ⟨rfl, rfl, rfl, by decide +kernel, rfl, by decide +kernel, by decide +kernel⟩
abbrev s_Imports_pin : Stmt := inClass (top 79) 2
abbrev N_Imports_pin : List Str := ["self", "reference"]
theorem sc_Imports_pin : FnScope N_Imports_pin ["self", "reference"] (defScope s_Imports_pin) := ⟨rfl, rfl, rfl, by decide +kernel, rfl, by decide +kernel, by decide +kernel⟩
abbrev s_Imports_is_pinned : Stmt := inClass (top 79) 3
abbrev N_Imports_is_pinned : List Str := ["self", "number"]
theorem sc_Imports_is_pinned : FnScope N_Imports_is_pinned ["self", "number"] (defScope s_Imports_is_pinned) := ⟨rfl, rfl, rfl, by decide +kernel, rfl, by decide +kernel, by decide +kernel⟩
abbrev s_Imports_unpin : Stmt := inClass (top 79) 4
abbrev N_Imports_unpin : List Str := ["self", "reference"]
theorem sc_Imports_unpin : FnScope N_Imports_unpin ["self", "reference"] (defScope s_Imports_unpin) := ⟨rfl, rfl, rfl, by decide +kernel, rfl, by decide +kernel, by decide +kernel⟩
abbrev s_Imports_all_imported : Stmt := inClass (top 79) 5
abbrev N_Imports_all_imported : List Str := ["self", "reference"]
theorem sc_Imports_all_imported : FnScope N_Imports_all_imported ["self"] (defScope s_Imports_all_imported) := ⟨rfl, rfl, rfl, by decide +kernel, rfl, by decide +kernel, by decide +kernel⟩
abbrev s_Imports_give_up : Stmt := inClass (top 79) 6
abbrev N_Imports_give_up : List Str := ["self", "marked", "gone", "reference"]
theorem sc_Imports_give_up : FnScope N_Imports_give_up ["self", "marked"] (defScope s_Imports_give_up) := ⟨rfl, rfl, rfl, by decide +kernel, rfl, by decide +kernel, by decide +kernel⟩
abbrev s_World_init : Stmt := inClass (top 81) 0
abbrev N_World_init : List Str := ["self"]
theorem sc_World_init : FnScope N_World_init ["self"] (defScope s_World_init) := ⟨rfl, rfl, rfl, by decide +kernel, rfl, by decide +kernel, by decide +kernel⟩
abbrev s_World_report : Stmt := inClass (top 81) 1
abbrev N_World_report : List Str := ["self", "codes"]
theorem sc_World_report : FnScope N_World_report ["self", "codes"] (defScope s_World_report) := ⟨rfl, rfl, rfl, by decide +kernel, rfl, by decide +kernel, by decide +kernel⟩
abbrev s_slot_call : Stmt := top 84
abbrev N_slot_call : List Str := ["world", "operation", "given"]
theorem sc_slot_call : FnScope N_slot_call ["world", "operation", "given"] (defScope s_slot_call) := ⟨rfl, rfl, rfl, by decide +kernel, rfl, by decide +kernel, by decide +kernel⟩
abbrev s_outside_call : Stmt := top 85
abbrev N_outside_call : List Str := ["world", "operation", "given"]
theorem sc_outside_call : FnScope N_outside_call ["world", "operation", "given"] (defScope s_outside_call) := ⟨rfl, rfl, rfl, by decide +kernel, rfl, by decide +kernel, by decide +kernel⟩
abbrev s_collector_call : Stmt := top 86
abbrev N_collector_call : List Str := ["world", "operation", "given"]
theorem sc_collector_call : FnScope N_collector_call ["world", "operation", "given"] (defScope s_collector_call) := ⟨rfl, rfl, rfl, by decide +kernel, rfl, by decide +kernel, by decide +kernel⟩
abbrev s_inquiry_call : Stmt := top 87
abbrev N_inquiry_call : List Str := ["world", "operation", "given"]
theorem sc_inquiry_call : FnScope N_inquiry_call ["world", "operation", "given"] (defScope s_inquiry_call) := ⟨rfl, rfl, rfl, by decide +kernel, rfl, by decide +kernel, by decide +kernel⟩
abbrev s_perform : Stmt := top 88
abbrev N_perform : List Str := ["world", "operation", "given"]
theorem sc_perform : FnScope N_perform ["world", "operation", "given"] (defScope s_perform) := ⟨rfl, rfl, rfl, by decide +kernel, rfl, by decide +kernel, by decide +kernel⟩
abbrev s_answers : Stmt := top 89
abbrev N_answers : List Str := ["calls", "world", "told", "at", "operation", "behind", "result"]
theorem sc_answers : FnScope N_answers ["calls"] (defScope s_answers) := ⟨rfl, rfl, rfl, by decide +kernel, rfl, by decide +kernel, by decide +kernel⟩

/-! ### attributes -/
theorem lk_here {k : Str} {v : V} {r : List (Str × V)} : List.lookup k ((k, v) :: r) = some v := by
  have e : (k == k) = true := beq_self_eq_true k
  simp only [List.lookup, e]
theorem lk_past {k g : Str} {v : V} {r : List (Str × V)} (h : (k == g) = false) : List.lookup k ((g, v) :: r) = List.lookup k r := by
  simp only [List.lookup, h]
theorem put_here {f : Str} {v x : V} {r : List (Str × V)} : putF f v ((f, x) :: r) = (f, v) :: r := if_pos rfl
theorem put_past {f g : Str} {v x : V} {r : List (Str × V)} (h : ¬ g = f) : putF f v ((g, x) :: r) = (g, x) :: putF f v r := if_neg h
theorem put_nil {f : Str} {v : V} : putF f v [] = [(f, v)] := rfl

theorem ne_active_owners : (("active" : Str) == "owners") = false := by decide +kernel
theorem nq_owners_active : ¬ (("owners" : Str) = "active") := fun e => by have h := ne_active_owners; rw [e, beq_self_eq_true] at h; cases h
theorem ne_active_states : (("active" : Str) == "states") = false := by decide +kernel
theorem nq_states_active : ¬ (("states" : Str) = "active") := fun e => by have h := ne_active_states; rw [e, beq_self_eq_true] at h; cases h
theorem ne_all_imported_imported : (("all_imported" : Str) == "imported") = false := by decide +kernel
theorem nq_imported_all_imported : ¬ (("imported" : Str) = "all_imported") := fun e => by have h := ne_all_imported_imported; rw [e, beq_self_eq_true] at h; cases h
theorem ne_all_imported_pinned : (("all_imported" : Str) == "pinned") = false := by decide +kernel
theorem nq_pinned_all_imported : ¬ (("pinned" : Str) = "all_imported") := fun e => by have h := ne_all_imported_pinned; rw [e, beq_self_eq_true] at h; cases h
theorem ne_blacken_colors : (("blacken" : Str) == "colors") = false := by decide +kernel
theorem nq_colors_blacken : ¬ (("colors" : Str) = "blacken") := fun e => by have h := ne_blacken_colors; rw [e, beq_self_eq_true] at h; cases h
theorem ne_blacken_examined : (("blacken" : Str) == "examined") = false := by decide +kernel
theorem nq_examined_blacken : ¬ (("examined" : Str) = "blacken") := fun e => by have h := ne_blacken_examined; rw [e, beq_self_eq_true] at h; cases h
theorem ne_blacken_grey : (("blacken" : Str) == "grey") = false := by decide +kernel
theorem nq_grey_blacken : ¬ (("grey" : Str) = "blacken") := fun e => by have h := ne_blacken_grey; rw [e, beq_self_eq_true] at h; cases h
theorem ne_blacken_marked : (("blacken" : Str) == "marked") = false := by decide +kernel
theorem nq_marked_blacken : ¬ (("marked" : Str) = "blacken") := fun e => by have h := ne_blacken_marked; rw [e, beq_self_eq_true] at h; cases h
theorem ne_blacken_running : (("blacken" : Str) == "running") = false := by decide +kernel
theorem nq_running_blacken : ¬ (("running" : Str) = "blacken") := fun e => by have h := ne_blacken_running; rw [e, beq_self_eq_true] at h; cases h
theorem ne_blacken_units : (("blacken" : Str) == "units") = false := by decide +kernel
theorem nq_units_blacken : ¬ (("units" : Str) = "blacken") := fun e => by have h := ne_blacken_units; rw [e, beq_self_eq_true] at h; cases h
theorem ne_code_cells : (("code" : Str) == "cells") = false := by decide +kernel
theorem nq_cells_code : ¬ (("cells" : Str) = "code") := fun e => by have h := ne_code_cells; rw [e, beq_self_eq_true] at h; cases h
theorem ne_color_colors : (("color" : Str) == "colors") = false := by decide +kernel
theorem nq_colors_color : ¬ (("colors" : Str) = "color") := fun e => by have h := ne_color_colors; rw [e, beq_self_eq_true] at h; cases h
theorem ne_color_examined : (("color" : Str) == "examined") = false := by decide +kernel
theorem nq_examined_color : ¬ (("examined" : Str) = "color") := fun e => by have h := ne_color_examined; rw [e, beq_self_eq_true] at h; cases h
theorem ne_color_grey : (("color" : Str) == "grey") = false := by decide +kernel
theorem nq_grey_color : ¬ (("grey" : Str) = "color") := fun e => by have h := ne_color_grey; rw [e, beq_self_eq_true] at h; cases h
theorem ne_color_marked : (("color" : Str) == "marked") = false := by decide +kernel
theorem nq_marked_color : ¬ (("marked" : Str) = "color") := fun e => by have h := ne_color_marked; rw [e, beq_self_eq_true] at h; cases h
theorem ne_color_running : (("color" : Str) == "running") = false := by decide +kernel
theorem nq_running_color : ¬ (("running" : Str) = "color") := fun e => by have h := ne_color_running; rw [e, beq_self_eq_true] at h; cases h
theorem ne_color_units : (("color" : Str) == "units") = false := by decide +kernel
theorem nq_units_color : ¬ (("units" : Str) = "color") := fun e => by have h := ne_color_units; rw [e, beq_self_eq_true] at h; cases h
theorem ne_colors_running : (("colors" : Str) == "running") = false := by decide +kernel
theorem nq_running_colors : ¬ (("running" : Str) = "colors") := fun e => by have h := ne_colors_running; rw [e, beq_self_eq_true] at h; cases h
theorem ne_count_unit_colors : (("count_unit" : Str) == "colors") = false := by decide +kernel
theorem nq_colors_count_unit : ¬ (("colors" : Str) = "count_unit") := fun e => by have h := ne_count_unit_colors; rw [e, beq_self_eq_true] at h; cases h
theorem ne_count_unit_examined : (("count_unit" : Str) == "examined") = false := by decide +kernel
theorem nq_examined_count_unit : ¬ (("examined" : Str) = "count_unit") := fun e => by have h := ne_count_unit_examined; rw [e, beq_self_eq_true] at h; cases h
theorem ne_count_unit_grey : (("count_unit" : Str) == "grey") = false := by decide +kernel
theorem nq_grey_count_unit : ¬ (("grey" : Str) = "count_unit") := fun e => by have h := ne_count_unit_grey; rw [e, beq_self_eq_true] at h; cases h
theorem ne_count_unit_marked : (("count_unit" : Str) == "marked") = false := by decide +kernel
theorem nq_marked_count_unit : ¬ (("marked" : Str) = "count_unit") := fun e => by have h := ne_count_unit_marked; rw [e, beq_self_eq_true] at h; cases h
theorem ne_count_unit_running : (("count_unit" : Str) == "running") = false := by decide +kernel
theorem nq_running_count_unit : ¬ (("running" : Str) = "count_unit") := fun e => by have h := ne_count_unit_running; rw [e, beq_self_eq_true] at h; cases h
theorem ne_count_unit_units : (("count_unit" : Str) == "units") = false := by decide +kernel
theorem nq_units_count_unit : ¬ (("units" : Str) = "count_unit") := fun e => by have h := ne_count_unit_units; rw [e, beq_self_eq_true] at h; cases h
theorem ne_create_entries : (("create" : Str) == "entries") = false := by decide +kernel
theorem nq_entries_create : ¬ (("entries" : Str) = "create") := fun e => by have h := ne_create_entries; rw [e, beq_self_eq_true] at h; cases h
theorem ne_create_slots : (("create" : Str) == "slots") = false := by decide +kernel
theorem nq_slots_create : ¬ (("slots" : Str) = "create") := fun e => by have h := ne_create_slots; rw [e, beq_self_eq_true] at h; cases h
theorem ne_created_entries : (("created" : Str) == "entries") = false := by decide +kernel
theorem nq_entries_created : ¬ (("entries" : Str) = "created") := fun e => by have h := ne_created_entries; rw [e, beq_self_eq_true] at h; cases h
theorem ne_created_slots : (("created" : Str) == "slots") = false := by decide +kernel
theorem nq_slots_created : ¬ (("slots" : Str) = "created") := fun e => by have h := ne_created_slots; rw [e, beq_self_eq_true] at h; cases h
theorem ne_cycle_exports : (("cycle" : Str) == "exports") = false := by decide +kernel
theorem nq_exports_cycle : ¬ (("exports" : Str) = "cycle") := fun e => by have h := ne_cycle_exports; rw [e, beq_self_eq_true] at h; cases h
theorem ne_cycle_heap : (("cycle" : Str) == "heap") = false := by decide +kernel
theorem nq_heap_cycle : ¬ (("heap" : Str) = "cycle") := fun e => by have h := ne_cycle_heap; rw [e, beq_self_eq_true] at h; cases h
theorem ne_cycle_imports : (("cycle" : Str) == "imports") = false := by decide +kernel
theorem nq_imports_cycle : ¬ (("imports" : Str) = "cycle") := fun e => by have h := ne_cycle_imports; rw [e, beq_self_eq_true] at h; cases h
theorem ne_entries_slots : (("entries" : Str) == "slots") = false := by decide +kernel
theorem nq_slots_entries : ¬ (("slots" : Str) = "entries") := fun e => by have h := ne_entries_slots; rw [e, beq_self_eq_true] at h; cases h
theorem ne_entry_entries : (("entry" : Str) == "entries") = false := by decide +kernel
theorem nq_entries_entry : ¬ (("entries" : Str) = "entry") := fun e => by have h := ne_entry_entries; rw [e, beq_self_eq_true] at h; cases h
theorem ne_entry_slots : (("entry" : Str) == "slots") = false := by decide +kernel
theorem nq_slots_entry : ¬ (("slots" : Str) = "entry") := fun e => by have h := ne_entry_slots; rw [e, beq_self_eq_true] at h; cases h
theorem ne_examine_colors : (("examine" : Str) == "colors") = false := by decide +kernel
theorem nq_colors_examine : ¬ (("colors" : Str) = "examine") := fun e => by have h := ne_examine_colors; rw [e, beq_self_eq_true] at h; cases h
theorem ne_examine_examined : (("examine" : Str) == "examined") = false := by decide +kernel
theorem nq_examined_examine : ¬ (("examined" : Str) = "examine") := fun e => by have h := ne_examine_examined; rw [e, beq_self_eq_true] at h; cases h
theorem ne_examine_grey : (("examine" : Str) == "grey") = false := by decide +kernel
theorem nq_grey_examine : ¬ (("grey" : Str) = "examine") := fun e => by have h := ne_examine_grey; rw [e, beq_self_eq_true] at h; cases h
theorem ne_examine_marked : (("examine" : Str) == "marked") = false := by decide +kernel
theorem nq_marked_examine : ¬ (("marked" : Str) = "examine") := fun e => by have h := ne_examine_marked; rw [e, beq_self_eq_true] at h; cases h
theorem ne_examine_running : (("examine" : Str) == "running") = false := by decide +kernel
theorem nq_running_examine : ¬ (("running" : Str) = "examine") := fun e => by have h := ne_examine_running; rw [e, beq_self_eq_true] at h; cases h
theorem ne_examine_units : (("examine" : Str) == "units") = false := by decide +kernel
theorem nq_units_examine : ¬ (("units" : Str) = "examine") := fun e => by have h := ne_examine_units; rw [e, beq_self_eq_true] at h; cases h
theorem ne_examined_colors : (("examined" : Str) == "colors") = false := by decide +kernel
theorem nq_colors_examined : ¬ (("colors" : Str) = "examined") := fun e => by have h := ne_examined_colors; rw [e, beq_self_eq_true] at h; cases h
theorem ne_examined_grey : (("examined" : Str) == "grey") = false := by decide +kernel
theorem nq_grey_examined : ¬ (("grey" : Str) = "examined") := fun e => by have h := ne_examined_grey; rw [e, beq_self_eq_true] at h; cases h
theorem ne_examined_running : (("examined" : Str) == "running") = false := by decide +kernel
theorem nq_running_examined : ¬ (("running" : Str) = "examined") := fun e => by have h := ne_examined_running; rw [e, beq_self_eq_true] at h; cases h
theorem ne_export_owners : (("export" : Str) == "owners") = false := by decide +kernel
theorem nq_owners_export : ¬ (("owners" : Str) = "export") := fun e => by have h := ne_export_owners; rw [e, beq_self_eq_true] at h; cases h
theorem ne_export_states : (("export" : Str) == "states") = false := by decide +kernel
theorem nq_states_export : ¬ (("states" : Str) = "export") := fun e => by have h := ne_export_states; rw [e, beq_self_eq_true] at h; cases h
theorem ne_exports_heap : (("exports" : Str) == "heap") = false := by decide +kernel
theorem nq_heap_exports : ¬ (("heap" : Str) = "exports") := fun e => by have h := ne_exports_heap; rw [e, beq_self_eq_true] at h; cases h
theorem ne_found_seen : (("found" : Str) == "seen") = false := by decide +kernel
theorem nq_seen_found : ¬ (("seen" : Str) = "found") := fun e => by have h := ne_found_seen; rw [e, beq_self_eq_true] at h; cases h
theorem ne_free_entries : (("free" : Str) == "entries") = false := by decide +kernel
theorem nq_entries_free : ¬ (("entries" : Str) = "free") := fun e => by have h := ne_free_entries; rw [e, beq_self_eq_true] at h; cases h
theorem ne_free_slots : (("free" : Str) == "slots") = false := by decide +kernel
theorem nq_slots_free : ¬ (("slots" : Str) = "free") := fun e => by have h := ne_free_slots; rw [e, beq_self_eq_true] at h; cases h
theorem ne_give_up_imported : (("give_up" : Str) == "imported") = false := by decide +kernel
theorem nq_imported_give_up : ¬ (("imported" : Str) = "give_up") := fun e => by have h := ne_give_up_imported; rw [e, beq_self_eq_true] at h; cases h
theorem ne_give_up_pinned : (("give_up" : Str) == "pinned") = false := by decide +kernel
theorem nq_pinned_give_up : ¬ (("pinned" : Str) = "give_up") := fun e => by have h := ne_give_up_pinned; rw [e, beq_self_eq_true] at h; cases h
theorem ne_grey_colors : (("grey" : Str) == "colors") = false := by decide +kernel
theorem nq_colors_grey : ¬ (("colors" : Str) = "grey") := fun e => by have h := ne_grey_colors; rw [e, beq_self_eq_true] at h; cases h
theorem ne_grey_running : (("grey" : Str) == "running") = false := by decide +kernel
theorem nq_running_grey : ¬ (("running" : Str) = "grey") := fun e => by have h := ne_grey_running; rw [e, beq_self_eq_true] at h; cases h
theorem ne_handle_of_owners : (("handle_of" : Str) == "owners") = false := by decide +kernel
theorem nq_owners_handle_of : ¬ (("owners" : Str) = "handle_of") := fun e => by have h := ne_handle_of_owners; rw [e, beq_self_eq_true] at h; cases h
theorem ne_handle_of_states : (("handle_of" : Str) == "states") = false := by decide +kernel
theorem nq_states_handle_of : ¬ (("states" : Str) = "handle_of") := fun e => by have h := ne_handle_of_states; rw [e, beq_self_eq_true] at h; cases h
theorem ne_imports_exports : (("imports" : Str) == "exports") = false := by decide +kernel
theorem nq_exports_imports : ¬ (("exports" : Str) = "imports") := fun e => by have h := ne_imports_exports; rw [e, beq_self_eq_true] at h; cases h
theorem ne_imports_heap : (("imports" : Str) == "heap") = false := by decide +kernel
theorem nq_heap_imports : ¬ (("heap" : Str) = "imports") := fun e => by have h := ne_imports_heap; rw [e, beq_self_eq_true] at h; cases h
theorem ne_is_old_colors : (("is_old" : Str) == "colors") = false := by decide +kernel
theorem nq_colors_is_old : ¬ (("colors" : Str) = "is_old") := fun e => by have h := ne_is_old_colors; rw [e, beq_self_eq_true] at h; cases h
theorem ne_is_old_examined : (("is_old" : Str) == "examined") = false := by decide +kernel
theorem nq_examined_is_old : ¬ (("examined" : Str) = "is_old") := fun e => by have h := ne_is_old_examined; rw [e, beq_self_eq_true] at h; cases h
theorem ne_is_old_grey : (("is_old" : Str) == "grey") = false := by decide +kernel
theorem nq_grey_is_old : ¬ (("grey" : Str) = "is_old") := fun e => by have h := ne_is_old_grey; rw [e, beq_self_eq_true] at h; cases h
theorem ne_is_old_marked : (("is_old" : Str) == "marked") = false := by decide +kernel
theorem nq_marked_is_old : ¬ (("marked" : Str) = "is_old") := fun e => by have h := ne_is_old_marked; rw [e, beq_self_eq_true] at h; cases h
theorem ne_is_old_running : (("is_old" : Str) == "running") = false := by decide +kernel
theorem nq_running_is_old : ¬ (("running" : Str) = "is_old") := fun e => by have h := ne_is_old_running; rw [e, beq_self_eq_true] at h; cases h
theorem ne_is_old_units : (("is_old" : Str) == "units") = false := by decide +kernel
theorem nq_units_is_old : ¬ (("units" : Str) = "is_old") := fun e => by have h := ne_is_old_units; rw [e, beq_self_eq_true] at h; cases h
theorem ne_is_pinned_imported : (("is_pinned" : Str) == "imported") = false := by decide +kernel
theorem nq_imported_is_pinned : ¬ (("imported" : Str) = "is_pinned") := fun e => by have h := ne_is_pinned_imported; rw [e, beq_self_eq_true] at h; cases h
theorem ne_is_pinned_pinned : (("is_pinned" : Str) == "pinned") = false := by decide +kernel
theorem nq_pinned_is_pinned : ¬ (("pinned" : Str) = "is_pinned") := fun e => by have h := ne_is_pinned_pinned; rw [e, beq_self_eq_true] at h; cases h
theorem ne_is_present_entries : (("is_present" : Str) == "entries") = false := by decide +kernel
theorem nq_entries_is_present : ¬ (("entries" : Str) = "is_present") := fun e => by have h := ne_is_present_entries; rw [e, beq_self_eq_true] at h; cases h
theorem ne_is_present_slots : (("is_present" : Str) == "slots") = false := by decide +kernel
theorem nq_slots_is_present : ¬ (("slots" : Str) = "is_present") := fun e => by have h := ne_is_present_slots; rw [e, beq_self_eq_true] at h; cases h
theorem ne_labels_found : (("labels" : Str) == "found") = false := by decide +kernel
theorem nq_found_labels : ¬ (("found" : Str) = "labels") := fun e => by have h := ne_labels_found; rw [e, beq_self_eq_true] at h; cases h
theorem ne_labels_parents : (("labels" : Str) == "parents") = false := by decide +kernel
theorem nq_parents_labels : ¬ (("parents" : Str) = "labels") := fun e => by have h := ne_labels_parents; rw [e, beq_self_eq_true] at h; cases h
theorem ne_labels_seen : (("labels" : Str) == "seen") = false := by decide +kernel
theorem nq_seen_labels : ¬ (("seen" : Str) = "labels") := fun e => by have h := ne_labels_seen; rw [e, beq_self_eq_true] at h; cases h
theorem ne_mark_colors : (("mark" : Str) == "colors") = false := by decide +kernel
theorem nq_colors_mark : ¬ (("colors" : Str) = "mark") := fun e => by have h := ne_mark_colors; rw [e, beq_self_eq_true] at h; cases h
theorem ne_mark_examined : (("mark" : Str) == "examined") = false := by decide +kernel
theorem nq_examined_mark : ¬ (("examined" : Str) = "mark") := fun e => by have h := ne_mark_examined; rw [e, beq_self_eq_true] at h; cases h
theorem ne_mark_grey : (("mark" : Str) == "grey") = false := by decide +kernel
theorem nq_grey_mark : ¬ (("grey" : Str) = "mark") := fun e => by have h := ne_mark_grey; rw [e, beq_self_eq_true] at h; cases h
theorem ne_mark_marked : (("mark" : Str) == "marked") = false := by decide +kernel
theorem nq_marked_mark : ¬ (("marked" : Str) = "mark") := fun e => by have h := ne_mark_marked; rw [e, beq_self_eq_true] at h; cases h
theorem ne_mark_running : (("mark" : Str) == "running") = false := by decide +kernel
theorem nq_running_mark : ¬ (("running" : Str) = "mark") := fun e => by have h := ne_mark_running; rw [e, beq_self_eq_true] at h; cases h
theorem ne_mark_units : (("mark" : Str) == "units") = false := by decide +kernel
theorem nq_units_mark : ¬ (("units" : Str) = "mark") := fun e => by have h := ne_mark_units; rw [e, beq_self_eq_true] at h; cases h
theorem ne_marked_colors : (("marked" : Str) == "colors") = false := by decide +kernel
theorem nq_colors_marked : ¬ (("colors" : Str) = "marked") := fun e => by have h := ne_marked_colors; rw [e, beq_self_eq_true] at h; cases h
theorem ne_marked_examined : (("marked" : Str) == "examined") = false := by decide +kernel
theorem nq_examined_marked : ¬ (("examined" : Str) = "marked") := fun e => by have h := ne_marked_examined; rw [e, beq_self_eq_true] at h; cases h
theorem ne_marked_grey : (("marked" : Str) == "grey") = false := by decide +kernel
theorem nq_grey_marked : ¬ (("grey" : Str) = "marked") := fun e => by have h := ne_marked_grey; rw [e, beq_self_eq_true] at h; cases h
theorem ne_marked_running : (("marked" : Str) == "running") = false := by decide +kernel
theorem nq_running_marked : ¬ (("running" : Str) = "marked") := fun e => by have h := ne_marked_running; rw [e, beq_self_eq_true] at h; cases h
theorem ne_marked_units : (("marked" : Str) == "units") = false := by decide +kernel
theorem nq_units_marked : ¬ (("units" : Str) = "marked") := fun e => by have h := ne_marked_units; rw [e, beq_self_eq_true] at h; cases h
theorem ne_owner_owners : (("owner" : Str) == "owners") = false := by decide +kernel
theorem nq_owners_owner : ¬ (("owners" : Str) = "owner") := fun e => by have h := ne_owner_owners; rw [e, beq_self_eq_true] at h; cases h
theorem ne_owner_states : (("owner" : Str) == "states") = false := by decide +kernel
theorem nq_states_owner : ¬ (("states" : Str) = "owner") := fun e => by have h := ne_owner_states; rw [e, beq_self_eq_true] at h; cases h
theorem ne_parents_found : (("parents" : Str) == "found") = false := by decide +kernel
theorem nq_found_parents : ¬ (("found" : Str) = "parents") := fun e => by have h := ne_parents_found; rw [e, beq_self_eq_true] at h; cases h
theorem ne_parents_seen : (("parents" : Str) == "seen") = false := by decide +kernel
theorem nq_seen_parents : ¬ (("seen" : Str) = "parents") := fun e => by have h := ne_parents_seen; rw [e, beq_self_eq_true] at h; cases h
theorem ne_pin_imported : (("pin" : Str) == "imported") = false := by decide +kernel
theorem nq_imported_pin : ¬ (("imported" : Str) = "pin") := fun e => by have h := ne_pin_imported; rw [e, beq_self_eq_true] at h; cases h
theorem ne_pin_pinned : (("pin" : Str) == "pinned") = false := by decide +kernel
theorem nq_pinned_pin : ¬ (("pinned" : Str) = "pin") := fun e => by have h := ne_pin_pinned; rw [e, beq_self_eq_true] at h; cases h
theorem ne_pinned_imported : (("pinned" : Str) == "imported") = false := by decide +kernel
theorem nq_imported_pinned : ¬ (("imported" : Str) = "pinned") := fun e => by have h := ne_pinned_imported; rw [e, beq_self_eq_true] at h; cases h
theorem ne_present_entries : (("present" : Str) == "entries") = false := by decide +kernel
theorem nq_entries_present : ¬ (("entries" : Str) = "present") := fun e => by have h := ne_present_entries; rw [e, beq_self_eq_true] at h; cases h
theorem ne_present_slots : (("present" : Str) == "slots") = false := by decide +kernel
theorem nq_slots_present : ¬ (("slots" : Str) = "present") := fun e => by have h := ne_present_slots; rw [e, beq_self_eq_true] at h; cases h
theorem ne_put_entries : (("put" : Str) == "entries") = false := by decide +kernel
theorem nq_entries_put : ¬ (("entries" : Str) = "put") := fun e => by have h := ne_put_entries; rw [e, beq_self_eq_true] at h; cases h
theorem ne_put_slots : (("put" : Str) == "slots") = false := by decide +kernel
theorem nq_slots_put : ¬ (("slots" : Str) = "put") := fun e => by have h := ne_put_slots; rw [e, beq_self_eq_true] at h; cases h
theorem ne_receive_imported : (("receive" : Str) == "imported") = false := by decide +kernel
theorem nq_imported_receive : ¬ (("imported" : Str) = "receive") := fun e => by have h := ne_receive_imported; rw [e, beq_self_eq_true] at h; cases h
theorem ne_receive_pinned : (("receive" : Str) == "pinned") = false := by decide +kernel
theorem nq_pinned_receive : ¬ (("pinned" : Str) = "receive") := fun e => by have h := ne_receive_pinned; rw [e, beq_self_eq_true] at h; cases h
theorem ne_report_cycle : (("report" : Str) == "cycle") = false := by decide +kernel
theorem nq_cycle_report : ¬ (("cycle" : Str) = "report") := fun e => by have h := ne_report_cycle; rw [e, beq_self_eq_true] at h; cases h
theorem ne_report_exports : (("report" : Str) == "exports") = false := by decide +kernel
theorem nq_exports_report : ¬ (("exports" : Str) = "report") := fun e => by have h := ne_report_exports; rw [e, beq_self_eq_true] at h; cases h
theorem ne_report_heap : (("report" : Str) == "heap") = false := by decide +kernel
theorem nq_heap_report : ¬ (("heap" : Str) = "report") := fun e => by have h := ne_report_heap; rw [e, beq_self_eq_true] at h; cases h
theorem ne_report_imports : (("report" : Str) == "imports") = false := by decide +kernel
theorem nq_imports_report : ¬ (("imports" : Str) = "report") := fun e => by have h := ne_report_imports; rw [e, beq_self_eq_true] at h; cases h
theorem ne_report_reports : (("report" : Str) == "reports") = false := by decide +kernel
theorem nq_reports_report : ¬ (("reports" : Str) = "report") := fun e => by have h := ne_report_reports; rw [e, beq_self_eq_true] at h; cases h
theorem ne_reports_cycle : (("reports" : Str) == "cycle") = false := by decide +kernel
theorem nq_cycle_reports : ¬ (("cycle" : Str) = "reports") := fun e => by have h := ne_reports_cycle; rw [e, beq_self_eq_true] at h; cases h
theorem ne_reports_exports : (("reports" : Str) == "exports") = false := by decide +kernel
theorem nq_exports_reports : ¬ (("exports" : Str) = "reports") := fun e => by have h := ne_reports_exports; rw [e, beq_self_eq_true] at h; cases h
theorem ne_reports_heap : (("reports" : Str) == "heap") = false := by decide +kernel
theorem nq_heap_reports : ¬ (("heap" : Str) = "reports") := fun e => by have h := ne_reports_heap; rw [e, beq_self_eq_true] at h; cases h
theorem ne_reports_imports : (("reports" : Str) == "imports") = false := by decide +kernel
theorem nq_imports_reports : ¬ (("imports" : Str) = "reports") := fun e => by have h := ne_reports_imports; rw [e, beq_self_eq_true] at h; cases h
theorem ne_retire_owners : (("retire" : Str) == "owners") = false := by decide +kernel
theorem nq_owners_retire : ¬ (("owners" : Str) = "retire") := fun e => by have h := ne_retire_owners; rw [e, beq_self_eq_true] at h; cases h
theorem ne_retire_states : (("retire" : Str) == "states") = false := by decide +kernel
theorem nq_states_retire : ¬ (("states" : Str) = "retire") := fun e => by have h := ne_retire_states; rw [e, beq_self_eq_true] at h; cases h
theorem ne_start_colors : (("start" : Str) == "colors") = false := by decide +kernel
theorem nq_colors_start : ¬ (("colors" : Str) = "start") := fun e => by have h := ne_start_colors; rw [e, beq_self_eq_true] at h; cases h
theorem ne_start_examined : (("start" : Str) == "examined") = false := by decide +kernel
theorem nq_examined_start : ¬ (("examined" : Str) = "start") := fun e => by have h := ne_start_examined; rw [e, beq_self_eq_true] at h; cases h
theorem ne_start_grey : (("start" : Str) == "grey") = false := by decide +kernel
theorem nq_grey_start : ¬ (("grey" : Str) = "start") := fun e => by have h := ne_start_grey; rw [e, beq_self_eq_true] at h; cases h
theorem ne_start_marked : (("start" : Str) == "marked") = false := by decide +kernel
theorem nq_marked_start : ¬ (("marked" : Str) = "start") := fun e => by have h := ne_start_marked; rw [e, beq_self_eq_true] at h; cases h
theorem ne_start_running : (("start" : Str) == "running") = false := by decide +kernel
theorem nq_running_start : ¬ (("running" : Str) = "start") := fun e => by have h := ne_start_running; rw [e, beq_self_eq_true] at h; cases h
theorem ne_start_units : (("start" : Str) == "units") = false := by decide +kernel
theorem nq_units_start : ¬ (("units" : Str) = "start") := fun e => by have h := ne_start_units; rw [e, beq_self_eq_true] at h; cases h
theorem ne_state_owners : (("state" : Str) == "owners") = false := by decide +kernel
theorem nq_owners_state : ¬ (("owners" : Str) = "state") := fun e => by have h := ne_state_owners; rw [e, beq_self_eq_true] at h; cases h
theorem ne_state_states : (("state" : Str) == "states") = false := by decide +kernel
theorem nq_states_state : ¬ (("states" : Str) = "state") := fun e => by have h := ne_state_states; rw [e, beq_self_eq_true] at h; cases h
theorem ne_states_owners : (("states" : Str) == "owners") = false := by decide +kernel
theorem nq_owners_states : ¬ (("owners" : Str) = "states") := fun e => by have h := ne_states_owners; rw [e, beq_self_eq_true] at h; cases h
theorem ne_stop_colors : (("stop" : Str) == "colors") = false := by decide +kernel
theorem nq_colors_stop : ¬ (("colors" : Str) = "stop") := fun e => by have h := ne_stop_colors; rw [e, beq_self_eq_true] at h; cases h
theorem ne_stop_examined : (("stop" : Str) == "examined") = false := by decide +kernel
theorem nq_examined_stop : ¬ (("examined" : Str) = "stop") := fun e => by have h := ne_stop_examined; rw [e, beq_self_eq_true] at h; cases h
theorem ne_stop_grey : (("stop" : Str) == "grey") = false := by decide +kernel
theorem nq_grey_stop : ¬ (("grey" : Str) = "stop") := fun e => by have h := ne_stop_grey; rw [e, beq_self_eq_true] at h; cases h
theorem ne_stop_marked : (("stop" : Str) == "marked") = false := by decide +kernel
theorem nq_marked_stop : ¬ (("marked" : Str) = "stop") := fun e => by have h := ne_stop_marked; rw [e, beq_self_eq_true] at h; cases h
theorem ne_stop_running : (("stop" : Str) == "running") = false := by decide +kernel
theorem nq_running_stop : ¬ (("running" : Str) = "stop") := fun e => by have h := ne_stop_running; rw [e, beq_self_eq_true] at h; cases h
theorem ne_stop_units : (("stop" : Str) == "units") = false := by decide +kernel
theorem nq_units_stop : ¬ (("units" : Str) = "stop") := fun e => by have h := ne_stop_units; rw [e, beq_self_eq_true] at h; cases h
theorem ne_there_cells : (("there" : Str) == "cells") = false := by decide +kernel
theorem nq_cells_there : ¬ (("cells" : Str) = "there") := fun e => by have h := ne_there_cells; rw [e, beq_self_eq_true] at h; cases h
theorem ne_there_code : (("there" : Str) == "code") = false := by decide +kernel
theorem nq_code_there : ¬ (("code" : Str) = "there") := fun e => by have h := ne_there_code; rw [e, beq_self_eq_true] at h; cases h
theorem ne_units_colors : (("units" : Str) == "colors") = false := by decide +kernel
theorem nq_colors_units : ¬ (("colors" : Str) = "units") := fun e => by have h := ne_units_colors; rw [e, beq_self_eq_true] at h; cases h
theorem ne_units_examined : (("units" : Str) == "examined") = false := by decide +kernel
theorem nq_examined_units : ¬ (("examined" : Str) = "units") := fun e => by have h := ne_units_examined; rw [e, beq_self_eq_true] at h; cases h
theorem ne_units_grey : (("units" : Str) == "grey") = false := by decide +kernel
theorem nq_grey_units : ¬ (("grey" : Str) = "units") := fun e => by have h := ne_units_grey; rw [e, beq_self_eq_true] at h; cases h
theorem ne_units_running : (("units" : Str) == "running") = false := by decide +kernel
theorem nq_running_units : ¬ (("running" : Str) = "units") := fun e => by have h := ne_units_running; rw [e, beq_self_eq_true] at h; cases h
theorem ne_unpin_imported : (("unpin" : Str) == "imported") = false := by decide +kernel
theorem nq_imported_unpin : ¬ (("imported" : Str) = "unpin") := fun e => by have h := ne_unpin_imported; rw [e, beq_self_eq_true] at h; cases h
theorem ne_unpin_pinned : (("unpin" : Str) == "pinned") = false := by decide +kernel
theorem nq_pinned_unpin : ¬ (("pinned" : Str) = "unpin") := fun e => by have h := ne_unpin_pinned; rw [e, beq_self_eq_true] at h; cases h
theorem ne_visit_found : (("visit" : Str) == "found") = false := by decide +kernel
theorem nq_found_visit : ¬ (("found" : Str) = "visit") := fun e => by have h := ne_visit_found; rw [e, beq_self_eq_true] at h; cases h
theorem ne_visit_labels : (("visit" : Str) == "labels") = false := by decide +kernel
theorem nq_labels_visit : ¬ (("labels" : Str) = "visit") := fun e => by have h := ne_visit_labels; rw [e, beq_self_eq_true] at h; cases h
theorem ne_visit_parents : (("visit" : Str) == "parents") = false := by decide +kernel
theorem nq_parents_visit : ¬ (("parents" : Str) = "visit") := fun e => by have h := ne_visit_parents; rw [e, beq_self_eq_true] at h; cases h
theorem ne_visit_seen : (("visit" : Str) == "seen") = false := by decide +kernel
theorem nq_seen_visit : ¬ (("seen" : Str) = "visit") := fun e => by have h := ne_visit_seen; rw [e, beq_self_eq_true] at h; cases h
theorem ne_withdraw_owners : (("withdraw" : Str) == "owners") = false := by decide +kernel
theorem nq_owners_withdraw : ¬ (("owners" : Str) = "withdraw") := fun e => by have h := ne_withdraw_owners; rw [e, beq_self_eq_true] at h; cases h
theorem ne_withdraw_states : (("withdraw" : Str) == "states") = false := by decide +kernel
theorem nq_states_withdraw : ¬ (("states" : Str) = "withdraw") := fun e => by have h := ne_withdraw_states; rw [e, beq_self_eq_true] at h; cases h
def F_Search (v0 v1 v2 v3 : V) : List (Str × V) := [("seen", v0), ("found", v1), ("parents", v2), ("labels", v3)]
theorem lk_Search_seen {v0 v1 v2 v3 : V} : (F_Search v0 v1 v2 v3).lookup ("seen" : Str) = some v0 := lk_here
theorem put_Search_seen {x v0 v1 v2 v3 : V} : putF ("seen" : Str) x (F_Search v0 v1 v2 v3) = F_Search x v1 v2 v3 := put_here
theorem new_Search_seen {x : V} : putF ("seen" : Str) x ([] : List (Str × V)) = ([("seen", x)] : List (Str × V)) := put_nil
theorem lk_Search_found {v0 v1 v2 v3 : V} : (F_Search v0 v1 v2 v3).lookup ("found" : Str) = some v1 := (lk_past ne_found_seen).trans (lk_here)
theorem put_Search_found {x v0 v1 v2 v3 : V} : putF ("found" : Str) x (F_Search v0 v1 v2 v3) = F_Search v0 x v2 v3 := (put_past nq_seen_found).trans (congrArg _ (put_here))
theorem new_Search_found {x v0 : V} : putF ("found" : Str) x ([("seen", v0)] : List (Str × V)) = ([("seen", v0), ("found", x)] : List (Str × V)) := (put_past nq_seen_found).trans (congrArg _ (put_nil))
theorem lk_Search_parents {v0 v1 v2 v3 : V} : (F_Search v0 v1 v2 v3).lookup ("parents" : Str) = some v2 := (lk_past ne_parents_seen).trans ((lk_past ne_parents_found).trans (lk_here))
theorem put_Search_parents {x v0 v1 v2 v3 : V} : putF ("parents" : Str) x (F_Search v0 v1 v2 v3) = F_Search v0 v1 x v3 := (put_past nq_seen_parents).trans (congrArg _ ((put_past nq_found_parents).trans (congrArg _ (put_here))))
theorem new_Search_parents {x v0 v1 : V} : putF ("parents" : Str) x ([("seen", v0), ("found", v1)] : List (Str × V)) = ([("seen", v0), ("found", v1), ("parents", x)] : List (Str × V)) := (put_past nq_seen_parents).trans (congrArg _ ((put_past nq_found_parents).trans (congrArg _ (put_nil))))
theorem lk_Search_labels {v0 v1 v2 v3 : V} : (F_Search v0 v1 v2 v3).lookup ("labels" : Str) = some v3 := (lk_past ne_labels_seen).trans ((lk_past ne_labels_found).trans ((lk_past ne_labels_parents).trans (lk_here)))
theorem put_Search_labels {x v0 v1 v2 v3 : V} : putF ("labels" : Str) x (F_Search v0 v1 v2 v3) = F_Search v0 v1 v2 x := (put_past nq_seen_labels).trans (congrArg _ ((put_past nq_found_labels).trans (congrArg _ ((put_past nq_parents_labels).trans (congrArg _ (put_here))))))
theorem new_Search_labels {x v0 v1 v2 : V} : putF ("labels" : Str) x ([("seen", v0), ("found", v1), ("parents", v2)] : List (Str × V)) = ([("seen", v0), ("found", v1), ("parents", v2), ("labels", x)] : List (Str × V)) := (put_past nq_seen_labels).trans (congrArg _ ((put_past nq_found_labels).trans (congrArg _ ((put_past nq_parents_labels).trans (congrArg _ (put_nil))))))
theorem no_Search_visit {v0 v1 v2 v3 : V} : (F_Search v0 v1 v2 v3).lookup ("visit" : Str) = none := (lk_past ne_visit_seen).trans ((lk_past ne_visit_found).trans ((lk_past ne_visit_parents).trans ((lk_past ne_visit_labels).trans (rfl))))
def F_Cycle (v0 v1 v2 v3 v4 v5 : V) : List (Str × V) := [("running", v0), ("colors", v1), ("grey", v2), ("examined", v3), ("units", v4), ("marked", v5)]
theorem lk_Cycle_running {v0 v1 v2 v3 v4 v5 : V} : (F_Cycle v0 v1 v2 v3 v4 v5).lookup ("running" : Str) = some v0 := lk_here
theorem put_Cycle_running {x v0 v1 v2 v3 v4 v5 : V} : putF ("running" : Str) x (F_Cycle v0 v1 v2 v3 v4 v5) = F_Cycle x v1 v2 v3 v4 v5 := put_here
theorem new_Cycle_running {x : V} : putF ("running" : Str) x ([] : List (Str × V)) = ([("running", x)] : List (Str × V)) := put_nil
theorem lk_Cycle_colors {v0 v1 v2 v3 v4 v5 : V} : (F_Cycle v0 v1 v2 v3 v4 v5).lookup ("colors" : Str) = some v1 := (lk_past ne_colors_running).trans (lk_here)
theorem put_Cycle_colors {x v0 v1 v2 v3 v4 v5 : V} : putF ("colors" : Str) x (F_Cycle v0 v1 v2 v3 v4 v5) = F_Cycle v0 x v2 v3 v4 v5 := (put_past nq_running_colors).trans (congrArg _ (put_here))
theorem new_Cycle_colors {x v0 : V} : putF ("colors" : Str) x ([("running", v0)] : List (Str × V)) = ([("running", v0), ("colors", x)] : List (Str × V)) := (put_past nq_running_colors).trans (congrArg _ (put_nil))
theorem lk_Cycle_grey {v0 v1 v2 v3 v4 v5 : V} : (F_Cycle v0 v1 v2 v3 v4 v5).lookup ("grey" : Str) = some v2 := (lk_past ne_grey_running).trans ((lk_past ne_grey_colors).trans (lk_here))
theorem put_Cycle_grey {x v0 v1 v2 v3 v4 v5 : V} : putF ("grey" : Str) x (F_Cycle v0 v1 v2 v3 v4 v5) = F_Cycle v0 v1 x v3 v4 v5 := (put_past nq_running_grey).trans (congrArg _ ((put_past nq_colors_grey).trans (congrArg _ (put_here))))
theorem new_Cycle_grey {x v0 v1 : V} : putF ("grey" : Str) x ([("running", v0), ("colors", v1)] : List (Str × V)) = ([("running", v0), ("colors", v1), ("grey", x)] : List (Str × V)) := (put_past nq_running_grey).trans (congrArg _ ((put_past nq_colors_grey).trans (congrArg _ (put_nil))))
theorem lk_Cycle_examined {v0 v1 v2 v3 v4 v5 : V} : (F_Cycle v0 v1 v2 v3 v4 v5).lookup ("examined" : Str) = some v3 := (lk_past ne_examined_running).trans ((lk_past ne_examined_colors).trans ((lk_past ne_examined_grey).trans (lk_here)))
theorem put_Cycle_examined {x v0 v1 v2 v3 v4 v5 : V} : putF ("examined" : Str) x (F_Cycle v0 v1 v2 v3 v4 v5) = F_Cycle v0 v1 v2 x v4 v5 := (put_past nq_running_examined).trans (congrArg _ ((put_past nq_colors_examined).trans (congrArg _ ((put_past nq_grey_examined).trans (congrArg _ (put_here))))))
theorem new_Cycle_examined {x v0 v1 v2 : V} : putF ("examined" : Str) x ([("running", v0), ("colors", v1), ("grey", v2)] : List (Str × V)) = ([("running", v0), ("colors", v1), ("grey", v2), ("examined", x)] : List (Str × V)) := (put_past nq_running_examined).trans (congrArg _ ((put_past nq_colors_examined).trans (congrArg _ ((put_past nq_grey_examined).trans (congrArg _ (put_nil))))))
theorem lk_Cycle_units {v0 v1 v2 v3 v4 v5 : V} : (F_Cycle v0 v1 v2 v3 v4 v5).lookup ("units" : Str) = some v4 := (lk_past ne_units_running).trans ((lk_past ne_units_colors).trans ((lk_past ne_units_grey).trans ((lk_past ne_units_examined).trans (lk_here))))
theorem put_Cycle_units {x v0 v1 v2 v3 v4 v5 : V} : putF ("units" : Str) x (F_Cycle v0 v1 v2 v3 v4 v5) = F_Cycle v0 v1 v2 v3 x v5 := (put_past nq_running_units).trans (congrArg _ ((put_past nq_colors_units).trans (congrArg _ ((put_past nq_grey_units).trans (congrArg _ ((put_past nq_examined_units).trans (congrArg _ (put_here))))))))
theorem new_Cycle_units {x v0 v1 v2 v3 : V} : putF ("units" : Str) x ([("running", v0), ("colors", v1), ("grey", v2), ("examined", v3)] : List (Str × V)) = ([("running", v0), ("colors", v1), ("grey", v2), ("examined", v3), ("units", x)] : List (Str × V)) := (put_past nq_running_units).trans (congrArg _ ((put_past nq_colors_units).trans (congrArg _ ((put_past nq_grey_units).trans (congrArg _ ((put_past nq_examined_units).trans (congrArg _ (put_nil))))))))
theorem lk_Cycle_marked {v0 v1 v2 v3 v4 v5 : V} : (F_Cycle v0 v1 v2 v3 v4 v5).lookup ("marked" : Str) = some v5 := (lk_past ne_marked_running).trans ((lk_past ne_marked_colors).trans ((lk_past ne_marked_grey).trans ((lk_past ne_marked_examined).trans ((lk_past ne_marked_units).trans (lk_here)))))
theorem put_Cycle_marked {x v0 v1 v2 v3 v4 v5 : V} : putF ("marked" : Str) x (F_Cycle v0 v1 v2 v3 v4 v5) = F_Cycle v0 v1 v2 v3 v4 x := (put_past nq_running_marked).trans (congrArg _ ((put_past nq_colors_marked).trans (congrArg _ ((put_past nq_grey_marked).trans (congrArg _ ((put_past nq_examined_marked).trans (congrArg _ ((put_past nq_units_marked).trans (congrArg _ (put_here))))))))))
theorem new_Cycle_marked {x v0 v1 v2 v3 v4 : V} : putF ("marked" : Str) x ([("running", v0), ("colors", v1), ("grey", v2), ("examined", v3), ("units", v4)] : List (Str × V)) = ([("running", v0), ("colors", v1), ("grey", v2), ("examined", v3), ("units", v4), ("marked", x)] : List (Str × V)) := (put_past nq_running_marked).trans (congrArg _ ((put_past nq_colors_marked).trans (congrArg _ ((put_past nq_grey_marked).trans (congrArg _ ((put_past nq_examined_marked).trans (congrArg _ ((put_past nq_units_marked).trans (congrArg _ (put_nil))))))))))
theorem no_Cycle_start {v0 v1 v2 v3 v4 v5 : V} : (F_Cycle v0 v1 v2 v3 v4 v5).lookup ("start" : Str) = none := (lk_past ne_start_running).trans ((lk_past ne_start_colors).trans ((lk_past ne_start_grey).trans ((lk_past ne_start_examined).trans ((lk_past ne_start_units).trans ((lk_past ne_start_marked).trans (rfl))))))
theorem no_Cycle_stop {v0 v1 v2 v3 v4 v5 : V} : (F_Cycle v0 v1 v2 v3 v4 v5).lookup ("stop" : Str) = none := (lk_past ne_stop_running).trans ((lk_past ne_stop_colors).trans ((lk_past ne_stop_grey).trans ((lk_past ne_stop_examined).trans ((lk_past ne_stop_units).trans ((lk_past ne_stop_marked).trans (rfl))))))
theorem no_Cycle_is_old {v0 v1 v2 v3 v4 v5 : V} : (F_Cycle v0 v1 v2 v3 v4 v5).lookup ("is_old" : Str) = none := (lk_past ne_is_old_running).trans ((lk_past ne_is_old_colors).trans ((lk_past ne_is_old_grey).trans ((lk_past ne_is_old_examined).trans ((lk_past ne_is_old_units).trans ((lk_past ne_is_old_marked).trans (rfl))))))
theorem no_Cycle_color {v0 v1 v2 v3 v4 v5 : V} : (F_Cycle v0 v1 v2 v3 v4 v5).lookup ("color" : Str) = none := (lk_past ne_color_running).trans ((lk_past ne_color_colors).trans ((lk_past ne_color_grey).trans ((lk_past ne_color_examined).trans ((lk_past ne_color_units).trans ((lk_past ne_color_marked).trans (rfl))))))
theorem no_Cycle_mark {v0 v1 v2 v3 v4 v5 : V} : (F_Cycle v0 v1 v2 v3 v4 v5).lookup ("mark" : Str) = none := (lk_past ne_mark_running).trans ((lk_past ne_mark_colors).trans ((lk_past ne_mark_grey).trans ((lk_past ne_mark_examined).trans ((lk_past ne_mark_units).trans ((lk_past ne_mark_marked).trans (rfl))))))
theorem no_Cycle_examine {v0 v1 v2 v3 v4 v5 : V} : (F_Cycle v0 v1 v2 v3 v4 v5).lookup ("examine" : Str) = none := (lk_past ne_examine_running).trans ((lk_past ne_examine_colors).trans ((lk_past ne_examine_grey).trans ((lk_past ne_examine_examined).trans ((lk_past ne_examine_units).trans ((lk_past ne_examine_marked).trans (rfl))))))
theorem no_Cycle_blacken {v0 v1 v2 v3 v4 v5 : V} : (F_Cycle v0 v1 v2 v3 v4 v5).lookup ("blacken" : Str) = none := (lk_past ne_blacken_running).trans ((lk_past ne_blacken_colors).trans ((lk_past ne_blacken_grey).trans ((lk_past ne_blacken_examined).trans ((lk_past ne_blacken_units).trans ((lk_past ne_blacken_marked).trans (rfl))))))
theorem no_Cycle_count_unit {v0 v1 v2 v3 v4 v5 : V} : (F_Cycle v0 v1 v2 v3 v4 v5).lookup ("count_unit" : Str) = none := (lk_past ne_count_unit_running).trans ((lk_past ne_count_unit_colors).trans ((lk_past ne_count_unit_grey).trans ((lk_past ne_count_unit_examined).trans ((lk_past ne_count_unit_units).trans ((lk_past ne_count_unit_marked).trans (rfl))))))
def F_Entry (v0 v1 v2 : V) : List (Str × V) := [("cells", v0), ("code", v1), ("there", v2)]
theorem lk_Entry_cells {v0 v1 v2 : V} : (F_Entry v0 v1 v2).lookup ("cells" : Str) = some v0 := lk_here
theorem put_Entry_cells {x v0 v1 v2 : V} : putF ("cells" : Str) x (F_Entry v0 v1 v2) = F_Entry x v1 v2 := put_here
theorem new_Entry_cells {x : V} : putF ("cells" : Str) x ([] : List (Str × V)) = ([("cells", x)] : List (Str × V)) := put_nil
theorem lk_Entry_code {v0 v1 v2 : V} : (F_Entry v0 v1 v2).lookup ("code" : Str) = some v1 := (lk_past ne_code_cells).trans (lk_here)
theorem put_Entry_code {x v0 v1 v2 : V} : putF ("code" : Str) x (F_Entry v0 v1 v2) = F_Entry v0 x v2 := (put_past nq_cells_code).trans (congrArg _ (put_here))
theorem new_Entry_code {x v0 : V} : putF ("code" : Str) x ([("cells", v0)] : List (Str × V)) = ([("cells", v0), ("code", x)] : List (Str × V)) := (put_past nq_cells_code).trans (congrArg _ (put_nil))
theorem lk_Entry_there {v0 v1 v2 : V} : (F_Entry v0 v1 v2).lookup ("there" : Str) = some v2 := (lk_past ne_there_cells).trans ((lk_past ne_there_code).trans (lk_here))
theorem put_Entry_there {x v0 v1 v2 : V} : putF ("there" : Str) x (F_Entry v0 v1 v2) = F_Entry v0 v1 x := (put_past nq_cells_there).trans (congrArg _ ((put_past nq_code_there).trans (congrArg _ (put_here))))
theorem new_Entry_there {x v0 v1 : V} : putF ("there" : Str) x ([("cells", v0), ("code", v1)] : List (Str × V)) = ([("cells", v0), ("code", v1), ("there", x)] : List (Str × V)) := (put_past nq_cells_there).trans (congrArg _ ((put_past nq_code_there).trans (congrArg _ (put_nil))))
def F_Heap (v0 v1 : V) : List (Str × V) := [("slots", v0), ("entries", v1)]
theorem lk_Heap_slots {v0 v1 : V} : (F_Heap v0 v1).lookup ("slots" : Str) = some v0 := lk_here
theorem put_Heap_slots {x v0 v1 : V} : putF ("slots" : Str) x (F_Heap v0 v1) = F_Heap x v1 := put_here
theorem new_Heap_slots {x : V} : putF ("slots" : Str) x ([] : List (Str × V)) = ([("slots", x)] : List (Str × V)) := put_nil
theorem lk_Heap_entries {v0 v1 : V} : (F_Heap v0 v1).lookup ("entries" : Str) = some v1 := (lk_past ne_entries_slots).trans (lk_here)
theorem put_Heap_entries {x v0 v1 : V} : putF ("entries" : Str) x (F_Heap v0 v1) = F_Heap v0 x := (put_past nq_slots_entries).trans (congrArg _ (put_here))
theorem new_Heap_entries {x v0 : V} : putF ("entries" : Str) x ([("slots", v0)] : List (Str × V)) = ([("slots", v0), ("entries", x)] : List (Str × V)) := (put_past nq_slots_entries).trans (congrArg _ (put_nil))
theorem no_Heap_created {v0 v1 : V} : (F_Heap v0 v1).lookup ("created" : Str) = none := (lk_past ne_created_slots).trans ((lk_past ne_created_entries).trans (rfl))
theorem no_Heap_entry {v0 v1 : V} : (F_Heap v0 v1).lookup ("entry" : Str) = none := (lk_past ne_entry_slots).trans ((lk_past ne_entry_entries).trans (rfl))
theorem no_Heap_create {v0 v1 : V} : (F_Heap v0 v1).lookup ("create" : Str) = none := (lk_past ne_create_slots).trans ((lk_past ne_create_entries).trans (rfl))
theorem no_Heap_put {v0 v1 : V} : (F_Heap v0 v1).lookup ("put" : Str) = none := (lk_past ne_put_slots).trans ((lk_past ne_put_entries).trans (rfl))
theorem no_Heap_is_present {v0 v1 : V} : (F_Heap v0 v1).lookup ("is_present" : Str) = none := (lk_past ne_is_present_slots).trans ((lk_past ne_is_present_entries).trans (rfl))
theorem no_Heap_present {v0 v1 : V} : (F_Heap v0 v1).lookup ("present" : Str) = none := (lk_past ne_present_slots).trans ((lk_past ne_present_entries).trans (rfl))
theorem no_Heap_free {v0 v1 : V} : (F_Heap v0 v1).lookup ("free" : Str) = none := (lk_past ne_free_slots).trans ((lk_past ne_free_entries).trans (rfl))
def F_Exports (v0 v1 : V) : List (Str × V) := [("owners", v0), ("states", v1)]
theorem lk_Exports_owners {v0 v1 : V} : (F_Exports v0 v1).lookup ("owners" : Str) = some v0 := lk_here
theorem put_Exports_owners {x v0 v1 : V} : putF ("owners" : Str) x (F_Exports v0 v1) = F_Exports x v1 := put_here
theorem new_Exports_owners {x : V} : putF ("owners" : Str) x ([] : List (Str × V)) = ([("owners", x)] : List (Str × V)) := put_nil
theorem lk_Exports_states {v0 v1 : V} : (F_Exports v0 v1).lookup ("states" : Str) = some v1 := (lk_past ne_states_owners).trans (lk_here)
theorem put_Exports_states {x v0 v1 : V} : putF ("states" : Str) x (F_Exports v0 v1) = F_Exports v0 x := (put_past nq_owners_states).trans (congrArg _ (put_here))
theorem new_Exports_states {x v0 : V} : putF ("states" : Str) x ([("owners", v0)] : List (Str × V)) = ([("owners", v0), ("states", x)] : List (Str × V)) := (put_past nq_owners_states).trans (congrArg _ (put_nil))
theorem no_Exports_state {v0 v1 : V} : (F_Exports v0 v1).lookup ("state" : Str) = none := (lk_past ne_state_owners).trans ((lk_past ne_state_states).trans (rfl))
theorem no_Exports_owner {v0 v1 : V} : (F_Exports v0 v1).lookup ("owner" : Str) = none := (lk_past ne_owner_owners).trans ((lk_past ne_owner_states).trans (rfl))
theorem no_Exports_handle_of {v0 v1 : V} : (F_Exports v0 v1).lookup ("handle_of" : Str) = none := (lk_past ne_handle_of_owners).trans ((lk_past ne_handle_of_states).trans (rfl))
theorem no_Exports_export {v0 v1 : V} : (F_Exports v0 v1).lookup ("export" : Str) = none := (lk_past ne_export_owners).trans ((lk_past ne_export_states).trans (rfl))
theorem no_Exports_retire {v0 v1 : V} : (F_Exports v0 v1).lookup ("retire" : Str) = none := (lk_past ne_retire_owners).trans ((lk_past ne_retire_states).trans (rfl))
theorem no_Exports_withdraw {v0 v1 : V} : (F_Exports v0 v1).lookup ("withdraw" : Str) = none := (lk_past ne_withdraw_owners).trans ((lk_past ne_withdraw_states).trans (rfl))
theorem no_Exports_active {v0 v1 : V} : (F_Exports v0 v1).lookup ("active" : Str) = none := (lk_past ne_active_owners).trans ((lk_past ne_active_states).trans (rfl))
def F_Imports (v0 v1 : V) : List (Str × V) := [("imported", v0), ("pinned", v1)]
theorem lk_Imports_imported {v0 v1 : V} : (F_Imports v0 v1).lookup ("imported" : Str) = some v0 := lk_here
theorem put_Imports_imported {x v0 v1 : V} : putF ("imported" : Str) x (F_Imports v0 v1) = F_Imports x v1 := put_here
theorem new_Imports_imported {x : V} : putF ("imported" : Str) x ([] : List (Str × V)) = ([("imported", x)] : List (Str × V)) := put_nil
theorem lk_Imports_pinned {v0 v1 : V} : (F_Imports v0 v1).lookup ("pinned" : Str) = some v1 := (lk_past ne_pinned_imported).trans (lk_here)
theorem put_Imports_pinned {x v0 v1 : V} : putF ("pinned" : Str) x (F_Imports v0 v1) = F_Imports v0 x := (put_past nq_imported_pinned).trans (congrArg _ (put_here))
theorem new_Imports_pinned {x v0 : V} : putF ("pinned" : Str) x ([("imported", v0)] : List (Str × V)) = ([("imported", v0), ("pinned", x)] : List (Str × V)) := (put_past nq_imported_pinned).trans (congrArg _ (put_nil))
theorem no_Imports_receive {v0 v1 : V} : (F_Imports v0 v1).lookup ("receive" : Str) = none := (lk_past ne_receive_imported).trans ((lk_past ne_receive_pinned).trans (rfl))
theorem no_Imports_pin {v0 v1 : V} : (F_Imports v0 v1).lookup ("pin" : Str) = none := (lk_past ne_pin_imported).trans ((lk_past ne_pin_pinned).trans (rfl))
theorem no_Imports_is_pinned {v0 v1 : V} : (F_Imports v0 v1).lookup ("is_pinned" : Str) = none := (lk_past ne_is_pinned_imported).trans ((lk_past ne_is_pinned_pinned).trans (rfl))
theorem no_Imports_unpin {v0 v1 : V} : (F_Imports v0 v1).lookup ("unpin" : Str) = none := (lk_past ne_unpin_imported).trans ((lk_past ne_unpin_pinned).trans (rfl))
theorem no_Imports_all_imported {v0 v1 : V} : (F_Imports v0 v1).lookup ("all_imported" : Str) = none := (lk_past ne_all_imported_imported).trans ((lk_past ne_all_imported_pinned).trans (rfl))
theorem no_Imports_give_up {v0 v1 : V} : (F_Imports v0 v1).lookup ("give_up" : Str) = none := (lk_past ne_give_up_imported).trans ((lk_past ne_give_up_pinned).trans (rfl))
def F_World (v0 v1 v2 v3 v4 : V) : List (Str × V) := [("heap", v0), ("exports", v1), ("imports", v2), ("cycle", v3), ("reports", v4)]
theorem lk_World_heap {v0 v1 v2 v3 v4 : V} : (F_World v0 v1 v2 v3 v4).lookup ("heap" : Str) = some v0 := lk_here
theorem put_World_heap {x v0 v1 v2 v3 v4 : V} : putF ("heap" : Str) x (F_World v0 v1 v2 v3 v4) = F_World x v1 v2 v3 v4 := put_here
theorem new_World_heap {x : V} : putF ("heap" : Str) x ([] : List (Str × V)) = ([("heap", x)] : List (Str × V)) := put_nil
theorem lk_World_exports {v0 v1 v2 v3 v4 : V} : (F_World v0 v1 v2 v3 v4).lookup ("exports" : Str) = some v1 := (lk_past ne_exports_heap).trans (lk_here)
theorem put_World_exports {x v0 v1 v2 v3 v4 : V} : putF ("exports" : Str) x (F_World v0 v1 v2 v3 v4) = F_World v0 x v2 v3 v4 := (put_past nq_heap_exports).trans (congrArg _ (put_here))
theorem new_World_exports {x v0 : V} : putF ("exports" : Str) x ([("heap", v0)] : List (Str × V)) = ([("heap", v0), ("exports", x)] : List (Str × V)) := (put_past nq_heap_exports).trans (congrArg _ (put_nil))
theorem lk_World_imports {v0 v1 v2 v3 v4 : V} : (F_World v0 v1 v2 v3 v4).lookup ("imports" : Str) = some v2 := (lk_past ne_imports_heap).trans ((lk_past ne_imports_exports).trans (lk_here))
theorem put_World_imports {x v0 v1 v2 v3 v4 : V} : putF ("imports" : Str) x (F_World v0 v1 v2 v3 v4) = F_World v0 v1 x v3 v4 := (put_past nq_heap_imports).trans (congrArg _ ((put_past nq_exports_imports).trans (congrArg _ (put_here))))
theorem new_World_imports {x v0 v1 : V} : putF ("imports" : Str) x ([("heap", v0), ("exports", v1)] : List (Str × V)) = ([("heap", v0), ("exports", v1), ("imports", x)] : List (Str × V)) := (put_past nq_heap_imports).trans (congrArg _ ((put_past nq_exports_imports).trans (congrArg _ (put_nil))))
theorem lk_World_cycle {v0 v1 v2 v3 v4 : V} : (F_World v0 v1 v2 v3 v4).lookup ("cycle" : Str) = some v3 := (lk_past ne_cycle_heap).trans ((lk_past ne_cycle_exports).trans ((lk_past ne_cycle_imports).trans (lk_here)))
theorem put_World_cycle {x v0 v1 v2 v3 v4 : V} : putF ("cycle" : Str) x (F_World v0 v1 v2 v3 v4) = F_World v0 v1 v2 x v4 := (put_past nq_heap_cycle).trans (congrArg _ ((put_past nq_exports_cycle).trans (congrArg _ ((put_past nq_imports_cycle).trans (congrArg _ (put_here))))))
theorem new_World_cycle {x v0 v1 v2 : V} : putF ("cycle" : Str) x ([("heap", v0), ("exports", v1), ("imports", v2)] : List (Str × V)) = ([("heap", v0), ("exports", v1), ("imports", v2), ("cycle", x)] : List (Str × V)) := (put_past nq_heap_cycle).trans (congrArg _ ((put_past nq_exports_cycle).trans (congrArg _ ((put_past nq_imports_cycle).trans (congrArg _ (put_nil))))))
theorem lk_World_reports {v0 v1 v2 v3 v4 : V} : (F_World v0 v1 v2 v3 v4).lookup ("reports" : Str) = some v4 := (lk_past ne_reports_heap).trans ((lk_past ne_reports_exports).trans ((lk_past ne_reports_imports).trans ((lk_past ne_reports_cycle).trans (lk_here))))
theorem put_World_reports {x v0 v1 v2 v3 v4 : V} : putF ("reports" : Str) x (F_World v0 v1 v2 v3 v4) = F_World v0 v1 v2 v3 x := (put_past nq_heap_reports).trans (congrArg _ ((put_past nq_exports_reports).trans (congrArg _ ((put_past nq_imports_reports).trans (congrArg _ ((put_past nq_cycle_reports).trans (congrArg _ (put_here))))))))
theorem new_World_reports {x v0 v1 v2 v3 : V} : putF ("reports" : Str) x ([("heap", v0), ("exports", v1), ("imports", v2), ("cycle", v3)] : List (Str × V)) = ([("heap", v0), ("exports", v1), ("imports", v2), ("cycle", v3), ("reports", x)] : List (Str × V)) := (put_past nq_heap_reports).trans (congrArg _ ((put_past nq_exports_reports).trans (congrArg _ ((put_past nq_imports_reports).trans (congrArg _ ((put_past nq_cycle_reports).trans (congrArg _ (put_nil))))))))
theorem no_World_report {v0 v1 v2 v3 v4 : V} : (F_World v0 v1 v2 v3 v4).lookup ("report" : Str) = none := (lk_past ne_report_heap).trans ((lk_past ne_report_exports).trans ((lk_past ne_report_imports).trans ((lk_past ne_report_cycle).trans ((lk_past ne_report_reports).trans (rfl)))))

/-! ### what the top has written -/
def Gv (mg : Str → Option Value) (x : Str) (v : V) : Prop := ∃ u, mg x = some u ∧ RelV v u
theorem pe_gv {X : Cx} {x : Str} {v : V} {pos : Pos} (hg : Gl X x) (h : Gv X.mg x v) (hd : (x == ("__debug__" : Str)) = false := by decide) : PE X (.Name x pos) (tC v) := by
  obtain ⟨u, h1, h2⟩ := h
  exact pe_glob hg h1 h2 hd
structure ClsT (K : PySem.W.Frag) (mg : Str → Option Value) (x : Str) (C : Addr) : Prop where
  cl : Cls K C
  makes : PySem.W.makesIn K C = true
  kp : PySem.W.keepIn K (.ref C) = true
  g : mg x = some (.ref C)
structure DefG (K : PySem.W.Frag) (mg : Str → Option Value) (x : Str) (st : Stmt) (f : Addr) (fd : FuncData) (ps : List Str) : Prop where
  F : Fun K x x st f fd
  b : Binds K fd ps []
  g : mg x = some (.ref f)
structure DefM (K : PySem.W.Frag) (C : Addr) (x qual : Str) (st : Stmt) (f : Addr) (fd : FuncData) (ps : List Str) : Prop where
  F : Fun K x qual st f fd
  b : Binds K fd ps []
  m : Meth K C x f
section
variable {K : PySem.W.Frag} {h : Heap} {mg : Str → Option Value} {C f : Addr} {x qual : Str} {st : Stmt} {ps : List Str} {od an : Option Addr} {sl : Array (Option Value)} {oc kV dc pm cd ct : Value}
theorem clsT_mk (X : K.In h) (G : h.Ns mainGlobals mg) (a : PySem.W.nsIn K mainGlobals x = some (some (.ref C))) (pg : PySem.W.plainGet K C Str.empty = true) (hd : PySem.W.hasDictIn K C = true) (po : PySem.W.plainOver K C = true) (sa : PySem.W.findIn K (.ref C) "__setattr__" = some (some (.builtin "object.__setattr__"))) (mk : PySem.W.makesIn K C = true) (kc : PySem.W.keepIn K (.ref C) = true) : ClsT K mg x C :=
  ⟨⟨pg, hd, po, sa⟩, mk, kc, PySem.W.mg_of X G a⟩
theorem defG_mk (X : K.In h) (G : h.Ns mainGlobals mg) (a : PySem.W.nsIn K mainGlobals x = some (some (.ref f))) (l : K.lookup f = some ⟨oc, od, .func (PySem.W.fnOf x x (defArgs st) (defBody st) (defScope st) .none kV dc pm an cd ct), sl⟩) (c : PySem.W.codeIn K cd x = true) (k : PySem.W.keepIn K (.ref f) = true)
    (hb : ∀ (kV doc pm : Value) (an : Option Addr) (cdv ct : Value) (us : List Value), us.length = ps.length → bindArgs (PySem.W.fnOf x x (defArgs st) (defBody st) (defScope st) .none kV doc pm an cdv ct) ⟨us, []⟩ = pure (ps.zip us)) :
    DefG K mg x st f (PySem.W.fnOf x x (defArgs st) (defBody st) (defScope st) .none kV dc pm an cd ct) ps :=
  ⟨fun_mk l c k, (fun_mk l c k).binds hb, PySem.W.mg_of X G a⟩
theorem defM_mk (a : PySem.W.findIn K (.ref C) x = some (some (.ref f))) (i : PySem.W.isFn K (.ref f) = true) (l : K.lookup f = some ⟨oc, od, .func (PySem.W.fnOf x qual (defArgs st) (defBody st) (defScope st) .none kV dc pm an cd ct), sl⟩) (c : PySem.W.codeIn K cd qual = true) (k : PySem.W.keepIn K (.ref f) = true)
    (hb : ∀ (kV doc pm : Value) (an : Option Addr) (cdv ct : Value) (us : List Value), us.length = ps.length → bindArgs (PySem.W.fnOf x qual (defArgs st) (defBody st) (defScope st) .none kV doc pm an cdv ct) ⟨us, []⟩ = pure (ps.zip us)) :
    DefM K C x qual st f (PySem.W.fnOf x qual (defArgs st) (defBody st) (defScope st) .none kV dc pm an cd ct) ps :=
  ⟨fun_mk l c k, (fun_mk l c k).binds hb, ⟨a, i, k⟩⟩
theorem gv_mk {i : Int} {t : Tok} (X : K.In h) (G : h.Ns mainGlobals mg) (a : PySem.W.nsIn K mainGlobals x = some (some (.int i t))) : Gv mg x (.int i) := ⟨_, PySem.W.mg_of X G a, ⟨t, rfl⟩⟩
theorem gr_mk (X : K.In h) (G : h.Ns mainGlobals mg) (a : PySem.W.nsIn K mainGlobals x = some (some (.ref f))) : Gv mg x (.ref f) := ⟨_, PySem.W.mg_of X G a, rfl⟩
end
def tupVals : List Value → List Nat → Bool
  | [], [] => true
  | .int i _ :: r, n :: ns => decide (i = (n : Int)) && tupVals r ns
  | _, _ => false
theorem tupVals_ok : ∀ {us : List Value} {ns : List Nat}, tupVals us ns = true → Vals (ns.map fun (n : Nat) => V.int (n : Int)) us
  | [], [], _ => .nil
  | .int i t :: r, n :: ns, h => by
    have h' : (decide (i = (n : Int)) && tupVals r ns) = true := h
    rw [Bool.and_eq_true, decide_eq_true_eq] at h'
    exact .cons ⟨t, by rw [h'.1]⟩ (tupVals_ok h'.2)
  | [], _ :: _, h => by cases h
  | .int _ _ :: _, [], h => by cases h
theorem tup_mk {K : PySem.W.Frag} {f : Addr} {od : Option Addr} {its : Array Value} {n : Nat} {sl : Array (Option Value)} {ns : List Nat} (l : K.lookup f = some ⟨.type "tuple", od, .seq its n, sl⟩) (hz : its.size ≤ sizeLine) (h : tupVals its.toList ns = true) (H : Hp) :
    SqT K H f (ns.map fun (n : Nat) => V.int (n : Int)) := .inr ⟨_, its, n, l, rfl, rfl, hz, tupVals_ok h⟩
structure Ads where
  args : Addr
  cSearch : Addr
  cCycle : Addr
  cEntry : Addr
  cHeap : Addr
  cExports : Addr
  cImports : Addr
  cWorld : Addr
  f_between : Addr
  d_between : FuncData
  f_is_slot : Addr
  d_is_slot : FuncData
  f_is_field : Addr
  d_is_field : FuncData
  f_is_reference : Addr
  d_is_reference : FuncData
  f_begin : Addr
  d_begin : FuncData
  f_do_unit : Addr
  d_do_unit : FuncData
  f_do_units : Addr
  d_do_units : FuncData
  f_units_left : Addr
  d_units_left : FuncData
  f_free_white : Addr
  d_free_white : FuncData
  f_codes_of : Addr
  d_codes_of : FuncData
  f_finish : Addr
  d_finish : FuncData
  f_complete : Addr
  d_complete : FuncData
  f_begin_cycle : Addr
  d_begin_cycle : FuncData
  f_work : Addr
  d_work : FuncData
  f_end_cycle : Addr
  d_end_cycle : FuncData
  f_collect : Addr
  d_collect : FuncData
  f_Search_init : Addr
  d_Search_init : FuncData
  f_Search_visit : Addr
  d_Search_visit : FuncData
  f_list_roots : Addr
  d_list_roots : FuncData
  f_expand : Addr
  d_expand : FuncData
  f_search_from : Addr
  d_search_from : FuncData
  f_tell_status : Addr
  d_tell_status : FuncData
  f_tell_present : Addr
  d_tell_present : FuncData
  f_tell_path : Addr
  d_tell_path : FuncData
  f_tell_reported : Addr
  d_tell_reported : FuncData
  f_tell_remaining : Addr
  d_tell_remaining : FuncData
  f_create : Addr
  d_create : FuncData
  f_set_integer : Addr
  d_set_integer : FuncData
  f_clear_slot : Addr
  d_clear_slot : FuncData
  f_copy_slot : Addr
  d_copy_slot : FuncData
  f_field_error : Addr
  d_field_error : FuncData
  f_read_field : Addr
  d_read_field : FuncData
  f_write_field : Addr
  d_write_field : FuncData
  f_compare : Addr
  d_compare : FuncData
  f_inspect_slot : Addr
  d_inspect_slot : FuncData
  f_export_object : Addr
  d_export_object : FuncData
  f_accept_handle : Addr
  d_accept_handle : FuncData
  f_retire_handle : Addr
  d_retire_handle : FuncData
  f_withdraw_handle : Addr
  d_withdraw_handle : FuncData
  f_import_reference : Addr
  d_import_reference : FuncData
  f_pin_reference : Addr
  d_pin_reference : FuncData
  f_unpin_reference : Addr
  d_unpin_reference : FuncData
  f_Cycle_init : Addr
  d_Cycle_init : FuncData
  f_Cycle_start : Addr
  d_Cycle_start : FuncData
  f_Cycle_stop : Addr
  d_Cycle_stop : FuncData
  f_Cycle_is_old : Addr
  d_Cycle_is_old : FuncData
  f_Cycle_color : Addr
  d_Cycle_color : FuncData
  f_Cycle_mark : Addr
  d_Cycle_mark : FuncData
  f_Cycle_examine : Addr
  d_Cycle_examine : FuncData
  f_Cycle_blacken : Addr
  d_Cycle_blacken : FuncData
  f_Cycle_count_unit : Addr
  d_Cycle_count_unit : FuncData
  f_Entry_init : Addr
  d_Entry_init : FuncData
  f_Heap_init : Addr
  d_Heap_init : FuncData
  f_Heap_created : Addr
  d_Heap_created : FuncData
  f_Heap_entry : Addr
  d_Heap_entry : FuncData
  f_Heap_create : Addr
  d_Heap_create : FuncData
  f_Heap_put : Addr
  d_Heap_put : FuncData
  f_Heap_is_present : Addr
  d_Heap_is_present : FuncData
  f_Heap_present : Addr
  d_Heap_present : FuncData
  f_Heap_free : Addr
  d_Heap_free : FuncData
  f_Exports_init : Addr
  d_Exports_init : FuncData
  f_Exports_state : Addr
  d_Exports_state : FuncData
  f_Exports_owner : Addr
  d_Exports_owner : FuncData
  f_Exports_handle_of : Addr
  d_Exports_handle_of : FuncData
  f_Exports_export : Addr
  d_Exports_export : FuncData
  f_Exports_retire : Addr
  d_Exports_retire : FuncData
  f_Exports_withdraw : Addr
  d_Exports_withdraw : FuncData
  f_Exports_active : Addr
  d_Exports_active : FuncData
  f_Imports_init : Addr
  d_Imports_init : FuncData
  f_Imports_receive : Addr
  d_Imports_receive : FuncData
  f_Imports_pin : Addr
  d_Imports_pin : FuncData
  f_Imports_is_pinned : Addr
  d_Imports_is_pinned : FuncData
  f_Imports_unpin : Addr
  d_Imports_unpin : FuncData
  f_Imports_all_imported : Addr
  d_Imports_all_imported : FuncData
  f_Imports_give_up : Addr
  d_Imports_give_up : FuncData
  f_World_init : Addr
  d_World_init : FuncData
  f_World_report : Addr
  d_World_report : FuncData
  f_slot_call : Addr
  d_slot_call : FuncData
  f_outside_call : Addr
  d_outside_call : FuncData
  f_collector_call : Addr
  d_collector_call : FuncData
  f_inquiry_call : Addr
  d_inquiry_call : FuncData
  f_perform : Addr
  d_perform : FuncData
  f_answers : Addr
  d_answers : FuncData
structure Txt (K : PySem.W.Frag) (mg : Str → Option Value) (a : Ads) : Prop where
  c_Search : ClsT K mg "Search" a.cSearch
  na_Search_seen : NoAttr K a.cSearch "seen"
  na_Search_found : NoAttr K a.cSearch "found"
  na_Search_parents : NoAttr K a.cSearch "parents"
  na_Search_labels : NoAttr K a.cSearch "labels"
  c_Cycle : ClsT K mg "Cycle" a.cCycle
  na_Cycle_running : NoAttr K a.cCycle "running"
  na_Cycle_colors : NoAttr K a.cCycle "colors"
  na_Cycle_grey : NoAttr K a.cCycle "grey"
  na_Cycle_examined : NoAttr K a.cCycle "examined"
  na_Cycle_units : NoAttr K a.cCycle "units"
  na_Cycle_marked : NoAttr K a.cCycle "marked"
  c_Entry : ClsT K mg "Entry" a.cEntry
  na_Entry_cells : NoAttr K a.cEntry "cells"
  na_Entry_code : NoAttr K a.cEntry "code"
  na_Entry_there : NoAttr K a.cEntry "there"
  c_Heap : ClsT K mg "Heap" a.cHeap
  na_Heap_slots : NoAttr K a.cHeap "slots"
  na_Heap_entries : NoAttr K a.cHeap "entries"
  c_Exports : ClsT K mg "Exports" a.cExports
  na_Exports_owners : NoAttr K a.cExports "owners"
  na_Exports_states : NoAttr K a.cExports "states"
  c_Imports : ClsT K mg "Imports" a.cImports
  na_Imports_imported : NoAttr K a.cImports "imported"
  na_Imports_pinned : NoAttr K a.cImports "pinned"
  c_World : ClsT K mg "World" a.cWorld
  na_World_heap : NoAttr K a.cWorld "heap"
  na_World_exports : NoAttr K a.cWorld "exports"
  na_World_imports : NoAttr K a.cWorld "imports"
  na_World_cycle : NoAttr K a.cWorld "cycle"
  na_World_reports : NoAttr K a.cWorld "reports"
  D_between : DefG K mg "between" s_between a.f_between a.d_between ["number", "low", "high"]
  D_is_slot : DefG K mg "is_slot" s_is_slot a.f_is_slot a.d_is_slot ["number"]
  D_is_field : DefG K mg "is_field" s_is_field a.f_is_field a.d_is_field ["number"]
  D_is_reference : DefG K mg "is_reference" s_is_reference a.f_is_reference a.d_is_reference ["number"]
  D_begin : DefG K mg "begin" s_begin a.f_begin a.d_begin ["world"]
  D_do_unit : DefG K mg "do_unit" s_do_unit a.f_do_unit a.d_do_unit ["world"]
  D_do_units : DefG K mg "do_units" s_do_units a.f_do_units a.d_do_units ["world", "budget"]
  D_units_left : DefG K mg "units_left" s_units_left a.f_units_left a.d_units_left ["world"]
  D_free_white : DefG K mg "free_white" s_free_white a.f_free_white a.d_free_white ["world"]
  D_codes_of : DefG K mg "codes_of" s_codes_of a.f_codes_of a.d_codes_of ["heap", "numbers"]
  D_finish : DefG K mg "finish" s_finish a.f_finish a.d_finish ["world"]
  D_complete : DefG K mg "complete" s_complete a.f_complete a.d_complete ["world"]
  D_begin_cycle : DefG K mg "begin_cycle" s_begin_cycle a.f_begin_cycle a.d_begin_cycle ["world"]
  D_work : DefG K mg "work" s_work a.f_work a.d_work ["world", "budget"]
  D_end_cycle : DefG K mg "end_cycle" s_end_cycle a.f_end_cycle a.d_end_cycle ["world"]
  D_collect : DefG K mg "collect" s_collect a.f_collect a.d_collect ["world"]
  D_Search_init : DefM K a.cSearch "__init__" "Search.__init__" s_Search_init a.f_Search_init a.d_Search_init ["self", "created"]
  D_Search_visit : DefM K a.cSearch "visit" "Search.visit" s_Search_visit a.f_Search_visit a.d_Search_visit ["self", "number", "parent", "label"]
  D_list_roots : DefG K mg "list_roots" s_list_roots a.f_list_roots a.d_list_roots ["world"]
  D_expand : DefG K mg "expand" s_expand a.f_expand a.d_expand ["heap", "search", "place"]
  D_search_from : DefG K mg "search_from" s_search_from a.f_search_from a.d_search_from ["heap", "roots"]
  D_tell_status : DefG K mg "tell_status" s_tell_status a.f_tell_status a.d_tell_status ["world"]
  D_tell_present : DefG K mg "tell_present" s_tell_present a.f_tell_present a.d_tell_present ["world"]
  D_tell_path : DefG K mg "tell_path" s_tell_path a.f_tell_path a.d_tell_path ["world", "number"]
  D_tell_reported : DefG K mg "tell_reported" s_tell_reported a.f_tell_reported a.d_tell_reported ["world"]
  D_tell_remaining : DefG K mg "tell_remaining" s_tell_remaining a.f_tell_remaining a.d_tell_remaining ["world"]
  D_create : DefG K mg "create" s_create a.f_create a.d_create ["world", "slot", "size", "code"]
  D_set_integer : DefG K mg "set_integer" s_set_integer a.f_set_integer a.d_set_integer ["world", "slot", "n"]
  D_clear_slot : DefG K mg "clear_slot" s_clear_slot a.f_clear_slot a.d_clear_slot ["world", "slot"]
  D_copy_slot : DefG K mg "copy_slot" s_copy_slot a.f_copy_slot a.d_copy_slot ["world", "source", "target"]
  D_field_error : DefG K mg "field_error" s_field_error a.f_field_error a.d_field_error ["world", "slot", "field"]
  D_read_field : DefG K mg "read_field" s_read_field a.f_read_field a.d_read_field ["world", "slot", "field", "target"]
  D_write_field : DefG K mg "write_field" s_write_field a.f_write_field a.d_write_field ["world", "slot", "field", "source"]
  D_compare : DefG K mg "compare" s_compare a.f_compare a.d_compare ["world", "first", "second"]
  D_inspect_slot : DefG K mg "inspect_slot" s_inspect_slot a.f_inspect_slot a.d_inspect_slot ["world", "slot"]
  D_export_object : DefG K mg "export_object" s_export_object a.f_export_object a.d_export_object ["world", "slot"]
  D_accept_handle : DefG K mg "accept_handle" s_accept_handle a.f_accept_handle a.d_accept_handle ["world", "handle", "slot"]
  D_retire_handle : DefG K mg "retire_handle" s_retire_handle a.f_retire_handle a.d_retire_handle ["world", "handle"]
  D_withdraw_handle : DefG K mg "withdraw_handle" s_withdraw_handle a.f_withdraw_handle a.d_withdraw_handle ["world", "handle"]
  D_import_reference : DefG K mg "import_reference" s_import_reference a.f_import_reference a.d_import_reference ["world", "reference", "slot"]
  D_pin_reference : DefG K mg "pin_reference" s_pin_reference a.f_pin_reference a.d_pin_reference ["world", "slot"]
  D_unpin_reference : DefG K mg "unpin_reference" s_unpin_reference a.f_unpin_reference a.d_unpin_reference ["world", "reference"]
  D_Cycle_init : DefM K a.cCycle "__init__" "Cycle.__init__" s_Cycle_init a.f_Cycle_init a.d_Cycle_init ["self"]
  D_Cycle_start : DefM K a.cCycle "start" "Cycle.start" s_Cycle_start a.f_Cycle_start a.d_Cycle_start ["self", "created", "pinned"]
  D_Cycle_stop : DefM K a.cCycle "stop" "Cycle.stop" s_Cycle_stop a.f_Cycle_stop a.d_Cycle_stop ["self"]
  D_Cycle_is_old : DefM K a.cCycle "is_old" "Cycle.is_old" s_Cycle_is_old a.f_Cycle_is_old a.d_Cycle_is_old ["self", "number"]
  D_Cycle_color : DefM K a.cCycle "color" "Cycle.color" s_Cycle_color a.f_Cycle_color a.d_Cycle_color ["self", "number"]
  D_Cycle_mark : DefM K a.cCycle "mark" "Cycle.mark" s_Cycle_mark a.f_Cycle_mark a.d_Cycle_mark ["self", "value"]
  D_Cycle_examine : DefM K a.cCycle "examine" "Cycle.examine" s_Cycle_examine a.f_Cycle_examine a.d_Cycle_examine ["self", "value"]
  D_Cycle_blacken : DefM K a.cCycle "blacken" "Cycle.blacken" s_Cycle_blacken a.f_Cycle_blacken a.d_Cycle_blacken ["self"]
  D_Cycle_count_unit : DefM K a.cCycle "count_unit" "Cycle.count_unit" s_Cycle_count_unit a.f_Cycle_count_unit a.d_Cycle_count_unit ["self"]
  D_Entry_init : DefM K a.cEntry "__init__" "Entry.__init__" s_Entry_init a.f_Entry_init a.d_Entry_init ["self", "size", "code"]
  D_Heap_init : DefM K a.cHeap "__init__" "Heap.__init__" s_Heap_init a.f_Heap_init a.d_Heap_init ["self"]
  D_Heap_created : DefM K a.cHeap "created" "Heap.created" s_Heap_created a.f_Heap_created a.d_Heap_created ["self"]
  D_Heap_entry : DefM K a.cHeap "entry" "Heap.entry" s_Heap_entry a.f_Heap_entry a.d_Heap_entry ["self", "number"]
  D_Heap_create : DefM K a.cHeap "create" "Heap.create" s_Heap_create a.f_Heap_create a.d_Heap_create ["self", "size", "code"]
  D_Heap_put : DefM K a.cHeap "put" "Heap.put" s_Heap_put a.f_Heap_put a.d_Heap_put ["self", "slot", "value"]
  D_Heap_is_present : DefM K a.cHeap "is_present" "Heap.is_present" s_Heap_is_present a.f_Heap_is_present a.d_Heap_is_present ["self", "number"]
  D_Heap_present : DefM K a.cHeap "present" "Heap.present" s_Heap_present a.f_Heap_present a.d_Heap_present ["self"]
  D_Heap_free : DefM K a.cHeap "free" "Heap.free" s_Heap_free a.f_Heap_free a.d_Heap_free ["self", "number"]
  D_Exports_init : DefM K a.cExports "__init__" "Exports.__init__" s_Exports_init a.f_Exports_init a.d_Exports_init ["self"]
  D_Exports_state : DefM K a.cExports "state" "Exports.state" s_Exports_state a.f_Exports_state a.d_Exports_state ["self", "handle"]
  D_Exports_owner : DefM K a.cExports "owner" "Exports.owner" s_Exports_owner a.f_Exports_owner a.d_Exports_owner ["self", "handle"]
  D_Exports_handle_of : DefM K a.cExports "handle_of" "Exports.handle_of" s_Exports_handle_of a.f_Exports_handle_of a.d_Exports_handle_of ["self", "number"]
  D_Exports_export : DefM K a.cExports "export" "Exports.export" s_Exports_export a.f_Exports_export a.d_Exports_export ["self", "number"]
  D_Exports_retire : DefM K a.cExports "retire" "Exports.retire" s_Exports_retire a.f_Exports_retire a.d_Exports_retire ["self", "handle"]
  D_Exports_withdraw : DefM K a.cExports "withdraw" "Exports.withdraw" s_Exports_withdraw a.f_Exports_withdraw a.d_Exports_withdraw ["self", "handle"]
  D_Exports_active : DefM K a.cExports "active" "Exports.active" s_Exports_active a.f_Exports_active a.d_Exports_active ["self"]
  D_Imports_init : DefM K a.cImports "__init__" "Imports.__init__" s_Imports_init a.f_Imports_init a.d_Imports_init ["self"]
  D_Imports_receive : DefM K a.cImports "receive" "Imports.receive" s_Imports_receive a.f_Imports_receive a.d_Imports_receive ["self", "reference"]
  D_Imports_pin : DefM K a.cImports "pin" "Imports.pin" s_Imports_pin a.f_Imports_pin a.d_Imports_pin ["self", "reference"]
  D_Imports_is_pinned : DefM K a.cImports "is_pinned" "Imports.is_pinned" s_Imports_is_pinned a.f_Imports_is_pinned a.d_Imports_is_pinned ["self", "number"]
  D_Imports_unpin : DefM K a.cImports "unpin" "Imports.unpin" s_Imports_unpin a.f_Imports_unpin a.d_Imports_unpin ["self", "reference"]
  D_Imports_all_imported : DefM K a.cImports "all_imported" "Imports.all_imported" s_Imports_all_imported a.f_Imports_all_imported a.d_Imports_all_imported ["self"]
  D_Imports_give_up : DefM K a.cImports "give_up" "Imports.give_up" s_Imports_give_up a.f_Imports_give_up a.d_Imports_give_up ["self", "marked"]
  D_World_init : DefM K a.cWorld "__init__" "World.__init__" s_World_init a.f_World_init a.d_World_init ["self"]
  D_World_report : DefM K a.cWorld "report" "World.report" s_World_report a.f_World_report a.d_World_report ["self", "codes"]
  D_slot_call : DefG K mg "slot_call" s_slot_call a.f_slot_call a.d_slot_call ["world", "operation", "given"]
  D_outside_call : DefG K mg "outside_call" s_outside_call a.f_outside_call a.d_outside_call ["world", "operation", "given"]
  D_collector_call : DefG K mg "collector_call" s_collector_call a.f_collector_call a.d_collector_call ["world", "operation", "given"]
  D_inquiry_call : DefG K mg "inquiry_call" s_inquiry_call a.f_inquiry_call a.d_inquiry_call ["world", "operation", "given"]
  D_perform : DefG K mg "perform" s_perform a.f_perform a.d_perform ["world", "operation", "given"]
  D_answers : DefG K mg "answers" s_answers a.f_answers a.d_answers ["calls"]
  k_NOTHING : Gv mg "NOTHING" (.int 0)
  k_INTEGER : Gv mg "INTEGER" (.int 1)
  k_OBJECT : Gv mg "OBJECT" (.int 2)
  k_FOREIGN : Gv mg "FOREIGN" (.int 3)
  k_WHITE : Gv mg "WHITE" (.int 0)
  k_GREY : Gv mg "GREY" (.int 1)
  k_BLACK : Gv mg "BLACK" (.int 2)
  k_REMOVED : Gv mg "REMOVED" (.int 0)
  k_RETIRED : Gv mg "RETIRED" (.int 1)
  k_ACTIVE : Gv mg "ACTIVE" (.int 2)
  k_OUT_OF_RANGE : Gv mg "OUT_OF_RANGE" (.int (-1))
  k_TOO_MANY_OBJECTS : Gv mg "TOO_MANY_OBJECTS" (.int (-2))
  k_NO_OBJECT : Gv mg "NO_OBJECT" (.int (-3))
  k_NO_FIELD : Gv mg "NO_FIELD" (.int (-4))
  k_NO_HANDLE : Gv mg "NO_HANDLE" (.int (-5))
  k_NO_REFERENCE : Gv mg "NO_REFERENCE" (.int (-6))
  k_NOT_PINNED : Gv mg "NOT_PINNED" (.int (-7))
  k_CYCLE_RUNNING : Gv mg "CYCLE_RUNNING" (.int (-8))
  k_NO_CYCLE : Gv mg "NO_CYCLE" (.int (-9))
  k_STILL_GREY : Gv mg "STILL_GREY" (.int (-10))
  k_NOT_PRESENT : Gv mg "NOT_PRESENT" (.int (-11))
  k_SLOTS : Gv mg "SLOTS" (.int 6)
  k_MOST_FIELDS : Gv mg "MOST_FIELDS" (.int 4)
  k_MOST_CODE : Gv mg "MOST_CODE" (.int 1000000000)
  k_MOST_OBJECTS : Gv mg "MOST_OBJECTS" (.int 60)
  k_MOST_REFERENCE : Gv mg "MOST_REFERENCE" (.int 99)
  k_MOST_BUDGET : Gv mg "MOST_BUDGET" (.int 1000)
  k_ARGUMENTS : Gv mg "ARGUMENTS" (.ref a.args)
  n_len : mg "len" = none
  n_range : mg "range" = none
  n_list : mg "list" = none
  tup : ∀ H : Hp, SqT K H a.args (Gc.arity.map fun (n : Nat) => V.int (n : Int))
section
variable {K : PySem.W.Frag} {mg : Str → Option Value} {a : Ads}
theorem Txt.mk_Search (T : Txt K mg a) : Mk K a.cSearch a.f_Search_init := ⟨T.c_Search.makes, T.D_Search_init.m.at_, T.D_Search_init.m.fn, T.c_Search.kp⟩
theorem Txt.mk_Cycle (T : Txt K mg a) : Mk K a.cCycle a.f_Cycle_init := ⟨T.c_Cycle.makes, T.D_Cycle_init.m.at_, T.D_Cycle_init.m.fn, T.c_Cycle.kp⟩
theorem Txt.mk_Entry (T : Txt K mg a) : Mk K a.cEntry a.f_Entry_init := ⟨T.c_Entry.makes, T.D_Entry_init.m.at_, T.D_Entry_init.m.fn, T.c_Entry.kp⟩
theorem Txt.mk_Heap (T : Txt K mg a) : Mk K a.cHeap a.f_Heap_init := ⟨T.c_Heap.makes, T.D_Heap_init.m.at_, T.D_Heap_init.m.fn, T.c_Heap.kp⟩
theorem Txt.mk_Exports (T : Txt K mg a) : Mk K a.cExports a.f_Exports_init := ⟨T.c_Exports.makes, T.D_Exports_init.m.at_, T.D_Exports_init.m.fn, T.c_Exports.kp⟩
theorem Txt.mk_Imports (T : Txt K mg a) : Mk K a.cImports a.f_Imports_init := ⟨T.c_Imports.makes, T.D_Imports_init.m.at_, T.D_Imports_init.m.fn, T.c_Imports.kp⟩
theorem Txt.mk_World (T : Txt K mg a) : Mk K a.cWorld a.f_World_init := ⟨T.c_World.makes, T.D_World_init.m.at_, T.D_World_init.m.fn, T.c_World.kp⟩
end
def FX_Search {K : PySem.W.Frag} {h : Heap} (_ : K.In h) (mg : Str → Option Value) : Prop := ∃ C : Addr, ClsT K mg "Search" C ∧ PySem.W.findIn K (.ref C) "seen" = some none ∧ PySem.W.findIn K (.ref C) "found" = some none ∧ PySem.W.findIn K (.ref C) "parents" = some none ∧ PySem.W.findIn K (.ref C) "labels" = some none ∧ (∃ (f : Addr) (fd : FuncData), DefM K C "__init__" "Search.__init__" s_Search_init f fd ["self", "created"]) ∧ (∃ (f : Addr) (fd : FuncData), DefM K C "visit" "Search.visit" s_Search_visit f fd ["self", "number", "parent", "label"])
def FX_Cycle {K : PySem.W.Frag} {h : Heap} (_ : K.In h) (mg : Str → Option Value) : Prop := ∃ C : Addr, ClsT K mg "Cycle" C ∧ PySem.W.findIn K (.ref C) "running" = some none ∧ PySem.W.findIn K (.ref C) "colors" = some none ∧ PySem.W.findIn K (.ref C) "grey" = some none ∧ PySem.W.findIn K (.ref C) "examined" = some none ∧ PySem.W.findIn K (.ref C) "units" = some none ∧ PySem.W.findIn K (.ref C) "marked" = some none ∧ (∃ (f : Addr) (fd : FuncData), DefM K C "__init__" "Cycle.__init__" s_Cycle_init f fd ["self"]) ∧ (∃ (f : Addr) (fd : FuncData), DefM K C "start" "Cycle.start" s_Cycle_start f fd ["self", "created", "pinned"]) ∧ (∃ (f : Addr) (fd : FuncData), DefM K C "stop" "Cycle.stop" s_Cycle_stop f fd ["self"]) ∧ (∃ (f : Addr) (fd : FuncData), DefM K C "is_old" "Cycle.is_old" s_Cycle_is_old f fd ["self", "number"]) ∧ (∃ (f : Addr) (fd : FuncData), DefM K C "color" "Cycle.color" s_Cycle_color f fd ["self", "number"]) ∧ (∃ (f : Addr) (fd : FuncData), DefM K C "mark" "Cycle.mark" s_Cycle_mark f fd ["self", "value"]) ∧ (∃ (f : Addr) (fd : FuncData), DefM K C "examine" "Cycle.examine" s_Cycle_examine f fd ["self", "value"]) ∧ (∃ (f : Addr) (fd : FuncData), DefM K C "blacken" "Cycle.blacken" s_Cycle_blacken f fd ["self"]) ∧ (∃ (f : Addr) (fd : FuncData), DefM K C "count_unit" "Cycle.count_unit" s_Cycle_count_unit f fd ["self"])
def FX_Entry {K : PySem.W.Frag} {h : Heap} (_ : K.In h) (mg : Str → Option Value) : Prop := ∃ C : Addr, ClsT K mg "Entry" C ∧ PySem.W.findIn K (.ref C) "cells" = some none ∧ PySem.W.findIn K (.ref C) "code" = some none ∧ PySem.W.findIn K (.ref C) "there" = some none ∧ (∃ (f : Addr) (fd : FuncData), DefM K C "__init__" "Entry.__init__" s_Entry_init f fd ["self", "size", "code"])
def FX_Heap {K : PySem.W.Frag} {h : Heap} (_ : K.In h) (mg : Str → Option Value) : Prop := ∃ C : Addr, ClsT K mg "Heap" C ∧ PySem.W.findIn K (.ref C) "slots" = some none ∧ PySem.W.findIn K (.ref C) "entries" = some none ∧ (∃ (f : Addr) (fd : FuncData), DefM K C "__init__" "Heap.__init__" s_Heap_init f fd ["self"]) ∧ (∃ (f : Addr) (fd : FuncData), DefM K C "created" "Heap.created" s_Heap_created f fd ["self"]) ∧ (∃ (f : Addr) (fd : FuncData), DefM K C "entry" "Heap.entry" s_Heap_entry f fd ["self", "number"]) ∧ (∃ (f : Addr) (fd : FuncData), DefM K C "create" "Heap.create" s_Heap_create f fd ["self", "size", "code"]) ∧ (∃ (f : Addr) (fd : FuncData), DefM K C "put" "Heap.put" s_Heap_put f fd ["self", "slot", "value"]) ∧ (∃ (f : Addr) (fd : FuncData), DefM K C "is_present" "Heap.is_present" s_Heap_is_present f fd ["self", "number"]) ∧ (∃ (f : Addr) (fd : FuncData), DefM K C "present" "Heap.present" s_Heap_present f fd ["self"]) ∧ (∃ (f : Addr) (fd : FuncData), DefM K C "free" "Heap.free" s_Heap_free f fd ["self", "number"])
def FX_Exports {K : PySem.W.Frag} {h : Heap} (_ : K.In h) (mg : Str → Option Value) : Prop := ∃ C : Addr, ClsT K mg "Exports" C ∧ PySem.W.findIn K (.ref C) "owners" = some none ∧ PySem.W.findIn K (.ref C) "states" = some none ∧ (∃ (f : Addr) (fd : FuncData), DefM K C "__init__" "Exports.__init__" s_Exports_init f fd ["self"]) ∧ (∃ (f : Addr) (fd : FuncData), DefM K C "state" "Exports.state" s_Exports_state f fd ["self", "handle"]) ∧ (∃ (f : Addr) (fd : FuncData), DefM K C "owner" "Exports.owner" s_Exports_owner f fd ["self", "handle"]) ∧ (∃ (f : Addr) (fd : FuncData), DefM K C "handle_of" "Exports.handle_of" s_Exports_handle_of f fd ["self", "number"]) ∧ (∃ (f : Addr) (fd : FuncData), DefM K C "export" "Exports.export" s_Exports_export f fd ["self", "number"]) ∧ (∃ (f : Addr) (fd : FuncData), DefM K C "retire" "Exports.retire" s_Exports_retire f fd ["self", "handle"]) ∧ (∃ (f : Addr) (fd : FuncData), DefM K C "withdraw" "Exports.withdraw" s_Exports_withdraw f fd ["self", "handle"]) ∧ (∃ (f : Addr) (fd : FuncData), DefM K C "active" "Exports.active" s_Exports_active f fd ["self"])
def FX_Imports {K : PySem.W.Frag} {h : Heap} (_ : K.In h) (mg : Str → Option Value) : Prop := ∃ C : Addr, ClsT K mg "Imports" C ∧ PySem.W.findIn K (.ref C) "imported" = some none ∧ PySem.W.findIn K (.ref C) "pinned" = some none ∧ (∃ (f : Addr) (fd : FuncData), DefM K C "__init__" "Imports.__init__" s_Imports_init f fd ["self"]) ∧ (∃ (f : Addr) (fd : FuncData), DefM K C "receive" "Imports.receive" s_Imports_receive f fd ["self", "reference"]) ∧ (∃ (f : Addr) (fd : FuncData), DefM K C "pin" "Imports.pin" s_Imports_pin f fd ["self", "reference"]) ∧ (∃ (f : Addr) (fd : FuncData), DefM K C "is_pinned" "Imports.is_pinned" s_Imports_is_pinned f fd ["self", "number"]) ∧ (∃ (f : Addr) (fd : FuncData), DefM K C "unpin" "Imports.unpin" s_Imports_unpin f fd ["self", "reference"]) ∧ (∃ (f : Addr) (fd : FuncData), DefM K C "all_imported" "Imports.all_imported" s_Imports_all_imported f fd ["self"]) ∧ (∃ (f : Addr) (fd : FuncData), DefM K C "give_up" "Imports.give_up" s_Imports_give_up f fd ["self", "marked"])
def FX_World {K : PySem.W.Frag} {h : Heap} (_ : K.In h) (mg : Str → Option Value) : Prop := ∃ C : Addr, ClsT K mg "World" C ∧ PySem.W.findIn K (.ref C) "heap" = some none ∧ PySem.W.findIn K (.ref C) "exports" = some none ∧ PySem.W.findIn K (.ref C) "imports" = some none ∧ PySem.W.findIn K (.ref C) "cycle" = some none ∧ PySem.W.findIn K (.ref C) "reports" = some none ∧ (∃ (f : Addr) (fd : FuncData), DefM K C "__init__" "World.__init__" s_World_init f fd ["self"]) ∧ (∃ (f : Addr) (fd : FuncData), DefM K C "report" "World.report" s_World_report f fd ["self", "codes"])
def FX_between {K : PySem.W.Frag} {h : Heap} (_ : K.In h) (mg : Str → Option Value) : Prop := ∃ (f : Addr) (fd : FuncData), DefG K mg "between" s_between f fd ["number", "low", "high"]
def FX_is_slot {K : PySem.W.Frag} {h : Heap} (_ : K.In h) (mg : Str → Option Value) : Prop := ∃ (f : Addr) (fd : FuncData), DefG K mg "is_slot" s_is_slot f fd ["number"]
def FX_is_field {K : PySem.W.Frag} {h : Heap} (_ : K.In h) (mg : Str → Option Value) : Prop := ∃ (f : Addr) (fd : FuncData), DefG K mg "is_field" s_is_field f fd ["number"]
def FX_is_reference {K : PySem.W.Frag} {h : Heap} (_ : K.In h) (mg : Str → Option Value) : Prop := ∃ (f : Addr) (fd : FuncData), DefG K mg "is_reference" s_is_reference f fd ["number"]
def FX_begin {K : PySem.W.Frag} {h : Heap} (_ : K.In h) (mg : Str → Option Value) : Prop := ∃ (f : Addr) (fd : FuncData), DefG K mg "begin" s_begin f fd ["world"]
def FX_do_unit {K : PySem.W.Frag} {h : Heap} (_ : K.In h) (mg : Str → Option Value) : Prop := ∃ (f : Addr) (fd : FuncData), DefG K mg "do_unit" s_do_unit f fd ["world"]
def FX_do_units {K : PySem.W.Frag} {h : Heap} (_ : K.In h) (mg : Str → Option Value) : Prop := ∃ (f : Addr) (fd : FuncData), DefG K mg "do_units" s_do_units f fd ["world", "budget"]
def FX_units_left {K : PySem.W.Frag} {h : Heap} (_ : K.In h) (mg : Str → Option Value) : Prop := ∃ (f : Addr) (fd : FuncData), DefG K mg "units_left" s_units_left f fd ["world"]
def FX_free_white {K : PySem.W.Frag} {h : Heap} (_ : K.In h) (mg : Str → Option Value) : Prop := ∃ (f : Addr) (fd : FuncData), DefG K mg "free_white" s_free_white f fd ["world"]
def FX_codes_of {K : PySem.W.Frag} {h : Heap} (_ : K.In h) (mg : Str → Option Value) : Prop := ∃ (f : Addr) (fd : FuncData), DefG K mg "codes_of" s_codes_of f fd ["heap", "numbers"]
def FX_finish {K : PySem.W.Frag} {h : Heap} (_ : K.In h) (mg : Str → Option Value) : Prop := ∃ (f : Addr) (fd : FuncData), DefG K mg "finish" s_finish f fd ["world"]
def FX_complete {K : PySem.W.Frag} {h : Heap} (_ : K.In h) (mg : Str → Option Value) : Prop := ∃ (f : Addr) (fd : FuncData), DefG K mg "complete" s_complete f fd ["world"]
def FX_begin_cycle {K : PySem.W.Frag} {h : Heap} (_ : K.In h) (mg : Str → Option Value) : Prop := ∃ (f : Addr) (fd : FuncData), DefG K mg "begin_cycle" s_begin_cycle f fd ["world"]
def FX_work {K : PySem.W.Frag} {h : Heap} (_ : K.In h) (mg : Str → Option Value) : Prop := ∃ (f : Addr) (fd : FuncData), DefG K mg "work" s_work f fd ["world", "budget"]
def FX_end_cycle {K : PySem.W.Frag} {h : Heap} (_ : K.In h) (mg : Str → Option Value) : Prop := ∃ (f : Addr) (fd : FuncData), DefG K mg "end_cycle" s_end_cycle f fd ["world"]
def FX_collect {K : PySem.W.Frag} {h : Heap} (_ : K.In h) (mg : Str → Option Value) : Prop := ∃ (f : Addr) (fd : FuncData), DefG K mg "collect" s_collect f fd ["world"]
def FX_list_roots {K : PySem.W.Frag} {h : Heap} (_ : K.In h) (mg : Str → Option Value) : Prop := ∃ (f : Addr) (fd : FuncData), DefG K mg "list_roots" s_list_roots f fd ["world"]
def FX_expand {K : PySem.W.Frag} {h : Heap} (_ : K.In h) (mg : Str → Option Value) : Prop := ∃ (f : Addr) (fd : FuncData), DefG K mg "expand" s_expand f fd ["heap", "search", "place"]
def FX_search_from {K : PySem.W.Frag} {h : Heap} (_ : K.In h) (mg : Str → Option Value) : Prop := ∃ (f : Addr) (fd : FuncData), DefG K mg "search_from" s_search_from f fd ["heap", "roots"]
def FX_tell_status {K : PySem.W.Frag} {h : Heap} (_ : K.In h) (mg : Str → Option Value) : Prop := ∃ (f : Addr) (fd : FuncData), DefG K mg "tell_status" s_tell_status f fd ["world"]
def FX_tell_present {K : PySem.W.Frag} {h : Heap} (_ : K.In h) (mg : Str → Option Value) : Prop := ∃ (f : Addr) (fd : FuncData), DefG K mg "tell_present" s_tell_present f fd ["world"]
def FX_tell_path {K : PySem.W.Frag} {h : Heap} (_ : K.In h) (mg : Str → Option Value) : Prop := ∃ (f : Addr) (fd : FuncData), DefG K mg "tell_path" s_tell_path f fd ["world", "number"]
def FX_tell_reported {K : PySem.W.Frag} {h : Heap} (_ : K.In h) (mg : Str → Option Value) : Prop := ∃ (f : Addr) (fd : FuncData), DefG K mg "tell_reported" s_tell_reported f fd ["world"]
def FX_tell_remaining {K : PySem.W.Frag} {h : Heap} (_ : K.In h) (mg : Str → Option Value) : Prop := ∃ (f : Addr) (fd : FuncData), DefG K mg "tell_remaining" s_tell_remaining f fd ["world"]
def FX_create {K : PySem.W.Frag} {h : Heap} (_ : K.In h) (mg : Str → Option Value) : Prop := ∃ (f : Addr) (fd : FuncData), DefG K mg "create" s_create f fd ["world", "slot", "size", "code"]
def FX_set_integer {K : PySem.W.Frag} {h : Heap} (_ : K.In h) (mg : Str → Option Value) : Prop := ∃ (f : Addr) (fd : FuncData), DefG K mg "set_integer" s_set_integer f fd ["world", "slot", "n"]
def FX_clear_slot {K : PySem.W.Frag} {h : Heap} (_ : K.In h) (mg : Str → Option Value) : Prop := ∃ (f : Addr) (fd : FuncData), DefG K mg "clear_slot" s_clear_slot f fd ["world", "slot"]
def FX_copy_slot {K : PySem.W.Frag} {h : Heap} (_ : K.In h) (mg : Str → Option Value) : Prop := ∃ (f : Addr) (fd : FuncData), DefG K mg "copy_slot" s_copy_slot f fd ["world", "source", "target"]
def FX_field_error {K : PySem.W.Frag} {h : Heap} (_ : K.In h) (mg : Str → Option Value) : Prop := ∃ (f : Addr) (fd : FuncData), DefG K mg "field_error" s_field_error f fd ["world", "slot", "field"]
def FX_read_field {K : PySem.W.Frag} {h : Heap} (_ : K.In h) (mg : Str → Option Value) : Prop := ∃ (f : Addr) (fd : FuncData), DefG K mg "read_field" s_read_field f fd ["world", "slot", "field", "target"]
def FX_write_field {K : PySem.W.Frag} {h : Heap} (_ : K.In h) (mg : Str → Option Value) : Prop := ∃ (f : Addr) (fd : FuncData), DefG K mg "write_field" s_write_field f fd ["world", "slot", "field", "source"]
def FX_compare {K : PySem.W.Frag} {h : Heap} (_ : K.In h) (mg : Str → Option Value) : Prop := ∃ (f : Addr) (fd : FuncData), DefG K mg "compare" s_compare f fd ["world", "first", "second"]
def FX_inspect_slot {K : PySem.W.Frag} {h : Heap} (_ : K.In h) (mg : Str → Option Value) : Prop := ∃ (f : Addr) (fd : FuncData), DefG K mg "inspect_slot" s_inspect_slot f fd ["world", "slot"]
def FX_export_object {K : PySem.W.Frag} {h : Heap} (_ : K.In h) (mg : Str → Option Value) : Prop := ∃ (f : Addr) (fd : FuncData), DefG K mg "export_object" s_export_object f fd ["world", "slot"]
def FX_accept_handle {K : PySem.W.Frag} {h : Heap} (_ : K.In h) (mg : Str → Option Value) : Prop := ∃ (f : Addr) (fd : FuncData), DefG K mg "accept_handle" s_accept_handle f fd ["world", "handle", "slot"]
def FX_retire_handle {K : PySem.W.Frag} {h : Heap} (_ : K.In h) (mg : Str → Option Value) : Prop := ∃ (f : Addr) (fd : FuncData), DefG K mg "retire_handle" s_retire_handle f fd ["world", "handle"]
def FX_withdraw_handle {K : PySem.W.Frag} {h : Heap} (_ : K.In h) (mg : Str → Option Value) : Prop := ∃ (f : Addr) (fd : FuncData), DefG K mg "withdraw_handle" s_withdraw_handle f fd ["world", "handle"]
def FX_import_reference {K : PySem.W.Frag} {h : Heap} (_ : K.In h) (mg : Str → Option Value) : Prop := ∃ (f : Addr) (fd : FuncData), DefG K mg "import_reference" s_import_reference f fd ["world", "reference", "slot"]
def FX_pin_reference {K : PySem.W.Frag} {h : Heap} (_ : K.In h) (mg : Str → Option Value) : Prop := ∃ (f : Addr) (fd : FuncData), DefG K mg "pin_reference" s_pin_reference f fd ["world", "slot"]
def FX_unpin_reference {K : PySem.W.Frag} {h : Heap} (_ : K.In h) (mg : Str → Option Value) : Prop := ∃ (f : Addr) (fd : FuncData), DefG K mg "unpin_reference" s_unpin_reference f fd ["world", "reference"]
def FX_slot_call {K : PySem.W.Frag} {h : Heap} (_ : K.In h) (mg : Str → Option Value) : Prop := ∃ (f : Addr) (fd : FuncData), DefG K mg "slot_call" s_slot_call f fd ["world", "operation", "given"]
def FX_outside_call {K : PySem.W.Frag} {h : Heap} (_ : K.In h) (mg : Str → Option Value) : Prop := ∃ (f : Addr) (fd : FuncData), DefG K mg "outside_call" s_outside_call f fd ["world", "operation", "given"]
def FX_collector_call {K : PySem.W.Frag} {h : Heap} (_ : K.In h) (mg : Str → Option Value) : Prop := ∃ (f : Addr) (fd : FuncData), DefG K mg "collector_call" s_collector_call f fd ["world", "operation", "given"]
def FX_inquiry_call {K : PySem.W.Frag} {h : Heap} (_ : K.In h) (mg : Str → Option Value) : Prop := ∃ (f : Addr) (fd : FuncData), DefG K mg "inquiry_call" s_inquiry_call f fd ["world", "operation", "given"]
def FX_perform {K : PySem.W.Frag} {h : Heap} (_ : K.In h) (mg : Str → Option Value) : Prop := ∃ (f : Addr) (fd : FuncData), DefG K mg "perform" s_perform f fd ["world", "operation", "given"]
def FX_answers {K : PySem.W.Frag} {h : Heap} (_ : K.In h) (mg : Str → Option Value) : Prop := ∃ (f : Addr) (fd : FuncData), DefG K mg "answers" s_answers f fd ["calls"] ∧ ∀ (s : Shared) (us : List Value), us.length = (["calls"] : List Str).length → BindsTo s fd ⟨us, []⟩ ((["calls"] : List Str).zip us)
def FX_tup {K : PySem.W.Frag} {h : Heap} (_ : K.In h) (mg : Str → Option Value) : Prop := ∃ f : Addr, Gv mg "ARGUMENTS" (.ref f) ∧ ∀ H : Hp, SqT K H f (Gc.arity.map fun (n : Nat) => V.int (n : Int))
end Gw

set_option Elab.async false
set_option maxRecDepth 100000
set_option maxHeartbeats 4000000
set_option linter.all false
/-! How the data lie in the heap: tags, addresses, contents. -/
namespace Gw
open PySem PySem.Spec PyProof.Rows L2 Gc
abbrev Va := Vbxlab.Value

/-! ### a heap by tags -/
structure Rep {τ : Type} (F H : Hp) (a : τ → Addr) (c : τ → Option HO) : Prop where
  same : Same F H
  at_ : ∀ t o, c t = some o → H (a t) = some o
  inj : ∀ t u o p, c t = some o → c u = some p → a t = a u → t = u
  own : ∀ t o, c t = some o → F (a t) = none
section
variable {τ : Type} [DecidableEq τ] {F H H' : Hp} {a : τ → Addr} {c c' : τ → Option HO} {t : τ} {o o' : HO} {p : Addr}
theorem Rep.upd (R : Rep F H a c) (h : c t = some o) (h' : ∀ u, c' u = if u = t then some o' else c u) : Rep F (upd H (a t) o') a c' := by
  have hc : ∀ {u x}, c' u = some x → ∃ y, c u = some y := fun {u x} q => by
    rw [h'] at q
    split at q
    · rename_i e
      exact ⟨o, by rw [e]; exact h⟩
    · exact ⟨x, q⟩
  refine ⟨fun b x q => ?_, fun u x q => ?_, fun u v x y q1 q2 e => ?_, fun u x q => ?_⟩
  · rw [upd_ne (fun e => by rw [e, R.own t o h] at q; cases q)]
    exact R.same b x q
  · rw [h'] at q
    split at q
    · rename_i e
      rw [e, ← q]
      exact upd_same
    · rename_i e
      rw [upd_ne (fun z => e (R.inj u t x o q h z))]
      exact R.at_ u x q
  · obtain ⟨x', hx⟩ := hc q1
    obtain ⟨y', hy⟩ := hc q2
    exact R.inj u v x' y' hx hy e
  · obtain ⟨x', hx⟩ := hc q
    exact R.own u x' hx
theorem Rep.ext (R : Rep F H a c) (h : Same H H') : Rep F H' a c := ⟨R.same.trans h, fun t o q => h _ _ (R.at_ t o q), R.inj, R.own⟩
theorem Rep.push (R : Rep F H a c) (h : H p = none) : Rep (L2.upd F p o) (L2.upd H p o) a c := by
  refine ⟨fun b x q => ?_, fun u x q => ?_, R.inj, fun u x q => ?_⟩
  · by_cases e : b = p
    · rw [e, upd_same] at q ⊢
      exact q
    · rw [upd_ne e] at q ⊢
      exact R.same b x q
  · rw [upd_ne (ne_of_none (R.at_ u x q) h)]
    exact R.at_ u x q
  · rw [upd_ne (ne_of_none (R.at_ u x q) h)]
    exact R.own u x q
theorem Rep.poke (R : Rep (L2.upd F p o) H a c) : Rep (L2.upd F p o') (L2.upd H p o') a c := by
  have ne : ∀ u x, c u = some x → a u ≠ p := fun u x q e => by
    have := R.own u x q
    rw [e, upd_same] at this
    cases this
  refine ⟨fun b x q => ?_, fun u x q => ?_, R.inj, fun u x q => ?_⟩
  · by_cases e : b = p
    · rw [e, upd_same] at q ⊢
      exact q
    · rw [upd_ne e] at q ⊢
      exact R.same b x (by rw [upd_ne e]; exact q)
  · rw [upd_ne (ne u x q)]
    exact R.at_ u x q
  · have := R.own u x q
    rw [upd_ne (ne u x q)] at this ⊢
    exact this
theorem Rep.pop (R : Rep (L2.upd F p o) H a c) (h : F p = none) : Rep F H a c := by
  refine ⟨fun b x q => R.same b x (by rw [upd_ne (ne_of_none q h)]; exact q), R.at_, R.inj, fun u x q => ?_⟩
  have := R.own u x q
  by_cases e : a u = p
  · rw [e]
    exact h
  · rw [upd_ne e] at this
    exact this
theorem Rep.get (R : Rep (L2.upd F p o) H a c) : H p = some o := R.same p o upd_same
/-- an object of the frame becomes a tag's -/
theorem Rep.adopt {a' : τ → Addr} (R : Rep (L2.upd F p o) H a c) (h : F p = none) (ha : ∀ u, a' u = if u = t then p else a u) (h' : ∀ u, c' u = if u = t then some o else c u) : Rep F H a' c' := by
  have ne : ∀ u x, c u = some x → a u ≠ p := fun u x q e => by
    have := R.own u x q
    rw [e, upd_same] at this
    cases this
  refine ⟨fun b x q => R.same b x (by rw [upd_ne (ne_of_none q h)]; exact q), fun u x q => ?_, fun u v x y q1 q2 e => ?_, fun u x q => ?_⟩
  · rw [h'] at q
    rw [ha]
    split at q
    · rename_i e
      rw [if_pos e, ← q]
      exact R.get
    · rename_i e
      rw [if_neg e]
      exact R.at_ u x q
  · rw [h'] at q1 q2
    rw [ha, ha] at e
    by_cases e1 : u = t
    · by_cases e2 : v = t
      · rw [e1, e2]
      · rw [if_pos e1, if_neg e2] at e
        rw [if_neg e2] at q2
        exact absurd e.symm (ne v y q2)
    · rw [if_neg e1] at q1 e
      by_cases e2 : v = t
      · rw [if_pos e2] at e
        exact absurd e (ne u x q1)
      · rw [if_neg e2] at q2 e
        exact R.inj u v x y q1 q2 e
  · rw [h'] at q
    rw [ha]
    split at q
    · rename_i e
      rw [if_pos e]
      exact h
    · rename_i e
      rw [if_neg e]
      have := R.own u x q
      rw [upd_ne (ne u x q)] at this
      exact this
theorem Rep.none {F : Hp} {a : τ → Addr} : Rep F F a (fun _ => Option.none) := ⟨Same.refl F, fun _ _ q => (by cases q), fun _ _ _ _ q => (by cases q), fun _ _ q => (by cases q)⟩
theorem Rep.conv (R : Rep F H a c) (h : ∀ u, c' u = c u) : Rep F H a c' := by
  have e : c' = c := funext h
  rw [e]
  exact R
end

/-! ### values -/
def kd : Va → Int
  | .nothing => 0
  | .integer _ => 1
  | .object _ => 2
  | .foreign _ => 3
def nm : Va → Int
  | .nothing => 0
  | .integer n => n
  | .object n => (n : Int)
  | .foreign r => (r : Int)
/-- x is a pair that tells v -/
def VAt (H : Hp) (x : V) (v : Va) : Prop := ∃ p, x = .ref p ∧ H p = some (.tup [.int (kd v), .int (nm v)])
def VLs (H : Hp) (xs : List V) (vs : List Va) : Prop := xs.length = vs.length ∧ ∀ (i : Nat) (v : Va), vs[i]? = some v → ∃ x, xs[i]? = some x ∧ VAt H x v
section
variable {H H' : Hp} {x : V} {v : Va} {xs : List V} {vs : List Va} {p : Addr} {o : HO}
theorem VAt.ext (h : VAt H x v) (s : Same H H') : VAt H' x v := let ⟨p, e, q⟩ := h; ⟨p, e, s _ _ q⟩
theorem VLs.ext (h : VLs H xs vs) (s : Same H H') : VLs H' xs vs := ⟨h.1, fun i v q => let ⟨x, e, z⟩ := h.2 i v q; ⟨x, e, z.ext s⟩⟩
theorem VAt.upd (h : VAt H x v) (n : ∀ ys, H p ≠ some (.tup ys)) : VAt (upd H p o) x v := by
  obtain ⟨q, e, z⟩ := h
  exact ⟨q, e, by rw [upd_ne (fun w => n _ (w ▸ z))]; exact z⟩
theorem VLs.upd (h : VLs H xs vs) (n : ∀ ys, H p ≠ some (.tup ys)) : VLs (upd H p o) xs vs := ⟨h.1, fun i v q => let ⟨x, e, z⟩ := h.2 i v q; ⟨x, e, z.upd n⟩⟩
theorem VLs.set (h : VLs H xs vs) (hx : VAt H x v) (i : Nat) : VLs H (xs.set i x) (vs.set i v) := by
  refine ⟨by rw [List.length_set, List.length_set]; exact h.1, fun j u q => ?_⟩
  by_cases e : j = i
  · subst e
    by_cases z : j < vs.length
    · rw [List.getElem?_set_self z] at q
      cases q
      exact ⟨x, List.getElem?_set_self (by rw [h.1]; exact z), hx⟩
    · rw [List.getElem?_eq_none (by rw [List.length_set]; omega)] at q
      cases q
  · rw [List.getElem?_set_ne (Ne.symm e)] at q ⊢
    exact h.2 j u q
theorem VLs.snoc (h : VLs H xs vs) (hx : VAt H x v) : VLs H (xs ++ [x]) (vs ++ [v]) := by
  refine ⟨by simp [h.1], fun j u q => ?_⟩
  rcases getElem?_snoc q with z | ⟨z, e⟩
  · obtain ⟨y, a, b⟩ := h.2 j u z
    exact ⟨y, getElem?_old a, b⟩
  · subst e
    exact ⟨x, by rw [z, ← h.1]; exact getElem?_new, hx⟩
theorem VLs.nil : VLs H [] [] := ⟨rfl, fun i v q => by simp at q⟩
end

/-! ### the world -/
inductive Tag where
  | w | hp | ex | im | cy | ls | le | lo | lt | li | lp | lc | lg | lm | lr | en (i : Nat) | ce (i : Nat)
  deriving DecidableEq
/-- where things lie -/
structure Ad where
  w : Addr
  hp : Addr
  ex : Addr
  im : Addr
  cy : Addr
  ls : Addr
  le : Addr
  lo : Addr
  lt : Addr
  li : Addr
  lp : Addr
  lc : Addr
  lg : Addr
  lm : Addr
  lr : Addr
  en : Nat → Addr
  ce : Nat → Addr
  dx : Tag → Addr
  sv : List V
  cv : Nat → List V
def Ad.at (A : Ad) : Tag → Addr
  | .w => A.w
  | .hp => A.hp
  | .ex => A.ex
  | .im => A.im
  | .cy => A.cy
  | .ls => A.ls
  | .le => A.le
  | .lo => A.lo
  | .lt => A.lt
  | .li => A.li
  | .lp => A.lp
  | .lc => A.lc
  | .lg => A.lg
  | .lm => A.lm
  | .lr => A.lr
  | .en i => A.en i
  | .ce i => A.ce i
def nats (l : List Nat) : List V := l.map fun (n : Nat) => V.int (n : Int)
def bools (l : List Bool) : List V := l.map V.bl
def refs (A : Ad) (n : Nat) : List V := (List.range n).map fun i => V.ref (A.en i)
def cont (a : Ads) (A : Ad) (m : M) : Tag → Option HO
  | .w => some (.ins a.cWorld (A.dx .w) (F_World (.ref A.hp) (.ref A.ex) (.ref A.im) (.ref A.cy) (.ref A.lr)))
  | .hp => some (.ins a.cHeap (A.dx .hp) (F_Heap (.ref A.ls) (.ref A.le)))
  | .ex => some (.ins a.cExports (A.dx .ex) (F_Exports (.ref A.lo) (.ref A.lt)))
  | .im => some (.ins a.cImports (A.dx .im) (F_Imports (.ref A.li) (.ref A.lp)))
  | .cy => some (.ins a.cCycle (A.dx .cy) (F_Cycle (.bl m.running) (.ref A.lc) (.ref A.lg) (.int (m.examined : Int)) (.int (m.units : Int)) (.ref A.lm)))
  | .ls => some (.lst A.sv)
  | .le => some (.lst (refs A m.ents.length))
  | .lo => some (.lst (nats m.owners))
  | .lt => some (.lst (nats m.states))
  | .li => some (.lst (bools m.imported))
  | .lp => some (.lst (bools m.pinned))
  | .lc => some (.lst (nats m.colors))
  | .lg => some (.lst (nats m.grey))
  | .lm => some (.lst (bools m.marked))
  | .lr => some (.lst (nats m.reports))
  | .en i => (m.ents[i]?).map fun e => .ins a.cEntry (A.dx (.en i)) (F_Entry (.ref (A.ce i)) (.int (e.code : Int)) (.bl e.there))
  | .ce i => (m.ents[i]?).map fun _ => .lst (A.cv i)
structure WA (a : Ads) (F H : Hp) (A : Ad) (m : M) : Prop where
  rep : Rep F H A.at (cont a A m)
  sv : VLs H A.sv m.slots
  cv : ∀ i e, m.ents[i]? = some e → VLs H (A.cv i) e.cells
section
variable {a : Ads} {F H H' : Hp} {A A' : Ad} {m m' : M} {p : Addr} {o o' : HO} {t : Tag}
theorem cont_notup {ys : List V} : cont a A m t ≠ some (.tup ys) := by
  cases t with
  | en i =>
    intro h
    simp [cont] at h
  | ce i =>
    intro h
    simp [cont] at h
  | _ => intro h; cases h
theorem WA.ext (W : WA a F H A m) (h : Same H H') : WA a F H' A m := ⟨W.rep.ext h, W.sv.ext h, fun i e q => (W.cv i e q).ext h⟩
theorem WA.push (W : WA a F H A m) (h : H p = none) : WA a (upd F p o) (upd H p o) A m :=
  ⟨W.rep.push h, W.sv.upd (fun ys => by rw [h]; intro q; cases q), fun i e q => (W.cv i e q).upd (fun ys => by rw [h]; intro q; cases q)⟩
theorem WA.poke (W : WA a (upd F p o) H A m) (n : ∀ ys, o ≠ .tup ys) : WA a (upd F p o') (upd H p o') A m := by
  have h := W.rep.get
  have n' : ∀ ys, H p ≠ some (.tup ys) := fun ys q => by
    rw [h] at q
    exact n ys (Option.some.inj q)
  exact ⟨W.rep.poke, W.sv.upd n', fun i e q => (W.cv i e q).upd n'⟩
theorem WA.pop (W : WA a (upd F p o) H A m) (h : F p = none) : WA a F H A m := ⟨W.rep.pop h, W.sv, W.cv⟩
theorem WA.get (W : WA a (upd F p o) H A m) : H p = some o := W.rep.get
theorem WA.same (W : WA a F H A m) : Same F H := W.rep.same
theorem WA.free (W : WA a F H A m) (h : H p = none) : F p = none := W.rep.same.free h
/-- an object of the world is written, its address stays -/
theorem WA.set (W : WA a F H A m) (t : Tag) (h : cont a A m t = some o) (ha : ∀ u, A'.at u = A.at u) (h' : ∀ u, cont a A' m' u = if u = t then some o' else cont a A m u)
    (sv : VLs H A'.sv m'.slots) (cv : ∀ i e, m'.ents[i]? = some e → VLs H (A'.cv i) e.cells) : WA a F (upd H (A.at t) o') A' m' := by
  have n : ∀ ys, H (A.at t) ≠ some (.tup ys) := fun ys q => by
    rw [W.rep.at_ t o h] at q
    exact cont_notup (h.trans q)
  have e : A'.at = A.at := funext ha
  refine ⟨?_, sv.upd n, fun i e q => (cv i e q).upd n⟩
  rw [e]
  exact W.rep.upd h h'
/-- a new object takes the place of a tag's, and the holder at s is written -/
theorem WA.attach (W : WA a (upd F p o) H A m) (hF : F p = none) (s t : Tag) {o1 o2 : HO} (h : cont a A m s = some o1) (ha : ∀ u, A'.at u = if u = t then p else A.at u)
    (h' : ∀ u, cont a A' m' u = if u = t then some o else if u = s then some o2 else cont a A m u) (hs : A'.sv = A.sv) (hc : A'.cv = A.cv) (hm : m'.slots = m.slots) (hm2 : m'.ents = m.ents) : WA a F (upd H (A.at s) o2) A' m' := by
  have n : ∀ ys, H (A.at s) ≠ some (.tup ys) := fun ys q => by
    rw [W.rep.at_ s o1 h] at q
    exact cont_notup (h.trans q)
  have R1 : Rep (upd F p o) (upd H (A.at s) o2) A.at (fun u => if u = s then some o2 else cont a A m u) := W.rep.upd h fun _ => rfl
  refine ⟨R1.adopt hF ha h', ?_, fun i e q => ?_⟩
  · rw [hs, hm]
    exact W.sv.upd n
  · rw [hc]
    rw [hm2] at q
    exact (W.cv i e q).upd n
end
/-- the fixed addresses are the same -/
structure Ext (A A' : Ad) : Prop where
  w : A'.w = A.w
  hp : A'.hp = A.hp
  ex : A'.ex = A.ex
  im : A'.im = A.im
  cy : A'.cy = A.cy
structure ExtE (A A' : Ad) : Prop extends Ext A A' where
  en : A'.en = A.en
  ce : A'.ce = A.ce
theorem ExtE.refl (A : Ad) : ExtE A A := ⟨⟨rfl, rfl, rfl, rfl, rfl⟩, rfl, rfl⟩
theorem Ext.refl (A : Ad) : Ext A A := ⟨rfl, rfl, rfl, rfl, rfl⟩
theorem Ext.trans {A B C : Ad} (x : Ext A B) (y : Ext B C) : Ext A C := ⟨y.w.trans x.w, y.hp.trans x.hp, y.ex.trans x.ex, y.im.trans x.im, y.cy.trans x.cy⟩
theorem ExtE.trans {A B C : Ad} (x : ExtE A B) (y : ExtE B C) : ExtE A C := ⟨x.toExt.trans y.toExt, y.en.trans x.en, y.ce.trans x.ce⟩
end Gw

set_option Elab.async false
set_option maxRecDepth 100000
set_option maxHeartbeats 4000000
set_option linter.all false
/-! Steps over readings: values, tests, statements; promises by what holds ahead and behind. -/
namespace Gw
open PySem PySem.Spec PyProof.Rows L2 Gc
abbrev Sl := L2.St

/-! ### promises -/
abbrev Post := V → Hp → Prop
/-- ahead: the arguments and the heap fit, and this is what holds behind -/
abbrev Pre := List V → Hp → Post → Prop
def Pr (p : Pre) : Sp := fun vs H Q _ => ∃ post, p vs H post ∧ ∀ v H', post v H' → Q v H'
def Ret (v : V) (H : Hp) : Post := fun r H' => r = v ∧ H' = H
def NewL (xs : List V) (H : Hp) : Post := fun r H' => ∃ p, H p = none ∧ r = .ref p ∧ H' = upd H p (.lst xs)

section
variable {σ : Sl} {H H1 : Hp} {i j : Nat} {v x y z : V} {ta tb te tv tob ti : TE} {b c : Bool} {K : PySem.W.Frag} {p C dx : Addr} {fs : List (Str × V)} {f m : Str} {t u : TT} {vs xs ys : List V} {g : Int → Int → V} {n k : Int} {r : R2} {t1 t2 tb' : TS} {D : Ends} {targs : TA} {pre : Pre} {post : Post} {E : XK}

/-! ### values -/
def ValA (t : TA) (σ : Sl) (H : Hp) (vs : List V) : Prop := ∀ Q : List V → Hp → Prop, Q vs H → t σ H Q
theorem va_nil : ValA tNil σ H [] := fun Q q => q
theorem va_cons (h : Val te σ H x) (h2 : ValA targs σ H vs) : ValA (tCons te targs) σ H (x :: vs) := fun Q q => h _ (h2 _ q)
theorem va1 (h : Val te σ H x) : ValA (tCons te tNil) σ H [x] := va_cons h va_nil
theorem va2 (h : Val ta σ H x) (h2 : Val tb σ H y) : ValA (tCons ta (tCons tb tNil)) σ H [x, y] := va_cons h (va1 h2)
theorem va3 (h : Val ta σ H x) (h2 : Val tb σ H y) (h3 : Val te σ H z) : ValA (tCons ta (tCons tb (tCons te tNil))) σ H [x, y, z] := va_cons h (va2 h2 h3)
theorem val_i0 (ha : Val ta σ H (.int n)) (hb : Val tb σ H (.int k)) : Val (tOp (rI0 g) ta tb) σ H (g n k) := val_op ha hb fun Q q => ⟨n, k, rfl, rfl, q⟩
theorem val_add (ha : Val ta σ H (.int n)) (hb : Val tb σ H (.int k)) : Val (tOp (rI0 fun i j => .int (i + j)) ta tb) σ H (.int (n + k)) := val_i0 ha hb
theorem val_sub (ha : Val ta σ H (.int n)) (hb : Val tb σ H (.int k)) : Val (tOp (rI0 fun i j => .int (i - j)) ta tb) σ H (.int (n - k)) := val_i0 ha hb
theorem val_le (ha : Val ta σ H (.int n)) (hb : Val tb σ H (.int k)) : Val (tOp (rI0 fun i j => .bl (decide (i ≤ j))) ta tb) σ H (.bl (decide (n ≤ k))) := val_i0 ha hb
theorem Val.to (h : Val te σ H x) (e : x = y) : Val te σ H y := e ▸ h
theorem val_neg (ha : Val ta σ H (.int n)) : Val (tUn (rU fun i => .int (-i)) ta) σ H (.int (-n)) := fun Q q => ha _ ⟨n, rfl, q⟩
theorem val_andV (ha : Val ta σ H (.bl b)) (hb : Val tb σ H (.bl c)) : Val (tAndV ta tb) σ H (.bl (b && c)) := fun Q q => ha _ ⟨b, rfl, by
  cases b with
  | true => exact iteT (hb _ q)
  | false => exact iteF q⟩
/-- an item of a list that is read -/
theorem val_ix (ha : Val ta σ H (.ref p)) (hp : SqL K H p xs) (hb : Val tb σ H (.int n)) (hz : n = (j : Int)) (hx : xs[j]? = some v) : Val (tOp (rIxL K) ta tb) σ H v :=
  val_op ha hb fun Q q => ⟨p, xs, n, v, rfl, rfl, hp, at_of hz hx, q⟩
theorem val_ixT (ha : Val ta σ H (.ref p)) (hp : SqT K H p xs) (hb : Val tb σ H (.int n)) (hz : n = (j : Int)) (hx : xs[j]? = some v) : Val (tOp (rIxT K) ta tb) σ H v :=
  val_op ha hb fun Q q => ⟨p, xs, n, v, rfl, rfl, hp, at_of hz hx, q⟩
theorem val_len (ha : Val ta σ H (.ref p)) (hp : SqL K H p xs) : Val (tCB (fun xs H Q => ∃ p ys, xs = [.ref p] ∧ (SqL K H p ys ∨ SqT K H p ys) ∧ Q (.int (ys.length : Int)) H) (tCons ta tNil)) σ H (.int (xs.length : Int)) :=
  fun Q q => ha _ ⟨p, xs, rfl, .inl hp, q⟩
theorem Val.hh (h : ValH te σ H (Ret v H)) : Val te σ H v := fun Q q => h Q fun v' H' ⟨e1, e2⟩ => by rw [e1, e2]; exact q
/-- a call by a promise -/
theorem use_call (ha : ValA targs σ H vs) (hp : pre vs H post) : ValH (tCall (Pr pre) [] E targs) σ H post := fun Q q => ha _ (by rw [List.append_nil]; exact ⟨post, hp, q⟩)
theorem use_meth (ho : Val tob σ H (.ref p)) (hb : H p = some (.ins C dx fs)) (hn : fs.lookup m = none) (ha : ValA targs σ H vs) (hp : pre (.ref p :: vs) H post) : ValH (tMeth C m (Pr pre) [] E tob targs) σ H post :=
  fun Q q => ho _ ⟨p, dx, fs, rfl, hb, hn, ha _ (by rw [List.append_nil]; exact ⟨post, hp, q⟩)⟩

/-! ### tests -/
theorem ans_b0 {fb : Int → Int → Bool} (ha : Val ta σ H (.int n)) (hb : Val tb σ H (.int k)) (e : fb n k = b) : Ans (tTest (tOp (rI0 fun i j => .bl (fb i j)) ta tb)) σ H b := ans_cmp ha hb fun Q q => ⟨n, k, rfl, rfl, by show Q (V.bl (fb n k)) H; rw [e]; exact q⟩
theorem dec_int {n k : Int} : decide (V.int n = V.int k) = decide (n = k) := by
  by_cases e : n = k
  · subst e
    rw [decide_eq_true rfl, decide_eq_true rfl]
  · rw [decide_eq_false e, decide_eq_false fun q => e (V.int.inj q)]
theorem ans_eqI (ha : Val ta σ H (.int n)) (hb : Val tb σ H (.int k)) (e : decide (n = k) = b) : Ans (tTest (tOp rEq ta tb)) σ H b := ans_eq ha hb rfl (dec_int.trans e)
theorem ans_neI (ha : Val ta σ H (.int n)) (hb : Val tb σ H (.int k)) (e : (!decide (n = k)) = b) : Ans (tTest (tOp rNe ta tb)) σ H b := ans_ne ha hb rfl (by rw [dec_int]; exact e)
/-- the second part is asked where the first says yes -/
theorem ans_andL (h1 : Ans t σ H b) (h2 : b = true → Ans u σ H c) : Ans (tAnd t u) σ H (b && c) := by
  cases b with
  | true => exact ans_and h1 (h2 rfl)
  | false => exact ans_and0 h1
theorem ans_orL (h1 : Ans t σ H b) (h2 : b = false → Ans u σ H c) : Ans (tOr t u) σ H (b || c) := by
  cases b with
  | false => exact ans_or h1 (h2 rfl)
  | true => exact ans_or1 h1
theorem ans_yes : Ans tYes σ H true := fun Q q => q

/-! ### statements -/
theorem st_if (h : Ans t σ H b) (q1 : b = true → t1 D σ H) (q2 : b = false → t2 D σ H) : tIfS t t1 t2 D σ H := by
  cases b with
  | true => exact st_yes h (q1 rfl)
  | false => exact st_no h (q2 rfl)
/-- an if without an else, and what stands behind it -/
theorem st_ifN (h : Ans t σ H b) (q1 : b = true → t1 { D with nx := t2 D } σ H) (q2 : b = false → t2 D σ H) : tSeq (tIfS t t1 tNext) t2 D σ H := by
  refine st_seq ?_
  cases b with
  | true => exact st_yes h (q1 rfl)
  | false => exact st_no h (q2 rfl)
theorem st_tup (h : Val te σ H x) {w : Va} (hx : VAt H x w) (q : D.nx ((σ.set i (some (.int (kd w)))).set j (some (.int (nm w)))) H) : tAsg te (gTup K 2 (gCons (gName i) (gCons (gName j) gNil))) D σ H := by
  obtain ⟨a, e, ht⟩ := hx
  refine h _ ?_
  exact ⟨a, _, e, SqT.of ht, rfl, _, _, rfl, _, _, rfl, rfl, q⟩
theorem st_setL {l : Addr} (hv : Val tv σ H v) (ho : Val tob σ H (.ref l)) (hi : Val ti σ H (.int n)) (hl : H l = some (.lst xs)) (hz : n = (j : Int)) (hj : j < xs.length) (q : D.nx σ (upd H l (.lst (xs.set j v)))) : tAsg tv (gSub tob ti rSetL) D σ H := by
  refine hv _ ?_
  refine ho _ ?_
  refine hi _ ?_
  refine ⟨l, xs, n, j, rfl, rfl, hl, ?_, q⟩
  rw [hz]
  unfold ixN
  rw [if_pos (by omega), if_pos (by omega)]
  rfl
theorem st_app {l : Addr} (ho : Val tob σ H (.ref l)) (he : Val te σ H v) (hl : H l = some (.lst xs)) (hs : xs.length < sizeLine) (q : D.nx σ (upd H l (.lst (xs ++ [v])))) : tDrop (tBM K "list" rAppend tob (tCons te tNil)) D σ H := by
  refine ho _ ?_
  refine ⟨.inl ⟨rfl, _, SqL.of hl⟩, ?_⟩
  refine he _ ?_
  exact ⟨l, xs, v, rfl, rfl, hl, hs, q⟩
theorem st_appH {l : Addr} {PV : V → Hp → Prop} (ho : Val tob σ H (.ref l)) (hl : H l = some (.lst xs)) (he : ValH te σ H PV) (q : ∀ v H1, PV v H1 → ∃ ys, H1 l = some (.lst ys) ∧ ys.length < sizeLine ∧ D.nx σ (upd H1 l (.lst (ys ++ [v])))) : tDrop (tBM K "list" rAppend tob (tCons te tNil)) D σ H := by
  refine ho _ ?_
  refine ⟨.inl ⟨rfl, _, SqL.of hl⟩, ?_⟩
  refine he _ fun v H1 hv => ?_
  obtain ⟨ys, h1, h2, h3⟩ := q v H1 hv
  exact ⟨l, ys, v, rfl, rfl, h1, h2, h3⟩
theorem st_extend {l l2 : Addr} (ho : Val tob σ H (.ref l)) (he : Val te σ H (.ref l2)) (hl : H l = some (.lst xs)) (hl2 : H l2 = some (.lst ys)) (hs : xs.length + ys.length ≤ sizeLine) (q : D.nx σ (upd H l (.lst (xs ++ ys)))) : tDrop (tBM K "list" rExtend tob (tCons te tNil)) D σ H := by
  refine ho _ ?_
  refine ⟨.inl ⟨rfl, _, SqL.of hl⟩, ?_⟩
  refine he _ ?_
  exact ⟨l, l2, xs, ys, rfl, rfl, hl, hl2, hs, q⟩
/-- o.f = a new list, a new tuple .. -/
theorem st_fldH {PV : V → Hp → Prop} (hv : ValH tv σ H PV) (q : ∀ y H', PV y H' → Val ta σ H' (.ref p) ∧ H' p = some (.ins C dx fs) ∧ Cls K C ∧ NoAttr K C f ∧ fs.length < 1000 ∧ D.nx σ (upd H' p (.ins C dx (putF f y fs)))) : sFld K ta tv f D σ H := by
  refine hv _ fun y H' hy => ?_
  obtain ⟨h1, h2, h3, h4, h5, h6⟩ := q y H' hy
  refine h1 _ ?_
  exact ⟨p, C, dx, fs, rfl, h2, h3, h4, h5, h6⟩
theorem st_retH {PV : V → Hp → Prop} (h : ValH te σ H PV) (q : ∀ v H', PV v H' → D.rt v H') : tRet te D σ H := h _ q
theorem st_augI (i : Nat) (hx : σ[i]? = some (some (.int n))) (h : Val te σ H (.int k)) {fo : Int → Int → Int} (q : D.nx (σ.set i (some (.int (fo n k)))) H) : tAug i te (ipI fo) D σ H :=
  ⟨.int n, hx, h _ ⟨n, k, rfl, rfl, q⟩⟩
theorem st_forL {l : Addr} {tl : TE} (h : Val tl σ H (.ref l)) (Pv : Nat → Sl → Hp → Prop) (h0 : Pv 0 σ H) (hl : ∀ i σ H, i ≤ xs.length → Pv i σ H → SqL K H l xs)
    (hs : ∀ i x σ H, xs[i]? = some x → Pv i σ H → tb' { D with nx := Pv (i + 1), ct := Pv (i + 1), bk := D.nx } (σ.set j (some x)) H) (hd : ∀ σ H, Pv xs.length σ H → D.nx σ H) : tFor (iList K tl) (gName j) tb' D σ H := by
  refine h _ ?_
  exact ⟨l, rfl, ⟨xs, hl 0 σ H (Nat.zero_le _) h0⟩, for_list Pv h0 hl hs hd⟩
theorem st_forLH {tl : TE} {PV : V → Hp → Prop} (h : ValH tl σ H PV) (q : ∀ v H1, PV v H1 → ∃ (l : Addr) (Pv : Nat → Sl → Hp → Prop), v = .ref l ∧ Pv 0 σ H1 ∧ (∀ i σ H, i ≤ xs.length → Pv i σ H → SqL K H l xs) ∧
    (∀ i x σ H, xs[i]? = some x → Pv i σ H → tb' { D with nx := Pv (i + 1), ct := Pv (i + 1), bk := D.nx } (σ.set j (some x)) H) ∧ (∀ σ H, Pv xs.length σ H → D.nx σ H)) : tFor (iList K tl) (gName j) tb' D σ H := by
  refine h _ fun v H1 hv => ?_
  obtain ⟨l, Pv, e, h0, hl, hs, hd⟩ := q v H1 hv
  exact ⟨l, e, ⟨xs, hl 0 σ H1 (Nat.zero_le _) h0⟩, for_list Pv h0 hl hs hd⟩
theorem st_forR {ta' : TA} {n0 : Int} (h : ValA ta' σ H [.int n0]) (e0 : n0 = n) (h1 : -(2 ^ 62) ≤ n) (h2 : n < 2 ^ 62) (Pv : Nat → Sl → Hp → Prop) (h0 : Pv 0 σ H)
    (hs : ∀ (i : Nat) σ H, i < n.toNat → Pv i σ H → tb' { D with nx := Pv (i + 1), ct := Pv (i + 1), bk := D.nx } (σ.set j (some (.int (i : Int)))) H) (hd : ∀ σ H, Pv n.toNat σ H → D.nx σ H) : tFor (iRng1 ta') (gName j) tb' D σ H := by
  subst e0
  refine h _ ?_
  refine ⟨n0, rfl, h1, h2, for_range Pv h0 (fun i σ H hi p => ?_) hd⟩
  have e : (0 : Int) + (i : Int) = (i : Int) := Int.zero_add _
  show tb' _ (σ.set j (some (.int ((0 : Int) + (i : Int))))) H
  rw [e]
  exact hs i σ H hi p
theorem st_forR2 {ta' : TA} {n0 : Int} (h : ValA ta' σ H [.int 1, .int n0]) (e0 : n0 = n) (h1 : -(2 ^ 62) ≤ n) (h2 : n < 2 ^ 62) (Pv : Nat → Sl → Hp → Prop) (h0 : Pv 0 σ H)
    (hs : ∀ (i : Nat) σ H, i < (n - 1).toNat → Pv i σ H → tb' { D with nx := Pv (i + 1), ct := Pv (i + 1), bk := D.nx } (σ.set j (some (.int ((i + 1 : Nat) : Int)))) H) (hd : ∀ σ H, Pv (n - 1).toNat σ H → D.nx σ H) : tFor (iRng2 ta') (gName j) tb' D σ H := by
  subst e0
  refine h _ ?_
  refine ⟨1, n0, rfl, ⟨by decide, by decide, h1, h2⟩, for_range Pv h0 (fun i σ H hi p => ?_) hd⟩
  have e : (1 : Int) + (i : Int) = ((i + 1 : Nat) : Int) := by omega
  show tb' _ (σ.set j (some (.int ((1 : Int) + (i : Int))))) H
  rw [e]
  exact hs i σ H hi p
/-! ### comprehensions over a range: what is made so far stands at D -/
/-- [e for x in range(n)] -/
theorem lc_map {ta' : TA} {nn : Nat} (h : ValA ta' σ H [.int n]) (h1 : n = (nn : Int)) (h2 : nn < 1000) (Pv : Addr → Nat → Hp → Prop)
    (h0 : ∀ D, H D = none → Pv D 0 (upd H D (.lst []))) (hs : ∀ D (i : Nat) H', i < nn → Pv D i H' → te ((wipe σ [j]).set j (some (.int (i : Int)))) H' fun y H4 => ∃ acc, H4 D = some (.lst acc) ∧ acc.length < sizeLine ∧ Pv D (i + 1) (upd H4 D (.lst (acc ++ [y]))))
    (hw : ∀ x : Option V, wipe ((wipe σ [j]).set j x) [j] = wipe σ [j]) : ValH (tLc (iRng1 ta') (gName j) tYes te [j]) σ H (fun r H' => ∃ D, H D = none ∧ r = .ref D ∧ Pv D nn H') := by
  intro Q q
  refine h _ ?_
  refine ⟨n, rfl, by omega, by omega, fun D hD => ?_⟩
  have e : n.toNat = nn := by omega
  rw [e]
  refine lc_range (Pv D) (h0 D hD) (fun i H' hi p => ?_) fun H' p => q _ _ ⟨D, hD, rfl, p⟩
  have e2 : (0 : Int) + (i : Int) = (i : Int) := Int.zero_add _
  rw [e2]
  refine ⟨hw _, ans_yes _ ?_⟩
  exact iteT (B := Pv D (i + 1) H') (hs D i H' hi p)
/-- [x for x in range(1, n + 1) if t] -/
theorem lc_filter {ta' : TA} {nn : Nat} {tt : TT} {pr : Nat → Bool} (h : ValA ta' σ H [.int 1, .int n]) (h1 : n = (nn : Int) + 1) (h2 : nn < 100000) (hj : j < σ.length)
    (hs : ∀ (i : Nat) D, i < nn → H D = none → ∀ acc, Ans tt ((wipe σ [j]).set j (some (.int ((i + 1 : Nat) : Int)))) (upd H D (.lst acc)) (pr (i + 1)))
    (hw : ∀ x : Option V, wipe ((wipe σ [j]).set j x) [j] = wipe σ [j]) : ValH (tLc (iRng2 ta') (gName j) tt (tVar j) [j]) σ H (NewL (nats ((ones nn).filter pr)) H) := by
  intro Q q
  refine h _ ?_
  refine ⟨1, n, rfl, ⟨by decide, by decide, by omega, by omega⟩, fun D hD => ?_⟩
  have e : (n - 1).toNat = nn := by omega
  rw [e]
  refine lc_range (fun i H' => H' = upd H D (.lst (nats ((ones i).filter pr)))) rfl (fun i H' hi p => ?_) fun H' p => q _ _ ⟨D, hD, rfl, p⟩
  have e2 : (1 : Int) + (i : Int) = ((i + 1 : Nat) : Int) := by omega
  subst p
  rw [e2]
  refine ⟨hw _, ?_⟩
  refine hs i D hi hD _ _ ?_
  have hl : ((ones i).filter pr).length ≤ i := by
    refine Nat.le_trans (List.length_filter_le _ _) ?_
    unfold ones
    rw [List.length_map, List.length_range]
    exact Nat.le_refl _
  cases hp : pr (i + 1) with
  | true =>
    refine iteT ⟨.int ((i + 1 : Nat) : Int), ?_, _, upd_same, ?_, ?_⟩
    · have hl2 : (wipe σ [j]).length = σ.length := wipe_length σ [j]
      rw [List.getElem?_set_self (by rw [hl2]; exact hj)]
    · unfold nats
      rw [List.length_map]
      exact Nat.lt_of_le_of_lt hl (Nat.lt_trans hi (Nat.lt_of_lt_of_le h2 (by decide)))
    · rw [upd_upd, ones_succ, List.filter_append, List.filter_cons, hp]
      unfold nats
      rw [List.map_append]
      rfl
  | false =>
    refine iteF ?_
    rw [ones_succ, List.filter_append, List.filter_cons, hp]
    simp
end

/-! ### the lists -/
section
variable {l : List Nat} {i n : Nat}
theorem nats_get (h : i < l.length) : (nats l)[i]? = some (.int (((l[i]?).getD 0 : Nat) : Int)) := by
  unfold nats
  rw [List.getElem?_map, List.getElem?_eq_getElem h]
  rfl
theorem nats_len : (nats l).length = l.length := List.length_map _
theorem nats_set (v : Nat) : (nats l).set i (.int (v : Int)) = nats (l.set i v) := by
  unfold nats
  rw [List.map_set]
theorem nats_snoc (v : Nat) : nats l ++ [.int (v : Int)] = nats (l ++ [v]) := by
  unfold nats
  rw [List.map_append]
  rfl
theorem bools_get {l : List Bool} (h : i < l.length) : (bools l)[i]? = some (.bl ((l[i]?).getD false)) := by
  unfold bools
  rw [List.getElem?_map, List.getElem?_eq_getElem h]
  rfl
theorem bools_len {l : List Bool} : (bools l).length = l.length := List.length_map _
theorem bools_set {l : List Bool} (v : Bool) : (bools l).set i (.bl v) = bools (l.set i v) := by
  unfold bools
  rw [List.map_set]
theorem refs_get {A : Ad} (h : i < n) : (refs A n)[i]? = some (.ref (A.en i)) := by
  unfold refs
  rw [List.getElem?_map, List.getElem?_range h]
  rfl
theorem refs_len {A : Ad} : (refs A n).length = n := by
  unfold refs
  rw [List.length_map, List.length_range]
end

/-! ### the world's fields -/
section
variable {K : PySem.W.Frag} {mg : Str → Option Value} {a : Ads} {F H : Hp} {A : Ad} {m : M} {σ : Sl} {te : TE}
theorem WA.h_w (W : WA a F H A m) : H A.w = some (.ins a.cWorld (A.dx .w) (F_World (.ref A.hp) (.ref A.ex) (.ref A.im) (.ref A.cy) (.ref A.lr))) := W.rep.at_ .w _ rfl
theorem v_World_heap (T : Txt K mg a) (W : WA a F H A m) (h : Val te σ H (.ref A.w)) : Val (tFld K te "heap") σ H (.ref A.hp) := val_fld h W.h_w T.c_World.cl T.na_World_heap lk_World_heap
theorem v_World_exports (T : Txt K mg a) (W : WA a F H A m) (h : Val te σ H (.ref A.w)) : Val (tFld K te "exports") σ H (.ref A.ex) := val_fld h W.h_w T.c_World.cl T.na_World_exports lk_World_exports
theorem v_World_imports (T : Txt K mg a) (W : WA a F H A m) (h : Val te σ H (.ref A.w)) : Val (tFld K te "imports") σ H (.ref A.im) := val_fld h W.h_w T.c_World.cl T.na_World_imports lk_World_imports
theorem v_World_cycle (T : Txt K mg a) (W : WA a F H A m) (h : Val te σ H (.ref A.w)) : Val (tFld K te "cycle") σ H (.ref A.cy) := val_fld h W.h_w T.c_World.cl T.na_World_cycle lk_World_cycle
theorem v_World_reports (T : Txt K mg a) (W : WA a F H A m) (h : Val te σ H (.ref A.w)) : Val (tFld K te "reports") σ H (.ref A.lr) := val_fld h W.h_w T.c_World.cl T.na_World_reports lk_World_reports
theorem WA.h_hp (W : WA a F H A m) : H A.hp = some (.ins a.cHeap (A.dx .hp) (F_Heap (.ref A.ls) (.ref A.le))) := W.rep.at_ .hp _ rfl
theorem v_Heap_slots (T : Txt K mg a) (W : WA a F H A m) (h : Val te σ H (.ref A.hp)) : Val (tFld K te "slots") σ H (.ref A.ls) := val_fld h W.h_hp T.c_Heap.cl T.na_Heap_slots lk_Heap_slots
theorem v_Heap_entries (T : Txt K mg a) (W : WA a F H A m) (h : Val te σ H (.ref A.hp)) : Val (tFld K te "entries") σ H (.ref A.le) := val_fld h W.h_hp T.c_Heap.cl T.na_Heap_entries lk_Heap_entries
theorem WA.h_ex (W : WA a F H A m) : H A.ex = some (.ins a.cExports (A.dx .ex) (F_Exports (.ref A.lo) (.ref A.lt))) := W.rep.at_ .ex _ rfl
theorem v_Exports_owners (T : Txt K mg a) (W : WA a F H A m) (h : Val te σ H (.ref A.ex)) : Val (tFld K te "owners") σ H (.ref A.lo) := val_fld h W.h_ex T.c_Exports.cl T.na_Exports_owners lk_Exports_owners
theorem v_Exports_states (T : Txt K mg a) (W : WA a F H A m) (h : Val te σ H (.ref A.ex)) : Val (tFld K te "states") σ H (.ref A.lt) := val_fld h W.h_ex T.c_Exports.cl T.na_Exports_states lk_Exports_states
theorem WA.h_im (W : WA a F H A m) : H A.im = some (.ins a.cImports (A.dx .im) (F_Imports (.ref A.li) (.ref A.lp))) := W.rep.at_ .im _ rfl
theorem v_Imports_imported (T : Txt K mg a) (W : WA a F H A m) (h : Val te σ H (.ref A.im)) : Val (tFld K te "imported") σ H (.ref A.li) := val_fld h W.h_im T.c_Imports.cl T.na_Imports_imported lk_Imports_imported
theorem v_Imports_pinned (T : Txt K mg a) (W : WA a F H A m) (h : Val te σ H (.ref A.im)) : Val (tFld K te "pinned") σ H (.ref A.lp) := val_fld h W.h_im T.c_Imports.cl T.na_Imports_pinned lk_Imports_pinned
theorem WA.h_cy (W : WA a F H A m) : H A.cy = some (.ins a.cCycle (A.dx .cy) (F_Cycle (.bl m.running) (.ref A.lc) (.ref A.lg) (.int (m.examined : Int)) (.int (m.units : Int)) (.ref A.lm))) := W.rep.at_ .cy _ rfl
theorem v_Cycle_running (T : Txt K mg a) (W : WA a F H A m) (h : Val te σ H (.ref A.cy)) : Val (tFld K te "running") σ H (.bl m.running) := val_fld h W.h_cy T.c_Cycle.cl T.na_Cycle_running lk_Cycle_running
theorem v_Cycle_colors (T : Txt K mg a) (W : WA a F H A m) (h : Val te σ H (.ref A.cy)) : Val (tFld K te "colors") σ H (.ref A.lc) := val_fld h W.h_cy T.c_Cycle.cl T.na_Cycle_colors lk_Cycle_colors
theorem v_Cycle_grey (T : Txt K mg a) (W : WA a F H A m) (h : Val te σ H (.ref A.cy)) : Val (tFld K te "grey") σ H (.ref A.lg) := val_fld h W.h_cy T.c_Cycle.cl T.na_Cycle_grey lk_Cycle_grey
theorem v_Cycle_examined (T : Txt K mg a) (W : WA a F H A m) (h : Val te σ H (.ref A.cy)) : Val (tFld K te "examined") σ H (.int (m.examined : Int)) := val_fld h W.h_cy T.c_Cycle.cl T.na_Cycle_examined lk_Cycle_examined
theorem v_Cycle_units (T : Txt K mg a) (W : WA a F H A m) (h : Val te σ H (.ref A.cy)) : Val (tFld K te "units") σ H (.int (m.units : Int)) := val_fld h W.h_cy T.c_Cycle.cl T.na_Cycle_units lk_Cycle_units
theorem v_Cycle_marked (T : Txt K mg a) (W : WA a F H A m) (h : Val te σ H (.ref A.cy)) : Val (tFld K te "marked") σ H (.ref A.lm) := val_fld h W.h_cy T.c_Cycle.cl T.na_Cycle_marked lk_Cycle_marked
theorem WA.h_ls (W : WA a F H A m) : H A.ls = some (.lst (A.sv)) := W.rep.at_ .ls _ rfl
theorem WA.h_le (W : WA a F H A m) : H A.le = some (.lst (refs A m.ents.length)) := W.rep.at_ .le _ rfl
theorem WA.h_lo (W : WA a F H A m) : H A.lo = some (.lst (nats m.owners)) := W.rep.at_ .lo _ rfl
theorem WA.h_lt (W : WA a F H A m) : H A.lt = some (.lst (nats m.states)) := W.rep.at_ .lt _ rfl
theorem WA.h_li (W : WA a F H A m) : H A.li = some (.lst (bools m.imported)) := W.rep.at_ .li _ rfl
theorem WA.h_lp (W : WA a F H A m) : H A.lp = some (.lst (bools m.pinned)) := W.rep.at_ .lp _ rfl
theorem WA.h_lc (W : WA a F H A m) : H A.lc = some (.lst (nats m.colors)) := W.rep.at_ .lc _ rfl
theorem WA.h_lg (W : WA a F H A m) : H A.lg = some (.lst (nats m.grey)) := W.rep.at_ .lg _ rfl
theorem WA.h_lm (W : WA a F H A m) : H A.lm = some (.lst (bools m.marked)) := W.rep.at_ .lm _ rfl
theorem WA.h_lr (W : WA a F H A m) : H A.lr = some (.lst (nats m.reports)) := W.rep.at_ .lr _ rfl
variable {tv tob ti ta : TE} {n : Int} {j : Nat} {D : Ends}
theorem WA.s_lo (W : WA a F H A m) (l : List Nat) : WA a F (upd H A.lo (.lst (nats l))) A { m with owners := l } := W.set .lo rfl (fun _ => rfl) (fun u => by cases u <;> rfl) W.sv W.cv
theorem WA.s_lt (W : WA a F H A m) (l : List Nat) : WA a F (upd H A.lt (.lst (nats l))) A { m with states := l } := W.set .lt rfl (fun _ => rfl) (fun u => by cases u <;> rfl) W.sv W.cv
theorem WA.s_li (W : WA a F H A m) (l : List Bool) : WA a F (upd H A.li (.lst (bools l))) A { m with imported := l } := W.set .li rfl (fun _ => rfl) (fun u => by cases u <;> rfl) W.sv W.cv
theorem WA.s_lp (W : WA a F H A m) (l : List Bool) : WA a F (upd H A.lp (.lst (bools l))) A { m with pinned := l } := W.set .lp rfl (fun _ => rfl) (fun u => by cases u <;> rfl) W.sv W.cv
theorem WA.s_lc (W : WA a F H A m) (l : List Nat) : WA a F (upd H A.lc (.lst (nats l))) A { m with colors := l } := W.set .lc rfl (fun _ => rfl) (fun u => by cases u <;> rfl) W.sv W.cv
theorem WA.s_lg (W : WA a F H A m) (l : List Nat) : WA a F (upd H A.lg (.lst (nats l))) A { m with grey := l } := W.set .lg rfl (fun _ => rfl) (fun u => by cases u <;> rfl) W.sv W.cv
theorem WA.s_lm (W : WA a F H A m) (l : List Bool) : WA a F (upd H A.lm (.lst (bools l))) A { m with marked := l } := W.set .lm rfl (fun _ => rfl) (fun u => by cases u <;> rfl) W.sv W.cv
theorem WA.s_lr (W : WA a F H A m) (l : List Nat) : WA a F (upd H A.lr (.lst (nats l))) A { m with reports := l } := W.set .lr rfl (fun _ => rfl) (fun u => by cases u <;> rfl) W.sv W.cv
theorem st_set_lt (W : WA a F H A m) {x : Nat} (hv : Val tv σ H (.int (x : Int))) (ho : Val tob σ H (.ref A.lt)) (hi : Val ti σ H (.int n)) (hz : n = (j : Int)) (hj : j < m.states.length) (q : ∀ H', WA a F H' A { m with states := m.states.set j x } → D.nx σ H') : tAsg tv (gSub tob ti rSetL) D σ H := by
  refine st_setL hv ho hi W.h_lt hz (by rw [nats_len]; exact hj) ?_
  rw [nats_set]
  exact q _ (W.s_lt _)
theorem st_set_li (W : WA a F H A m) {x : Bool} (hv : Val tv σ H (.bl x)) (ho : Val tob σ H (.ref A.li)) (hi : Val ti σ H (.int n)) (hz : n = (j : Int)) (hj : j < m.imported.length) (q : ∀ H', WA a F H' A { m with imported := m.imported.set j x } → D.nx σ H') : tAsg tv (gSub tob ti rSetL) D σ H := by
  refine st_setL hv ho hi W.h_li hz (by rw [bools_len]; exact hj) ?_
  rw [bools_set]
  exact q _ (W.s_li _)
theorem st_set_lp (W : WA a F H A m) {x : Bool} (hv : Val tv σ H (.bl x)) (ho : Val tob σ H (.ref A.lp)) (hi : Val ti σ H (.int n)) (hz : n = (j : Int)) (hj : j < m.pinned.length) (q : ∀ H', WA a F H' A { m with pinned := m.pinned.set j x } → D.nx σ H') : tAsg tv (gSub tob ti rSetL) D σ H := by
  refine st_setL hv ho hi W.h_lp hz (by rw [bools_len]; exact hj) ?_
  rw [bools_set]
  exact q _ (W.s_lp _)
theorem st_set_lc (W : WA a F H A m) {x : Nat} (hv : Val tv σ H (.int (x : Int))) (ho : Val tob σ H (.ref A.lc)) (hi : Val ti σ H (.int n)) (hz : n = (j : Int)) (hj : j < m.colors.length) (q : ∀ H', WA a F H' A { m with colors := m.colors.set j x } → D.nx σ H') : tAsg tv (gSub tob ti rSetL) D σ H := by
  refine st_setL hv ho hi W.h_lc hz (by rw [nats_len]; exact hj) ?_
  rw [nats_set]
  exact q _ (W.s_lc _)
theorem st_set_lm (W : WA a F H A m) {x : Bool} (hv : Val tv σ H (.bl x)) (ho : Val tob σ H (.ref A.lm)) (hi : Val ti σ H (.int n)) (hz : n = (j : Int)) (hj : j < m.marked.length) (q : ∀ H', WA a F H' A { m with marked := m.marked.set j x } → D.nx σ H') : tAsg tv (gSub tob ti rSetL) D σ H := by
  refine st_setL hv ho hi W.h_lm hz (by rw [bools_len]; exact hj) ?_
  rw [bools_set]
  exact q _ (W.s_lm _)
theorem st_app_lo (W : WA a F H A m) {x : Nat} (ho : Val tob σ H (.ref A.lo)) (hv : Val tv σ H (.int (x : Int))) (hs : m.owners.length < 100000) (q : ∀ H', WA a F H' A { m with owners := m.owners ++ [x] } → D.nx σ H') : tDrop (tBM K "list" rAppend tob (tCons tv tNil)) D σ H := by
  refine st_app ho hv W.h_lo (by rw [nats_len]; exact Nat.lt_of_lt_of_le hs (by decide)) ?_
  rw [nats_snoc]
  exact q _ (W.s_lo _)
theorem st_app_lt (W : WA a F H A m) {x : Nat} (ho : Val tob σ H (.ref A.lt)) (hv : Val tv σ H (.int (x : Int))) (hs : m.states.length < 100000) (q : ∀ H', WA a F H' A { m with states := m.states ++ [x] } → D.nx σ H') : tDrop (tBM K "list" rAppend tob (tCons tv tNil)) D σ H := by
  refine st_app ho hv W.h_lt (by rw [nats_len]; exact Nat.lt_of_lt_of_le hs (by decide)) ?_
  rw [nats_snoc]
  exact q _ (W.s_lt _)
theorem st_app_lg (W : WA a F H A m) {x : Nat} (ho : Val tob σ H (.ref A.lg)) (hv : Val tv σ H (.int (x : Int))) (hs : m.grey.length < 100000) (q : ∀ H', WA a F H' A { m with grey := m.grey ++ [x] } → D.nx σ H') : tDrop (tBM K "list" rAppend tob (tCons tv tNil)) D σ H := by
  refine st_app ho hv W.h_lg (by rw [nats_len]; exact Nat.lt_of_lt_of_le hs (by decide)) ?_
  rw [nats_snoc]
  exact q _ (W.s_lg _)
theorem WA.s_running (W : WA a F H A m) (x : Bool) : WA a F (upd H A.cy (.ins a.cCycle (A.dx .cy) (putF "running" (.bl x) (F_Cycle (.bl m.running) (.ref A.lc) (.ref A.lg) (.int (m.examined : Int)) (.int (m.units : Int)) (.ref A.lm))))) A { m with running := x } := by
  rw [put_Cycle_running]
  exact W.set .cy rfl (fun _ => rfl) (fun u => by cases u <;> rfl) W.sv W.cv
theorem st_running (T : Txt K mg a) (W : WA a F H A m) {x : Bool} (hv : Val tv σ H (.bl x)) (ha : Val ta σ H (.ref A.cy)) (q : ∀ H', WA a F H' A { m with running := x } → D.nx σ H') : sFld K ta tv "running" D σ H := st_fld hv ha W.h_cy T.c_Cycle.cl T.na_Cycle_running (by show 6 < 1000; decide) (q _ (W.s_running x))
theorem WA.s_examined (W : WA a F H A m) (x : Nat) : WA a F (upd H A.cy (.ins a.cCycle (A.dx .cy) (putF "examined" (.int (x : Int)) (F_Cycle (.bl m.running) (.ref A.lc) (.ref A.lg) (.int (m.examined : Int)) (.int (m.units : Int)) (.ref A.lm))))) A { m with examined := x } := by
  rw [put_Cycle_examined]
  exact W.set .cy rfl (fun _ => rfl) (fun u => by cases u <;> rfl) W.sv W.cv
theorem st_examined (T : Txt K mg a) (W : WA a F H A m) {x : Nat} (hv : Val tv σ H (.int (x : Int))) (ha : Val ta σ H (.ref A.cy)) (q : ∀ H', WA a F H' A { m with examined := x } → D.nx σ H') : sFld K ta tv "examined" D σ H := st_fld hv ha W.h_cy T.c_Cycle.cl T.na_Cycle_examined (by show 6 < 1000; decide) (q _ (W.s_examined x))
theorem WA.s_units (W : WA a F H A m) (x : Nat) : WA a F (upd H A.cy (.ins a.cCycle (A.dx .cy) (putF "units" (.int (x : Int)) (F_Cycle (.bl m.running) (.ref A.lc) (.ref A.lg) (.int (m.examined : Int)) (.int (m.units : Int)) (.ref A.lm))))) A { m with units := x } := by
  rw [put_Cycle_units]
  exact W.set .cy rfl (fun _ => rfl) (fun u => by cases u <;> rfl) W.sv W.cv
theorem st_units (T : Txt K mg a) (W : WA a F H A m) {x : Nat} (hv : Val tv σ H (.int (x : Int))) (ha : Val ta σ H (.ref A.cy)) (q : ∀ H', WA a F H' A { m with units := x } → D.nx σ H') : sFld K ta tv "units" D σ H := st_fld hv ha W.h_cy T.c_Cycle.cl T.na_Cycle_units (by show 6 < 1000; decide) (q _ (W.s_units x))
theorem st_new_lc (T : Txt K mg a) {l : List Nat} (hv : ValH tv σ H fun y H' => ∃ p, y = .ref p ∧ F p = none ∧ WA a (upd F p (.lst (nats l))) H' A m) (ha : ∀ H', Val ta σ H' (.ref A.cy)) (q : ∀ H' p, WA a F H' { A with lc := p } { m with colors := l } → D.nx σ H') : sFld K ta tv "colors" D σ H := by
  refine st_fldH hv fun y H' ⟨p, e, hF, W⟩ => ⟨ha H', W.h_cy, T.c_Cycle.cl, T.na_Cycle_colors, (by show 6 < 1000; decide), ?_⟩
  subst e
  rw [put_Cycle_colors]
  exact q _ p (W.attach hF .cy .lc rfl (fun u => by cases u <;> rfl) (fun u => by cases u <;> rfl) rfl rfl rfl rfl)
theorem st_new_lg (T : Txt K mg a) {l : List Nat} (hv : ValH tv σ H fun y H' => ∃ p, y = .ref p ∧ F p = none ∧ WA a (upd F p (.lst (nats l))) H' A m) (ha : ∀ H', Val ta σ H' (.ref A.cy)) (q : ∀ H' p, WA a F H' { A with lg := p } { m with grey := l } → D.nx σ H') : sFld K ta tv "grey" D σ H := by
  refine st_fldH hv fun y H' ⟨p, e, hF, W⟩ => ⟨ha H', W.h_cy, T.c_Cycle.cl, T.na_Cycle_grey, (by show 6 < 1000; decide), ?_⟩
  subst e
  rw [put_Cycle_grey]
  exact q _ p (W.attach hF .cy .lg rfl (fun u => by cases u <;> rfl) (fun u => by cases u <;> rfl) rfl rfl rfl rfl)
theorem st_new_lm (T : Txt K mg a) {l : List Bool} (hv : ValH tv σ H fun y H' => ∃ p, y = .ref p ∧ F p = none ∧ WA a (upd F p (.lst (bools l))) H' A m) (ha : ∀ H', Val ta σ H' (.ref A.cy)) (q : ∀ H' p, WA a F H' { A with lm := p } { m with marked := l } → D.nx σ H') : sFld K ta tv "marked" D σ H := by
  refine st_fldH hv fun y H' ⟨p, e, hF, W⟩ => ⟨ha H', W.h_cy, T.c_Cycle.cl, T.na_Cycle_marked, (by show 6 < 1000; decide), ?_⟩
  subst e
  rw [put_Cycle_marked]
  exact q _ p (W.attach hF .cy .lm rfl (fun u => by cases u <;> rfl) (fun u => by cases u <;> rfl) rfl rfl rfl rfl)
theorem WA.h_en (W : WA a F H A m) {i : Nat} {e : Ent} (h : m.ents[i]? = some e) : H (A.en i) = some (.ins a.cEntry (A.dx (.en i)) (F_Entry (.ref (A.ce i)) (.int (e.code : Int)) (.bl e.there))) := W.rep.at_ (.en i) _ (by
  show (m.ents[i]?).map _ = _
  rw [h]
  rfl)
theorem WA.h_ce (W : WA a F H A m) {i : Nat} {e : Ent} (h : m.ents[i]? = some e) : H (A.ce i) = some (.lst (A.cv i)) := W.rep.at_ (.ce i) _ (by
  show (m.ents[i]?).map _ = _
  rw [h]
  rfl)
theorem v_Entry_cells (T : Txt K mg a) (W : WA a F H A m) {i : Nat} {e : Ent} (hi : m.ents[i]? = some e) (h : Val te σ H (.ref (A.en i))) : Val (tFld K te "cells") σ H (.ref (A.ce i)) := val_fld h (W.h_en hi) T.c_Entry.cl T.na_Entry_cells lk_Entry_cells
theorem v_Entry_code (T : Txt K mg a) (W : WA a F H A m) {i : Nat} {e : Ent} (hi : m.ents[i]? = some e) (h : Val te σ H (.ref (A.en i))) : Val (tFld K te "code") σ H (.int (e.code : Int)) := val_fld h (W.h_en hi) T.c_Entry.cl T.na_Entry_code lk_Entry_code
theorem v_Entry_there (T : Txt K mg a) (W : WA a F H A m) {i : Nat} {e : Ent} (hi : m.ents[i]? = some e) (h : Val te σ H (.ref (A.en i))) : Val (tFld K te "there") σ H (.bl e.there) := val_fld h (W.h_en hi) T.c_Entry.cl T.na_Entry_there lk_Entry_there
theorem ent_get {m : M} {n : Nat} (h1 : 1 ≤ n) (h2 : n ≤ m.ents.length) : m.ents[n - 1]? = some (m.ent n) := by
  unfold M.ent
  rw [List.getElem?_eq_getElem (by omega)]
  rfl
theorem WA.slot (W : WA a F H A m) {i : Nat} (h : i < m.slots.length) : ∃ x, A.sv[i]? = some x ∧ VAt H x (m.slot i) := W.sv.2 i _ (by
  unfold M.slot
  rw [List.getElem?_eq_getElem h]
  rfl)
theorem WA.cell (W : WA a F H A m) {n k : Nat} (h1 : 1 ≤ n) (h2 : n ≤ m.ents.length) (h : k < (m.cells n).length) : ∃ x, (A.cv (n - 1))[k]? = some x ∧ VAt H x (((m.cells n)[k]?).getD .nothing) := (W.cv (n - 1) _ (ent_get h1 h2)).2 k _ (by
  show (m.cells n)[k]? = _
  rw [List.getElem?_eq_getElem h]
  rfl)
theorem WA.cell_len (W : WA a F H A m) {n : Nat} (h1 : 1 ≤ n) (h2 : n ≤ m.ents.length) : (A.cv (n - 1)).length = (m.cells n).length := (W.cv (n - 1) _ (ent_get h1 h2)).1

theorem st_inc_examined (T : Txt K mg a) (W : WA a F H A m) (ha : Val ta σ H (.ref A.cy)) (q : ∀ H', WA a F H' A { m with examined := m.examined + 1 } → D.nx σ H') : sFldAug K ta (tC (.int 1)) rAdd "examined" D σ H :=
  st_aug ha W.h_cy T.c_Cycle.cl T.na_Cycle_examined lk_Cycle_examined val_c (fun Q q => ⟨_, _, rfl, rfl, q⟩) (by show 6 < 1000; decide) (q _ (W.s_examined (m.examined + 1)))
theorem st_inc_units (T : Txt K mg a) (W : WA a F H A m) (ha : Val ta σ H (.ref A.cy)) (q : ∀ H', WA a F H' A { m with units := m.units + 1 } → D.nx σ H') : sFldAug K ta (tC (.int 1)) rAdd "units" D σ H :=
  st_aug ha W.h_cy T.c_Cycle.cl T.na_Cycle_units lk_Cycle_units val_c (fun Q q => ⟨_, _, rfl, rfl, q⟩) (by show 6 < 1000; decide) (q _ (W.s_units (m.units + 1)))
/-! ### new lists -/
theorem ValH.mono {P1 P2 : V → Hp → Prop} (h : ValH te σ H P1) (i : ∀ v H', P1 v H' → P2 v H') : ValH te σ H P2 := fun Q q => h Q fun v H' z => q v H' (i v H' z)
theorem valh_lst {ta' : TA} {vs : List V} (h : ValA ta' σ H vs) (hl : vs.length ≤ 1000) : ValH (tLst ta') σ H (NewL vs H) := fun Q q => h _ ⟨Nat.le_trans hl (by decide), fun p hp => q _ _ ⟨p, hp, rfl, rfl⟩⟩
theorem valh_list {p : Addr} {xs : List V} (ha : Val te σ H (.ref p)) (hp : SqL K H p xs) : ValH (tCB (fun xs H Q => ∃ p ys, xs = [.ref p] ∧ (SqL K H p ys ∨ SqT K H p ys) ∧ ∀ l, H l = none → Q (.ref l) (upd H l (.lst ys))) (tCons te tNil)) σ H (NewL xs H) :=
  fun Q q => ha _ ⟨p, xs, rfl, .inl hp, fun l hl => q _ _ ⟨l, hl, rfl, rfl⟩⟩
def ValO (t : TO) (σ : Sl) (H : Hp) (o : Option Int) : Prop := ∀ Q : Option Int → Hp → Prop, Q o H → t σ H Q
theorem vo_none : ValO tNoPart σ H none := fun Q q => q
theorem vo_some {i : Int} (h : Val te σ H (.int i)) : ValO (tPart te) σ H (some i) := fun Q q => h _ ⟨i, rfl, q⟩
theorem valh_slice {tl th : TO} {p : Addr} {xs : List V} {lo hi : Option Int} (ha : Val te σ H (.ref p)) (hp : SqL K H p xs) (h1 : ValO tl σ H lo) (h2 : ValO th σ H hi) : ValH (tSl (rSlL K) te tl th) σ H (NewL (cutV xs lo hi) H) :=
  fun Q q => ha _ (h1 _ (h2 _ ⟨p, xs, rfl, hp, fun l hl => q _ _ ⟨l, hl, rfl, rfl⟩⟩))
theorem cutV_tail (xs : List V) : cutV xs (some 1) none = xs.drop 1 := by
  unfold cutV
  rw [show HT.sIx xs.length 0 (some 1) = min 1 xs.length from HT.sIx_nat _ _ 1, HT.sIx_none]
  cases xs with
  | nil => rfl
  | cons x r =>
    have e : min 1 (x :: r).length = 1 := by
      rw [List.length_cons]
      omega
    rw [e]
    show r.take ((r.length + 1) - 1) = r
    rw [Nat.add_sub_cancel, List.take_length]
theorem cutV_mid (xs : List V) {i j : Nat} (h : i ≤ j) (hj : j ≤ xs.length) : cutV xs (some (i : Int)) (some (j : Int)) = (xs.drop i).take (j - i) := by
  unfold cutV
  rw [HT.sIx_nat, HT.sIx_nat, Nat.min_eq_left hj, Nat.min_eq_left (Nat.le_trans h hj)]
theorem NewL.push {xs : List V} {y : V} {H' : Hp} (W : WA a F H A m) (h : NewL xs H y H') : ∃ p, y = .ref p ∧ F p = none ∧ WA a (upd F p (.lst xs)) H' A m := by
  obtain ⟨p, h1, h2, h3⟩ := h
  exact ⟨p, h2, W.free h1, by rw [h3]; exact W.push h1⟩
theorem NewL.same {xs : List V} {y : V} {H' : Hp} (h : NewL xs H y H') : Same H H' := by
  obtain ⟨p, h1, h2, h3⟩ := h
  intro b o q
  rw [h3, upd_ne (ne_of_none q h1)]
  exact q

/-! ### results: lists put together -/
def OpL (xs : List V) (H : Hp) : Post := fun y H' => Same H H' ∧ ∃ l, y = .ref l ∧ H' l = some (.lst xs)
def NewS (xs : List V) (H : Hp) : Post := fun y H' => Same H H' ∧ ∃ l, y = .ref l ∧ H' l = some (.lst xs) ∧ H l = none
theorem NewL.news {xs : List V} {y : V} {H' : Hp} (h : NewL xs H y H') : NewS xs H y H' := ⟨h.same, let ⟨p, h1, h2, h3⟩ := h; ⟨p, h2, by rw [h3, upd_same], h1⟩⟩
theorem NewS.opl {xs : List V} {y : V} {H' : Hp} (h : NewS xs H y H') : OpL xs H y H' := ⟨h.1, let ⟨p, h1, h2, h3⟩ := h.2; ⟨p, h1, h2⟩⟩
theorem opl_new {xs : List V} (h : ValH te σ H (NewL xs H)) : ValH te σ H (OpL xs H) := ValH.mono h fun _ _ q => q.news.opl
theorem opl_var {xs : List V} {p : Addr} (h : Val te σ H (.ref p)) (hp : H p = some (.lst xs)) : ValH te σ H (OpL xs H) := fun Q q => h _ (q _ _ ⟨Same.refl H, p, rfl, hp⟩)
theorem valh_cat {ta tb : TE} {xs ys : List V} (h1 : ValH ta σ H (OpL xs H)) (h2 : ∀ H1, Same H H1 → ValH tb σ H1 (OpL ys H1)) (hl : xs.length + ys.length ≤ sizeLine) : ValH (tOp rCat ta tb) σ H (NewS (xs ++ ys) H) := by
  intro Q q
  refine h1 _ fun y H1 hy => ?_
  obtain ⟨s1, l, rfl, hl1⟩ := hy
  refine h2 H1 s1 _ fun z H2 hz => ?_
  obtain ⟨s2, l2, rfl, hl2⟩ := hz
  refine ⟨l, l2, xs, ys, rfl, rfl, s2 _ _ hl1, hl2, hl, fun p hp => q _ _ ⟨(s1.trans s2).trans fun b o e => ?_, p, rfl, upd_same, (s1.trans s2).free hp⟩⟩
  rw [upd_ne (ne_of_none e hp)]
  exact e
theorem opl_news {xs : List V} (h : ValH te σ H (NewS xs H)) : ValH te σ H (OpL xs H) := ValH.mono h fun _ _ q => q.opl
theorem WA.frame (W : WA a F H A m) {H' : Hp} {q : Addr} {o : HO} (S : Same H H') (hq : H q = none) (h : H' q = some o) : WA a (upd F q o) H' A m :=
  (W.push hq).ext fun b u e => by
    by_cases z : b = q
    · rw [z, upd_same] at e
      rw [z, h]
      exact e
    · rw [upd_ne z] at e
      exact S b u e
theorem nats_ints {l : List Nat} : nats l = (zints l).map V.int := by
  unfold nats zints
  rw [List.map_map]
  rfl
/-- an operation's result, and the world behind it -/
def Res (a : Ads) (F : Hp) (A : Ad) (r : M × List Int) : Post := fun v H' => ∃ q A', v = .ref q ∧ F q = none ∧ Ext A A' ∧ WA a (upd F q (.lst (r.2.map V.int))) H' A' r.1
theorem NewS.res {A' : Ad} {r : M × List Int} {xs : List V} {v : V} {H' : Hp} (h : NewS xs H v H') (W : WA a F H A' r.1) (x : Ext A A') (e : xs = r.2.map V.int) : Res a F A r v H' := by
  obtain ⟨s, q, rfl, h1, h2⟩ := h
  subst e
  exact ⟨q, A', rfl, W.free h2, x, W.frame s h2 h1⟩
/-! ### arguments that make something -/
def ValAH (t : TA) (σ : Sl) (H : Hp) (P : List V → Hp → Prop) : Prop := ∀ Q : List V → Hp → Prop, (∀ vs H', P vs H' → Q vs H') → t σ H Q
theorem vah1 {PV : V → Hp → Prop} (h : ValH te σ H PV) : ValAH (tCons te tNil) σ H (fun vs H' => ∃ v, vs = [v] ∧ PV v H') := fun Q q => h _ fun v H' hv => q _ _ ⟨v, rfl, hv⟩
theorem vah2 {ta te : TE} {x : V} {PV : V → Hp → Prop} (h1 : Val ta σ H x) (h : ValH te σ H PV) : ValAH (tCons ta (tCons te tNil)) σ H (fun vs H' => ∃ v, vs = [x, v] ∧ PV v H') := fun Q q => h1 _ (h _ fun v H' hv => q _ _ ⟨v, rfl, hv⟩)
theorem vah3 {ta tb te : TE} {x y : V} {PV : V → Hp → Prop} (h1 : Val ta σ H x) (h2 : Val tb σ H y) (h : ValH te σ H PV) : ValAH (tCons ta (tCons tb (tCons te tNil))) σ H (fun vs H' => ∃ v, vs = [x, y, v] ∧ PV v H') := fun Q q => h1 _ (h2 _ (h _ fun v H' hv => q _ _ ⟨v, rfl, hv⟩))
theorem use_methH {tob : TE} {C dx p : Addr} {fs : List (Str × V)} {mm : Str} {E : XK} {targs : TA} {PA : List V → Hp → Prop} {pre : Pre} {post : Post} (ho : Val tob σ H (.ref p)) (hb : H p = some (.ins C dx fs)) (hn : fs.lookup mm = none) (ha : ValAH targs σ H PA)
    (hp : ∀ vs H1, PA vs H1 → ∃ po, pre (.ref p :: vs) H1 po ∧ ∀ v H2, po v H2 → post v H2) : ValH (tMeth C mm (Pr pre) [] E tob targs) σ H post :=
  fun Q q => ho _ ⟨p, dx, fs, rfl, hb, hn, ha _ fun vs H1 h => by
    obtain ⟨po, h1, h2⟩ := hp vs H1 h
    rw [List.append_nil]
    exact ⟨po, h1, fun v H2 z => q v H2 (h2 v H2 z)⟩⟩
theorem use_callH {E : XK} {targs : TA} {PA : List V → Hp → Prop} {pre : Pre} {post : Post} (ha : ValAH targs σ H PA) (hp : ∀ vs H1, PA vs H1 → ∃ po, pre vs H1 po ∧ ∀ v H2, po v H2 → post v H2) : ValH (tCall (Pr pre) [] E targs) σ H post :=
  fun Q q => ha _ fun vs H1 h => by
    obtain ⟨po, h1, h2⟩ := hp vs H1 h
    rw [List.append_nil]
    exact ⟨po, h1, fun v H2 z => q v H2 (h2 v H2 z)⟩
/-- a new pair -/
theorem valh_tup {targs : TA} {x y : V} (h : ValA targs σ H [x, y]) : ValH (tTup targs) σ H (fun v H' => ∃ p, H p = none ∧ v = .ref p ∧ H' = upd H p (.tup [x, y])) :=
  fun Q q => h _ ⟨by show 2 ≤ sizeLine; decide, fun p hp => q _ _ ⟨p, hp, rfl, rfl⟩⟩
theorem valh_pair {targs : TA} {x y : V} (h : ValA targs σ H [x, y]) (W : WA a F H A m) {v : Va} (e1 : x = .int (kd v)) (e2 : y = .int (nm v)) : ValH (tTup targs) σ H (fun r H' => VAt H' r v ∧ WA a F H' A m ∧ Same H H') := by
  refine ValH.mono (valh_tup h) fun r H' ⟨p, hp, er, eh⟩ => ?_
  have s : Same H H' := fun b o q => by
    rw [eh, upd_ne (ne_of_none q hp)]
    exact q
  exact ⟨⟨p, er, by rw [eh, upd_same, e1, e2]⟩, W.ext s, s⟩
end
end Gw

set_option Elab.async false
set_option maxRecDepth 100000
set_option maxHeartbeats 4000000
set_option linter.all false
/-! The small tests; Cycle. -/
namespace Gw
open PySem PySem.Spec PyProof.Rows L2 Gc
section
variable {P : Program} {w : World} {K : PySem.W.Frag} {mg : Str → Option Value} {base : Heap} {a : Ads}

def pBetween : Pre := fun vs H post => ∃ x lo hi : Int, vs = [.int x, .int lo, .int hi] ∧ post = Ret (.bl (between x lo hi)) H
theorem ok_between (T : Txt K mg a) : FnOk P w K mg base CX0 1 a.f_between a.d_between ["number", "low", "high"] (Pr (pBetween)) := by
  refine T.D_between.F.ok sc_between (fun vs H Q E h => ?_) (fun cdv A0 outer s H vs Q E hr h => ?_)
  · obtain ⟨_, ⟨x, lo, hi, rfl, rfl⟩, _⟩ := h
    rfl
  obtain ⟨_, ⟨x, lo, hi, rfl, rfl⟩, k⟩ := h
  refine ⟨_, (pss_one (ps_ret (pe_and (pe_cmpR op_le (pv 1) (pv 0) (nomark _)) (pe_one (pe_cmpR op_le (pv 0) (pv 2) (nomark _)))))), ?_⟩
  exact st_ret (val_andV (val_le (val_var rfl) (val_var rfl)) (val_le (val_var rfl) (val_var rfl))) (k _ _ ⟨rfl, rfl⟩)
def pTest (f : Int → Bool) : Pre := fun vs H post => ∃ x : Int, vs = [.int x] ∧ post = Ret (.bl (f x)) H
theorem ok_is_slot (T : Txt K mg a) : FnOk P w K mg base CX0 2 a.f_is_slot a.d_is_slot ["number"] (Pr (pTest isSlot)) := by
  have G_between := ok_between (P := P) (w := w) (base := base) T
  refine T.D_is_slot.F.ok sc_is_slot (fun vs H Q E h => ?_) (fun cdv A0 outer s H vs Q E hr h => ?_)
  · obtain ⟨_, ⟨x, rfl, rfl⟩, _⟩ := h
    rfl
  obtain ⟨_, ⟨x, rfl, rfl⟩, k⟩ := h
  refine ⟨_, (pss_one (ps_ret (pe_call G_between (hr.mono (by decide)) rfl T.D_between.g T.D_between.F.kp T.D_between.b .nil pass0 (pa_cons (pv 0) (pa_cons pe_int (pa_cons (pe_op op_sub (pe_gv rfl T.k_SLOTS) pe_int) pa_nil)))))), ?_⟩
  exact st_retH (use_call (va3 (val_var rfl) val_c (val_sub val_c val_c)) ⟨_, _, _, rfl, rfl⟩) (fun v H' h => k v H' h)
theorem ok_is_field (T : Txt K mg a) : FnOk P w K mg base CX0 2 a.f_is_field a.d_is_field ["number"] (Pr (pTest isField)) := by
  have G_between := ok_between (P := P) (w := w) (base := base) T
  refine T.D_is_field.F.ok sc_is_field (fun vs H Q E h => ?_) (fun cdv A0 outer s H vs Q E hr h => ?_)
  · obtain ⟨_, ⟨x, rfl, rfl⟩, _⟩ := h
    rfl
  obtain ⟨_, ⟨x, rfl, rfl⟩, k⟩ := h
  refine ⟨_, (pss_one (ps_ret (pe_call G_between (hr.mono (by decide)) rfl T.D_between.g T.D_between.F.kp T.D_between.b .nil pass0 (pa_cons (pv 0) (pa_cons pe_int (pa_cons (pe_op op_sub (pe_gv rfl T.k_MOST_FIELDS) pe_int) pa_nil)))))), ?_⟩
  exact st_retH (use_call (va3 (val_var rfl) val_c (val_sub val_c val_c)) ⟨_, _, _, rfl, rfl⟩) (fun v H' h => k v H' h)
theorem ok_is_reference (T : Txt K mg a) : FnOk P w K mg base CX0 2 a.f_is_reference a.d_is_reference ["number"] (Pr (pTest isRef)) := by
  have G_between := ok_between (P := P) (w := w) (base := base) T
  refine T.D_is_reference.F.ok sc_is_reference (fun vs H Q E h => ?_) (fun cdv A0 outer s H vs Q E hr h => ?_)
  · obtain ⟨_, ⟨x, rfl, rfl⟩, _⟩ := h
    rfl
  obtain ⟨_, ⟨x, rfl, rfl⟩, k⟩ := h
  refine ⟨_, (pss_one (ps_ret (pe_call G_between (hr.mono (by decide)) rfl T.D_between.g T.D_between.F.kp T.D_between.b .nil pass0 (pa_cons (pv 0) (pa_cons pe_int (pa_cons (pe_gv rfl T.k_MOST_REFERENCE) pa_nil)))))), ?_⟩
  exact st_retH (use_call (va3 (val_var rfl) val_c val_c) ⟨_, _, _, rfl, rfl⟩) (fun v H' h => k v H' h)

/-! ### Cycle -/
/-- behind: the world holds m' -/
def Wd (a : Ads) (F : Hp) (A : Ad) (v : V) (m' : M) : Post := fun r H' => r = v ∧ ∃ A', ExtE A A' ∧ WA a F H' A' m'
/-- the same where the cycle's lists alone may be other ones -/
def WdC (a : Ads) (F : Hp) (A : Ad) (v : V) (m' : M) : Post := fun r H' => r = v ∧ ∃ lc lg lm, WA a F H' { A with lc := lc, lg := lg, lm := lm } m'
def pIsOld (a : Ads) : Pre := fun vs H post => ∃ F A m, ∃ n : Nat, vs = [.ref A.cy, .int (n : Int)] ∧ WA a F H A m ∧ post = Ret (.bl (m.isOld n)) H
theorem ok_Cycle_is_old (T : Txt K mg a) : FnOk P w K mg base CX0 1 a.f_Cycle_is_old a.d_Cycle_is_old ["self", "number"] (Pr (pIsOld a)) := by
  refine T.D_Cycle_is_old.F.ok sc_Cycle_is_old (fun vs H Q E h => ?_) (fun cdv A0 outer s H vs Q E hr h => ?_)
  · obtain ⟨_, ⟨F, A, m, n, rfl, W, rfl⟩, _⟩ := h
    rfl
  obtain ⟨_, ⟨F, A, m, n, rfl, W, rfl⟩, k⟩ := h
  refine ⟨_, (pss_one (ps_ret (pe_cmpR op_le (pv 1) (pe_callB call_len_seq (by rfl) T.n_len PySem.boot_len (pa_cons (pe_fld (pv 0) rfl) pa_nil)) (nomark _)))), ?_⟩
  refine st_ret (val_le (val_var rfl) (val_len (v_Cycle_colors T W (val_var rfl)) (SqL.of W.h_lc))) (k _ _ ⟨?_, rfl⟩)
  rw [nats_len]
  unfold M.isOld
  congr 1
  exact decide_eq_decide.mpr (by omega)
def pColor (a : Ads) : Pre := fun vs H post => ∃ F A m, ∃ n : Nat, vs = [.ref A.cy, .int (n : Int)] ∧ WA a F H A m ∧ 1 ≤ n ∧ post = Ret (.int (m.color n : Int)) H
theorem ok_Cycle_color (T : Txt K mg a) : FnOk P w K mg base CX0 2 a.f_Cycle_color a.d_Cycle_color ["self", "number"] (Pr (pColor a)) := by
  have G_Cycle_is_old := ok_Cycle_is_old (P := P) (w := w) (base := base) T
  refine T.D_Cycle_color.F.ok sc_Cycle_color (fun vs H Q E h => ?_) (fun cdv A0 outer s H vs Q E hr h => ?_)
  · obtain ⟨_, ⟨F, A, m, n, rfl, W, h1, rfl⟩, _⟩ := h
    rfl
  obtain ⟨_, ⟨F, A, m, n, rfl, W, h1, rfl⟩, k⟩ := h
  refine ⟨_, (pss_cons (ps_if (pt_val (pe_meth (pv 0) T.c_Cycle.cl T.D_Cycle_is_old.m G_Cycle_is_old (hr.mono (by decide)) T.D_Cycle_is_old.b .nil pass0 (pa_cons (pv 1) pa_nil))) (pss_one (ps_ret (pe_ix ix_list (pe_fld (pv 0) rfl) (pe_op op_sub (pv 1) pe_int) (fun _ _ => rfl)))) pss_nil) (pss_one (ps_ret (pe_gv rfl T.k_BLACK)))), ?_⟩
  refine st_ifN (ans_val (Val.hh (use_meth (val_var rfl) W.h_cy no_Cycle_is_old (va1 (val_var rfl)) ⟨F, A, m, n, rfl, W, rfl⟩))) (fun h => ?_) (fun h => ?_)
  · have hn : n ≤ m.colors.length := of_decide_eq_true h
    refine st_ret (val_ix (j := n - 1) (v_Cycle_colors T W (val_var rfl)) (SqL.of W.h_lc) (val_sub (val_var rfl) val_c) (by omega) (nats_get (by omega))) (k _ _ ⟨?_, rfl⟩)
    unfold M.color
    rw [if_pos hn]
  · have hn : ¬ n ≤ m.colors.length := of_decide_eq_false h
    refine st_ret val_c (k _ _ ⟨?_, rfl⟩)
    unfold M.color
    rw [if_neg hn]
    rfl

def pMark (a : Ads) : Pre := fun vs H post => ∃ F A m x v, vs = [.ref A.cy, x] ∧ WA a F H A m ∧ VAt H x v ∧ m.Ok v ∧ m.grey.length < 1000 ∧ post = WdC a F A .non (m.mark v)
theorem ok_Cycle_mark (T : Txt K mg a) : FnOk P w K mg base CX0 3 a.f_Cycle_mark a.d_Cycle_mark ["self", "value"] (Pr (pMark a)) := by
  have G_Cycle_color := ok_Cycle_color (P := P) (w := w) (base := base) T
  refine T.D_Cycle_mark.F.ok sc_Cycle_mark (fun vs H Q E h => ?_) (fun cdv A0 outer s H vs Q E hr h => ?_)
  · obtain ⟨_, ⟨F, A, m, x, v, rfl, W, hx, ho, hg, rfl⟩, _⟩ := h
    rfl
  obtain ⟨_, ⟨F, A, m, x, v, rfl, W, hx, ho, hg, rfl⟩, k⟩ := h
  refine ⟨_, (pss_cons (ps_asg (pv 1) (pg_tup rfl (pgs_cons (pg_name (i := 2) sc_Cycle_mark.nd rfl (Or.inl rfl)) (pgs_cons (pg_name (i := 3) sc_Cycle_mark.nd rfl (Or.inl rfl)) pgs_nil)))) (pss_cons (ps_if (PW.pt (pw_and (pt_cmpR op_eq (pv 2) (pe_gv rfl T.k_OBJECT) (nomark _)) (pw_and1 (pt_cmpR op_eq (pe_meth (pv 0) T.c_Cycle.cl T.D_Cycle_color.m G_Cycle_color (hr.mono (by decide)) T.D_Cycle_color.b .nil pass0 (pa_cons (pv 3) pa_nil)) (pe_gv rfl T.k_WHITE) (nomark _))))) (pss_cons (ps_asg (pe_gv rfl T.k_GREY) (pg_sub (pe_fld (pv 0) rfl) (pe_op op_sub (pv 3) pe_int) set_list)) (pss_one (ps_expr (pe_bm PySem.F.plainAttrs_list PySem.F.slot_list_append PySem.F.type_list_append mt_append (pe_fld (pv 0) rfl) (pa_cons (pv 3) pa_nil))))) pss_nil) (pss_one (ps_if (pt_cmpR op_eq (pv 2) (pe_gv rfl T.k_FOREIGN) (nomark _)) (pss_one (ps_asg pe_bl (pg_sub (pe_fld (pv 0) rfl) (pv 3) set_list))) pss_nil)))), ?_⟩
  refine st_seq (st_tup (val_var rfl) hx ?_)
  cases v with
  | object n =>
    have h1 : 1 ≤ n := ho
    refine st_ifN (ans_andL (ans_eqI (val_var rfl) val_c rfl) fun _ => ans_eqI (Val.hh (use_meth (val_var rfl) W.h_cy no_Cycle_color (va1 (val_var rfl)) ⟨F, A, m, n, rfl, W, h1, rfl⟩)) val_c rfl) (fun h => ?_) (fun h => ?_)
    · have hc : m.color n = 0 := by
        have : decide ((m.color n : Int) = 0) = true := h
        have := of_decide_eq_true this
        omega
      have hl : n ≤ m.colors.length := color_old (by omega)
      refine st_seq (st_set_lc W (x := 1) (j := n - 1) val_c (v_Cycle_colors T W (val_var rfl)) (val_sub (val_var rfl) val_c) (by show (n : Int) - 1 = _; omega) (by omega) fun H1 W1 => ?_)
      refine st_app_lg W1 (x := n) (v_Cycle_grey T W1 (val_var rfl)) (val_var rfl) (Nat.lt_trans hg (by decide)) fun H2 W2 => ?_
      refine st_no (ans_eqI (val_var rfl) val_c rfl) ?_
      refine k _ _ ⟨rfl, A.lc, A.lg, A.lm, ?_⟩
      rw [mark_object hc]
      exact W2
    · have hc : ¬ m.color n = 0 := by
        have : decide ((m.color n : Int) = 0) = false := h
        have := of_decide_eq_false this
        omega
      refine st_no (ans_eqI (val_var rfl) val_c rfl) ?_
      refine k _ _ ⟨rfl, A.lc, A.lg, A.lm, ?_⟩
      rw [mark_object_not hc]
      exact W
  | foreign r =>
    refine st_ifN (ans_and0 (ans_eqI (val_var rfl) val_c rfl)) (fun h => nomatch h) (fun _ => ?_)
    refine st_yes (ans_eqI (val_var rfl) val_c rfl) ?_
    refine st_set_lm W (x := true) (j := r) val_c (v_Cycle_marked T W (val_var rfl)) (val_var rfl) rfl ho fun H1 W1 => ?_
    exact k _ _ ⟨rfl, A.lc, A.lg, A.lm, W1⟩
  | nothing =>
    refine st_ifN (ans_and0 (ans_eqI (val_var rfl) val_c rfl)) (fun h => nomatch h) (fun _ => ?_)
    refine st_no (ans_eqI (val_var rfl) val_c rfl) ?_
    exact k _ _ ⟨rfl, A.lc, A.lg, A.lm, W⟩
  | integer z =>
    refine st_ifN (ans_and0 (ans_eqI (val_var rfl) val_c rfl)) (fun h => nomatch h) (fun _ => ?_)
    refine st_no (ans_eqI (val_var rfl) val_c rfl) ?_
    exact k _ _ ⟨rfl, A.lc, A.lg, A.lm, W⟩
def pExamine (a : Ads) : Pre := fun vs H post => ∃ F A m x v, vs = [.ref A.cy, x] ∧ WA a F H A m ∧ VAt H x v ∧ m.Ok v ∧ m.grey.length < 1000 ∧ post = WdC a F A .non (m.examine v)
theorem ok_Cycle_examine (T : Txt K mg a) : FnOk P w K mg base CX0 4 a.f_Cycle_examine a.d_Cycle_examine ["self", "value"] (Pr (pExamine a)) := by
  have G_Cycle_mark := ok_Cycle_mark (P := P) (w := w) (base := base) T
  refine T.D_Cycle_examine.F.ok sc_Cycle_examine (fun vs H Q E h => ?_) (fun cdv A0 outer s H vs Q E hr h => ?_)
  · obtain ⟨_, ⟨F, A, m, x, v, rfl, W, hx, ho, hg, rfl⟩, _⟩ := h
    rfl
  obtain ⟨_, ⟨F, A, m, x, v, rfl, W, hx, ho, hg, rfl⟩, k⟩ := h
  refine ⟨_, (pss_cons (ps_fldaug (pv 0) pe_int in_add) (pss_one (ps_expr (pe_meth (pv 0) T.c_Cycle.cl T.D_Cycle_mark.m G_Cycle_mark (hr.mono (by decide)) T.D_Cycle_mark.b .nil pass0 (pa_cons (pv 1) pa_nil))))), ?_⟩
  refine st_seq (st_aug (val_var rfl) W.h_cy T.c_Cycle.cl T.na_Cycle_examined lk_Cycle_examined val_c (fun Q q => ⟨_, _, rfl, rfl, q⟩) (by show 6 < 1000; decide) ?_)
  have W1 := W.s_examined (m.examined + 1)
  refine st_dropH (use_meth (val_var rfl) W1.h_cy no_Cycle_mark (va1 (val_var rfl)) ⟨F, A, _, x, v, rfl, W1, hx.upd (fun ys => by rw [W.h_cy]; intro q; cases q), (by cases v <;> exact ho), hg, rfl⟩) fun r H' h => ?_
  exact k _ _ ⟨rfl, h.2⟩
def pCy (a : Ads) (f : M → M) (c : M → Prop) : Pre := fun vs H post => ∃ F A m, vs = [.ref A.cy] ∧ WA a F H A m ∧ c m ∧ post = WdC a F A .non (f m)
theorem ok_Cycle_count_unit (T : Txt K mg a) : FnOk P w K mg base CX0 1 a.f_Cycle_count_unit a.d_Cycle_count_unit ["self"] (Pr (pCy a M.count (fun _ => True))) := by
  refine T.D_Cycle_count_unit.F.ok sc_Cycle_count_unit (fun vs H Q E h => ?_) (fun cdv A0 outer s H vs Q E hr h => ?_)
  · obtain ⟨_, ⟨F, A, m, rfl, W, _, rfl⟩, _⟩ := h
    rfl
  obtain ⟨_, ⟨F, A, m, rfl, W, _, rfl⟩, k⟩ := h
  refine ⟨_, (pss_one (ps_fldaug (pv 0) pe_int in_add)), ?_⟩
  refine st_inc_units T W (val_var rfl) fun H' W' => ?_
  exact k _ _ ⟨rfl, A.lc, A.lg, A.lm, W'⟩
theorem ok_Cycle_stop (T : Txt K mg a) : FnOk P w K mg base CX0 1 a.f_Cycle_stop a.d_Cycle_stop ["self"] (Pr (pCy a M.stop (fun _ => True))) := by
  refine T.D_Cycle_stop.F.ok sc_Cycle_stop (fun vs H Q E h => ?_) (fun cdv A0 outer s H vs Q E hr h => ?_)
  · obtain ⟨_, ⟨F, A, m, rfl, W, _, rfl⟩, _⟩ := h
    rfl
  obtain ⟨_, ⟨F, A, m, rfl, W, _, rfl⟩, k⟩ := h
  refine ⟨_, (pss_one (ps_fld (pv 0) pe_bl rfl)), ?_⟩
  refine st_running T W (x := false) val_c (val_var rfl) fun H' W' => ?_
  exact k _ _ ⟨rfl, A.lc, A.lg, A.lm, W'⟩
theorem ok_Cycle_blacken (T : Txt K mg a) : FnOk P w K mg base CX0 1 a.f_Cycle_blacken a.d_Cycle_blacken ["self"] (Pr (pCy a M.blacken (fun m => ∃ n r, m.grey = n :: r ∧ 1 ≤ n ∧ n ≤ m.colors.length))) := by
  refine T.D_Cycle_blacken.F.ok sc_Cycle_blacken (fun vs H Q E h => ?_) (fun cdv A0 outer s H vs Q E hr h => ?_)
  · obtain ⟨_, ⟨F, A, m, rfl, W, ⟨n, r, hg, h1, h2⟩, rfl⟩, _⟩ := h
    rfl
  obtain ⟨_, ⟨F, A, m, rfl, W, ⟨n, r, hg, h1, h2⟩, rfl⟩, k⟩ := h
  refine ⟨_, (pss_cons (ps_asg (pe_gv rfl T.k_BLACK) (pg_sub (pe_fld (pv 0) rfl) (pe_op op_sub (pe_ix ix_list (pe_fld (pv 0) rfl) pe_int (fun _ _ => rfl)) pe_int) set_list)) (pss_cons (ps_fld (pv 0) (pe_slice sl_list (pe_fld (pv 0) rfl) (po_some pe_int) po_none) rfl) (pss_one (ps_fld (pv 0) pe_int rfl)))), ?_⟩
  have hg0 : (nats m.grey)[0]? = some (.int (n : Int)) := by rw [hg]; rfl
  refine st_seq (st_set_lc W (x := 2) (j := n - 1) val_c (v_Cycle_colors T W (val_var rfl)) (val_sub (val_ix (j := 0) (v_Cycle_grey T W (val_var rfl)) (SqL.of W.h_lg) val_c rfl hg0) val_c) (by omega) (by omega) fun H1 W1 => ?_)
  refine st_seq (st_new_lg T (l := m.grey.drop 1) (F := F) (A := A) (m := { m with colors := m.colors.set (n - 1) 2 }) (ValH.mono (valh_slice (v_Cycle_grey T W1 (val_var rfl)) (SqL.of W1.h_lg) (vo_some val_c) vo_none) fun y H' h => ?_) (fun _ => val_var rfl) fun H2 p W2 => ?_)
  · rw [cutV_tail] at h
    have e : (nats m.grey).drop 1 = nats (m.grey.drop 1) := (List.map_drop).symm
    rw [e] at h
    exact h.push W1
  · refine st_examined T W2 (x := 0) val_c (val_var rfl) fun H3 W3 => ?_
    refine k _ _ ⟨rfl, A.lc, p, A.lm, ?_⟩
    have e : m.blacken = { m with colors := m.colors.set (n - 1) 2, grey := m.grey.drop 1, examined := 0 } := by
      unfold M.blacken
      rw [hg]
      rfl
    rw [e]
    exact W3
def started (m : M) (n : Nat) : M := { m with running := true, colors := List.replicate n 0, grey := [], examined := 0, units := 0, marked := m.pinned }
def pStart (a : Ads) : Pre := fun vs H post => ∃ F A m, ∃ n : Nat, vs = [.ref A.cy, .int (n : Int), .ref A.lp] ∧ WA a F H A m ∧ n < 1000 ∧ post = WdC a F A .non (started m n)
theorem ok_Cycle_start (T : Txt K mg a) : FnOk P w K mg base CX0 1 a.f_Cycle_start a.d_Cycle_start ["self", "created", "pinned"] (Pr (pStart a)) := by
  refine T.D_Cycle_start.F.ok sc_Cycle_start (fun vs H Q E h => ?_) (fun cdv A0 outer s H vs Q E hr h => ?_)
  · obtain ⟨_, ⟨F, A, m, n, rfl, W, hn, rfl⟩, _⟩ := h
    rfl
  obtain ⟨_, ⟨F, A, m, n, rfl, W, hn, rfl⟩, k⟩ := h
  refine ⟨_, (pss_cons (ps_fld (pv 0) pe_bl rfl) (pss_cons (ps_fld (pv 0) (pe_lc (own := [("k", 3)]) (g := gName 3) (tt := tYes) rfl sc_Cycle_start.nd (pi_range1 (by rfl) T.n_range (pa_cons (pv 1) pa_nil)) (blkOk_by (N := N_Cycle_start) (sc := defScope s_Cycle_start) (by decide +kernel)) (fun _ _ _ _ _ => pg_name (i := 3) sc_Cycle_start.nd rfl (Or.inl rfl)) (fun _ _ _ _ _ => pts_nil) (fun _ _ _ _ _ => (pe_gv rfl T.k_WHITE))) rfl) (pss_cons (ps_fld (pv 0) (pe_lst pa_nil) rfl) (pss_cons (ps_fld (pv 0) pe_int rfl) (pss_cons (ps_fld (pv 0) pe_int rfl) (pss_one (ps_fld (pv 0) (pe_callTy call_list_of (by rfl) T.n_list (by decide +kernel) (pa_cons (pv 2) pa_nil)) rfl))))))), ?_⟩
  refine st_seq (st_running T W (x := true) val_c (val_var rfl) fun H1 W1 => ?_)
  refine st_seq (st_new_lc T (l := List.replicate n 0) (F := F) (A := A) (m := { m with running := true }) (ValH.mono (lc_map (nn := n) (va1 (val_var rfl)) rfl hn (fun D i H' => WA a (upd F D (.lst (nats (List.replicate i 0)))) H' A { m with running := true }) (fun D hD => W1.push hD) (fun D i H' hi W' => ?_) fun x => rfl) fun y H' ⟨D, hD, e, W'⟩ => ⟨D, e, W1.free hD, W'⟩) (fun _ => val_var rfl) fun H2 p W2 => ?_)
  · refine ⟨_, W'.get, by rw [nats_len, List.length_replicate]; exact Nat.lt_of_lt_of_le hi (Nat.le_trans (Nat.le_of_lt hn) (by decide)), ?_⟩
    rw [List.replicate_succ', ← nats_snoc]
    exact W'.poke fun ys q => by cases q
  refine st_seq (st_new_lg T (l := []) (ValH.mono (valh_lst va_nil (by decide)) fun y H' h => h.push W2) (fun _ => val_var rfl) fun H3 p3 W3 => ?_)
  refine st_seq (st_examined T W3 (x := 0) val_c (val_var rfl) fun H4 W4 => ?_)
  refine st_seq (st_units T W4 (x := 0) val_c (val_var rfl) fun H5 W5 => ?_)
  refine st_new_lm T (l := m.pinned) (ValH.mono (valh_list (val_var rfl) (SqL.of W5.h_lp)) fun y H' h => h.push W5) (fun _ => val_var rfl) fun H6 p6 W6 => ?_
  exact k _ _ ⟨rfl, p, p3, p6, W6⟩
end
end Gw

set_option Elab.async false
set_option maxRecDepth 100000
set_option maxHeartbeats 4000000
set_option linter.all false
/-! Heap, Exports, Imports, World.report. -/
namespace Gw
open PySem PySem.Spec PyProof.Rows L2 Gc

/-! ### more of the world's writes -/
section
variable {a : Ads} {F H : Hp} {A : Ad} {m : M} {p q : Addr} {o o2 : HO}
theorem upd_comm (h : p ≠ q) : upd (upd F p o) q o2 = upd (upd F q o2) p o := by
  funext b
  unfold upd
  by_cases e1 : b = q
  · rw [if_pos e1]
    by_cases e2 : b = p
    · exact absurd (e2.symm.trans e1) h
    · rw [if_neg e2, if_pos e1]
  · rw [if_neg e1]
    by_cases e2 : b = p
    · rw [if_pos e2, if_pos e2]
    · rw [if_neg e2, if_neg e2, if_neg e1]
theorem WA.s_ls (W : WA a F H A m) {x : V} {v : Va} (hx : VAt H x v) (i : Nat) : WA a F (upd H A.ls (.lst (A.sv.set i x))) { A with sv := A.sv.set i x } (m.put i v) :=
  W.set .ls rfl (fun _ => rfl) (fun u => by cases u <;> rfl) (W.sv.set hx i) W.cv
theorem WA.s_en (W : WA a F H A m) {i : Nat} {e : Ent} (hi : m.ents[i]? = some e) (b : Bool) :
    WA a F (upd H (A.en i) (.ins a.cEntry (A.dx (.en i)) (F_Entry (.ref (A.ce i)) (.int (e.code : Int)) (.bl b)))) A { m with ents := m.ents.set i { e with there := b } } := by
  have hl := (List.getElem?_eq_some_iff.mp hi).1
  refine W.set (.en i) (by show (m.ents[i]?).map _ = _; rw [hi]; rfl) (fun _ => rfl) (fun u => ?_) W.sv (fun j e' hj => ?_)
  · cases u with
    | le =>
      show some (HO.lst (refs A (m.ents.set i _).length)) = some (.lst (refs A m.ents.length))
      rw [List.length_set]
    | en j =>
      show ((m.ents.set i { e with there := b })[j]?).map _ = if Tag.en j = Tag.en i then _ else (m.ents[j]?).map _
      by_cases q : j = i
      · subst q
        rw [if_pos rfl, List.getElem?_set_self hl]
        rfl
      · rw [if_neg (fun z => q (Tag.en.inj z)), List.getElem?_set_ne (Ne.symm q)]
    | ce j =>
      show ((m.ents.set i { e with there := b })[j]?).map _ = if Tag.ce j = Tag.en i then _ else (m.ents[j]?).map _
      rw [if_neg (fun z => nomatch z)]
      by_cases q : j = i
      · subst q
        rw [List.getElem?_set_self hl, hi]
        rfl
      · rw [List.getElem?_set_ne (Ne.symm q)]
    | _ => rfl
  · by_cases q : j = i
    · subst q
      have hj' : (m.ents.set j { e with there := b })[j]? = some e' := hj
      rw [List.getElem?_set_self hl] at hj'
      cases hj'
      exact W.cv j e hi
    · have hj' : (m.ents.set i { e with there := b })[j]? = some e' := hj
      rw [List.getElem?_set_ne (Ne.symm q)] at hj'
      exact W.cv j e' hj'
theorem WA.s_ce (W : WA a F H A m) {i : Nat} {e : Ent} (hi : m.ents[i]? = some e) {x : V} {v : Va} (hx : VAt H x v) (k : Nat) :
    WA a F (upd H (A.ce i) (.lst ((A.cv i).set k x))) { A with cv := fun j => if j = i then (A.cv i).set k x else A.cv j } { m with ents := m.ents.set i { e with cells := e.cells.set k v } } := by
  have hl := (List.getElem?_eq_some_iff.mp hi).1
  refine W.set (.ce i) (by show (m.ents[i]?).map _ = _; rw [hi]; rfl) (fun _ => rfl) (fun u => ?_) W.sv (fun j e' hj => ?_)
  · cases u with
    | le =>
      show some (HO.lst (refs A (m.ents.set i _).length)) = some (.lst (refs A m.ents.length))
      rw [List.length_set]
    | en j =>
      show ((m.ents.set i { e with cells := e.cells.set k v })[j]?).map _ = if Tag.en j = Tag.ce i then _ else (m.ents[j]?).map _
      rw [if_neg (fun z => nomatch z)]
      by_cases q : j = i
      · subst q
        rw [List.getElem?_set_self hl, hi]
        rfl
      · rw [List.getElem?_set_ne (Ne.symm q)]
    | ce j =>
      show ((m.ents.set i { e with cells := e.cells.set k v })[j]?).map (fun _ => HO.lst (if j = i then (A.cv i).set k x else A.cv j)) = if Tag.ce j = Tag.ce i then _ else (m.ents[j]?).map _
      by_cases q : j = i
      · subst q
        rw [if_pos rfl, if_pos rfl, List.getElem?_set_self hl]
        rfl
      · rw [if_neg q, if_neg (fun z => q (Tag.ce.inj z)), List.getElem?_set_ne (Ne.symm q)]
    | _ => rfl
  · by_cases q : j = i
    · subst q
      have hj' : (m.ents.set j { e with cells := e.cells.set k v })[j]? = some e' := hj
      rw [List.getElem?_set_self hl] at hj'
      cases hj'
      show VLs H (if j = j then (A.cv j).set k x else A.cv j) (e.cells.set k v)
      rw [if_pos rfl]
      exact (W.cv j e hi).set hx k
    · have hj' : (m.ents.set i { e with cells := e.cells.set k v })[j]? = some e' := hj
      rw [List.getElem?_set_ne (Ne.symm q)] at hj'
      show VLs H (if j = i then (A.cv i).set k x else A.cv j) e'.cells
      rw [if_neg q]
      exact W.cv j e' hj'
theorem setEnt_eq {m : M} {n : Nat} {e : Ent} : m.setEnt n e = { m with ents := m.ents.set (n - 1) e } := rfl
end
section
variable {P : Program} {w : World} {K : PySem.W.Frag} {mg : Str → Option Value} {base : Heap} {a : Ads}

/-! ### Heap -/
def pCreated (a : Ads) : Pre := fun vs H post => ∃ F A m, vs = [.ref A.hp] ∧ WA a F H A m ∧ post = Ret (.int (m.ents.length : Int)) H
theorem ok_Heap_created (T : Txt K mg a) : FnOk P w K mg base CX0 1 a.f_Heap_created a.d_Heap_created ["self"] (Pr (pCreated a)) := by
  refine T.D_Heap_created.F.ok sc_Heap_created (fun vs H Q E h => ?_) (fun cdv A0 outer s H vs Q E hr h => ?_)
  · obtain ⟨_, ⟨F, A, m, rfl, W, rfl⟩, _⟩ := h
    rfl
  obtain ⟨_, ⟨F, A, m, rfl, W, rfl⟩, k⟩ := h
  refine ⟨_, (pss_one (ps_ret (pe_callB call_len_seq (by rfl) T.n_len PySem.boot_len (pa_cons (pe_fld (pv 0) rfl) pa_nil)))), ?_⟩
  refine st_ret (val_len (v_Heap_entries T W (val_var rfl)) (SqL.of W.h_le)) (k _ _ ⟨?_, rfl⟩)
  rw [refs_len]
def pEntry (a : Ads) : Pre := fun vs H post => ∃ F A m, ∃ n : Nat, vs = [.ref A.hp, .int (n : Int)] ∧ WA a F H A m ∧ 1 ≤ n ∧ n ≤ m.ents.length ∧ post = Ret (.ref (A.en (n - 1))) H
theorem ok_Heap_entry (T : Txt K mg a) : FnOk P w K mg base CX0 1 a.f_Heap_entry a.d_Heap_entry ["self", "number"] (Pr (pEntry a)) := by
  refine T.D_Heap_entry.F.ok sc_Heap_entry (fun vs H Q E h => ?_) (fun cdv A0 outer s H vs Q E hr h => ?_)
  · obtain ⟨_, ⟨F, A, m, n, rfl, W, h1, h2, rfl⟩, _⟩ := h
    rfl
  obtain ⟨_, ⟨F, A, m, n, rfl, W, h1, h2, rfl⟩, k⟩ := h
  refine ⟨_, (pss_one (ps_ret (pe_ix ix_list (pe_fld (pv 0) rfl) (pe_op op_sub (pv 1) pe_int) (fun _ _ => rfl)))), ?_⟩
  exact st_ret (val_ix (j := n - 1) (v_Heap_entries T W (val_var rfl)) (SqL.of W.h_le) (val_sub (val_var rfl) val_c) (by omega) (refs_get (by omega))) (k _ _ ⟨rfl, rfl⟩)
def pPut (a : Ads) : Pre := fun vs H post => ∃ F A m x v, ∃ i : Nat, vs = [.ref A.hp, .int (i : Int), x] ∧ WA a F H A m ∧ VAt H x v ∧ i < m.slots.length ∧ post = Wd a F A .non (m.put i v)
theorem ok_Heap_put (T : Txt K mg a) : FnOk P w K mg base CX0 1 a.f_Heap_put a.d_Heap_put ["self", "slot", "value"] (Pr (pPut a)) := by
  refine T.D_Heap_put.F.ok sc_Heap_put (fun vs H Q E h => ?_) (fun cdv A0 outer s H vs Q E hr h => ?_)
  · obtain ⟨_, ⟨F, A, m, x, v, i, rfl, W, hx, hi, rfl⟩, _⟩ := h
    rfl
  obtain ⟨_, ⟨F, A, m, x, v, i, rfl, W, hx, hi, rfl⟩, k⟩ := h
  refine ⟨_, (pss_one (ps_asg (pv 2) (pg_sub (pe_fld (pv 0) rfl) (pv 1) set_list))), ?_⟩
  refine st_setL (j := i) (val_var rfl) (v_Heap_slots T W (val_var rfl)) (val_var rfl) W.h_ls rfl (by rw [W.sv.1]; exact hi) ?_
  exact k _ _ ⟨rfl, { A with sv := A.sv.set i x }, ⟨⟨rfl, rfl, rfl, rfl, rfl⟩, rfl, rfl⟩, W.s_ls hx i⟩
def pIsPresent (a : Ads) : Pre := fun vs H post => ∃ F A m, ∃ x : Int, vs = [.ref A.hp, .int x] ∧ WA a F H A m ∧ post = Ret (.bl (m.isPresent x)) H
theorem ok_Heap_is_present (T : Txt K mg a) : FnOk P w K mg base CX0 1 a.f_Heap_is_present a.d_Heap_is_present ["self", "number"] (Pr (pIsPresent a)) := by
  refine T.D_Heap_is_present.F.ok sc_Heap_is_present (fun vs H Q E h => ?_) (fun cdv A0 outer s H vs Q E hr h => ?_)
  · obtain ⟨_, ⟨F, A, m, x, rfl, W, rfl⟩, _⟩ := h
    rfl
  obtain ⟨_, ⟨F, A, m, x, rfl, W, rfl⟩, k⟩ := h
  refine ⟨_, (pss_cons (ps_if (PW.pt (pw_or (pt_cmpR op_lt (pv 1) pe_int (nomark _)) (pw_or1 (pt_cmpR op_gt (pv 1) (pe_callB call_len_seq (by rfl) T.n_len PySem.boot_len (pa_cons (pe_fld (pv 0) rfl) pa_nil)) (nomark _))))) (pss_one (ps_ret pe_bl)) pss_nil) (pss_one (ps_ret (pe_fld (pe_ix ix_list (pe_fld (pv 0) rfl) (pe_op op_sub (pv 1) pe_int) (fun _ _ => rfl)) rfl)))), ?_⟩
  refine st_ifN (b := decide (x < 1 ∨ x > (m.ents.length : Int))) (Ans.to (ans_orL (ans_b0 (val_var rfl) val_c rfl) fun _ => ans_b0 (val_var rfl) (val_len (v_Heap_entries T W (val_var rfl)) (SqL.of W.h_le)) rfl) ?_) (fun h => ?_) (fun h => ?_)
  · rw [refs_len]
    exact (Bool.decide_or _ _).symm
  · refine st_ret val_c (k _ _ ⟨?_, rfl⟩)
    unfold M.isPresent
    rw [if_pos (of_decide_eq_true h)]
  · have hn := of_decide_eq_false h
    have h1 : 1 ≤ x.toNat := by omega
    have h2 : x.toNat ≤ m.ents.length := by omega
    refine st_ret (v_Entry_there T W (ent_get h1 h2) (val_ix (j := x.toNat - 1) (v_Heap_entries T W (val_var rfl)) (SqL.of W.h_le) (val_sub (val_var rfl) val_c) (by omega) (refs_get (by omega)))) (k _ _ ⟨?_, rfl⟩)
    unfold M.isPresent
    rw [if_neg hn]
    rfl
def pNew (a : Ads) (ad : Ad → Addr) (c : M → Prop) (f : M → List Nat) : Pre := fun vs H post => ∃ F A m, vs = [.ref (ad A)] ∧ WA a F H A m ∧ c m ∧ post = NewL (nats (f m)) H
theorem ok_Heap_present (T : Txt K mg a) : FnOk P w K mg base CX0 2 a.f_Heap_present a.d_Heap_present ["self"] (Pr (pNew a Ad.hp (fun m => m.ents.length < 100000) M.present)) := by
  have G_Heap_is_present := ok_Heap_is_present (P := P) (w := w) (base := base) T
  refine T.D_Heap_present.F.ok sc_Heap_present (fun vs H Q E h => ?_) (fun cdv A0 outer s H vs Q E hr h => ?_)
  · obtain ⟨_, ⟨F, A, m, rfl, W, hl, rfl⟩, _⟩ := h
    rfl
  obtain ⟨_, ⟨F, A, m, rfl, W, hl, rfl⟩, k⟩ := h
  refine ⟨_, (pss_one (ps_ret (pe_lc (own := [("number", 1)]) (g := gName 1) rfl sc_Heap_present.nd (pi_range2 (by rfl) T.n_range (pa_cons pe_int (pa_cons (pe_op op_add (pe_callB call_len_seq (by rfl) T.n_len PySem.boot_len (pa_cons (pe_fld (pv 0) rfl) pa_nil)) pe_int) pa_nil))) (blkOk_by (N := N_Heap_present) (sc := defScope s_Heap_present) (by decide +kernel)) (fun _ _ _ _ _ => pg_name (i := 1) sc_Heap_present.nd rfl (Or.inl rfl)) (fun _ _ _ _ _ => pts_one (pt_val (pe_meth (pv 0) T.c_Heap.cl T.D_Heap_is_present.m G_Heap_is_present (hr.mono (by decide)) T.D_Heap_is_present.b .nil pass0 (pa_cons (pv 1) pa_nil)))) (fun _ _ _ _ _ => (pv 1))))), ?_⟩
  refine st_retH (lc_filter (nn := m.ents.length) (pr := fun n => m.there n) (va2 val_c (val_add (val_len (v_Heap_entries T W (val_var rfl)) (SqL.of W.h_le)) val_c)) (by rw [refs_len]) hl (by show 1 < 2; decide) (fun i D hi hD acc => ?_) (fun x => rfl)) fun v H' h => k _ _ h
  have W' := W.push (o := .lst acc) hD
  refine ans_val (Val.to (Val.hh (use_meth (val_var rfl) W'.h_hp no_Heap_is_present (va1 (val_var rfl)) ⟨_, A, m, _, rfl, W', rfl⟩)) ?_)
  congr 1
  unfold M.isPresent
  rw [if_neg (by omega)]
  rfl
def pHpN (a : Ads) (f : M → Nat → M) : Pre := fun vs H post => ∃ F A m, ∃ n : Nat, vs = [.ref A.hp, .int (n : Int)] ∧ WA a F H A m ∧ 1 ≤ n ∧ n ≤ m.ents.length ∧ post = fun r H' => r = .non ∧ WA a F H' A (f m n)
theorem ok_Heap_free (T : Txt K mg a) : FnOk P w K mg base CX0 2 a.f_Heap_free a.d_Heap_free ["self", "number"] (Pr (pHpN a M.free)) := by
  have G_Heap_entry := ok_Heap_entry (P := P) (w := w) (base := base) T
  refine T.D_Heap_free.F.ok sc_Heap_free (fun vs H Q E h => ?_) (fun cdv A0 outer s H vs Q E hr h => ?_)
  · obtain ⟨_, ⟨F, A, m, n, rfl, W, h1, h2, rfl⟩, _⟩ := h
    rfl
  obtain ⟨_, ⟨F, A, m, n, rfl, W, h1, h2, rfl⟩, k⟩ := h
  refine ⟨_, (pss_cons (ps_set (i := 2) sc_Heap_free.nd rfl (Or.inl rfl) (pe_meth (pv 0) T.c_Heap.cl T.D_Heap_entry.m G_Heap_entry (hr.mono (by decide)) T.D_Heap_entry.b .nil pass0 (pa_cons (pv 1) pa_nil))) (pss_one (ps_fld (pv 2) pe_bl rfl))), ?_⟩
  refine st_seq (st_set (Val.hh (use_meth (val_var rfl) W.h_hp no_Heap_entry (va1 (val_var rfl)) ⟨F, A, m, n, rfl, W, h1, h2, rfl⟩)) ?_)
  refine st_fld val_c (val_var rfl) (W.h_en (ent_get h1 h2)) T.c_Entry.cl T.na_Entry_there (by show 3 < 1000; decide) ?_
  rw [put_Entry_there]
  exact k _ _ ⟨rfl, W.s_en (ent_get h1 h2) false⟩

/-! ### Exports -/
def pState (a : Ads) : Pre := fun vs H post => ∃ F A m, ∃ h : Int, vs = [.ref A.ex, .int h] ∧ WA a F H A m ∧ post = Ret (.int (m.state h : Int)) H
theorem ok_Exports_state (T : Txt K mg a) : FnOk P w K mg base CX0 1 a.f_Exports_state a.d_Exports_state ["self", "handle"] (Pr (pState a)) := by
  refine T.D_Exports_state.F.ok sc_Exports_state (fun vs H Q E h => ?_) (fun cdv A0 outer s H vs Q E hr h => ?_)
  · obtain ⟨_, ⟨F, A, m, x, rfl, W, rfl⟩, _⟩ := h
    rfl
  obtain ⟨_, ⟨F, A, m, x, rfl, W, rfl⟩, k⟩ := h
  refine ⟨_, (pss_cons (ps_if (PW.pt (pw_or (pt_cmpR op_lt (pv 1) pe_int (nomark _)) (pw_or1 (pt_cmpR op_gt (pv 1) (pe_callB call_len_seq (by rfl) T.n_len PySem.boot_len (pa_cons (pe_fld (pv 0) rfl) pa_nil)) (nomark _))))) (pss_one (ps_ret (pe_gv rfl T.k_REMOVED))) pss_nil) (pss_one (ps_ret (pe_ix ix_list (pe_fld (pv 0) rfl) (pe_op op_sub (pv 1) pe_int) (fun _ _ => rfl))))), ?_⟩
  refine st_ifN (b := decide (x < 1 ∨ x > (m.states.length : Int))) (Ans.to (ans_orL (ans_b0 (val_var rfl) val_c rfl) fun _ => ans_b0 (val_var rfl) (val_len (v_Exports_states T W (val_var rfl)) (SqL.of W.h_lt)) rfl) ?_) (fun h => ?_) (fun h => ?_)
  · rw [nats_len]
    exact (Bool.decide_or _ _).symm
  · refine st_ret val_c (k _ _ ⟨?_, rfl⟩)
    unfold M.state
    rw [if_pos (of_decide_eq_true h)]
    rfl
  · have hn := of_decide_eq_false h
    refine st_ret (val_ix (j := x.toNat - 1) (v_Exports_states T W (val_var rfl)) (SqL.of W.h_lt) (val_sub (val_var rfl) val_c) (by omega) (nats_get (by omega))) (k _ _ ⟨?_, rfl⟩)
    unfold M.state
    rw [if_neg hn]
def pOwner (a : Ads) : Pre := fun vs H post => ∃ F A m, ∃ h : Nat, vs = [.ref A.ex, .int (h : Int)] ∧ WA a F H A m ∧ 1 ≤ h ∧ h ≤ m.owners.length ∧ post = Ret (.int (m.owner h : Int)) H
theorem ok_Exports_owner (T : Txt K mg a) : FnOk P w K mg base CX0 1 a.f_Exports_owner a.d_Exports_owner ["self", "handle"] (Pr (pOwner a)) := by
  refine T.D_Exports_owner.F.ok sc_Exports_owner (fun vs H Q E h => ?_) (fun cdv A0 outer s H vs Q E hr h => ?_)
  · obtain ⟨_, ⟨F, A, m, n, rfl, W, h1, h2, rfl⟩, _⟩ := h
    rfl
  obtain ⟨_, ⟨F, A, m, n, rfl, W, h1, h2, rfl⟩, k⟩ := h
  refine ⟨_, (pss_one (ps_ret (pe_ix ix_list (pe_fld (pv 0) rfl) (pe_op op_sub (pv 1) pe_int) (fun _ _ => rfl)))), ?_⟩
  exact st_ret (val_ix (j := n - 1) (v_Exports_owners T W (val_var rfl)) (SqL.of W.h_lo) (val_sub (val_var rfl) val_c) (by omega) (nats_get (by omega))) (k _ _ ⟨rfl, rfl⟩)
theorem find_ones {pr : Nat → Bool} : ∀ {N i : Nat}, i < N → pr (i + 1) = true → (∀ h, 1 ≤ h → h ≤ i → pr h = false) → (ones N).find? pr = some (i + 1)
  | 0, i, h, _, _ => absurd h (Nat.not_lt_zero _)
  | N + 1, i, h, h1, h2 => by
    rw [ones_succ, List.find?_append]
    by_cases e : i = N
    · subst e
      have : (ones i).find? pr = none := by
        rw [List.find?_eq_none]
        intro x hx
        have := mem_ones.mp hx
        rw [h2 x this.1 this.2]
        decide
      rw [this, List.find?_cons, h1]
      rfl
    · rw [find_ones (by omega) h1 h2]
      rfl
theorem find_ones_none {pr : Nat → Bool} {N : Nat} (h2 : ∀ h, 1 ≤ h → h ≤ N → pr h = false) : (ones N).find? pr = none := by
  rw [List.find?_eq_none]
  intro x hx
  have := mem_ones.mp hx
  rw [h2 x this.1 this.2]
  decide
def pHandleOf (a : Ads) : Pre := fun vs H post => ∃ F A m, ∃ n : Nat, vs = [.ref A.ex, .int (n : Int)] ∧ WA a F H A m ∧ m.owners.length < 100000 ∧ post = Ret (.int (m.handleOf n : Int)) H
theorem ok_Exports_handle_of (T : Txt K mg a) : FnOk P w K mg base CX0 2 a.f_Exports_handle_of a.d_Exports_handle_of ["self", "number"] (Pr (pHandleOf a)) := by
  have G_Exports_owner := ok_Exports_owner (P := P) (w := w) (base := base) T
  have G_Exports_state := ok_Exports_state (P := P) (w := w) (base := base) T
  refine T.D_Exports_handle_of.F.ok sc_Exports_handle_of (fun vs H Q E h => ?_) (fun cdv A0 outer s H vs Q E hr h => ?_)
  · obtain ⟨_, ⟨F, A, m, n, rfl, W, hl, rfl⟩, _⟩ := h
    rfl
  obtain ⟨_, ⟨F, A, m, n, rfl, W, hl, rfl⟩, k⟩ := h
  refine ⟨_, (pss_cons (ps_for PassesOwn.never rfl (pi_range2 (by rfl) T.n_range (pa_cons pe_int (pa_cons (pe_op op_add (pe_callB call_len_seq (by rfl) T.n_len PySem.boot_len (pa_cons (pe_fld (pv 0) rfl) pa_nil)) pe_int) pa_nil))) (pg_name (i := 2) sc_Exports_handle_of.nd rfl (Or.inl rfl)) (pss_one (ps_if (PW.pt (pw_and (pt_cmpR op_ne (pe_meth (pv 0) T.c_Exports.cl T.D_Exports_state.m G_Exports_state (hr.mono (by decide)) T.D_Exports_state.b .nil pass0 (pa_cons (pv 2) pa_nil)) (pe_gv rfl T.k_REMOVED) (nomark _)) (pw_and1 (pt_cmpR op_eq (pe_meth (pv 0) T.c_Exports.cl T.D_Exports_owner.m G_Exports_owner (hr.mono (by decide)) T.D_Exports_owner.b .nil pass0 (pa_cons (pv 2) pa_nil)) (pv 1) (nomark _))))) (pss_one (ps_ret (pv 2))) pss_nil))) (pss_one (ps_ret pe_int))), ?_⟩
  refine st_seq (st_forR2 (n := (m.owners.length : Int) + 1) (va2 val_c (val_add (val_len (v_Exports_owners T W (val_var rfl)) (SqL.of W.h_lo)) val_c)) (by rw [nats_len]) (by omega) (by omega)
    (fun i σ H' => H' = H ∧ (∃ v : Option V, σ = [some (.ref A.ex), some (.int (n : Int)), v]) ∧ ∀ h, 1 ≤ h → h ≤ i → (m.state (h : Int) != 0 && m.owner h == n) = false) ⟨rfl, ⟨none, rfl⟩, fun h h1 h2 => by omega⟩ ?_ ?_)
  · rintro i σ H' hi ⟨rfl, ⟨v, rfl⟩, hno⟩
    have hi' : i < m.owners.length := by omega
    refine st_if (b := (m.state ((i + 1 : Nat) : Int) != 0 && m.owner (i + 1) == n)) (Ans.to (ans_andL (ans_neI (Val.hh (use_meth (val_var rfl) W.h_ex no_Exports_state (va1 (val_var rfl)) ⟨F, A, m, _, rfl, W, rfl⟩)) val_c rfl) fun _ => ans_eqI (Val.hh (use_meth (val_var rfl) W.h_ex no_Exports_owner (va1 (val_var rfl)) ⟨F, A, m, i + 1, rfl, W, by omega, by omega, rfl⟩)) (val_var rfl) rfl) ?_) (fun h => ?_) (fun h => ?_)
    · congr 1
      · by_cases q : m.state ((i + 1 : Nat) : Int) = 0
        · rw [q]
          rfl
        · have a1 : (m.state ((i + 1 : Nat) : Int) != 0) = true := by simpa using q
          rw [a1, decide_eq_false (by omega)]
          rfl
      · by_cases q : m.owner (i + 1) = n
        · rw [q]
          simp
        · have a1 : (m.owner (i + 1) == n) = false := by simpa using q
          rw [a1, decide_eq_false (by omega)]
    · refine st_ret (val_var rfl) (k _ _ ⟨?_, rfl⟩)
      unfold M.handleOf
      rw [find_ones hi' h hno]
      rfl
    · refine ⟨rfl, ⟨_, rfl⟩, fun x h1 h2 => ?_⟩
      by_cases e : x = i + 1
      · rw [e]
        exact h
      · exact hno x h1 (by omega)
  · rintro σ H' ⟨rfl, ⟨v, rfl⟩, hno⟩
    dsimp only
    refine st_ret val_c (k _ _ ⟨?_, rfl⟩)
    unfold M.handleOf
    rw [find_ones_none (fun h h1 h2 => hno h h1 (by omega))]
    rfl
def pExport (a : Ads) : Pre := fun vs H post => ∃ F A m, ∃ n : Nat, vs = [.ref A.ex, .int (n : Int)] ∧ WA a F H A m ∧ m.owners.length < 10000 ∧ m.owners.length = m.states.length ∧ post = Wd a F A (.int ((m.export n).2 : Int)) (m.export n).1
theorem ok_Exports_export (T : Txt K mg a) : FnOk P w K mg base CX0 3 a.f_Exports_export a.d_Exports_export ["self", "number"] (Pr (pExport a)) := by
  have G_Exports_handle_of := ok_Exports_handle_of (P := P) (w := w) (base := base) T
  refine T.D_Exports_export.F.ok sc_Exports_export (fun vs H Q E h => ?_) (fun cdv A0 outer s H vs Q E hr h => ?_)
  · obtain ⟨_, ⟨F, A, m, n, rfl, W, hl, he, rfl⟩, _⟩ := h
    rfl
  obtain ⟨_, ⟨F, A, m, n, rfl, W, hl, he, rfl⟩, k⟩ := h
  refine ⟨_, (pss_cons (ps_set (i := 2) sc_Exports_export.nd rfl (Or.inl rfl) (pe_meth (pv 0) T.c_Exports.cl T.D_Exports_handle_of.m G_Exports_handle_of (hr.mono (by decide)) T.D_Exports_handle_of.b .nil pass0 (pa_cons (pv 1) pa_nil))) (pss_cons (ps_if (pt_cmpR op_eq (pv 2) pe_int (nomark _)) (pss_cons (ps_expr (pe_bm PySem.F.plainAttrs_list PySem.F.slot_list_append PySem.F.type_list_append mt_append (pe_fld (pv 0) rfl) (pa_cons (pv 1) pa_nil))) (pss_cons (ps_expr (pe_bm PySem.F.plainAttrs_list PySem.F.slot_list_append PySem.F.type_list_append mt_append (pe_fld (pv 0) rfl) (pa_cons (pe_gv rfl T.k_ACTIVE) pa_nil))) (pss_one (ps_ret (pe_callB call_len_seq (by rfl) T.n_len PySem.boot_len (pa_cons (pe_fld (pv 0) rfl) pa_nil)))))) pss_nil) (pss_cons (ps_asg (pe_gv rfl T.k_ACTIVE) (pg_sub (pe_fld (pv 0) rfl) (pe_op op_sub (pv 2) pe_int) set_list)) (pss_one (ps_ret (pv 2)))))), ?_⟩
  refine st_seq (st_set (Val.hh (use_meth (val_var rfl) W.h_ex no_Exports_handle_of (va1 (val_var rfl)) ⟨F, A, m, n, rfl, W, Nat.lt_trans hl (by decide), rfl⟩)) ?_)
  refine st_ifN (ans_eqI (val_var rfl) val_c rfl) (fun h => ?_) (fun h => ?_)
  · have h0 : m.handleOf n = 0 := by
      have := of_decide_eq_true h
      omega
    refine st_seq (st_app_lo W (x := n) (v_Exports_owners T W (val_var rfl)) (val_var rfl) (Nat.lt_trans hl (by decide)) fun H1 W1 => ?_)
    refine st_seq (st_app_lt W1 (x := 2) (v_Exports_states T W1 (val_var rfl)) val_c (by show m.states.length < 100000; omega) fun H2 W2 => ?_)
    refine st_ret (val_len (v_Exports_owners T W2 (val_var rfl)) (SqL.of W2.h_lo)) (k _ _ ?_)
    unfold M.export
    rw [if_pos h0]
    refine ⟨?_, A, ExtE.refl A, W2⟩
    rw [nats_len]
    show V.int (((m.owners ++ [n]).length : Nat) : Int) = _
    rw [List.length_append]
    rfl
  · have h0 : ¬ m.handleOf n = 0 := by
      have := of_decide_eq_false h
      omega
    have hb : 1 ≤ m.handleOf n ∧ m.handleOf n ≤ m.states.length := by
      unfold M.handleOf at h0 ⊢
      cases q : (ones m.owners.length).find? fun (h : Nat) => m.state (h : Int) != 0 && m.owner h == n with
      | none =>
        rw [q] at h0
        exact absurd rfl h0
      | some j =>
        have := mem_ones.mp (List.mem_of_find?_eq_some q)
        show 1 ≤ j ∧ j ≤ m.states.length
        rw [← he]
        exact this
    refine st_seq (st_set_lt W (x := 2) (j := m.handleOf n - 1) val_c (v_Exports_states T W (val_var rfl)) (val_sub (val_var rfl) val_c) (by omega) (by omega) fun H1 W1 => ?_)
    refine st_ret (val_var rfl) (k _ _ ?_)
    unfold M.export
    rw [if_neg h0]
    exact ⟨rfl, A, ExtE.refl A, W1⟩
def pExN (a : Ads) (s : Nat) : Pre := fun vs H post => ∃ F A m, ∃ h : Nat, vs = [.ref A.ex, .int (h : Int)] ∧ WA a F H A m ∧ 1 ≤ h ∧ h ≤ m.states.length ∧ post = Wd a F A .non (m.setState h s)
theorem ok_Exports_retire (T : Txt K mg a) : FnOk P w K mg base CX0 1 a.f_Exports_retire a.d_Exports_retire ["self", "handle"] (Pr (pExN a 1)) := by
  refine T.D_Exports_retire.F.ok sc_Exports_retire (fun vs H Q E h => ?_) (fun cdv A0 outer s H vs Q E hr h => ?_)
  · obtain ⟨_, ⟨F, A, m, n, rfl, W, h1, h2, rfl⟩, _⟩ := h
    rfl
  obtain ⟨_, ⟨F, A, m, n, rfl, W, h1, h2, rfl⟩, k⟩ := h
  refine ⟨_, (pss_one (ps_asg (pe_gv rfl T.k_RETIRED) (pg_sub (pe_fld (pv 0) rfl) (pe_op op_sub (pv 1) pe_int) set_list))), ?_⟩
  refine st_set_lt W (x := 1) (j := n - 1) val_c (v_Exports_states T W (val_var rfl)) (val_sub (val_var rfl) val_c) (by omega) (by omega) fun H1 W1 => ?_
  exact k _ _ ⟨rfl, A, ExtE.refl A, W1⟩
theorem ok_Exports_withdraw (T : Txt K mg a) : FnOk P w K mg base CX0 1 a.f_Exports_withdraw a.d_Exports_withdraw ["self", "handle"] (Pr (pExN a 0)) := by
  refine T.D_Exports_withdraw.F.ok sc_Exports_withdraw (fun vs H Q E h => ?_) (fun cdv A0 outer s H vs Q E hr h => ?_)
  · obtain ⟨_, ⟨F, A, m, n, rfl, W, h1, h2, rfl⟩, _⟩ := h
    rfl
  obtain ⟨_, ⟨F, A, m, n, rfl, W, h1, h2, rfl⟩, k⟩ := h
  refine ⟨_, (pss_one (ps_asg (pe_gv rfl T.k_REMOVED) (pg_sub (pe_fld (pv 0) rfl) (pe_op op_sub (pv 1) pe_int) set_list))), ?_⟩
  refine st_set_lt W (x := 0) (j := n - 1) val_c (v_Exports_states T W (val_var rfl)) (val_sub (val_var rfl) val_c) (by omega) (by omega) fun H1 W1 => ?_
  exact k _ _ ⟨rfl, A, ExtE.refl A, W1⟩
theorem dec_beq {x y : Nat} {z : Int} (e : (y : Int) = z) : decide ((x : Int) = z) = (x == y) := by
  subst e
  by_cases q : x = y
  · rw [q]
    simp
  · have a1 : (x == y) = false := by simpa using q
    rw [a1, decide_eq_false (by omega)]
theorem ok_Exports_active (T : Txt K mg a) : FnOk P w K mg base CX0 2 a.f_Exports_active a.d_Exports_active ["self"] (Pr (pNew a Ad.ex (fun m => m.states.length < 100000) M.active)) := by
  have G_Exports_state := ok_Exports_state (P := P) (w := w) (base := base) T
  refine T.D_Exports_active.F.ok sc_Exports_active (fun vs H Q E h => ?_) (fun cdv A0 outer s H vs Q E hr h => ?_)
  · obtain ⟨_, ⟨F, A, m, rfl, W, hl, rfl⟩, _⟩ := h
    rfl
  obtain ⟨_, ⟨F, A, m, rfl, W, hl, rfl⟩, k⟩ := h
  refine ⟨_, (pss_one (ps_ret (pe_lc (own := [("handle", 1)]) (g := gName 1) rfl sc_Exports_active.nd (pi_range2 (by rfl) T.n_range (pa_cons pe_int (pa_cons (pe_op op_add (pe_callB call_len_seq (by rfl) T.n_len PySem.boot_len (pa_cons (pe_fld (pv 0) rfl) pa_nil)) pe_int) pa_nil))) (blkOk_by (N := N_Exports_active) (sc := defScope s_Exports_active) (by decide +kernel)) (fun _ _ _ _ _ => pg_name (i := 1) sc_Exports_active.nd rfl (Or.inl rfl)) (fun _ _ _ _ _ => pts_one (pt_cmpR op_eq (pe_meth (pv 0) T.c_Exports.cl T.D_Exports_state.m G_Exports_state (hr.mono (by decide)) T.D_Exports_state.b .nil pass0 (pa_cons (pv 1) pa_nil)) (pe_gv rfl T.k_ACTIVE) (nomark _))) (fun _ _ _ _ _ => (pv 1))))), ?_⟩
  refine st_retH (lc_filter (nn := m.states.length) (pr := fun (h : Nat) => m.state (h : Int) == 2) (va2 val_c (val_add (val_len (v_Exports_states T W (val_var rfl)) (SqL.of W.h_lt)) val_c)) (by rw [nats_len]) hl (by show 1 < 2; decide) (fun i D hi hD acc => ?_) (fun x => rfl)) fun v H' h => k _ _ h
  have W' := W.push (o := .lst acc) hD
  exact ans_eqI (Val.hh (use_meth (val_var rfl) W'.h_ex no_Exports_state (va1 (val_var rfl)) ⟨_, A, m, _, rfl, W', rfl⟩)) val_c (dec_beq (y := 2) rfl)

/-! ### Imports -/
def pImN (a : Ads) (f : M → Nat → M) : Pre := fun vs H post => ∃ F A m, ∃ r : Nat, vs = [.ref A.im, .int (r : Int)] ∧ WA a F H A m ∧ m.imported.length = 100 ∧ m.pinned.length = 100 ∧ r < 100 ∧ post = Wd a F A .non (f m r)
theorem ok_Imports_receive (T : Txt K mg a) : FnOk P w K mg base CX0 1 a.f_Imports_receive a.d_Imports_receive ["self", "reference"] (Pr (pImN a M.receive)) := by
  refine T.D_Imports_receive.F.ok sc_Imports_receive (fun vs H Q E h => ?_) (fun cdv A0 outer s H vs Q E hr h => ?_)
  · obtain ⟨_, ⟨F, A, m, r, rfl, W, l1, l2, hr, rfl⟩, _⟩ := h
    rfl
  obtain ⟨_, ⟨F, A, m, r, rfl, W, l1, l2, hr, rfl⟩, k⟩ := h
  refine ⟨_, (pss_one (ps_asg pe_bl (pg_sub (pe_fld (pv 0) rfl) (pv 1) set_list))), ?_⟩
  refine st_set_li W (x := true) (j := r) val_c (v_Imports_imported T W (val_var rfl)) (val_var rfl) rfl (by rw [l1]; exact hr) fun H1 W1 => ?_
  exact k _ _ ⟨rfl, A, ExtE.refl A, W1⟩
theorem ok_Imports_pin (T : Txt K mg a) : FnOk P w K mg base CX0 1 a.f_Imports_pin a.d_Imports_pin ["self", "reference"] (Pr (pImN a (fun m r => m.pin r true))) := by
  refine T.D_Imports_pin.F.ok sc_Imports_pin (fun vs H Q E h => ?_) (fun cdv A0 outer s H vs Q E hr h => ?_)
  · obtain ⟨_, ⟨F, A, m, r, rfl, W, l1, l2, hr2, rfl⟩, _⟩ := h
    rfl
  obtain ⟨_, ⟨F, A, m, r, rfl, W, l1, l2, hr2, rfl⟩, k⟩ := h
  refine ⟨_, (pss_one (ps_asg pe_bl (pg_sub (pe_fld (pv 0) rfl) (pv 1) set_list))), ?_⟩
  refine st_set_lp W (x := true) (j := r) val_c (v_Imports_pinned T W (val_var rfl)) (val_var rfl) rfl (by rw [l2]; exact hr2) fun H1 W1 => ?_
  exact k _ _ ⟨rfl, A, ExtE.refl A, W1⟩
theorem ok_Imports_unpin (T : Txt K mg a) : FnOk P w K mg base CX0 1 a.f_Imports_unpin a.d_Imports_unpin ["self", "reference"] (Pr (pImN a (fun m r => m.pin r false))) := by
  refine T.D_Imports_unpin.F.ok sc_Imports_unpin (fun vs H Q E h => ?_) (fun cdv A0 outer s H vs Q E hr h => ?_)
  · obtain ⟨_, ⟨F, A, m, r, rfl, W, l1, l2, hr2, rfl⟩, _⟩ := h
    rfl
  obtain ⟨_, ⟨F, A, m, r, rfl, W, l1, l2, hr2, rfl⟩, k⟩ := h
  refine ⟨_, (pss_one (ps_asg pe_bl (pg_sub (pe_fld (pv 0) rfl) (pv 1) set_list))), ?_⟩
  refine st_set_lp W (x := false) (j := r) val_c (v_Imports_pinned T W (val_var rfl)) (val_var rfl) rfl (by rw [l2]; exact hr2) fun H1 W1 => ?_
  exact k _ _ ⟨rfl, A, ExtE.refl A, W1⟩
def pIsPinned (a : Ads) : Pre := fun vs H post => ∃ F A m, ∃ x : Int, vs = [.ref A.im, .int x] ∧ WA a F H A m ∧ m.pinned.length = 100 ∧ post = Ret (.bl (m.pinnedI x)) H
theorem ok_Imports_is_pinned (T : Txt K mg a) : FnOk P w K mg base CX0 1 a.f_Imports_is_pinned a.d_Imports_is_pinned ["self", "number"] (Pr (pIsPinned a)) := by
  refine T.D_Imports_is_pinned.F.ok sc_Imports_is_pinned (fun vs H Q E h => ?_) (fun cdv A0 outer s H vs Q E hr h => ?_)
  · obtain ⟨_, ⟨F, A, m, x, rfl, W, l2, rfl⟩, _⟩ := h
    rfl
  obtain ⟨_, ⟨F, A, m, x, rfl, W, l2, rfl⟩, k⟩ := h
  refine ⟨_, (pss_cons (ps_if (PW.pt (pw_or (pt_cmpR op_lt (pv 1) pe_int (nomark _)) (pw_or1 (pt_cmpR op_gt (pv 1) (pe_gv rfl T.k_MOST_REFERENCE) (nomark _))))) (pss_one (ps_ret pe_bl)) pss_nil) (pss_one (ps_ret (pe_ix ix_list (pe_fld (pv 0) rfl) (pv 1) (fun _ _ => rfl))))), ?_⟩
  refine st_ifN (b := decide (x < 1 ∨ x > 99)) (Ans.to (ans_orL (ans_b0 (val_var rfl) val_c rfl) fun _ => ans_b0 (val_var rfl) val_c rfl) (Bool.decide_or _ _).symm) (fun h => ?_) (fun h => ?_)
  · refine st_ret val_c (k _ _ ⟨?_, rfl⟩)
    unfold M.pinnedI
    rw [if_pos (of_decide_eq_true h)]
  · have hn := of_decide_eq_false h
    refine st_ret (val_ix (j := x.toNat) (v_Imports_pinned T W (val_var rfl)) (SqL.of W.h_lp) (val_var rfl) (by omega) (bools_get (by omega))) (k _ _ ⟨?_, rfl⟩)
    unfold M.pinnedI
    rw [if_neg hn]
    rfl
theorem ok_Imports_all_imported (T : Txt K mg a) : FnOk P w K mg base CX0 1 a.f_Imports_all_imported a.d_Imports_all_imported ["self"] (Pr (pNew a Ad.im (fun m => m.imported.length = 100) M.allImported)) := by
  refine T.D_Imports_all_imported.F.ok sc_Imports_all_imported (fun vs H Q E h => ?_) (fun cdv A0 outer s H vs Q E hr h => ?_)
  · obtain ⟨_, ⟨F, A, m, rfl, W, hl, rfl⟩, _⟩ := h
    rfl
  obtain ⟨_, ⟨F, A, m, rfl, W, hl, rfl⟩, k⟩ := h
  refine ⟨_, (pss_one (ps_ret (pe_lc (own := [("reference", 1)]) (g := gName 1) (tt := tB (tOp (rIxL K) (tFld K (tVar 0) "imported") (tVar 1))) rfl sc_Imports_all_imported.nd (pi_range2 (by rfl) T.n_range (pa_cons pe_int (pa_cons (pe_op op_add (pe_gv rfl T.k_MOST_REFERENCE) pe_int) pa_nil))) (blkOk_by (N := N_Imports_all_imported) (sc := defScope s_Imports_all_imported) (by decide +kernel)) (fun _ _ _ _ _ => pg_name (i := 1) sc_Imports_all_imported.nd rfl (Or.inl rfl)) (fun _ _ _ _ _ => pts_one (pt_val (pe_ix ix_list (pe_fld (pv 0) rfl) (pv 1) (fun _ _ => rfl)))) (fun _ _ _ _ _ => (pv 1))))), ?_⟩
  refine st_retH (lc_filter (nn := 99) (pr := fun r => m.isImported r) (va2 val_c (val_add val_c val_c)) rfl (by decide) (by show 1 < 2; decide) (fun i D hi hD acc => ?_) (fun x => rfl)) fun v H' h => k _ _ h
  have W' := W.push (o := .lst acc) hD
  exact ans_val (val_ix (j := i + 1) (v_Imports_imported T W' (val_var rfl)) (SqL.of W'.h_li) (val_var rfl) rfl (bools_get (by omega)))
end
end Gw

set_option Elab.async false
set_option maxRecDepth 100000
set_option maxHeartbeats 4000000
set_option linter.all false
/-! What the classes' __init__ make; Heap.create; give_up; report. -/
namespace Gw
open PySem PySem.Spec PyProof.Rows L2 Gc

/-! ### frames that grow -/
section
variable {G H H' : Hp} {x p : Addr} {i i' o : HO} {xs : List V} {vs : List Va}
theorem _root_.L2.Same.push1 (S : Same (upd G x i) H) (hp : H p = none) : p ≠ x ∧ G p = none ∧ Same (upd (upd G p o) x i) (upd H p o) := by
  have h1 := S.free hp
  have ne : p ≠ x := fun e => by
    rw [e, upd_same] at h1
    cases h1
  rw [upd_ne ne] at h1
  refine ⟨ne, h1, fun b u q => ?_⟩
  by_cases e1 : b = p
  · rw [e1, upd_ne ne, upd_same] at q
    rw [e1, upd_same]
    exact q
  · rw [upd_ne e1]
    refine S b u ?_
    by_cases e2 : b = x
    · rw [e2, upd_same] at q ⊢
      exact q
    · rw [upd_ne e2, upd_ne e1] at q
      rw [upd_ne e2]
      exact q
theorem _root_.L2.Same.poke1 (S : Same (upd G x i) H) : Same (upd G x i') (upd H x i') := fun b u q => by
  by_cases e : b = x
  · rw [e, upd_same] at q ⊢
    exact q
  · rw [upd_ne e] at q ⊢
    exact S b u (by rw [upd_ne e]; exact q)
theorem _root_.L2.Same.get1 (S : Same (upd G x i) H) : H x = some i := S _ _ upd_same
theorem _root_.L2.Same.new1 (S : Same G H) (hp : H p = none) : G p = none ∧ Same (upd G p o) (upd H p o) := ⟨S.free hp, fun b u q => by
  by_cases e : b = p
  · rw [e, upd_same] at q ⊢
    exact q
  · rw [upd_ne e] at q ⊢
    exact S b u q⟩
def TK (H H' : Hp) : Prop := ∀ b ys, H b = some (.tup ys) → H' b = some (.tup ys)
theorem TK.refl : TK H H := fun _ _ q => q
theorem TK.trans {H1 H2 H3 : Hp} (a : TK H1 H2) (b : TK H2 H3) : TK H1 H3 := fun c ys q => b c ys (a c ys q)
theorem TK.upd (h : ∀ ys, H p ≠ some (.tup ys)) : TK H (upd H p o) := fun b ys q => by
  rw [upd_ne (fun e : b = p => h ys (by rw [← e]; exact q))]
  exact q
theorem TK.new (h : H p = none) : TK H (L2.upd H p o) := TK.upd fun ys q => by rw [h] at q; cases q
theorem TK.ins {C dx : Addr} {fs : List (Str × V)} (h : H p = some (.ins C dx fs)) : TK H (L2.upd H p o) := TK.upd fun ys q => by rw [h] at q; cases q
theorem TK.lst {ys : List V} (h : H p = some (.lst ys)) : TK H (L2.upd H p o) := TK.upd fun ys q => by rw [h] at q; cases q
theorem VLs.tk (h : VLs H xs vs) (t : TK H H') : VLs H' xs vs := ⟨h.1, fun j v q => let ⟨y, e, p, e2, z⟩ := h.2 j v q; ⟨y, e, p, e2, t _ _ z⟩⟩
theorem _root_.L2.Same.tk (s : Same H H') : TK H H' := fun b ys q => s _ _ q
end
section
variable {a : Ads} {F H : Hp} {A : Ad} {m : M} {x dx c C : Addr} {xs : List V}
theorem WA.make (W : WA a F H A m) (nx : H x = none) (nd : H dx = none) (ne : dx ≠ x) : WA a (upd F x (.ins C dx [])) (upd (upd H dx (.own x)) x (.ins C dx [])) A m :=
  WA.push (W.ext fun b o q => by rw [upd_ne (ne_of_none q nd)]; exact q) (by rw [upd_ne ne.symm]; exact nx)
/-- the addresses with one entry more -/
def addE (A : Ad) (n : Nat) (c x dx : Addr) (xs : List V) : Ad := { A with
  en := fun i => if i = n then x else A.en i
  ce := fun i => if i = n then c else A.ce i
  dx := fun t => if t = .en n then dx else A.dx t
  cv := fun i => if i = n then xs else A.cv i }
theorem ents_snoc {l : List Ent} {e : Ent} {i : Nat} : (l ++ [e])[i]? = if i = l.length then some e else l[i]? := by
  by_cases h : i = l.length
  · rw [if_pos h, h, getElem?_new]
  · rw [if_neg h]
    by_cases q : i < l.length
    · rw [List.getElem?_append_left q]
    · rw [List.getElem?_eq_none (by simp; omega), List.getElem?_eq_none (by omega)]
theorem WA.addEntry {size code : Nat} (W : WA a (upd (upd F c (.lst xs)) x (.ins a.cEntry dx (F_Entry (.ref c) (.int (code : Int)) (.bl true)))) H A m) (hc : F c = none) (hx : F x = none) (hne : c ≠ x) (hv : VLs H xs (List.replicate size .nothing)) :
    WA a F (upd H A.le (.lst (refs A m.ents.length ++ [.ref x]))) (addE A m.ents.length c x dx xs) (m.create size code) := by
  have nt : ∀ ys, H A.le ≠ some (.tup ys) := fun ys q => by
    rw [W.h_le] at q
    cases q
  have R1 := W.rep.upd (t := .le) (o' := .lst (refs A m.ents.length ++ [.ref x])) rfl (fun u => rfl)
  have hx' : (upd F c (.lst xs)) x = none := by
    rw [upd_ne hne.symm]
    exact hx
  have R2 := R1.adopt (t := .en m.ents.length) (a' := fun u => if u = .en m.ents.length then x else A.at u) hx' (fun u => rfl) (fun u => rfl)
  have R3 := R2.adopt (t := .ce m.ents.length) (a' := (addE A m.ents.length c x dx xs).at) (c' := cont a (addE A m.ents.length c x dx xs) (m.create size code)) hc (fun u => ?_) (fun u => ?_)
  · refine ⟨R3, W.sv.upd nt, fun i e hi => ?_⟩
    have hi' : (m.ents ++ [(⟨List.replicate size .nothing, code, true⟩ : Ent)])[i]? = some e := hi
    rw [ents_snoc] at hi'
    show VLs _ (if i = m.ents.length then xs else A.cv i) _
    by_cases q : i = m.ents.length
    · rw [if_pos q] at hi' ⊢
      cases hi'
      exact hv.upd nt
    · rw [if_neg q] at hi' ⊢
      exact (W.cv i e hi').upd nt
  · cases u with
    | en i =>
      show (if i = m.ents.length then x else A.en i) = if Tag.en i = Tag.ce m.ents.length then c else if Tag.en i = Tag.en m.ents.length then x else A.en i
      rw [if_neg (show ¬ Tag.en i = Tag.ce m.ents.length from fun z => nomatch z)]
      by_cases q : i = m.ents.length
      · rw [if_pos q, if_pos (by rw [q])]
      · rw [if_neg q, if_neg (fun z => q (Tag.en.inj z))]
    | ce i =>
      show (if i = m.ents.length then c else A.ce i) = if Tag.ce i = Tag.ce m.ents.length then c else if Tag.ce i = Tag.en m.ents.length then x else A.ce i
      by_cases q : i = m.ents.length
      · rw [if_pos q, if_pos (by rw [q])]
      · rw [if_neg q, if_neg (fun z => q (Tag.ce.inj z)), if_neg (show ¬ Tag.ce i = Tag.en m.ents.length from fun z => nomatch z)]
    | _ => rfl
  · cases u with
    | le =>
      show some (HO.lst (refs (addE A m.ents.length c x dx xs) (m.ents ++ [(⟨List.replicate size .nothing, code, true⟩ : Ent)]).length)) = some (.lst (refs A m.ents.length ++ [.ref x]))
      have e : refs (addE A m.ents.length c x dx xs) (m.ents.length + 1) = refs A m.ents.length ++ [.ref x] := by
        unfold refs
        rw [List.range_succ, List.map_append]
        congr 1
        · refine List.map_congr_left fun i hi => ?_
          have := List.mem_range.mp hi
          show V.ref (if i = m.ents.length then x else A.en i) = _
          rw [if_neg (by omega)]
        · show [V.ref (if m.ents.length = m.ents.length then x else A.en m.ents.length)] = _
          rw [if_pos rfl]
      rw [List.length_append, List.length_singleton, e]
    | en i =>
      show ((m.ents ++ [(⟨List.replicate size .nothing, code, true⟩ : Ent)])[i]?).map (fun e => HO.ins a.cEntry (if Tag.en i = Tag.en m.ents.length then dx else A.dx (.en i)) (F_Entry (.ref (if i = m.ents.length then c else A.ce i)) (.int (e.code : Int)) (.bl e.there))) =
        if Tag.en i = Tag.ce m.ents.length then _ else if Tag.en i = Tag.en m.ents.length then _ else (m.ents[i]?).map _
      rw [ents_snoc, if_neg (fun z => nomatch z : ¬ Tag.en i = Tag.ce m.ents.length)]
      by_cases q : i = m.ents.length
      · subst q
        rw [if_pos rfl, if_pos rfl, if_pos rfl, if_pos rfl]
        rfl
      · rw [if_neg q, if_neg (fun z => q (Tag.en.inj z)), if_neg (fun z => q (Tag.en.inj z)), if_neg q]
    | ce i =>
      show ((m.ents ++ [(⟨List.replicate size .nothing, code, true⟩ : Ent)])[i]?).map (fun _ => HO.lst (if i = m.ents.length then xs else A.cv i)) =
        if Tag.ce i = Tag.ce m.ents.length then some (.lst xs) else if Tag.ce i = Tag.en m.ents.length then _ else (m.ents[i]?).map _
      rw [ents_snoc]
      by_cases q : i = m.ents.length
      · subst q
        rw [if_pos rfl, if_pos rfl, if_pos rfl]
        rfl
      · rw [if_neg q, if_neg (fun z => q (Tag.ce.inj z)), if_neg q, if_neg (show ¬ Tag.ce i = Tag.en m.ents.length from fun z => nomatch z)]
    | _ => rfl
end
section
variable {P : Program} {w : World} {K : PySem.W.Frag} {mg : Str → Option Value} {base : Heap} {a : Ads}
theorem use_make {σ : Sl} {H : Hp} {C : Addr} {E : XK} {targs : TA} {vs : List V} {pre : Pre} {post : Post} (ha : ValA targs σ H vs)
    (hp : ∀ x dx, H x = none → H dx = none → dx ≠ x → ∃ po, pre (.ref x :: vs) (upd (upd H dx (.own x)) x (.ins C dx [])) po ∧ ∀ v H2, po v H2 → v = .non ∧ post (.ref x) H2) : ValH (tMake C (Pr pre) [] E targs) σ H post :=
  fun Q q => ha _ fun x dx nx nd ne => by
    obtain ⟨po, h1, h2⟩ := hp x dx nx nd ne
    rw [List.append_nil]
    exact ⟨po, h1, fun v H2 h => ⟨(h2 v H2 h).1, q _ _ (h2 v H2 h).2⟩⟩

def pEntryInit (a : Ads) : Pre := fun vs H post => ∃ F A m x dx, ∃ size code : Nat, vs = [.ref x, .int (size : Int), .int (code : Int)] ∧ WA a (upd F x (.ins a.cEntry dx [])) H A m ∧ size < 1000 ∧
  post = fun r H' => r = .non ∧ ∃ c xs, c ≠ x ∧ F c = none ∧ WA a (upd (upd F c (.lst xs)) x (.ins a.cEntry dx (F_Entry (.ref c) (.int (code : Int)) (.bl true)))) H' A m ∧ VLs H' xs (List.replicate size .nothing)
theorem ok_Entry_init (T : Txt K mg a) : FnOk P w K mg base CX0 1 a.f_Entry_init a.d_Entry_init ["self", "size", "code"] (Pr (pEntryInit a)) := by
  refine T.D_Entry_init.F.ok sc_Entry_init (fun vs H Q E h => ?_) (fun cdv A0 outer s H vs Q E hr h => ?_)
  · obtain ⟨_, ⟨F, A, m, x, dx, size, code, rfl, W, hs, rfl⟩, _⟩ := h
    rfl
  obtain ⟨_, ⟨F, A, m, x, dx, size, code, rfl, W, hs, rfl⟩, k⟩ := h
  refine ⟨_, (pss_cons (ps_fld (pv 0) (pe_lc (own := [("k", 3)]) (g := gName 3) (tt := tYes) rfl sc_Entry_init.nd (pi_range1 (by rfl) T.n_range (pa_cons (pv 1) pa_nil)) (blkOk_by (N := N_Entry_init) (sc := defScope s_Entry_init) (by decide +kernel)) (fun _ _ _ _ _ => pg_name (i := 3) sc_Entry_init.nd rfl (Or.inl rfl)) (fun _ _ _ _ _ => pts_nil) (fun _ _ _ _ _ => (pe_tup (pa_cons (pe_gv rfl T.k_NOTHING) (pa_cons pe_int pa_nil))))) rfl) (pss_cons (ps_fld (pv 0) (pv 2) rfl) (pss_one (ps_fld (pv 0) pe_bl rfl)))), ?_⟩
  refine st_seq (st_fldH (p := x) (C := a.cEntry) (dx := dx) (fs := []) (lc_map (nn := size) (va1 (val_var rfl)) rfl hs (fun D i H' => ∃ xs, WA a (upd (upd F x (.ins a.cEntry dx [])) D (.lst xs)) H' A m ∧ VLs H' xs (List.replicate i .nothing)) (fun D hD => ⟨[], W.push hD, VLs.nil⟩) (fun D i H' hi h => ?_) (fun x => rfl)) fun y H1 h => ?_)
  · obtain ⟨xs, W', hx⟩ := h
    refine ⟨by show 2 ≤ sizeLine; decide, fun p hp => ?_⟩
    have hD := W'.get
    have sm : Same H' (upd H' p (.tup [.int 0, .int 0])) := fun b o q => by
      rw [upd_ne (ne_of_none q hp)]
      exact q
    refine ⟨xs, sm _ _ hD, ?_, xs ++ [.ref p], (W'.ext sm).poke (fun ys q => by cases q), ?_⟩
    · rw [hx.1, List.length_replicate]
      exact Nat.lt_of_lt_of_le hi (Nat.le_trans (Nat.le_of_lt hs) (by decide))
    · rw [List.replicate_succ']
      exact VLs.upd ((hx.ext sm).snoc ⟨p, rfl, upd_same⟩) fun ys q => by
        rw [sm _ _ hD] at q
        cases q
  · obtain ⟨D, hD, rfl, xs, W1, hx⟩ := h
    have ne : x ≠ D := ne_of_none W.get hD
    have hF : F D = none := by
      have := W.free hD
      rw [upd_ne ne.symm] at this
      exact this
    rw [upd_comm ne] at W1
    refine ⟨val_var rfl, W1.get, T.c_Entry.cl, T.na_Entry_cells, by show 0 < 1000; decide, ?_⟩
    rw [new_Entry_cells]
    have W2 := W1.poke (o' := .ins a.cEntry dx [("cells", .ref D)]) (fun ys q => by cases q)
    have hx2 := hx.upd (p := x) (o := .ins a.cEntry dx [("cells", .ref D)]) (fun ys q => by rw [W1.get] at q; cases q)
    refine st_seq (st_fld (val_var rfl) (val_var rfl) W2.get T.c_Entry.cl T.na_Entry_code (by show 1 < 1000; decide) ?_)
    rw [new_Entry_code]
    have W3 := W2.poke (o' := .ins a.cEntry dx [("cells", .ref D), ("code", .int (code : Int))]) (fun ys q => by cases q)
    have hx3 := hx2.upd (p := x) (o := .ins a.cEntry dx [("cells", .ref D), ("code", .int (code : Int))]) (fun ys q => by rw [W2.get] at q; cases q)
    refine st_fld val_c (val_var rfl) W3.get T.c_Entry.cl T.na_Entry_there (by show 2 < 1000; decide) ?_
    rw [new_Entry_there]
    exact k _ _ ⟨rfl, D, xs, ne.symm, hF, W3.poke (fun ys q => by cases q), hx3.upd (fun ys q => by rw [W3.get] at q; cases q)⟩
/-- behind: the world holds m', an entry may have been added -/
def WdE (a : Ads) (F : Hp) (A : Ad) (v : V) (m' : M) : Post := fun r H' => r = v ∧ ∃ A', Ext A A' ∧ WA a F H' A' m'
def pCreate (a : Ads) : Pre := fun vs H post => ∃ F A m, ∃ size code : Nat, vs = [.ref A.hp, .int (size : Int), .int (code : Int)] ∧ WA a F H A m ∧ size < 1000 ∧ m.ents.length < 100000 ∧ post = WdE a F A (.int ((m.ents.length + 1 : Nat) : Int)) (m.create size code)
theorem ok_Heap_create (T : Txt K mg a) : FnOk P w K mg base CX0 3 a.f_Heap_create a.d_Heap_create ["self", "size", "code"] (Pr (pCreate a)) := by
  have G_Entry_init := ok_Entry_init (P := P) (w := w) (base := base) T
  refine T.D_Heap_create.F.ok sc_Heap_create (fun vs H Q E h => ?_) (fun cdv A0 outer s H vs Q E hr h => ?_)
  · obtain ⟨_, ⟨F, A, m, size, code, rfl, W, hs, hl, rfl⟩, _⟩ := h
    rfl
  obtain ⟨_, ⟨F, A, m, size, code, rfl, W, hs, hl, rfl⟩, k⟩ := h
  refine ⟨_, (pss_cons (ps_expr (pe_bm PySem.F.plainAttrs_list PySem.F.slot_list_append PySem.F.type_list_append mt_append (pe_fld (pv 0) rfl) (pa_cons (pe_make (T.mk_Entry) G_Entry_init (hr.mono (by decide)) rfl T.c_Entry.g T.D_Entry_init.b .nil pass0 (pa_cons (pv 1) (pa_cons (pv 2) pa_nil))) pa_nil))) (pss_one (ps_ret (pe_callB call_len_seq (by rfl) T.n_len PySem.boot_len (pa_cons (pe_fld (pv 0) rfl) pa_nil))))), ?_⟩
  refine st_seq (st_appH (v_Heap_entries T W (val_var rfl)) W.h_le (use_make (post := fun r H' => ∃ x dx c xs, r = .ref x ∧ c ≠ x ∧ F c = none ∧ F x = none ∧ WA a (upd (upd F c (.lst xs)) x (.ins a.cEntry dx (F_Entry (.ref c) (.int (code : Int)) (.bl true)))) H' A m ∧ VLs H' xs (List.replicate size .nothing)) (va2 (val_var rfl) (val_var rfl))
    (fun x dx nx nd ne => ⟨_, ⟨F, A, m, x, dx, size, code, rfl, W.make nx nd ne, hs, rfl⟩, fun v H2 ⟨e, c, xs, h1, h2, h3, h4⟩ => ⟨e, x, dx, c, xs, rfl, h1, h2, W.free nx, h3, h4⟩⟩)) fun r H1 h => ?_)
  obtain ⟨x, dx, c, xs, rfl, h1, h2, h3, W1, hv⟩ := h
  refine ⟨_, W1.h_le, by rw [refs_len]; exact Nat.lt_of_lt_of_le hl (by decide), ?_⟩
  have W2 := W1.addEntry h2 h3 h1 hv
  refine st_ret (val_len (v_Heap_entries T W2 (val_var rfl)) (SqL.of W2.h_le)) (k _ _ ⟨?_, addE A m.ents.length c x dx xs, ⟨rfl, rfl, rfl, rfl, rfl⟩, W2⟩)
  rw [refs_len]
  show V.int (((m.ents ++ [_]).length : Nat) : Int) = _
  rw [List.length_append]
  rfl

/-! ### the lists of Exports, Cycle, Imports, Heap at the start -/
def pIni2 (C : Addr) (fs : V → V → List (Str × V)) (o1 o2 : HO) : Pre := fun vs H post => ∃ G x dx, vs = [.ref x] ∧ Same (upd G x (.ins C dx [])) H ∧
  post = fun r H' => r = .non ∧ TK H H' ∧ ∃ p q, (p ≠ x ∧ G p = none) ∧ (q ≠ x ∧ (upd G p o1) q = none) ∧ Same (upd (upd (upd G p o1) q o2) x (.ins C dx (fs (.ref p) (.ref q)))) H'
theorem ok_Exports_init (T : Txt K mg a) : FnOk P w K mg base CX0 1 a.f_Exports_init a.d_Exports_init ["self"] (Pr (pIni2 a.cExports F_Exports (.lst []) (.lst []))) := by
  refine T.D_Exports_init.F.ok sc_Exports_init (fun vs H Q E h => ?_) (fun cdv A0 outer s H vs Q E hr h => ?_)
  · obtain ⟨_, ⟨G, x, dx, rfl, S, rfl⟩, _⟩ := h
    rfl
  obtain ⟨_, ⟨G, x, dx, rfl, S, rfl⟩, k⟩ := h
  refine ⟨_, (pss_cons (ps_fld (pv 0) (pe_lst pa_nil) rfl) (pss_one (ps_fld (pv 0) (pe_lst pa_nil) rfl))), ?_⟩
  refine st_seq (st_fldH (p := x) (C := a.cExports) (dx := dx) (fs := []) (valh_lst va_nil (by decide)) fun y H1 h => ?_)
  obtain ⟨p, hp, rfl, rfl⟩ := h
  obtain ⟨n1, n2, S1⟩ := S.push1 (o := .lst []) hp
  refine ⟨val_var rfl, S1.get1, T.c_Exports.cl, T.na_Exports_owners, by show 0 < 1000; decide, ?_⟩
  rw [new_Exports_owners]
  have S2 := S1.poke1 (i' := .ins a.cExports dx [("owners", .ref p)])
  refine st_fldH (p := x) (C := a.cExports) (dx := dx) (fs := [("owners", .ref p)]) (valh_lst va_nil (by decide)) fun y H3 h => ?_
  obtain ⟨q, hq, rfl, rfl⟩ := h
  obtain ⟨n3, n4, S3⟩ := S2.push1 (o := .lst []) hq
  refine ⟨val_var rfl, S3.get1, T.c_Exports.cl, T.na_Exports_states, by show 1 < 1000; decide, ?_⟩
  rw [new_Exports_states]
  exact k _ _ ⟨rfl, (((TK.new hp).trans (TK.ins S1.get1)).trans (TK.new hq)).trans (TK.ins S3.get1), p, q, ⟨n1, n2⟩, ⟨n3, n4⟩, S3.poke1⟩
def falses : HO := .lst (bools (List.replicate 100 false))
/-- [False for k in range(n)] -/
theorem valh_falses {σ : Sl} {H : Hp} {j : Nat} {n : Int} {nn : Nat} {ta' : TA} (h : ValA ta' σ H [.int n]) (h1 : n = (nn : Int)) (h2 : nn < 1000) (hw : ∀ x : Option V, wipe ((wipe σ [j]).set j x) [j] = wipe σ [j]) :
    ValH (tLc (iRng1 ta') (gName j) tYes (tC (.bl false)) [j]) σ H (NewL (bools (List.replicate nn false)) H) := by
  refine ValH.mono (lc_map (nn := nn) h h1 h2 (fun D i H' => H' = upd H D (.lst (bools (List.replicate i false)))) (fun D hD => rfl) (fun D i H' hi e => ?_) hw) fun r H' ⟨D, hD, e1, e2⟩ => ⟨D, hD, e1, e2⟩
  subst e
  refine ⟨_, upd_same, by rw [bools_len, List.length_replicate]; exact Nat.lt_of_lt_of_le hi (Nat.le_trans (Nat.le_of_lt h2) (by decide)), ?_⟩
  rw [upd_upd, List.replicate_succ']
  unfold bools
  rw [List.map_append]
  rfl
theorem ok_Imports_init (T : Txt K mg a) : FnOk P w K mg base CX0 1 a.f_Imports_init a.d_Imports_init ["self"] (Pr (pIni2 a.cImports F_Imports falses falses)) := by
  refine T.D_Imports_init.F.ok sc_Imports_init (fun vs H Q E h => ?_) (fun cdv A0 outer s H vs Q E hr h => ?_)
  · obtain ⟨_, ⟨G, x, dx, rfl, S, rfl⟩, _⟩ := h
    rfl
  obtain ⟨_, ⟨G, x, dx, rfl, S, rfl⟩, k⟩ := h
  refine ⟨_, (pss_cons (ps_fld (pv 0) (pe_lc (own := [("k", 1)]) (g := gName 1) (tt := tYes) rfl sc_Imports_init.nd (pi_range1 (by rfl) T.n_range (pa_cons (pe_op op_add (pe_gv rfl T.k_MOST_REFERENCE) pe_int) pa_nil)) (blkOk_by (N := N_Imports_init) (sc := defScope s_Imports_init) (by decide +kernel)) (fun _ _ _ _ _ => pg_name (i := 1) sc_Imports_init.nd rfl (Or.inl rfl)) (fun _ _ _ _ _ => pts_nil) (fun _ _ _ _ _ => pe_bl)) rfl) (pss_one (ps_fld (pv 0) (pe_lc (own := [("k", 1)]) (g := gName 1) (tt := tYes) rfl sc_Imports_init.nd (pi_range1 (by rfl) T.n_range (pa_cons (pe_op op_add (pe_gv rfl T.k_MOST_REFERENCE) pe_int) pa_nil)) (blkOk_by (N := N_Imports_init) (sc := defScope s_Imports_init) (by decide +kernel)) (fun _ _ _ _ _ => pg_name (i := 1) sc_Imports_init.nd rfl (Or.inl rfl)) (fun _ _ _ _ _ => pts_nil) (fun _ _ _ _ _ => pe_bl)) rfl))), ?_⟩
  refine st_seq (st_fldH (p := x) (C := a.cImports) (dx := dx) (fs := []) (valh_falses (nn := 100) (va1 (val_add val_c val_c)) rfl (by decide) (fun x => rfl)) fun y H1 h => ?_)
  obtain ⟨p, hp, rfl, rfl⟩ := h
  obtain ⟨n1, n2, S1⟩ := S.push1 (o := falses) hp
  refine ⟨val_var rfl, S1.get1, T.c_Imports.cl, T.na_Imports_imported, by show 0 < 1000; decide, ?_⟩
  rw [new_Imports_imported]
  have S2 := S1.poke1 (i' := .ins a.cImports dx [("imported", .ref p)])
  refine st_fldH (p := x) (C := a.cImports) (dx := dx) (fs := [("imported", .ref p)]) (valh_falses (nn := 100) (va1 (val_add val_c val_c)) rfl (by decide) (fun x => rfl)) fun y H3 h => ?_
  obtain ⟨q, hq, rfl, rfl⟩ := h
  obtain ⟨n3, n4, S3⟩ := S2.push1 (o := falses) hq
  refine ⟨val_var rfl, S3.get1, T.c_Imports.cl, T.na_Imports_pinned, by show 1 < 1000; decide, ?_⟩
  rw [new_Imports_pinned]
  exact k _ _ ⟨rfl, (((TK.new hp).trans (TK.ins S1.get1)).trans (TK.new hq)).trans (TK.ins S3.get1), p, q, ⟨n1, n2⟩, ⟨n3, n4⟩, S3.poke1⟩
def pHeapInit (a : Ads) : Pre := fun vs H post => ∃ G x dx, vs = [.ref x] ∧ Same (upd G x (.ins a.cHeap dx [])) H ∧
  post = fun r H' => r = .non ∧ TK H H' ∧ ∃ p q xs, (p ≠ x ∧ G p = none) ∧ (q ≠ x ∧ (upd G p (.lst xs)) q = none) ∧ Same (upd (upd (upd G p (.lst xs)) q (.lst [])) x (.ins a.cHeap dx (F_Heap (.ref p) (.ref q)))) H' ∧ VLs H' xs (List.replicate 6 .nothing)
theorem ok_Heap_init (T : Txt K mg a) : FnOk P w K mg base CX0 1 a.f_Heap_init a.d_Heap_init ["self"] (Pr (pHeapInit a)) := by
  refine T.D_Heap_init.F.ok sc_Heap_init (fun vs H Q E h => ?_) (fun cdv A0 outer s H vs Q E hr h => ?_)
  · obtain ⟨_, ⟨G, x, dx, rfl, S, rfl⟩, _⟩ := h
    rfl
  obtain ⟨_, ⟨G, x, dx, rfl, S, rfl⟩, k⟩ := h
  refine ⟨_, (pss_cons (ps_fld (pv 0) (pe_lc (own := [("k", 1)]) (g := gName 1) (tt := tYes) rfl sc_Heap_init.nd (pi_range1 (by rfl) T.n_range (pa_cons (pe_gv rfl T.k_SLOTS) pa_nil)) (blkOk_by (N := N_Heap_init) (sc := defScope s_Heap_init) (by decide +kernel)) (fun _ _ _ _ _ => pg_name (i := 1) sc_Heap_init.nd rfl (Or.inl rfl)) (fun _ _ _ _ _ => pts_nil) (fun _ _ _ _ _ => (pe_tup (pa_cons (pe_gv rfl T.k_NOTHING) (pa_cons pe_int pa_nil))))) rfl) (pss_one (ps_fld (pv 0) (pe_lst pa_nil) rfl))), ?_⟩
  refine st_seq (st_fldH (p := x) (C := a.cHeap) (dx := dx) (fs := []) (lc_map (nn := 6) (va1 val_c) rfl (by decide) (fun D i H' => ∃ xs, D ≠ x ∧ G D = none ∧ Same (upd (upd G D (.lst xs)) x (.ins a.cHeap dx [])) H' ∧ VLs H' xs (List.replicate i .nothing) ∧ TK H H')
    (fun D hD => let ⟨n1, n2, S1⟩ := S.push1 (o := .lst []) hD; ⟨[], n1, n2, S1, VLs.nil, TK.new hD⟩) (fun D i H' hi h => ?_) (fun x => rfl)) fun y H1 h => ?_)
  · obtain ⟨xs, n1, n2, S', hx, tk⟩ := h
    refine ⟨by show 2 ≤ sizeLine; decide, fun p hp => ?_⟩
    have hD : H' D = some (.lst xs) := S' _ _ (by rw [upd_ne n1, upd_same])
    have sm : Same H' (upd H' p (.tup [.int 0, .int 0])) := fun b o q => by
      rw [upd_ne (ne_of_none q hp)]
      exact q
    have hD2 := sm _ _ hD
    refine ⟨xs, hD2, ?_, xs ++ [.ref p], n1, n2, ?_, ?_, (tk.trans sm.tk).trans (TK.lst hD2)⟩
    · rw [hx.1, List.length_replicate]
      exact Nat.lt_of_lt_of_le hi (by decide)
    · have S2 := S'.trans sm
      rw [upd_comm n1] at S2 ⊢
      exact S2.poke1
    · rw [List.replicate_succ']
      exact VLs.upd ((hx.ext sm).snoc ⟨p, rfl, upd_same⟩) fun ys q => by
        rw [hD2] at q
        cases q
  · obtain ⟨p, hp, rfl, xs, n1, n2, S1, hx, tk⟩ := h
    refine ⟨val_var rfl, S1.get1, T.c_Heap.cl, T.na_Heap_slots, by show 0 < 1000; decide, ?_⟩
    rw [new_Heap_slots]
    have S2 := S1.poke1 (i' := .ins a.cHeap dx [("slots", .ref p)])
    refine st_fldH (p := x) (C := a.cHeap) (dx := dx) (fs := [("slots", .ref p)]) (valh_lst va_nil (by decide)) fun y H3 h => ?_
    obtain ⟨q, hq, rfl, rfl⟩ := h
    obtain ⟨n3, n4, S3⟩ := S2.push1 (o := .lst []) hq
    refine ⟨val_var rfl, S3.get1, T.c_Heap.cl, T.na_Heap_entries, by show 1 < 1000; decide, ?_⟩
    rw [new_Heap_entries]
    have tk2 := ((TK.ins (o := .ins a.cHeap dx [("slots", .ref p)]) S1.get1).trans (TK.new (o := .lst []) hq)).trans (TK.ins (o := .ins a.cHeap dx (F_Heap (.ref p) (.ref q))) S3.get1)
    exact k _ _ ⟨rfl, tk.trans tk2, p, q, xs, ⟨n1, n2⟩, ⟨n3, n4⟩, S3.poke1, hx.tk tk2⟩
def cy0 (p q s : V) : List (Str × V) := F_Cycle (.bl false) p q (.int 0) (.int 0) s
def pCycleInit (a : Ads) : Pre := fun vs H post => ∃ G x dx, vs = [.ref x] ∧ Same (upd G x (.ins a.cCycle dx [])) H ∧
  post = fun r H' => r = .non ∧ TK H H' ∧ ∃ p q s, (p ≠ x ∧ G p = none) ∧ (q ≠ x ∧ (upd G p (.lst [])) q = none) ∧ (s ≠ x ∧ (upd (upd G p (.lst [])) q (.lst [])) s = none) ∧
    Same (upd (upd (upd (upd G p (.lst [])) q (.lst [])) s (.lst [])) x (.ins a.cCycle dx (cy0 (.ref p) (.ref q) (.ref s)))) H'
theorem ok_Cycle_init (T : Txt K mg a) : FnOk P w K mg base CX0 1 a.f_Cycle_init a.d_Cycle_init ["self"] (Pr (pCycleInit a)) := by
  refine T.D_Cycle_init.F.ok sc_Cycle_init (fun vs H Q E h => ?_) (fun cdv A0 outer s H vs Q E hr h => ?_)
  · obtain ⟨_, ⟨G, x, dx, rfl, S, rfl⟩, _⟩ := h
    rfl
  obtain ⟨_, ⟨G, x, dx, rfl, S, rfl⟩, k⟩ := h
  refine ⟨_, (pss_cons (ps_fld (pv 0) pe_bl rfl) (pss_cons (ps_fld (pv 0) (pe_lst pa_nil) rfl) (pss_cons (ps_fld (pv 0) (pe_lst pa_nil) rfl) (pss_cons (ps_fld (pv 0) pe_int rfl) (pss_cons (ps_fld (pv 0) pe_int rfl) (pss_one (ps_fld (pv 0) (pe_lst pa_nil) rfl))))))), ?_⟩
  refine st_seq (st_fld val_c (val_var rfl) S.get1 T.c_Cycle.cl T.na_Cycle_running (by show 0 < 1000; decide) ?_)
  rw [new_Cycle_running]
  have S0 := S.poke1 (i' := .ins a.cCycle dx [("running", .bl false)])
  refine st_seq (st_fldH (p := x) (C := a.cCycle) (dx := dx) (fs := [("running", .bl false)]) (valh_lst va_nil (by decide)) fun y H1 h => ?_)
  obtain ⟨p, hp, rfl, rfl⟩ := h
  obtain ⟨n1, n2, S1⟩ := S0.push1 (o := .lst []) hp
  refine ⟨val_var rfl, S1.get1, T.c_Cycle.cl, T.na_Cycle_colors, by show 1 < 1000; decide, ?_⟩
  rw [new_Cycle_colors]
  have S2 := S1.poke1 (i' := .ins a.cCycle dx [("running", .bl false), ("colors", .ref p)])
  refine st_seq (st_fldH (p := x) (C := a.cCycle) (dx := dx) (fs := [("running", .bl false), ("colors", .ref p)]) (valh_lst va_nil (by decide)) fun y H3 h => ?_)
  obtain ⟨q, hq, rfl, rfl⟩ := h
  obtain ⟨n3, n4, S3⟩ := S2.push1 (o := .lst []) hq
  refine ⟨val_var rfl, S3.get1, T.c_Cycle.cl, T.na_Cycle_grey, by show 2 < 1000; decide, ?_⟩
  rw [new_Cycle_grey]
  have S4 := S3.poke1 (i' := .ins a.cCycle dx [("running", .bl false), ("colors", .ref p), ("grey", .ref q)])
  refine st_seq (st_fld val_c (val_var rfl) S4.get1 T.c_Cycle.cl T.na_Cycle_examined (by show 3 < 1000; decide) ?_)
  rw [new_Cycle_examined]
  have S5 := S4.poke1 (i' := .ins a.cCycle dx [("running", .bl false), ("colors", .ref p), ("grey", .ref q), ("examined", .int 0)])
  refine st_seq (st_fld val_c (val_var rfl) S5.get1 T.c_Cycle.cl T.na_Cycle_units (by show 4 < 1000; decide) ?_)
  rw [new_Cycle_units]
  have S6 := S5.poke1 (i' := .ins a.cCycle dx [("running", .bl false), ("colors", .ref p), ("grey", .ref q), ("examined", .int 0), ("units", .int 0)])
  refine st_fldH (p := x) (C := a.cCycle) (dx := dx) (fs := [("running", .bl false), ("colors", .ref p), ("grey", .ref q), ("examined", .int 0), ("units", .int 0)]) (valh_lst va_nil (by decide)) fun y H3 h => ?_
  obtain ⟨s, hs, rfl, rfl⟩ := h
  obtain ⟨n5, n6, S7⟩ := S6.push1 (o := .lst []) hs
  refine ⟨val_var rfl, S7.get1, T.c_Cycle.cl, T.na_Cycle_marked, by show 5 < 1000; decide, ?_⟩
  rw [new_Cycle_marked]
  exact k _ _ ⟨rfl, ((((((((TK.ins S.get1).trans (TK.new hp)).trans (TK.ins S1.get1)).trans (TK.new hq)).trans (TK.ins S3.get1)).trans (TK.ins S4.get1)).trans (TK.ins S5.get1)).trans (TK.new hs)).trans (TK.ins S7.get1), p, q, s, ⟨n1, n2⟩, ⟨n3, n4⟩, ⟨n5, n6⟩, S7.poke1⟩

/-! ### the world at the start -/
theorem _root_.L2.Same.make {G H : Hp} {x dx C : Addr} (S : Same G H) (nx : H x = none) (nd : H dx = none) (ne : dx ≠ x) : G x = none ∧ Same (upd G x (.ins C dx [])) (upd (upd H dx (.own x)) x (.ins C dx [])) ∧ TK H (upd (upd H dx (.own x)) x (.ins C dx [])) := by
  have s1 : Same H (upd H dx (.own x)) := fun b o q => by
    rw [upd_ne (ne_of_none q nd)]
    exact q
  have nx' : (upd H dx (.own x)) x = none := by
    rw [upd_ne ne.symm]
    exact nx
  exact ⟨S.free nx, ((S.trans s1).new1 nx').2, s1.tk.trans (TK.new nx')⟩
def seta (a : Tag → Addr) (t : Tag) (p : Addr) : Tag → Addr := fun u => if u = t then p else a u
def setc (c : Tag → Option HO) (t : Tag) (o : HO) : Tag → Option HO := fun u => if u = t then some o else c u
theorem Rep.join1 {F H : Hp} {a : Tag → Addr} {c : Tag → Option HO} {p : Addr} {o : HO} (R : Rep F H a c) (hp : H p = Option.none) (t : Tag) : Rep F (L2.upd H p o) (seta a t p) (setc c t o) :=
  (R.push hp).adopt (R.same.free hp) (fun _ => rfl) (fun _ => rfl)
theorem new_same {H : Hp} {p : Addr} {o : HO} (h : H p = none) : Same H (upd H p o) := fun b u q => by
  rw [upd_ne (ne_of_none q h)]
  exact q
theorem stage2 {F H H2 : Hp} {a : Tag → Addr} {c : Tag → Option HO} {p q h : Addr} {o1 o2 o3 : HO} (R : Rep F H a c) (t1 t2 t3 : Tag) (hh : H h = none) (n1 : p ≠ h) (hp : H p = none) (n2 : q ≠ h) (hq : (upd H p o1) q = none) (S : Same (upd (upd (upd H p o1) q o2) h o3) H2) :
    Rep F H2 (seta (seta (seta a t1 p) t2 q) t3 h) (setc (setc (setc c t1 o1) t2 o2) t3 o3) ∧ Same H H2 := by
  have h3 : (upd (upd H p o1) q o2) h = none := by
    rw [upd_ne n2.symm, upd_ne n1.symm]
    exact hh
  exact ⟨(((R.join1 hp t1).join1 hq t2).join1 h3 t3).ext S, ((new_same hp).trans ((new_same hq).trans (new_same h3))).trans S⟩
theorem stage3 {F H H2 : Hp} {a : Tag → Addr} {c : Tag → Option HO} {p q s h : Addr} {o1 o2 o4 o3 : HO} (R : Rep F H a c) (t1 t2 t4 t3 : Tag) (hh : H h = none) (n1 : p ≠ h) (hp : H p = none) (n2 : q ≠ h) (hq : (upd H p o1) q = none) (n4 : s ≠ h) (hs : (upd (upd H p o1) q o2) s = none)
    (S : Same (upd (upd (upd (upd H p o1) q o2) s o4) h o3) H2) :
    Rep F H2 (seta (seta (seta (seta a t1 p) t2 q) t4 s) t3 h) (setc (setc (setc (setc c t1 o1) t2 o2) t4 o4) t3 o3) ∧ Same H H2 := by
  have h3 : (upd (upd (upd H p o1) q o2) s o4) h = none := by
    rw [upd_ne n4.symm, upd_ne n2.symm, upd_ne n1.symm]
    exact hh
  exact ⟨((((R.join1 hp t1).join1 hq t2).join1 hs t4).join1 h3 t3).ext S, ((new_same hp).trans ((new_same hq).trans ((new_same hs).trans (new_same h3)))).trans S⟩
def pWorldInit (a : Ads) : Pre := fun vs H post => ∃ F x dx, vs = [.ref x] ∧ Same (upd F x (.ins a.cWorld dx [])) H ∧ F x = none ∧ post = fun r H' => r = .non ∧ ∃ A : Ad, A.w = x ∧ WA a F H' A M0
theorem ok_World_init (T : Txt K mg a) : FnOk P w K mg base CX0 3 a.f_World_init a.d_World_init ["self"] (Pr (pWorldInit a)) := by
  have G_Heap_init := ok_Heap_init (P := P) (w := w) (base := base) T
  have G_Exports_init := ok_Exports_init (P := P) (w := w) (base := base) T
  have G_Imports_init := ok_Imports_init (P := P) (w := w) (base := base) T
  have G_Cycle_init := ok_Cycle_init (P := P) (w := w) (base := base) T
  refine T.D_World_init.F.ok sc_World_init (fun vs H Q E h => ?_) (fun cdv A0 outer s H vs Q E hr h => ?_)
  · obtain ⟨_, ⟨F, x, dx, rfl, S, hF, rfl⟩, _⟩ := h
    rfl
  obtain ⟨_, ⟨F, x, dx, rfl, S, hF, rfl⟩, k⟩ := h
  refine ⟨_, (pss_cons (ps_fld (pv 0) (pe_make0 (T.mk_Heap) G_Heap_init (hr.mono (by decide)) rfl T.c_Heap.g T.D_Heap_init.b .nil pass0) rfl) (pss_cons (ps_fld (pv 0) (pe_make0 (T.mk_Exports) G_Exports_init (hr.mono (by decide)) rfl T.c_Exports.g T.D_Exports_init.b .nil pass0) rfl) (pss_cons (ps_fld (pv 0) (pe_make0 (T.mk_Imports) G_Imports_init (hr.mono (by decide)) rfl T.c_Imports.g T.D_Imports_init.b .nil pass0) rfl) (pss_cons (ps_fld (pv 0) (pe_make0 (T.mk_Cycle) G_Cycle_init (hr.mono (by decide)) rfl T.c_Cycle.g T.D_Cycle_init.b .nil pass0) rfl) (pss_one (ps_fld (pv 0) (pe_lst pa_nil) rfl)))))), ?_⟩
  have R0 : Rep (τ := Tag) (upd F x (.ins a.cWorld dx [])) H (fun _ => 0) (fun _ => Option.none) := ⟨S, fun _ _ q => (by cases q), fun _ _ _ _ q => (by cases q), fun _ _ q => (by cases q)⟩
  refine st_seq (st_fldH (p := x) (C := a.cWorld) (dx := dx) (fs := []) (use_make (post := fun r H2 => ∃ h dh p q xs, r = .ref h ∧ H h = none ∧ (p ≠ h ∧ H p = none) ∧ (q ≠ h ∧ (upd H p (.lst xs)) q = none) ∧
      Same (upd (upd (upd H p (.lst xs)) q (.lst [])) h (.ins a.cHeap dh (F_Heap (.ref p) (.ref q)))) H2 ∧ VLs H2 xs (List.replicate 6 .nothing)) va_nil
    fun h dh nx nd ne => let ⟨g1, g2, _⟩ := (Same.refl H).make (C := a.cHeap) nx nd ne; ⟨_, ⟨_, h, dh, rfl, g2, rfl⟩, fun v H2 ⟨e, _, p, q, xs, f1, f2, f3, f4⟩ => ⟨e, h, dh, p, q, xs, rfl, g1, f1, f2, f3, f4⟩⟩) fun y H1 h => ?_)
  obtain ⟨hp, dh, ls, le, xs, rfl, g1, ⟨n1, m1⟩, ⟨n2, m2⟩, S1, hv⟩ := h
  obtain ⟨R1, s1⟩ := stage2 R0 .ls .le .hp g1 n1 m1 n2 m2 S1
  refine ⟨val_var rfl, R1.get, T.c_World.cl, T.na_World_heap, by show 0 < 1000; decide, ?_⟩
  rw [new_World_heap]
  replace hv := hv.tk (TK.ins (o := .ins a.cWorld dx [("heap", .ref hp)]) R1.get)
  have R2 := R1.poke (o' := .ins a.cWorld dx [("heap", .ref hp)])
  generalize upd H1 x (.ins a.cWorld dx [("heap", .ref hp)]) = H2 at R2 hv ⊢
  dsimp only
  refine st_seq (st_fldH (p := x) (C := a.cWorld) (dx := dx) (fs := [("heap", .ref hp)]) (use_make (post := fun r H' => ∃ h dh p q, r = .ref h ∧ H2 h = none ∧ (p ≠ h ∧ H2 p = none) ∧ (q ≠ h ∧ (upd H2 p (.lst [])) q = none) ∧
      Same (upd (upd (upd H2 p (.lst [])) q (.lst [])) h (.ins a.cExports dh (F_Exports (.ref p) (.ref q)))) H') va_nil
    fun h dh nx nd ne => let ⟨g1, g2, _⟩ := (Same.refl H2).make (C := a.cExports) nx nd ne; ⟨_, ⟨_, h, dh, rfl, g2, rfl⟩, fun v H' ⟨e, _, p, q, f1, f2, f3⟩ => ⟨e, h, dh, p, q, rfl, g1, f1, f2, f3⟩⟩) fun y H3 h => ?_)
  obtain ⟨ex, de, lo, lt, rfl, g3, ⟨n3, m3⟩, ⟨n4, m4⟩, S3⟩ := h
  obtain ⟨R3, s3⟩ := stage2 R2 .lo .lt .ex g3 n3 m3 n4 m4 S3
  refine ⟨val_var rfl, R3.get, T.c_World.cl, T.na_World_exports, by show 1 < 1000; decide, ?_⟩
  rw [new_World_exports]
  replace hv := (hv.ext s3).tk (TK.ins (o := .ins a.cWorld dx [("heap", .ref hp), ("exports", .ref ex)]) R3.get)
  have R4 := R3.poke (o' := .ins a.cWorld dx [("heap", .ref hp), ("exports", .ref ex)])
  generalize upd H3 x (.ins a.cWorld dx [("heap", .ref hp), ("exports", .ref ex)]) = H4 at R4 hv ⊢
  dsimp only
  refine st_seq (st_fldH (p := x) (C := a.cWorld) (dx := dx) (fs := [("heap", .ref hp), ("exports", .ref ex)]) (use_make (post := fun r H' => ∃ h dh p q, r = .ref h ∧ H4 h = none ∧ (p ≠ h ∧ H4 p = none) ∧ (q ≠ h ∧ (upd H4 p falses) q = none) ∧
      Same (upd (upd (upd H4 p falses) q falses) h (.ins a.cImports dh (F_Imports (.ref p) (.ref q)))) H') va_nil
    fun h dh nx nd ne => let ⟨g1, g2, _⟩ := (Same.refl H4).make (C := a.cImports) nx nd ne; ⟨_, ⟨_, h, dh, rfl, g2, rfl⟩, fun v H' ⟨e, _, p, q, f1, f2, f3⟩ => ⟨e, h, dh, p, q, rfl, g1, f1, f2, f3⟩⟩) fun y H5 h => ?_)
  obtain ⟨im, di, li, lp, rfl, g5, ⟨n5, m5⟩, ⟨n6, m6⟩, S5⟩ := h
  obtain ⟨R5, s5⟩ := stage2 R4 .li .lp .im g5 n5 m5 n6 m6 S5
  refine ⟨val_var rfl, R5.get, T.c_World.cl, T.na_World_imports, by show 2 < 1000; decide, ?_⟩
  rw [new_World_imports]
  replace hv := (hv.ext s5).tk (TK.ins (o := .ins a.cWorld dx [("heap", .ref hp), ("exports", .ref ex), ("imports", .ref im)]) R5.get)
  have R6 := R5.poke (o' := .ins a.cWorld dx [("heap", .ref hp), ("exports", .ref ex), ("imports", .ref im)])
  generalize upd H5 x (.ins a.cWorld dx [("heap", .ref hp), ("exports", .ref ex), ("imports", .ref im)]) = H6 at R6 hv ⊢
  dsimp only
  refine st_seq (st_fldH (p := x) (C := a.cWorld) (dx := dx) (fs := [("heap", .ref hp), ("exports", .ref ex), ("imports", .ref im)]) (use_make (post := fun r H' => ∃ h dh p q s, r = .ref h ∧ H6 h = none ∧ (p ≠ h ∧ H6 p = none) ∧ (q ≠ h ∧ (upd H6 p (.lst [])) q = none) ∧ (s ≠ h ∧ (upd (upd H6 p (.lst [])) q (.lst [])) s = none) ∧
      Same (upd (upd (upd (upd H6 p (.lst [])) q (.lst [])) s (.lst [])) h (.ins a.cCycle dh (cy0 (.ref p) (.ref q) (.ref s)))) H') va_nil
    fun h dh nx nd ne => let ⟨g1, g2, _⟩ := (Same.refl H6).make (C := a.cCycle) nx nd ne; ⟨_, ⟨_, h, dh, rfl, g2, rfl⟩, fun v H' ⟨e, _, p, q, s, f1, f2, f3, f4⟩ => ⟨e, h, dh, p, q, s, rfl, g1, f1, f2, f3, f4⟩⟩) fun y H7 h => ?_)
  obtain ⟨cy, dc, lc, lg, lm, rfl, g7, ⟨n7, m7⟩, ⟨n8, m8⟩, ⟨n9, m9⟩, S7⟩ := h
  obtain ⟨R7, s7⟩ := stage3 R6 .lc .lg .lm .cy g7 n7 m7 n8 m8 n9 m9 S7
  refine ⟨val_var rfl, R7.get, T.c_World.cl, T.na_World_cycle, by show 3 < 1000; decide, ?_⟩
  rw [new_World_cycle]
  replace hv := (hv.ext s7).tk (TK.ins (o := .ins a.cWorld dx [("heap", .ref hp), ("exports", .ref ex), ("imports", .ref im), ("cycle", .ref cy)]) R7.get)
  have R8 := R7.poke (o' := .ins a.cWorld dx [("heap", .ref hp), ("exports", .ref ex), ("imports", .ref im), ("cycle", .ref cy)])
  generalize upd H7 x (.ins a.cWorld dx [("heap", .ref hp), ("exports", .ref ex), ("imports", .ref im), ("cycle", .ref cy)]) = H8 at R8 hv ⊢
  dsimp only
  refine st_fldH (p := x) (C := a.cWorld) (dx := dx) (fs := [("heap", .ref hp), ("exports", .ref ex), ("imports", .ref im), ("cycle", .ref cy)]) (valh_lst va_nil (by decide)) fun y H9 h => ?_
  obtain ⟨lr, hlr, rfl, rfl⟩ := h
  have R9 := R8.join1 (o := .lst []) hlr .lr
  refine ⟨val_var rfl, R9.get, T.c_World.cl, T.na_World_reports, by show 4 < 1000; decide, ?_⟩
  rw [new_World_reports]
  replace hv := (hv.ext (new_same (o := .lst []) hlr)).tk (TK.ins (o := .ins a.cWorld dx (F_World (.ref hp) (.ref ex) (.ref im) (.ref cy) (.ref lr))) R9.get)
  have R10 := (R9.poke (o' := .ins a.cWorld dx (F_World (.ref hp) (.ref ex) (.ref im) (.ref cy) (.ref lr)))).adopt (t := .w) (a' := seta _ .w x) (c' := setc _ .w _) hF (fun _ => rfl) (fun _ => rfl)
  refine k _ _ ⟨rfl, ⟨x, hp, ex, im, cy, ls, le, lo, lt, li, lp, lc, lg, lm, lr, fun _ => 0, fun _ => 0, fun t => match t with | .w => dx | .hp => dh | .ex => de | .im => di | .cy => dc | _ => 0, xs, fun _ => []⟩, rfl, ?_, hv, fun i e h => (by simp [M0] at h)⟩
  have ea : ∀ u, Ad.at ⟨x, hp, ex, im, cy, ls, le, lo, lt, li, lp, lc, lg, lm, lr, fun _ => 0, fun _ => 0, fun t => match t with | .w => dx | .hp => dh | .ex => de | .im => di | .cy => dc | _ => 0, xs, fun _ => []⟩ u = seta (seta (seta (seta (seta (seta (seta (seta (seta (seta (seta (seta (seta (seta (seta (fun _ => 0) .ls ls) .le le) .hp hp) .lo lo) .lt lt) .ex ex) .li li) .lp lp) .im im) .lc lc) .lg lg) .lm lm) .cy cy) .lr lr) .w x u := fun u => by cases u <;> rfl
  rw [show Ad.at _ = _ from funext ea]
  refine R10.conv fun u => ?_
  cases u <;> rfl

/-! ### give_up, report -/
theorem lc_filterL {σ : Sl} {H : Hp} {j : Nat} {tl : TE} {tt : TT} {l : List Nat} {pr : Nat → Bool} (h : ValH tl σ H (NewL (nats l) H)) (hl : l.length < 100000) (hj : j < σ.length)
    (hs : ∀ H1, Same H H1 → ∀ x ∈ l, ∀ D, H1 D = none → ∀ acc, Ans tt ((wipe σ [j]).set j (some (.int (x : Int)))) (upd H1 D (.lst acc)) (pr x))
    (hw : ∀ x : Option V, wipe ((wipe σ [j]).set j x) [j] = wipe σ [j]) : ValH (tLc (iList K tl) (gName j) tt (tVar j) [j]) σ H (fun r H' => ∃ H1, Same H H1 ∧ NewL (nats (l.filter pr)) H1 r H') := by
  intro Q q
  refine h _ fun v H1 hv => ?_
  have sm := hv.same
  obtain ⟨p, hp, rfl, rfl⟩ := hv
  refine ⟨p, rfl, ⟨_, SqL.of upd_same⟩, fun D hD => ?_⟩
  refine lc_list (K := K) (a := p) (xs := nats l) (fun i H' => H' = upd (upd H p (.lst (nats l))) D (.lst (nats ((l.take i).filter pr)))) rfl (fun i H' _ e => ?_) (fun i x H' hx e => ?_) fun H' e => q _ _ ⟨_, sm, D, hD, rfl, ?_⟩
  · subst e
    exact SqL.of (by rw [upd_ne (ne_of_none upd_same hD), upd_same])
  · subst e
    have hi : i < l.length := by
      have := (List.getElem?_eq_some_iff.mp hx).1
      rw [nats_len] at this
      exact this
    have ex : x = .int ((l[i] : Nat) : Int) := by
      rw [nats_get hi, List.getElem?_eq_getElem hi] at hx
      exact (Option.some.inj hx).symm
    subst ex
    refine ⟨hw _, ?_⟩
    refine hs _ sm _ (List.getElem_mem hi) D hD _ _ ?_
    have et : l.take (i + 1) = l.take i ++ [l[i]] := by
      rw [List.take_succ, List.getElem?_eq_getElem hi]
      rfl
    have hl2 : ((l.take i).filter pr).length ≤ i := Nat.le_trans (List.length_filter_le _ _) (by rw [List.length_take]; omega)
    cases hp : pr l[i] with
    | true =>
      refine iteT ⟨.int ((l[i] : Nat) : Int), ?_, _, upd_same, ?_, ?_⟩
      · have hl3 : (wipe σ [j]).length = σ.length := wipe_length σ [j]
        rw [List.getElem?_set_self (by rw [hl3]; exact hj)]
      · rw [nats_len]
        exact Nat.lt_of_le_of_lt hl2 (Nat.lt_trans hi (Nat.lt_of_lt_of_le hl (by decide)))
      · rw [upd_upd, et, List.filter_append, List.filter_cons, hp]
        unfold nats
        rw [List.map_append]
        rfl
    | false =>
      refine iteF ?_
      rw [et, List.filter_append, List.filter_cons, hp]
      simp
  · subst e
    rw [nats_len, List.take_length]
def pGiveUp (a : Ads) : Pre := fun vs H post => ∃ F A m, vs = [.ref A.im, .ref A.lm] ∧ WA a F H A m ∧ m.imported.length = 100 ∧ m.marked.length = 100 ∧ post = fun r H' => ∃ q, r = .ref q ∧ F q = none ∧ WA a (upd F q (.lst (nats m.gone))) H' A (m.drop m.gone)
theorem gone_le (m : M) : m.gone.length ≤ 99 := by
  unfold M.gone M.allImported
  refine Nat.le_trans (List.length_filter_le _ _) (Nat.le_trans (List.length_filter_le _ _) ?_)
  decide
theorem take_next {α : Type} {l : List α} {i : Nat} (h : i < l.length) : l.take (i + 1) = l.take i ++ [l[i]] := by
  rw [List.take_succ, List.getElem?_eq_getElem h]
  rfl
theorem nats_item {l : List Nat} {i : Nat} {x : V} (h : (nats l)[i]? = some x) : ∃ hi : i < l.length, x = .int ((l[i] : Nat) : Int) := by
  have hi : i < l.length := by
    have := (List.getElem?_eq_some_iff.mp h).1
    rw [nats_len] at this
    exact this
  refine ⟨hi, ?_⟩
  rw [nats_get hi, List.getElem?_eq_getElem hi] at h
  exact (Option.some.inj h).symm
theorem ok_Imports_give_up (T : Txt K mg a) : FnOk P w K mg base CX0 2 a.f_Imports_give_up a.d_Imports_give_up ["self", "marked"] (Pr (pGiveUp a)) := by
  have G_Imports_all_imported := ok_Imports_all_imported (P := P) (w := w) (base := base) T
  refine T.D_Imports_give_up.F.ok sc_Imports_give_up (fun vs H Q E h => ?_) (fun cdv A0 outer s H vs Q E hr h => ?_)
  · obtain ⟨_, ⟨F, A, m, rfl, W, l1, l2, rfl⟩, _⟩ := h
    rfl
  obtain ⟨_, ⟨F, A, m, rfl, W, l1, l2, rfl⟩, k⟩ := h
  refine ⟨_, (pss_cons (ps_setLc (i := 2) (own := [("reference", 3)]) (g := gName 3) (tt := tNot (tB (tOp (rIxL K) (tVar 1) (tVar 3)))) rfl sc_Imports_give_up.nd rfl rfl (sw_true rfl rfl rfl (by decide +kernel)) (pi_list (pe_meth0 (pv 0) T.c_Imports.cl T.D_Imports_all_imported.m G_Imports_all_imported (hr.mono (by decide)) T.D_Imports_all_imported.b .nil pass0)) (blkOk_by (N := N_Imports_give_up) (sc := defScope s_Imports_give_up) (by decide +kernel)) (fun _ _ _ _ _ => pg_name (i := 3) sc_Imports_give_up.nd rfl (Or.inl rfl)) (fun _ _ _ _ _ => pts_one (pt_not (pt_val (pe_ix ix_list (pv 1) (pv 3) (fun _ _ => rfl))))) (fun _ _ _ _ _ => (pv 3))) (pss_cons (ps_for PassesOwn.never rfl (pi_list (pv 2)) (pg_name (i := 3) sc_Imports_give_up.nd rfl (Or.inl rfl)) (pss_one (ps_asg pe_bl (pg_sub (pe_fld (pv 0) rfl) (pv 3) set_list)))) (pss_one (ps_ret (pv 2))))), ?_⟩
  refine st_seq (st_setH (lc_filterL (l := m.allImported) (pr := fun r => !m.isMarked r) (use_meth (val_var rfl) W.h_im no_Imports_all_imported va_nil ⟨F, A, m, rfl, W, l1, rfl⟩) (Nat.lt_of_le_of_lt (Nat.le_trans (List.length_filter_le _ _) (by decide : (ones 99).length ≤ 99)) (by decide)) (by show 3 < 4; decide) (fun H1 sm x hx D hD acc => ?_) (fun x => rfl)) fun v H1 h => ?_)
  · have W1 := (W.ext sm).push (o := .lst acc) hD
    have := mem_imported.mp hx
    exact ans_not (ans_val (val_ix (j := x) (val_var rfl) (SqL.of W1.h_lm) (val_var rfl) rfl (bools_get (by rw [l2]; omega))))
  · obtain ⟨H0, sm, hn⟩ := h
    obtain ⟨q, rfl, hq, W1⟩ := hn.push (W.ext sm)
    refine st_seq (st_forL (xs := nats m.gone) (val_var rfl) (fun i σ H' => (∃ v : Option V, σ = [some (.ref A.im), some (.ref A.lm), some (.ref q), v]) ∧ WA a (upd F q (.lst (nats m.gone))) H' A (m.drop (m.gone.take i))) ⟨⟨_, rfl⟩, W1⟩ (fun i σ H' _ h => SqL.of h.2.get) ?_ ?_)
    · rintro i x σ H' hx ⟨⟨v, rfl⟩, W'⟩
      obtain ⟨hi, rfl⟩ := nats_item hx
      have hr := (mem_gone.mp (List.getElem_mem hi)).1.1
      have hl : (m.drop (m.gone.take i)).imported.length = 100 := (drops_len _ _).trans l1
      refine st_set_li W' (x := false) (j := m.gone[i]) val_c (v_Imports_imported T W' (val_var rfl)) (val_var rfl) rfl (by rw [hl]; omega) fun H2 W2 => ⟨⟨_, rfl⟩, ?_⟩
      rw [take_next hi]
      unfold M.drop at W2 ⊢
      rw [List.foldl_append]
      exact W2
    · rintro σ H' ⟨⟨v, rfl⟩, W'⟩
      dsimp only
      refine st_ret (val_var rfl) (k _ _ ⟨q, rfl, hq, ?_⟩)
      rw [nats_len, List.take_length] at W'
      exact W'
def pReport (a : Ads) : Pre := fun vs H post => ∃ F A m l p, vs = [.ref A.w, .ref p] ∧ WA a F H A m ∧ H p = some (.lst (nats l)) ∧ m.reports.length + l.length < 10000000 ∧ post = fun r H' => r = .non ∧ WA a F H' A (m.report l)
theorem ok_World_report (T : Txt K mg a) : FnOk P w K mg base CX0 1 a.f_World_report a.d_World_report ["self", "codes"] (Pr (pReport a)) := by
  refine T.D_World_report.F.ok sc_World_report (fun vs H Q E h => ?_) (fun cdv A0 outer s H vs Q E hr h => ?_)
  · obtain ⟨_, ⟨F, A, m, l, p, rfl, W, hp, hl, rfl⟩, _⟩ := h
    rfl
  obtain ⟨_, ⟨F, A, m, l, p, rfl, W, hp, hl, rfl⟩, k⟩ := h
  refine ⟨_, (pss_one (ps_expr (pe_bm PySem.F.plainAttrs_list PySem.F.slot_list_extend PySem.F.type_list_extend mt_extend (pe_fld (pv 0) rfl) (pa_cons (pv 1) pa_nil)))), ?_⟩
  refine st_extend (v_World_reports T W (val_var rfl)) (val_var rfl) W.h_lr hp (by rw [nats_len, nats_len]; exact Nat.le_of_lt (Nat.lt_of_lt_of_le hl (by decide))) ?_
  have e : nats m.reports ++ nats l = nats (m.reports ++ l) := by
    unfold nats
    rw [List.map_append]
  rw [e]
  exact k _ _ ⟨rfl, W.s_lr _⟩
end
end Gw

set_option Elab.async false
set_option maxRecDepth 100000
set_option maxHeartbeats 4000000
set_option linter.all false
/-! The collector. -/
namespace Gw
open PySem PySem.Spec PyProof.Rows L2 Gc

/-! ### bounds -/
theorem grey_small {m : M} (w : Wf m) : m.grey.length < 1000 := by
  have h1 := grey_len w
  have h2 := w.co
  have h3 := w.en
  omega
theorem present_small {m : M} (w : Wf m) : m.present.length ≤ 60 := by
  unfold M.present
  refine Nat.le_trans (List.length_filter_le _ _) ?_
  unfold ones
  rw [List.length_map, List.length_range]
  exact w.en
/-- behind the start and some marks -/
structure Mk (m k : M) : Prop where
  wf : Wf k
  run : k.running = true
  live : ∀ v, k.Live v ↔ m.Live v
  ents : k.ents = m.ents
  slots : k.slots = m.slots
  owners : k.owners = m.owners
  states : k.states = m.states
theorem mk_start {m : M} (g : Good m) : Mk m m.start := ⟨g.wf.start, rfl, fun v => (by cases v <;> exact Iff.rfl), rfl, rfl, rfl, rfl⟩
theorem Mk.mark {m k : M} (h : Mk m k) {v : Va} (hv : m.Live v) : Mk m (k.mark v) := by
  have ok := Good.ok h.wf h.run ((h.live v).mpr hv)
  exact ⟨h.wf.mark' ok, by rw [mark_running]; exact h.run, fun u => (mark_live k v u).trans (h.live u), by rw [mark_ents]; exact h.ents, by rw [mark_slots]; exact h.slots, by rw [mark_owners]; exact h.owners, by rw [mark_states]; exact h.states⟩
theorem Mk.marks {m : M} : ∀ (l : List Va) {k : M}, Mk m k → (∀ v ∈ l, m.Live v) → Mk m (l.foldl M.mark k)
  | [], _, h, _ => h
  | v :: l, _, h, hl => Mk.marks l (h.mark (hl v List.mem_cons_self)) fun u hu => hl u (List.mem_cons_of_mem _ hu)
theorem Mk.ok {m k : M} (h : Mk m k) {v : Va} (hv : m.Live v) : k.Ok v := Good.ok h.wf h.run ((h.live v).mpr hv)
theorem fold_next {α β : Type} {f : β → α → β} {l : List α} {i : Nat} (h : i < l.length) (b : β) : (l.take (i + 1)).foldl f b = f ((l.take i).foldl f b) l[i] := by
  rw [take_next h, List.foldl_append]
  rfl
theorem live_le {m : M} {n : Nat} (h : m.Live (.object n)) : 1 ≤ n ∧ n ≤ m.ents.length := by
  have := there_len h.2
  have h1 : 1 ≤ n := h.1
  omega
theorem owner_congr {m k : M} (e : k.owners = m.owners) (h : Nat) : k.owner h = m.owner h := by
  unfold M.owner
  rw [e]
theorem active_le (m : M) : m.active.length ≤ m.states.length := by
  unfold M.active
  refine Nat.le_trans (List.length_filter_le _ _) ?_
  unfold ones
  rw [List.length_map, List.length_range]
  exact Nat.le_refl _

section
variable {P : Program} {w : World} {K : PySem.W.Frag} {mg : Str → Option Value} {base : Heap} {a : Ads}
def pWC (a : Ads) (f : M → M) (c : M → Prop) : Pre := fun vs H post => ∃ F A m, vs = [.ref A.w] ∧ WA a F H A m ∧ Good m ∧ m.owners.length < 10000 ∧ c m ∧ post = WdC a F A .non (f m)
theorem ok_begin (T : Txt K mg a) : FnOk P w K mg base CX0 4 a.f_begin a.d_begin ["world"] (Pr (pWC a M.begin (fun _ => True))) := by
  have G_Cycle_start := ok_Cycle_start (P := P) (w := w) (base := base) T
  have G_Heap_created := ok_Heap_created (P := P) (w := w) (base := base) T
  have G_Cycle_mark := ok_Cycle_mark (P := P) (w := w) (base := base) T
  have G_Exports_active := ok_Exports_active (P := P) (w := w) (base := base) T
  have G_Exports_owner := ok_Exports_owner (P := P) (w := w) (base := base) T
  refine T.D_begin.F.ok sc_begin (fun vs H Q E h => ?_) (fun cdv A0 outer s H vs Q E hr h => ?_)
  · obtain ⟨_, ⟨F, A, m, rfl, W, g, ho, _, rfl⟩, _⟩ := h
    rfl
  obtain ⟨_, ⟨F, A, m, rfl, W, g, ho, _, rfl⟩, k⟩ := h
  refine ⟨_, (pss_cons (ps_set (i := 1) sc_begin.nd rfl (Or.inl rfl) (pe_fld (pv 0) rfl)) (pss_cons (ps_expr (pe_meth (pv 1) T.c_Cycle.cl T.D_Cycle_start.m G_Cycle_start (hr.mono (by decide)) T.D_Cycle_start.b .nil pass0 (pa_cons (pe_meth0 (pe_fld (pv 0) rfl) T.c_Heap.cl T.D_Heap_created.m G_Heap_created (hr.mono (by decide)) T.D_Heap_created.b .nil pass0) (pa_cons (pe_fld (pe_fld (pv 0) rfl) rfl) pa_nil)))) (pss_cons (ps_for PassesOwn.never rfl (pi_list (pe_fld (pe_fld (pv 0) rfl) rfl)) (pg_name (i := 2) sc_begin.nd rfl (Or.inl rfl)) (pss_one (ps_expr (pe_meth (pv 1) T.c_Cycle.cl T.D_Cycle_mark.m G_Cycle_mark (hr.mono (by decide)) T.D_Cycle_mark.b .nil pass0 (pa_cons (pv 2) pa_nil))))) (pss_one (ps_for PassesOwn.never rfl (pi_list (pe_meth0 (pe_fld (pv 0) rfl) T.c_Exports.cl T.D_Exports_active.m G_Exports_active (hr.mono (by decide)) T.D_Exports_active.b .nil pass0)) (pg_name (i := 3) sc_begin.nd rfl (Or.inl rfl)) (pss_one (ps_expr (pe_meth (pv 1) T.c_Cycle.cl T.D_Cycle_mark.m G_Cycle_mark (hr.mono (by decide)) T.D_Cycle_mark.b .nil pass0 (pa_cons (pe_tup (pa_cons (pe_gv rfl T.k_OBJECT) (pa_cons (pe_meth (pe_fld (pv 0) rfl) T.c_Exports.cl T.D_Exports_owner.m G_Exports_owner (hr.mono (by decide)) T.D_Exports_owner.b .nil pass0 (pa_cons (pv 3) pa_nil)) pa_nil))) pa_nil))))))))), ?_⟩
  refine st_seq (st_set (v_World_cycle T W (val_var rfl)) ?_)
  refine st_seq (st_dropH (use_meth (val_var rfl) W.h_cy no_Cycle_start (va2 (Val.hh (use_meth (v_World_heap T W (val_var rfl)) W.h_hp no_Heap_created va_nil ⟨F, A, m, rfl, W, rfl⟩)) (v_Imports_pinned T W (v_World_imports T W (val_var rfl)))) ⟨F, A, m, m.ents.length, rfl, W, Nat.lt_of_le_of_lt g.wf.en (by decide), rfl⟩) fun r H1 h => ?_)
  obtain ⟨_, c0, g0, k0, W1⟩ := h
  have hm1 : started m m.ents.length = m.start := rfl
  rw [hm1] at W1
  dsimp only
  refine st_seq (st_forL (xs := A.sv) (v_Heap_slots T W1 (v_World_heap T W1 (val_var rfl))) (fun i σ H' => (∃ v : Option V, σ = [some (.ref A.w), some (.ref A.cy), v, none]) ∧ ∃ lc lg lm, WA a F H' { A with lc := lc, lg := lg, lm := lm } ((m.slots.take i).foldl M.mark m.start))
    ⟨⟨none, rfl⟩, c0, g0, k0, W1⟩ (fun i σ H' _ h => let ⟨_, _, _, _, W'⟩ := h; SqL.of W'.h_ls) ?_ ?_)
  · rintro i x σ H' hx ⟨⟨v, rfl⟩, c, gg, kk, W'⟩
    have hi : i < m.slots.length := by
      rw [← W.sv.1]
      exact (List.getElem?_eq_some_iff.mp hx).1
    have mk := (mk_start g).marks (m.slots.take i) fun v hv => g.ls v (List.mem_of_mem_take hv)
    have hv : m.Live m.slots[i] := g.ls _ (List.getElem_mem hi)
    obtain ⟨y, e1, e2⟩ := W'.sv.2 i m.slots[i] (by rw [mk.slots]; exact List.getElem?_eq_getElem hi)
    have exy : x = y := Option.some.inj (hx.symm.trans e1)
    subst exy
    refine st_dropH (use_meth (val_var rfl) W'.h_cy no_Cycle_mark (va1 (val_var rfl)) ⟨F, _, _, x, m.slots[i], by rfl, W', e2, mk.ok hv, grey_small mk.wf, rfl⟩) fun r H2 h => ?_
    obtain ⟨_, c2, g2, k2, W2⟩ := h
    exact ⟨⟨_, rfl⟩, c2, g2, k2, by rw [fold_next hi]; exact W2⟩
  · rintro σ H2 ⟨⟨v, rfl⟩, c2, g2, k2, W2⟩
    rw [W.sv.1, List.take_length] at W2
    have mk2 := (mk_start g).marks m.slots g.ls
    have e_act : (m.slots.foldl M.mark m.start).active = m.active := by
      unfold M.active M.state
      rw [mk2.states]
    dsimp only
    refine st_forLH (xs := nats m.active) (use_meth (v_World_exports T W2 (val_var rfl)) W2.h_ex no_Exports_active va_nil ⟨F, _, _, by rfl, W2, by dsimp only; rw [mk2.states, ← g.wf.ow]; exact Nat.lt_trans ho (by decide), rfl⟩) fun y H3 h => ?_
    obtain ⟨p, rfl, hp, W3⟩ := h.push W2
    rw [e_act] at W3
    refine ⟨p, fun i σ H' => (∃ v u : Option V, σ = [some (.ref A.w), some (.ref A.cy), v, u]) ∧ ∃ lc lg lm, WA a (upd F p (.lst (nats m.active))) H' { A with lc := lc, lg := lg, lm := lm } ((m.active.take i).foldl (fun k h => k.mark (.object (m.owner h))) (m.slots.foldl M.mark m.start)), rfl, ⟨⟨_, _, rfl⟩, c2, g2, k2, W3⟩, fun i σ H' _ h => let ⟨_, _, _, _, W'⟩ := h; SqL.of W'.get, ?_, ?_⟩
    · rintro i x σ H' hx ⟨⟨v, u, rfl⟩, c, gg, kk, W'⟩
      obtain ⟨hi, rfl⟩ := nats_item hx
      have hst := mem_active.mp (List.getElem_mem hi)
      have hle : m.Live (.object (m.owner m.active[i])) := g.lh _ hst
      have mk : Mk m ((m.active.take i).foldl (fun k h => k.mark (.object (m.owner h))) (m.slots.foldl M.mark m.start)) := by
        rw [← List.foldl_map (f := fun h => Vbxlab.Value.object (m.owner h)) (g := M.mark)]
        refine mk2.marks _ fun v hv => ?_
        obtain ⟨j, hj, rfl⟩ := List.mem_map.mp hv
        exact g.lh _ (mem_active.mp (List.mem_of_mem_take hj))
      have hr := state_pos (m := m) (h := (m.active[i] : Int)) (by rw [hst]; decide)
      have how : M.owner ((m.active.take i).foldl (fun k h => k.mark (.object (m.owner h))) (m.slots.foldl M.mark m.start)) m.active[i] = m.owner m.active[i] := owner_congr mk.owners _
      refine st_dropH (use_methH (post := fun r H2 => ∃ lc lg lm, WA a (upd F p (.lst (nats m.active))) H2 { A with lc := lc, lg := lg, lm := lm } (M.mark ((m.active.take i).foldl (fun k h => k.mark (.object (m.owner h))) (m.slots.foldl M.mark m.start)) (.object (m.owner m.active[i])))) (val_var rfl) W'.h_cy no_Cycle_mark
        (vah1 (valh_pair (v := .object (m.owner m.active[i])) (va2 val_c (Val.hh (use_meth (v_World_exports T W' (val_var rfl)) W'.h_ex no_Exports_owner (va1 (val_var rfl)) ⟨_, _, _, m.active[i], by rfl, W', by omega, by rw [mk.owners, g.wf.ow]; omega, rfl⟩))) W' rfl (by rw [how]; rfl)))
        (fun vs H1 h => ?_)) fun r H2 h => ?_
      · obtain ⟨y, rfl, hy, W1, _⟩ := h
        exact ⟨_, ⟨_, _, _, y, _, by rfl, W1, hy, mk.ok hle, grey_small mk.wf, rfl⟩, fun v H2 h => h.2⟩
      · obtain ⟨c4, g4, k4, W4⟩ := h
        exact ⟨⟨_, _, rfl⟩, c4, g4, k4, by rw [fold_next hi]; exact W4⟩
    · rintro σ H' ⟨⟨v, u, rfl⟩, c, gg, kk, W'⟩
      rw [nats_len, List.take_length] at W'
      refine k _ _ ⟨rfl, c, gg, kk, ?_⟩
      have e : m.begin = m.active.foldl (fun k h => k.mark (.object (m.owner h))) (m.slots.foldl M.mark m.start) := by
        unfold M.begin
        rw [List.foldl_append, List.foldl_map]
      rw [e]
      exact W'.pop hp
theorem ok_do_unit (T : Txt K mg a) : FnOk P w K mg base CX0 5 a.f_do_unit a.d_do_unit ["world"] (Pr (pWC a M.unit (fun m => m.running = true ∧ m.grey ≠ []))) := by
  have G_Heap_entry := ok_Heap_entry (P := P) (w := w) (base := base) T
  have G_Cycle_examine := ok_Cycle_examine (P := P) (w := w) (base := base) T
  have G_Cycle_blacken := ok_Cycle_blacken (P := P) (w := w) (base := base) T
  have G_Cycle_count_unit := ok_Cycle_count_unit (P := P) (w := w) (base := base) T
  refine T.D_do_unit.F.ok sc_do_unit (fun vs H Q E h => ?_) (fun cdv A0 outer s H vs Q E hr h => ?_)
  · obtain ⟨_, ⟨F, A, m, rfl, W, g, ho, ⟨hrun, hg⟩, rfl⟩, _⟩ := h
    rfl
  obtain ⟨_, ⟨F, A, m, rfl, W, g, ho, ⟨hrun, hg⟩, rfl⟩, k⟩ := h
  refine ⟨_, (pss_cons (ps_set (i := 1) sc_do_unit.nd rfl (Or.inl rfl) (pe_fld (pv 0) rfl)) (pss_cons (ps_set (i := 2) sc_do_unit.nd rfl (Or.inl rfl) (pe_fld (pe_meth (pe_fld (pv 0) rfl) T.c_Heap.cl T.D_Heap_entry.m G_Heap_entry (hr.mono (by decide)) T.D_Heap_entry.b .nil pass0 (pa_cons (pe_ix ix_list (pe_fld (pv 1) rfl) pe_int (fun _ _ => rfl)) pa_nil)) rfl)) (pss_cons (ps_if (pt_cmpR op_lt (pe_fld (pv 1) rfl) (pe_callB call_len_seq (by rfl) T.n_len PySem.boot_len (pa_cons (pv 2) pa_nil)) (nomark _)) (pss_one (ps_expr (pe_meth (pv 1) T.c_Cycle.cl T.D_Cycle_examine.m G_Cycle_examine (hr.mono (by decide)) T.D_Cycle_examine.b .nil pass0 (pa_cons (pe_ix ix_list (pv 2) (pe_fld (pv 1) rfl) (fun _ _ => rfl)) pa_nil)))) (pss_one (ps_expr (pe_meth0 (pv 1) T.c_Cycle.cl T.D_Cycle_blacken.m G_Cycle_blacken (hr.mono (by decide)) T.D_Cycle_blacken.b .nil pass0)))) (pss_one (ps_expr (pe_meth0 (pv 1) T.c_Cycle.cl T.D_Cycle_count_unit.m G_Cycle_count_unit (hr.mono (by decide)) T.D_Cycle_count_unit.b .nil pass0)))))), ?_⟩
  obtain ⟨n, hn⟩ := first_some hg
  have w1 := g.wf.gr1 (first_mem hn)
  have hl := (g.run hrun).gl n (first_mem hn)
  have hle := live_le (m := m) ⟨w1.1, hl⟩
  have hn0 : (nats m.grey)[0]? = some (.int (n : Int)) := by
    unfold nats
    rw [List.getElem?_map, hn]
    rfl
  have hu : m.unit = (match (m.cells n)[m.examined]? with | some v => (m.examine v).count | none => m.blacken.count) := by
    unfold M.unit
    rw [hn]
    rfl
  refine st_seq (st_set (v_World_cycle T W (val_var rfl)) ?_)
  refine st_seq (st_set (v_Entry_cells T W (ent_get hle.1 hle.2) (Val.hh (use_meth (v_World_heap T W (val_var rfl)) W.h_hp no_Heap_entry (va1 (val_ix (j := 0) (v_Cycle_grey T W (val_var rfl)) (SqL.of W.h_lg) val_c rfl hn0)) ⟨F, A, m, n, rfl, W, hle.1, hle.2, rfl⟩))) ?_)
  have hce := W.h_ce (ent_get hle.1 hle.2)
  refine st_seq (st_if (ans_b0 (v_Cycle_examined T W (val_var rfl)) (val_len (val_var rfl) (SqL.of hce)) rfl) (fun h => ?_) (fun h => ?_))
  · have hlt : m.examined < (m.cells n).length := by
      have := of_decide_eq_true h
      rw [W.cell_len hle.1 hle.2] at this
      omega
    obtain ⟨x, hx, hv⟩ := W.cell hle.1 hle.2 hlt
    have hc : (m.cells n)[m.examined]? = some (m.cells n)[m.examined] := List.getElem?_eq_getElem hlt
    rw [hc] at hu hv
    have hlive : m.Live (m.cells n)[m.examined] := g.lc n ⟨w1.1, hl⟩ _ (List.getElem_mem hlt)
    refine st_dropH (use_meth (val_var rfl) W.h_cy no_Cycle_examine (va1 (val_ix (j := m.examined) (val_var rfl) (SqL.of hce) (v_Cycle_examined T W (val_var rfl)) rfl hx)) ⟨F, A, m, x, _, rfl, W, hv, Good.ok g.wf hrun hlive, grey_small g.wf, rfl⟩) fun r H1 h => ?_
    obtain ⟨_, c, gg, kk, W1⟩ := h
    refine st_dropH (use_meth (val_var rfl) W1.h_cy no_Cycle_count_unit va_nil ⟨F, _, _, by rfl, W1, trivial, rfl⟩) fun r H2 h => ?_
    obtain ⟨_, c2, g2, k2, W2⟩ := h
    refine k _ _ ⟨rfl, c2, g2, k2, ?_⟩
    rw [hu]
    exact W2
  · have hge : (m.cells n)[m.examined]? = none := by
      have := of_decide_eq_false h
      rw [W.cell_len hle.1 hle.2] at this
      exact List.getElem?_eq_none (by omega)
    rw [hge] at hu
    obtain ⟨s', hs⟩ : ∃ s', m.grey = n :: s' := by
      cases q : m.grey with
      | nil => exact absurd q hg
      | cons b s' =>
        rw [q] at hn
        have : b = n := by simpa using hn
        exact ⟨s', by rw [this]⟩
    refine st_dropH (use_meth (val_var rfl) W.h_cy no_Cycle_blacken va_nil ⟨F, A, m, rfl, W, ⟨n, s', hs, w1.1, w1.2.1⟩, rfl⟩) fun r H1 h => ?_
    obtain ⟨_, c, gg, kk, W1⟩ := h
    refine st_dropH (use_meth (val_var rfl) W1.h_cy no_Cycle_count_unit va_nil ⟨F, _, _, by rfl, W1, trivial, rfl⟩) fun r H2 h => ?_
    obtain ⟨_, c2, g2, k2, W2⟩ := h
    refine k _ _ ⟨rfl, c2, g2, k2, ?_⟩
    rw [hu]
    exact W2
def pUnits (a : Ads) : Pre := fun vs H post => ∃ F A m, ∃ b : Int, vs = [.ref A.w, .int b] ∧ WA a F H A m ∧ Good m ∧ m.owners.length < 10000 ∧ m.running = true ∧ -(2 ^ 62) ≤ b ∧ b < 2 ^ 62 ∧ post = WdC a F A (.int ((M.doUnits b.toNat m).2 : Int)) (M.doUnits b.toNat m).1
theorem grey_test {m : M} : decide (((nats m.grey).length : Int) = 0) = decide (m.grey = []) := by
  rw [nats_len]
  cases m.grey with
  | nil => rfl
  | cons x r =>
    rw [decide_eq_false (show ¬ (((x :: r).length : Nat) : Int) = 0 by rw [List.length_cons]; omega)]
    rfl
theorem ok_do_units (T : Txt K mg a) : FnOk P w K mg base CX0 6 a.f_do_units a.d_do_units ["world", "budget"] (Pr (pUnits a)) := by
  have G_do_unit := ok_do_unit (P := P) (w := w) (base := base) T
  refine T.D_do_units.F.ok sc_do_units (fun vs H Q E h => ?_) (fun cdv A0 outer s H vs Q E hr h => ?_)
  · obtain ⟨_, ⟨F, A, m, b, rfl, W, g, ho, hr2, b1, b2, rfl⟩, _⟩ := h
    rfl
  obtain ⟨_, ⟨F, A, m, b, rfl, W, g, ho, hr2, b1, b2, rfl⟩, k⟩ := h
  refine ⟨_, (pss_cons (ps_set (i := 2) sc_do_units.nd rfl (Or.inl rfl) pe_int) (pss_cons (ps_for PassesOwn.never rfl (pi_range1 (by rfl) T.n_range (pa_cons (pv 1) pa_nil)) (pg_name (i := 3) sc_do_units.nd rfl (Or.inl rfl)) (pss_cons (ps_if (pt_cmpR op_eq (pe_callB call_len_seq (by rfl) T.n_len PySem.boot_len (pa_cons (pe_fld (pe_fld (pv 0) rfl) rfl) pa_nil)) pe_int (nomark _)) (pss_one (ps_ret (pv 2))) pss_nil) (pss_cons (ps_expr (pe_call G_do_unit (hr.mono (by decide)) rfl T.D_do_unit.g T.D_do_unit.F.kp T.D_do_unit.b .nil pass0 (pa_cons (pv 0) pa_nil))) (pss_one (ps_aug (i := 2) sc_do_units.nd rfl (.inl rfl) pe_int ip_add))))) (pss_one (ps_ret (pv 2))))), ?_⟩
  refine st_seq (st_set val_c ?_)
  refine st_seq (st_forR (va1 (val_var rfl)) rfl b1 b2 (fun i σ H' => ∃ (v : Option V) (mi : M) (lc lg lm : Addr), σ = [some (.ref A.w), some (.int b), some (.int (i : Int)), v] ∧ Good mi ∧ mi.running = true ∧ mi.owners = m.owners ∧ WA a F H' { A with lc := lc, lg := lg, lm := lm } mi ∧
      i ≤ b.toNat ∧ M.doUnits b.toNat m = ((M.doUnits (b.toNat - i) mi).1, i + (M.doUnits (b.toNat - i) mi).2))
    ⟨none, m, A.lc, A.lg, A.lm, rfl, g, hr2, rfl, W, Nat.zero_le _, by rw [Nat.sub_zero, Nat.zero_add]⟩ ?_ ?_)
  · rintro i σ H' hi ⟨v, mi, c, gg, kk, rfl, gi, ri, hoi, Wi, hle, hd⟩
    obtain ⟨j, hj⟩ : ∃ j, b.toNat - i = j + 1 := ⟨b.toNat - i - 1, by omega⟩
    rw [hj] at hd
    refine st_ifN (Ans.to (ans_eqI (val_len (v_Cycle_grey T Wi (v_World_cycle T Wi (val_var rfl))) (SqL.of Wi.h_lg)) val_c rfl) grey_test) (fun h => ?_) (fun h => ?_)
    · have hg := of_decide_eq_true h
      refine st_ret (val_var rfl) (k _ _ ?_)
      rw [hd]
      unfold M.doUnits
      rw [if_pos hg]
      exact ⟨rfl, c, gg, kk, Wi⟩
    · have hg := of_decide_eq_false h
      refine st_seq (st_dropH (use_call (va1 (val_var rfl)) ⟨F, _, mi, by rfl, Wi, gi, by rw [hoi]; exact ho, ⟨ri, hg⟩, rfl⟩) fun r H2 h => ?_)
      obtain ⟨_, c2, g2, k2, W2⟩ := h
      dsimp only
      refine st_augI 2 rfl val_c ?_
      refine ⟨_, mi.unit, c2, g2, k2, rfl, gi.unit ri hg, by rw [unit_running]; exact ri, by rw [unit_owners]; exact hoi, W2, by omega, ?_⟩
      rw [hd, show b.toNat - (i + 1) = j by omega]
      have e : M.doUnits (j + 1) mi = ((M.doUnits j mi.unit).1, (M.doUnits j mi.unit).2 + 1) := if_neg hg
      rw [e]
      congr 1
      dsimp only
      omega
  · rintro σ H' ⟨v, mi, c, gg, kk, rfl, gi, ri, hoi, Wi, hle, hd⟩
    rw [Nat.sub_self] at hd
    dsimp only
    refine st_ret (val_var rfl) (k _ _ ?_)
    rw [hd]
    exact ⟨rfl, c, gg, kk, Wi⟩
def pLeft (a : Ads) : Pre := fun vs H post => ∃ F A m, vs = [.ref A.w] ∧ WA a F H A m ∧ Good m ∧ post = fun r H' => r = .int m.unitsLeft ∧ Same H H'
def leftOf (m : M) (n : Nat) : Nat := if m.color n = 2 then 0 else 1 + (m.cells n).length
theorem sum_snoc (l : List Nat) (x : Nat) : (l ++ [x]).sum = l.sum + x := by
  rw [List.sum_append]
  simp
theorem ok_units_left (T : Txt K mg a) : FnOk P w K mg base CX0 3 a.f_units_left a.d_units_left ["world"] (Pr (pLeft a)) := by
  have G_Heap_present := ok_Heap_present (P := P) (w := w) (base := base) T
  have G_Cycle_color := ok_Cycle_color (P := P) (w := w) (base := base) T
  have G_Heap_entry := ok_Heap_entry (P := P) (w := w) (base := base) T
  refine T.D_units_left.F.ok sc_units_left (fun vs H Q E h => ?_) (fun cdv A0 outer s H vs Q E hr h => ?_)
  · obtain ⟨_, ⟨F, A, m, rfl, W, g, rfl⟩, _⟩ := h
    rfl
  obtain ⟨_, ⟨F, A, m, rfl, W, g, rfl⟩, k⟩ := h
  refine ⟨_, (pss_cons (ps_set (i := 1) sc_units_left.nd rfl (Or.inl rfl) pe_int) (pss_cons (ps_for PassesOwn.never rfl (pi_list (pe_meth0 (pe_fld (pv 0) rfl) T.c_Heap.cl T.D_Heap_present.m G_Heap_present (hr.mono (by decide)) T.D_Heap_present.b .nil pass0)) (pg_name (i := 2) sc_units_left.nd rfl (Or.inl rfl)) (pss_one (ps_if (pt_cmpR op_ne (pe_meth (pe_fld (pv 0) rfl) T.c_Cycle.cl T.D_Cycle_color.m G_Cycle_color (hr.mono (by decide)) T.D_Cycle_color.b .nil pass0 (pa_cons (pv 2) pa_nil)) (pe_gv rfl T.k_BLACK) (nomark _)) (pss_one (ps_aug (i := 1) sc_units_left.nd rfl (.inl rfl) (pe_op op_add pe_int (pe_callB call_len_seq (by rfl) T.n_len PySem.boot_len (pa_cons (pe_fld (pe_meth (pe_fld (pv 0) rfl) T.c_Heap.cl T.D_Heap_entry.m G_Heap_entry (hr.mono (by decide)) T.D_Heap_entry.b .nil pass0 (pa_cons (pv 2) pa_nil)) rfl) pa_nil))) ip_add)) pss_nil))) (pss_one (ps_ret (pe_op op_sub (pv 1) (pe_fld (pe_fld (pv 0) rfl) rfl)))))), ?_⟩
  refine st_seq (st_set val_c ?_)
  refine st_seq (st_forLH (xs := nats m.present) (use_meth (v_World_heap T W (val_var rfl)) W.h_hp no_Heap_present va_nil ⟨F, A, m, rfl, W, Nat.lt_of_le_of_lt g.wf.en (by decide), rfl⟩) fun y H1 h => ?_)
  have s1 := h.same
  obtain ⟨p, rfl, hp, W1⟩ := h.push W
  refine ⟨p, fun i σ H' => H' = H1 ∧ ∃ v : Option V, σ = [some (.ref A.w), some (.int ((((m.present.take i).map (leftOf m)).sum : Nat) : Int)), v], rfl, ⟨rfl, none, rfl⟩, fun i σ H' _ h => SqL.of (by rw [h.1]; exact W1.get), ?_, ?_⟩
  · rintro i x σ H' hx ⟨rfl, v, rfl⟩
    obtain ⟨hi, rfl⟩ := nats_item hx
    have hpr := mem_present.mp (List.getElem_mem hi)
    have hle := live_le (m := m) hpr
    have esum : ((m.present.take (i + 1)).map (leftOf m)).sum = ((m.present.take i).map (leftOf m)).sum + leftOf m m.present[i] := by
      rw [take_next hi, List.map_append]
      exact sum_snoc _ _
    refine st_if (b := !decide (m.color m.present[i] = 2)) (Ans.to (ans_neI (Val.hh (use_meth (v_World_cycle T W1 (val_var rfl)) W1.h_cy no_Cycle_color (va1 (val_var rfl)) ⟨_, A, m, m.present[i], rfl, W1, hpr.1, rfl⟩)) val_c rfl) ?_) (fun h => ?_) (fun h => ?_)
    · congr 1
      exact decide_eq_decide.mpr (by omega)
    · have hc : ¬ m.color m.present[i] = 2 := by
        intro q
        rw [decide_eq_true q] at h
        cases h
      refine st_augI 1 rfl (val_add val_c (val_len (v_Entry_cells T W1 (ent_get hle.1 hle.2) (Val.hh (use_meth (v_World_heap T W1 (val_var rfl)) W1.h_hp no_Heap_entry (va1 (val_var rfl)) ⟨_, A, m, m.present[i], rfl, W1, hle.1, hle.2, rfl⟩))) (SqL.of (W1.h_ce (ent_get hle.1 hle.2))))) ?_
      refine ⟨rfl, some (.int ((m.present[i] : Nat) : Int)), ?_⟩
      rw [esum, W1.cell_len hle.1 hle.2]
      unfold leftOf
      rw [if_neg hc]
      rfl
    · have hc : m.color m.present[i] = 2 := by
        by_cases q : m.color m.present[i] = 2
        · exact q
        · rw [decide_eq_false q] at h
          cases h
      refine ⟨rfl, some (.int ((m.present[i] : Nat) : Int)), ?_⟩
      rw [esum]
      unfold leftOf
      rw [if_pos hc]
      rfl
  · rintro σ H' ⟨rfl, v, rfl⟩
    dsimp only
    refine st_ret (val_sub (val_var rfl) (v_Cycle_examined T W1 (v_World_cycle T W1 (val_var rfl)))) (k _ _ ⟨?_, s1⟩)
    rw [nats_len, List.take_length]
    rfl
end
end Gw

set_option Elab.async false
set_option maxRecDepth 100000
set_option maxHeartbeats 4000000
set_option linter.all false
/-! The collector, second part: the end of a cycle, operations 15 to 18. -/
namespace Gw
open PySem PySem.Spec PyProof.Rows L2 Gc

theorem codesOf_snoc (m : M) (l : List Nat) (x : Nat) : m.codesOf (l ++ [x]) = m.codesOf l ++ (if (m.ent x).code = 0 then [] else [(m.ent x).code]) := by
  unfold M.codesOf
  rw [List.map_append, List.filter_append]
  congr 1
  show [(m.ent x).code].filter _ = _
  rw [List.filter_cons]
  by_cases h : (m.ent x).code = 0
  · rw [if_pos h, h]
    rfl
  · rw [if_neg h, if_pos (by simpa using h)]
    rfl
theorem codesOf_le (m : M) (l : List Nat) : (m.codesOf l).length ≤ l.length := by
  unfold M.codesOf
  refine Nat.le_trans (List.length_filter_le _ _) ?_
  rw [List.length_map]
  exact Nat.le_refl _
theorem white_small {m : M} (w : Wf m) : m.white.length ≤ 60 := by
  unfold M.white
  exact Nat.le_trans (List.length_filter_le _ _) (present_small w)
theorem freeAll_take {m : M} {l : List Nat} {i : Nat} (h : i < l.length) : m.freeAll (l.take (i + 1)) = (m.freeAll (l.take i)).free l[i] := by
  unfold M.freeAll
  exact fold_next h m
theorem codesOf_freed {m : M} {l : List Nat} (h : ∀ n ∈ l, 1 ≤ n) : (m.freeAll l).codesOf l = m.codesOf l := by
  unfold M.codesOf
  congr 1
  refine List.map_congr_left fun n hn => ?_
  rw [freeAll_ent l m h (h n hn)]
  split <;> rfl
section
variable {P : Program} {w : World} {K : PySem.W.Frag} {mg : Str → Option Value} {base : Heap} {a : Ads}
def pFree (a : Ads) : Pre := fun vs H post => ∃ F A m, vs = [.ref A.w] ∧ WA a F H A m ∧ Good m ∧ post = fun r H' => ∃ q, r = .ref q ∧ F q = none ∧ WA a (upd F q (.lst (nats m.white))) H' A (m.freeAll m.white)
theorem ok_free_white (T : Txt K mg a) : FnOk P w K mg base CX0 3 a.f_free_white a.d_free_white ["world"] (Pr (pFree a)) := by
  have G_Cycle_color := ok_Cycle_color (P := P) (w := w) (base := base) T
  have G_Heap_present := ok_Heap_present (P := P) (w := w) (base := base) T
  have G_Heap_free := ok_Heap_free (P := P) (w := w) (base := base) T
  refine T.D_free_white.F.ok sc_free_white (fun vs H Q E h => ?_) (fun cdv A0 outer s H vs Q E hr h => ?_)
  · obtain ⟨_, ⟨F, A, m, rfl, W, g, rfl⟩, _⟩ := h
    rfl
  obtain ⟨_, ⟨F, A, m, rfl, W, g, rfl⟩, k⟩ := h
  refine ⟨_, (pss_cons (ps_setLc (i := 1) (own := [("number", 2)]) (g := gName 2) (tt := tTest (tOp rEq (tMeth a.cCycle "color" (Pr (pColor a)) [] E0 (tFld K (tVar 0) "cycle") (tCons (tVar 2) tNil)) (tC (.int 0)))) rfl sc_free_white.nd rfl rfl (sw_true rfl rfl rfl (by decide +kernel)) (pi_list (pe_meth0 (pe_fld (pv 0) rfl) T.c_Heap.cl T.D_Heap_present.m G_Heap_present (hr.mono (by decide)) T.D_Heap_present.b .nil pass0)) (blkOk_by (N := N_free_white) (sc := defScope s_free_white) (by decide +kernel)) (fun _ _ _ _ _ => pg_name (i := 2) sc_free_white.nd rfl (Or.inl rfl)) (fun _ _ _ _ _ => pts_one (pt_cmpR op_eq (pe_meth (pe_fld (pv 0) rfl) T.c_Cycle.cl T.D_Cycle_color.m G_Cycle_color (hr.mono (by decide)) T.D_Cycle_color.b .nil pass0 (pa_cons (pv 2) pa_nil)) (pe_gv rfl T.k_WHITE) (nomark _))) (fun _ _ _ _ _ => (pv 2))) (pss_cons (ps_for PassesOwn.never rfl (pi_list (pv 1)) (pg_name (i := 2) sc_free_white.nd rfl (Or.inl rfl)) (pss_one (ps_expr (pe_meth (pe_fld (pv 0) rfl) T.c_Heap.cl T.D_Heap_free.m G_Heap_free (hr.mono (by decide)) T.D_Heap_free.b .nil pass0 (pa_cons (pv 2) pa_nil))))) (pss_one (ps_ret (pv 1))))), ?_⟩
  refine st_seq (st_setH (lc_filterL (l := m.present) (pr := fun n => m.color n == 0) (use_meth (v_World_heap T W (val_var rfl)) W.h_hp no_Heap_present va_nil ⟨F, A, m, rfl, W, Nat.lt_of_le_of_lt g.wf.en (by decide), rfl⟩) (Nat.lt_of_le_of_lt (present_small g.wf) (by decide)) (by show 2 < 3; decide) (fun H1 sm x hx D hD acc => ?_) (fun x => rfl)) fun v H1 h => ?_)
  · have W1 := (W.ext sm).push (o := .lst acc) hD
    exact ans_eqI (Val.hh (use_meth (v_World_cycle T W1 (val_var rfl)) W1.h_cy no_Cycle_color (va1 (val_var rfl)) ⟨_, A, m, x, by rfl, W1, (mem_present.mp hx).1, rfl⟩)) val_c (dec_beq (y := 0) rfl)
  · obtain ⟨H0, sm, hn⟩ := h
    obtain ⟨q, rfl, hq, W1⟩ := hn.push (W.ext sm)
    refine st_seq (st_forL (xs := nats m.white) (val_var rfl) (fun i σ H' => (∃ v : Option V, σ = [some (.ref A.w), some (.ref q), v]) ∧ WA a (upd F q (.lst (nats m.white))) H' A (m.freeAll (m.white.take i))) ⟨⟨_, rfl⟩, W1⟩ (fun i σ H' _ h => SqL.of h.2.get) ?_ ?_)
    · rintro i x σ H' hx ⟨⟨v, rfl⟩, W'⟩
      obtain ⟨hi, rfl⟩ := nats_item hx
      have hw := mem_white.mp (List.getElem_mem hi)
      have hle := live_le (m := m) hw.1
      refine st_dropH (use_meth (v_World_heap T W' (val_var rfl)) W'.h_hp no_Heap_free (va1 (val_var rfl)) ⟨_, A, _, m.white[i], by rfl, W', hle.1, by rw [freeAll_len]; exact hle.2, rfl⟩) fun r H2 h => ?_
      refine ⟨⟨_, rfl⟩, ?_⟩
      rw [freeAll_take hi]
      exact h.2
    · rintro σ H' ⟨⟨v, rfl⟩, W'⟩
      dsimp only
      refine st_ret (val_var rfl) (k _ _ ⟨q, rfl, hq, ?_⟩)
      rw [nats_len, List.take_length] at W'
      exact W'

def pCodes (a : Ads) : Pre := fun vs H post => ∃ F A m l q, vs = [.ref A.hp, .ref q] ∧ WA a F H A m ∧ H q = some (.lst (nats l)) ∧ (∀ n ∈ l, 1 ≤ n ∧ n ≤ m.ents.length) ∧ l.length < 1000 ∧ post = NewL (nats (m.codesOf l)) H
theorem ok_codes_of (T : Txt K mg a) : FnOk P w K mg base CX0 2 a.f_codes_of a.d_codes_of ["heap", "numbers"] (Pr (pCodes a)) := by
  have G_Heap_entry := ok_Heap_entry (P := P) (w := w) (base := base) T
  refine T.D_codes_of.F.ok sc_codes_of (fun vs H Q E h => ?_) (fun cdv A0 outer s H vs Q E hr h => ?_)
  · obtain ⟨_, ⟨F, A, m, l, q, rfl, W, hq, hl, hs, rfl⟩, _⟩ := h
    rfl
  obtain ⟨_, ⟨F, A, m, l, q, rfl, W, hq, hl, hs, rfl⟩, k⟩ := h
  refine ⟨_, (pss_cons (ps_set (i := 2) sc_codes_of.nd rfl (Or.inl rfl) (pe_lst pa_nil)) (pss_cons (ps_for PassesOwn.never rfl (pi_list (pv 1)) (pg_name (i := 3) sc_codes_of.nd rfl (Or.inl rfl)) (pss_cons (ps_set (i := 4) sc_codes_of.nd rfl (Or.inl rfl) (pe_fld (pe_meth (pv 0) T.c_Heap.cl T.D_Heap_entry.m G_Heap_entry (hr.mono (by decide)) T.D_Heap_entry.b .nil pass0 (pa_cons (pv 3) pa_nil)) rfl)) (pss_one (ps_if (pt_cmpR op_ne (pv 4) pe_int (nomark _)) (pss_one (ps_expr (pe_bm PySem.F.plainAttrs_list PySem.F.slot_list_append PySem.F.type_list_append mt_append (pv 2) (pa_cons (pv 4) pa_nil)))) pss_nil)))) (pss_one (ps_ret (pv 2))))), ?_⟩
  refine st_seq (st_setH (valh_lst va_nil (by decide)) fun y H1 h => ?_)
  obtain ⟨p, hp, rfl, rfl⟩ := h
  have npq : q ≠ p := ne_of_none hq hp
  refine st_seq (st_forL (xs := nats l) (val_var rfl) (fun i σ H' => (∃ v u : Option V, σ = [some (.ref A.hp), some (.ref q), some (.ref p), v, u]) ∧ H' = upd H p (.lst (nats (m.codesOf (l.take i))))) ⟨⟨_, _, rfl⟩, rfl⟩ (fun i σ H' _ h => SqL.of (by rw [h.2, upd_ne npq]; exact hq)) ?_ ?_)
  · rintro i x σ H' hx ⟨⟨v, u, rfl⟩, rfl⟩
    obtain ⟨hi, rfl⟩ := nats_item hx
    have hle := hl _ (List.getElem_mem hi)
    have W' := W.push (o := .lst (nats (m.codesOf (l.take i)))) hp
    refine st_seq (st_set (v_Entry_code T W' (ent_get hle.1 hle.2) (Val.hh (use_meth (val_var rfl) W'.h_hp no_Heap_entry (va1 (val_var rfl)) ⟨_, A, m, l[i], rfl, W', hle.1, hle.2, rfl⟩))) ?_)
    refine st_if (b := !decide ((m.ent l[i]).code = 0)) (Ans.to (ans_neI (val_var rfl) val_c rfl) (by congr 1; exact decide_eq_decide.mpr (by omega))) (fun h => ?_) (fun h => ?_)
    · have hc : ¬ (m.ent l[i]).code = 0 := by
        intro z
        rw [decide_eq_true z] at h
        cases h
      refine st_app (val_var rfl) (val_var rfl) upd_same (by rw [nats_len]; exact Nat.lt_of_le_of_lt (codesOf_le _ _) (Nat.lt_of_le_of_lt (by rw [List.length_take]; exact Nat.min_le_right _ _) (Nat.lt_trans hs (by decide)))) ?_
      refine ⟨⟨_, _, rfl⟩, ?_⟩
      rw [upd_upd, take_next hi, codesOf_snoc, if_neg hc, ← nats_snoc]
    · have hc : (m.ent l[i]).code = 0 := by
        by_cases z : (m.ent l[i]).code = 0
        · exact z
        · rw [decide_eq_false z] at h
          cases h
      refine ⟨⟨_, _, rfl⟩, ?_⟩
      rw [take_next hi, codesOf_snoc, if_pos hc, List.append_nil]
  · rintro σ H' ⟨⟨v, u, rfl⟩, rfl⟩
    dsimp only
    refine st_ret (val_var rfl) (k _ _ ⟨p, hp, rfl, ?_⟩)
    rw [nats_len, List.take_length]
/-- an operation: its result, the world behind it -/
def pOp (a : Ads) (f : M → M × List Int) (c : M → Prop) : Pre := fun vs H post => ∃ F A m, vs = [.ref A.w] ∧ WA a F H A m ∧ Good m ∧ m.owners.length < 10000 ∧ m.reports.length < 2000000 ∧ c m ∧ post = Res a F A (f m)
def finishList (m : M) : List Int := [(m.white.length : Int), ((m.codesOf m.white).length : Int)] ++ zints (m.codesOf m.white) ++ [(m.gone.length : Int)] ++ zints m.gone
theorem drop_codes (m : M) (l l' : List Nat) : ((m.report l).drop l').codesOf l = m.codesOf l := rfl
theorem ok_finish (T : Txt K mg a) : FnOk P w K mg base CX0 4 a.f_finish a.d_finish ["world"] (Pr (pOp a M.finish (fun m => m.running = true))) := by
  have G_free_white := ok_free_white (P := P) (w := w) (base := base) T
  have G_codes_of := ok_codes_of (P := P) (w := w) (base := base) T
  have G_World_report := ok_World_report (P := P) (w := w) (base := base) T
  have G_Imports_give_up := ok_Imports_give_up (P := P) (w := w) (base := base) T
  have G_Cycle_stop := ok_Cycle_stop (P := P) (w := w) (base := base) T
  refine T.D_finish.F.ok sc_finish (fun vs H Q E h => ?_) (fun cdv A0 outer s H vs Q E hr h => ?_)
  · obtain ⟨_, ⟨F, A, m, rfl, W, g, ho, hrp, hrun, rfl⟩, _⟩ := h
    rfl
  obtain ⟨_, ⟨F, A, m, rfl, W, g, ho, hrp, hrun, rfl⟩, k⟩ := h
  refine ⟨_, (pss_cons (ps_set (i := 1) sc_finish.nd rfl (Or.inl rfl) (pe_call G_free_white (hr.mono (by decide)) rfl T.D_free_white.g T.D_free_white.F.kp T.D_free_white.b .nil pass0 (pa_cons (pv 0) pa_nil))) (pss_cons (ps_set (i := 2) sc_finish.nd rfl (Or.inl rfl) (pe_call G_codes_of (hr.mono (by decide)) rfl T.D_codes_of.g T.D_codes_of.F.kp T.D_codes_of.b .nil pass0 (pa_cons (pe_fld (pv 0) rfl) (pa_cons (pv 1) pa_nil)))) (pss_cons (ps_expr (pe_meth (pv 0) T.c_World.cl T.D_World_report.m G_World_report (hr.mono (by decide)) T.D_World_report.b .nil pass0 (pa_cons (pv 2) pa_nil))) (pss_cons (ps_set (i := 3) sc_finish.nd rfl (Or.inl rfl) (pe_meth (pe_fld (pv 0) rfl) T.c_Imports.cl T.D_Imports_give_up.m G_Imports_give_up (hr.mono (by decide)) T.D_Imports_give_up.b .nil pass0 (pa_cons (pe_fld (pe_fld (pv 0) rfl) rfl) pa_nil))) (pss_cons (ps_expr (pe_meth0 (pe_fld (pv 0) rfl) T.c_Cycle.cl T.D_Cycle_stop.m G_Cycle_stop (hr.mono (by decide)) T.D_Cycle_stop.b .nil pass0)) (pss_one (ps_ret (pe_op op_cat (pe_op op_cat (pe_op op_cat (pe_lst (pa_cons (pe_callB call_len_seq (by rfl) T.n_len PySem.boot_len (pa_cons (pv 1) pa_nil)) (pa_cons (pe_callB call_len_seq (by rfl) T.n_len PySem.boot_len (pa_cons (pv 2) pa_nil)) pa_nil))) (pv 2)) (pe_lst (pa_cons (pe_callB call_len_seq (by rfl) T.n_len PySem.boot_len (pa_cons (pv 3) pa_nil)) pa_nil))) (pv 3))))))))), ?_⟩
  have hw60 := white_small g.wf
  have hc60 := Nat.le_trans (codesOf_le m m.white) hw60
  refine st_seq (st_setH (use_call (va1 (val_var rfl)) ⟨F, A, m, rfl, W, g, rfl⟩) fun y H1 h => ?_)
  obtain ⟨q1, rfl, hq1, W1⟩ := h
  have e1 : (m.freeAll m.white).codesOf m.white = m.codesOf m.white := codesOf_freed white_ge
  dsimp only
  refine st_seq (st_setH (use_call (va2 (v_World_heap T W1 (val_var rfl)) (val_var rfl)) ⟨_, A, _, m.white, q1, rfl, W1, W1.get, fun n hn => by rw [freeAll_len]; exact live_le (m := m) (mem_white.mp hn).1, Nat.lt_of_le_of_lt hw60 (by decide), rfl⟩) fun y H2 h => ?_)
  obtain ⟨q2, rfl, hq2, W2⟩ := h.push W1
  rw [e1] at W2
  have hFq2 : F q2 = none := by
    by_cases z : q2 = q1
    · rw [z]
      exact hq1
    · rw [upd_ne z] at hq2
      exact hq2
  have nq : q1 ≠ q2 := fun z => by
    rw [← z, upd_same] at hq2
    cases hq2
  dsimp only
  refine st_seq (st_dropH (use_meth (val_var rfl) W2.h_w no_World_report (va1 (val_var rfl)) ⟨_, A, _, m.codesOf m.white, q2, rfl, W2, W2.get, ?_, rfl⟩) fun r H3 h => ?_)
  · rw [freeAll_frame]
    show m.reports.length + _ < _
    omega
  replace W2 := h.2
  generalize hM : M.report (m.freeAll m.white) (m.codesOf m.white) = m3 at W2
  have hg3 : m3.gone = m.gone := by
    rw [← hM, freeAll_frame]
    rfl
  have hi3 : m3.imported.length = 100 := by
    rw [← hM, freeAll_frame]
    exact g.wf.im
  have hk3 : m3.marked.length = 100 := by
    rw [← hM, freeAll_frame]
    exact g.wf.ma hrun
  dsimp only
  refine st_seq (st_setH (use_meth (v_World_imports T W2 (val_var rfl)) W2.h_im no_Imports_give_up (va1 (v_Cycle_marked T W2 (v_World_cycle T W2 (val_var rfl)))) ⟨_, A, m3, rfl, W2, hi3, hk3, rfl⟩) fun y H4 h => ?_)
  obtain ⟨q3, rfl, hq3, W4⟩ := h
  rw [hg3] at W4
  have nq23 : q2 ≠ q3 := fun z => by
    rw [← z, upd_same] at hq3
    cases hq3
  have nq13 : q1 ≠ q3 := fun z => by
    rw [← z, upd_ne nq, upd_same] at hq3
    cases hq3
  dsimp only
  refine st_seq (st_dropH (use_meth (v_World_cycle T W4 (val_var rfl)) W4.h_cy no_Cycle_stop va_nil ⟨_, A, _, rfl, W4, trivial, rfl⟩) fun r H5 h => ?_)
  obtain ⟨_, lc, lg, lm, W5⟩ := h
  have h1 : H5 q1 = some (.lst (nats m.white)) := W5.same _ _ (by rw [upd_ne nq13, upd_ne nq, upd_same])
  have h2 : H5 q2 = some (.lst (nats (m.codesOf m.white))) := W5.same _ _ (by rw [upd_ne nq23, upd_same])
  have h3 : H5 q3 = some (.lst (nats m.gone)) := W5.get
  have ef : m.finish.1 = (m3.drop m.gone).stop := by
    rw [← hM]
    rfl
  have W6 : WA a F H5 { A with lc := lc, lg := lg, lm := lm } m.finish.1 := by
    rw [ef]
    exact ((W5.pop hq3).pop hq2).pop hq1
  have sz : ∀ n : Nat, n ≤ 1000 → n ≤ sizeLine := fun n h => Nat.le_trans h (by decide)
  have hgl := gone_le m
  have ln1 := nats_len (l := m.codesOf m.white)
  have ln2 := nats_len (l := m.gone)
  dsimp only
  refine st_retH (valh_cat (opl_news (valh_cat (opl_news (valh_cat (opl_new (valh_lst (va2 (val_len (val_var rfl) (SqL.of h1)) (val_len (val_var rfl) (SqL.of h2))) (by show 2 ≤ 1000; decide))) (fun H1 s => opl_var (val_var rfl) (s _ _ h2)) ?_)) (fun H1 s => opl_new (valh_lst (va1 (val_len (val_var rfl) (SqL.of (s _ _ h3)))) (by show 1 ≤ 1000; decide))) ?_)) (fun H1 s => opl_var (val_var rfl) (s _ _ h3)) ?_) fun v H' h => k _ _ (h.res W6 ⟨rfl, rfl, rfl, rfl, rfl⟩ ?_)
  · refine sz _ ?_
    show 2 + (nats (m.codesOf m.white)).length ≤ 1000
    omega
  · refine sz _ ?_
    rw [List.length_append]
    show 2 + (nats (m.codesOf m.white)).length + 1 ≤ 1000
    omega
  · refine sz _ ?_
    rw [List.length_append, List.length_append]
    show 2 + (nats (m.codesOf m.white)).length + 1 + (nats m.gone).length ≤ 1000
    omega
  · rw [nats_len, nats_len, nats_len, nats_ints, nats_ints]
    show _ = (([(m.white.length : Int), ((m.codesOf m.white).length : Int)] ++ zints (m.codesOf m.white) ++ [(m.gone.length : Int)] ++ zints m.gone) : List Int).map V.int
    rw [List.map_append, List.map_append, List.map_append]
    rfl
theorem sum_le {f : Nat → Nat} {c : Nat} (h : ∀ n, f n ≤ c) : ∀ l : List Nat, (l.map f).sum ≤ c * l.length
  | [] => Nat.zero_le _
  | x :: l => by
    rw [List.map_cons, List.sum_cons, List.length_cons, Nat.mul_succ]
    have := sum_le h l
    have := h x
    omega
theorem total_small {m : M} (w : Wf m) : m.total ≤ 300 := by
  unfold M.total
  have h1 := sum_le (f := fun n => if m.color n = 2 then 0 else 1 + (m.cells n).length) (c := 5) (fun n => by
    have := cells_le w n
    split <;> omega) m.present
  have h2 := present_small w
  omega
theorem doUnits_reports : ∀ (k : Nat) (m : M), (M.doUnits k m).1.reports = m.reports
  | 0, _ => rfl
  | k + 1, m => by
    unfold M.doUnits
    split
    · rfl
    · refine (doUnits_reports k m.unit).trans ?_
      unfold M.unit
      split
      · exact mark_reports _ _
      · rfl
theorem begin_reports (m : M) : m.begin.reports = m.reports := by
  unfold M.begin
  have : ∀ (l : List Va) (k : M), (l.foldl M.mark k).reports = k.reports := by
    intro l
    induction l with
    | nil => intro k; rfl
    | cons v l ih => intro k; rw [List.foldl_cons, ih, mark_reports]
  exact this _ _
theorem finish_reports {m : M} (w : Wf m) : m.finish.1.reports.length ≤ m.reports.length + 60 := by
  rw [finish_eq]
  show (m.reports ++ m.codesOf m.white).length ≤ _
  rw [List.length_append]
  have := codesOf_le m m.white
  have := white_small w
  omega
theorem complete_reports {m : M} (g : Good m) (hr : m.running = true) : m.complete.1.reports.length ≤ m.reports.length + 60 := by
  have g1 := (Good.complete g hr).1
  have := finish_reports g1.wf
  rw [doUnits_reports] at this
  exact this
theorem ok_complete (T : Txt K mg a) : FnOk P w K mg base CX0 7 a.f_complete a.d_complete ["world"] (Pr (pOp a M.complete (fun m => m.running = true))) := by
  have G_do_units := ok_do_units (P := P) (w := w) (base := base) T
  have G_units_left := ok_units_left (P := P) (w := w) (base := base) T
  have G_finish := ok_finish (P := P) (w := w) (base := base) T
  refine T.D_complete.F.ok sc_complete (fun vs H Q E h => ?_) (fun cdv A0 outer s H vs Q E hr h => ?_)
  · obtain ⟨_, ⟨F, A, m, rfl, W, g, ho, hrp, hrun, rfl⟩, _⟩ := h
    rfl
  obtain ⟨_, ⟨F, A, m, rfl, W, g, ho, hrp, hrun, rfl⟩, k⟩ := h
  refine ⟨_, (pss_cons (ps_expr (pe_call G_do_units (hr.mono (by decide)) rfl T.D_do_units.g T.D_do_units.F.kp T.D_do_units.b .nil pass0 (pa_cons (pv 0) (pa_cons (pe_call G_units_left (hr.mono (by decide)) rfl T.D_units_left.g T.D_units_left.F.kp T.D_units_left.b .nil pass0 (pa_cons (pv 0) pa_nil)) pa_nil)))) (pss_one (ps_ret (pe_call G_finish (hr.mono (by decide)) rfl T.D_finish.g T.D_finish.F.kp T.D_finish.b .nil pass0 (pa_cons (pv 0) pa_nil))))), ?_⟩
  have hu := unitsLeft_nat g hrun
  have ht := total_small g.wf
  refine st_seq (st_dropH (use_callH (post := fun r H' => ∃ lc lg lm, WA a F H' { A with lc := lc, lg := lg, lm := lm } (M.doUnits m.unitsLeft.toNat m).1) (vah2 (val_var rfl) (use_call (va1 (val_var rfl)) ⟨F, A, m, rfl, W, g, rfl⟩)) fun vs H1 h => ?_) fun r H2 h => ?_)
  · obtain ⟨v, rfl, rfl, s⟩ := h
    exact ⟨_, ⟨F, A, m, m.unitsLeft, rfl, W.ext s, g, ho, hrun, by omega, by omega, rfl⟩, fun v H2 h => h.2⟩
  · obtain ⟨lc, lg, lm, W2⟩ := h
    obtain ⟨g2, r2, _⟩ := Good.complete g hrun
    dsimp only
    refine st_retH (use_call (va1 (val_var rfl)) ⟨F, _, _, by rfl, W2, g2, by rw [doUnits_owners]; exact ho, by rw [doUnits_reports]; exact hrp, r2, rfl⟩) fun v H' h => k _ _ ?_
    obtain ⟨q, A', e, hq, x, W3⟩ := h
    exact ⟨q, A', e, hq, ⟨x.w, x.hp, x.ex, x.im, x.cy⟩, W3⟩

/-! ### operations 15 to 18 -/
theorem res_list {F H H' : Hp} {A A' : Ad} {m' : M} {l : List Int} {v : V} (W : WA a F H A' m') (x : Ext A A') (h : NewL (l.map V.int) H v H') : Res a F A (m', l) v H' := h.news.res (r := (m', l)) W x rfl
theorem ok_begin_cycle (T : Txt K mg a) : FnOk P w K mg base CX0 5 a.f_begin_cycle a.d_begin_cycle ["world"] (Pr (pOp a M.opBegin (fun _ => True))) := by
  have G_begin := ok_begin (P := P) (w := w) (base := base) T
  refine T.D_begin_cycle.F.ok sc_begin_cycle (fun vs H Q E h => ?_) (fun cdv A0 outer s H vs Q E hr h => ?_)
  · obtain ⟨_, ⟨F, A, m, rfl, W, g, ho, hrp, _, rfl⟩, _⟩ := h
    rfl
  obtain ⟨_, ⟨F, A, m, rfl, W, g, ho, hrp, _, rfl⟩, k⟩ := h
  refine ⟨_, (pss_cons (ps_if (pt_val (pe_fld (pe_fld (pv 0) rfl) rfl)) (pss_one (ps_ret (pe_lst (pa_cons (pe_gv rfl T.k_CYCLE_RUNNING) pa_nil)))) pss_nil) (pss_cons (ps_expr (pe_call G_begin (hr.mono (by decide)) rfl T.D_begin.g T.D_begin.F.kp T.D_begin.b .nil pass0 (pa_cons (pv 0) pa_nil))) (pss_one (ps_ret (pe_lst (pa_cons pe_int pa_nil)))))), ?_⟩
  unfold M.opBegin at k
  refine st_ifN (ans_val (v_Cycle_running T W (v_World_cycle T W (val_var rfl)))) (fun h => ?_) (fun h => ?_)
  · rw [if_pos h] at k
    exact st_retH (valh_lst (va1 val_c) (by show 1 ≤ 1000; decide)) fun v H' h => k _ _ (res_list (l := [-8]) W (Ext.refl A) h)
  · rw [if_neg (by rw [h]; decide)] at k
    refine st_seq (st_dropH (use_call (va1 (val_var rfl)) ⟨F, A, m, rfl, W, g, ho, trivial, rfl⟩) fun r H1 h => ?_)
    obtain ⟨_, lc, lg, lm, W1⟩ := h
    dsimp only
    exact st_retH (valh_lst (va1 val_c) (by show 1 ≤ 1000; decide)) fun v H' h => k _ _ (res_list (l := [0]) W1 ⟨rfl, rfl, rfl, rfl, rfl⟩ h)
def pOp1 (a : Ads) (f : M → Int → M × List Int) : Pre := fun vs H post => ∃ F A m, ∃ x : Int, vs = [.ref A.w, .int x] ∧ WA a F H A m ∧ Good m ∧ m.owners.length < 10000 ∧ m.reports.length < 2000000 ∧ post = Res a F A (f m x)
theorem ok_work (T : Txt K mg a) : FnOk P w K mg base CX0 7 a.f_work a.d_work ["world", "budget"] (Pr (pOp1 a M.opWork)) := by
  have G_between := ok_between (P := P) (w := w) (base := base) T
  have G_do_units := ok_do_units (P := P) (w := w) (base := base) T
  refine T.D_work.F.ok sc_work (fun vs H Q E h => ?_) (fun cdv A0 outer s H vs Q E hr h => ?_)
  · obtain ⟨_, ⟨F, A, m, b, rfl, W, g, ho, hrp, rfl⟩, _⟩ := h
    rfl
  obtain ⟨_, ⟨F, A, m, b, rfl, W, g, ho, hrp, rfl⟩, k⟩ := h
  refine ⟨_, (pss_cons (ps_if (pt_not (pt_val (pe_call G_between (hr.mono (by decide)) rfl T.D_between.g T.D_between.F.kp T.D_between.b .nil pass0 (pa_cons (pv 1) (pa_cons pe_int (pa_cons (pe_gv rfl T.k_MOST_BUDGET) pa_nil)))))) (pss_one (ps_ret (pe_lst (pa_cons (pe_gv rfl T.k_OUT_OF_RANGE) pa_nil)))) pss_nil) (pss_cons (ps_if (pt_not (pt_val (pe_fld (pe_fld (pv 0) rfl) rfl))) (pss_one (ps_ret (pe_lst (pa_cons (pe_gv rfl T.k_NO_CYCLE) pa_nil)))) pss_nil) (pss_cons (ps_set (i := 2) sc_work.nd rfl (Or.inl rfl) (pe_call G_do_units (hr.mono (by decide)) rfl T.D_do_units.g T.D_do_units.F.kp T.D_do_units.b .nil pass0 (pa_cons (pv 0) (pa_cons (pv 1) pa_nil)))) (pss_cons (ps_if (pt_cmpR op_eq (pe_callB call_len_seq (by rfl) T.n_len PySem.boot_len (pa_cons (pe_fld (pe_fld (pv 0) rfl) rfl) pa_nil)) pe_int (nomark _)) (pss_one (ps_ret (pe_lst (pa_cons (pv 2) (pa_cons pe_int pa_nil))))) pss_nil) (pss_one (ps_ret (pe_lst (pa_cons (pv 2) (pa_cons pe_int pa_nil))))))))), ?_⟩
  unfold M.opWork at k
  refine st_ifN (ans_not (ans_val (Val.hh (use_call (va3 (val_var rfl) val_c val_c) ⟨b, 1, 1000, rfl, rfl⟩)))) (fun h => ?_) (fun h => ?_)
  · rw [if_pos h] at k
    exact st_retH (valh_lst (va1 val_c) (by show 1 ≤ 1000; decide)) fun v H' h => k _ _ (res_list (l := [-1]) W (Ext.refl A) h)
  · rw [if_neg (by rw [h]; decide)] at k
    have hb : 1 ≤ b ∧ b ≤ 1000 := by
      have h' : between b 1 1000 = true := by
        cases q : between b 1 1000 with
        | true => rfl
        | false =>
          rw [q] at h
          cases h
      unfold between at h'
      rw [Bool.and_eq_true, decide_eq_true_eq, decide_eq_true_eq] at h'
      exact h'
    refine st_ifN (ans_not (ans_val (v_Cycle_running T W (v_World_cycle T W (val_var rfl))))) (fun h => ?_) (fun h => ?_)
    · rw [if_pos h] at k
      exact st_retH (valh_lst (va1 val_c) (by show 1 ≤ 1000; decide)) fun v H' h => k _ _ (res_list (l := [-9]) W (Ext.refl A) h)
    · rw [if_neg (by rw [h]; decide)] at k
      have hrun : m.running = true := by
        cases q : m.running with
        | true => rfl
        | false =>
          rw [q] at h
          cases h
      refine st_seq (st_setH (use_call (va2 (val_var rfl) (val_var rfl)) ⟨F, A, m, b, rfl, W, g, ho, hrun, by omega, by omega, rfl⟩) fun v H1 h => ?_)
      obtain ⟨rfl, lc, lg, lm, W1⟩ := h
      dsimp only
      refine st_ifN (Ans.to (ans_eqI (val_len (v_Cycle_grey T W1 (v_World_cycle T W1 (val_var rfl))) (SqL.of W1.h_lg)) val_c rfl) grey_test) (fun h => ?_) (fun h => ?_)
      · rw [if_pos (of_decide_eq_true h)] at k
        exact st_retH (valh_lst (va2 (val_var rfl) val_c) (by show 2 ≤ 1000; decide)) fun v H' h => k _ _ (res_list (l := [_, 1]) W1 ⟨rfl, rfl, rfl, rfl, rfl⟩ h)
      · rw [if_neg (of_decide_eq_false h)] at k
        exact st_retH (valh_lst (va2 (val_var rfl) val_c) (by show 2 ≤ 1000; decide)) fun v H' h => k _ _ (res_list (l := [_, 0]) W1 ⟨rfl, rfl, rfl, rfl, rfl⟩ h)
theorem ok_end_cycle (T : Txt K mg a) : FnOk P w K mg base CX0 5 a.f_end_cycle a.d_end_cycle ["world"] (Pr (pOp a M.opEnd (fun _ => True))) := by
  have G_finish := ok_finish (P := P) (w := w) (base := base) T
  refine T.D_end_cycle.F.ok sc_end_cycle (fun vs H Q E h => ?_) (fun cdv A0 outer s H vs Q E hr h => ?_)
  · obtain ⟨_, ⟨F, A, m, rfl, W, g, ho, hrp, _, rfl⟩, _⟩ := h
    rfl
  obtain ⟨_, ⟨F, A, m, rfl, W, g, ho, hrp, _, rfl⟩, k⟩ := h
  refine ⟨_, (pss_cons (ps_if (pt_not (pt_val (pe_fld (pe_fld (pv 0) rfl) rfl))) (pss_one (ps_ret (pe_lst (pa_cons (pe_gv rfl T.k_NO_CYCLE) pa_nil)))) pss_nil) (pss_cons (ps_if (pt_cmpR op_gt (pe_callB call_len_seq (by rfl) T.n_len PySem.boot_len (pa_cons (pe_fld (pe_fld (pv 0) rfl) rfl) pa_nil)) pe_int (nomark _)) (pss_one (ps_ret (pe_lst (pa_cons (pe_gv rfl T.k_STILL_GREY) pa_nil)))) pss_nil) (pss_one (ps_ret (pe_call G_finish (hr.mono (by decide)) rfl T.D_finish.g T.D_finish.F.kp T.D_finish.b .nil pass0 (pa_cons (pv 0) pa_nil)))))), ?_⟩
  unfold M.opEnd at k
  refine st_ifN (ans_not (ans_val (v_Cycle_running T W (v_World_cycle T W (val_var rfl))))) (fun h => ?_) (fun h => ?_)
  · rw [if_pos h] at k
    exact st_retH (valh_lst (va1 val_c) (by show 1 ≤ 1000; decide)) fun v H' h => k _ _ (res_list (l := [-9]) W (Ext.refl A) h)
  · rw [if_neg (by rw [h]; decide)] at k
    have hrun : m.running = true := by
      cases q : m.running with
      | true => rfl
      | false =>
        rw [q] at h
        cases h
    refine st_ifN (ans_b0 (val_len (v_Cycle_grey T W (v_World_cycle T W (val_var rfl))) (SqL.of W.h_lg)) val_c rfl) (fun h => ?_) (fun h => ?_)
    · have hg : m.grey ≠ [] := fun q => by
        have := of_decide_eq_true h
        rw [nats_len, q] at this
        exact absurd this (by decide)
      rw [if_pos hg] at k
      exact st_retH (valh_lst (va1 val_c) (by show 1 ≤ 1000; decide)) fun v H' h => k _ _ (res_list (l := [-10]) W (Ext.refl A) h)
    · have hg : ¬ m.grey ≠ [] := fun q => by
        have := of_decide_eq_false h
        rw [nats_len] at this
        have : 0 < m.grey.length := List.length_pos_iff.mpr q
        omega
      rw [if_neg hg] at k
      exact st_retH (use_call (va1 (val_var rfl)) ⟨F, A, m, rfl, W, g, ho, hrp, hrun, rfl⟩) fun v H' h => k _ _ h
theorem upd_back {F : Hp} {p q : Addr} {o u : HO} (h : p ≠ q) : upd (upd F p o) q u = upd (upd F q u) p o := upd_comm h
theorem ok_collect (T : Txt K mg a) : FnOk P w K mg base CX0 8 a.f_collect a.d_collect ["world"] (Pr (pOp a M.opCollect (fun m => m.reports.length < 1000000))) := by
  have G_complete := ok_complete (P := P) (w := w) (base := base) T
  have G_begin := ok_begin (P := P) (w := w) (base := base) T
  refine T.D_collect.F.ok sc_collect (fun vs H Q E h => ?_) (fun cdv A0 outer s H vs Q E hr h => ?_)
  · obtain ⟨_, ⟨F, A, m, rfl, W, g, ho, _, hrp, rfl⟩, _⟩ := h
    rfl
  obtain ⟨_, ⟨F, A, m, rfl, W, g, ho, _, hrp, rfl⟩, k⟩ := h
  refine ⟨_, (pss_cons (ps_set (i := 1) sc_collect.nd rfl (Or.inl rfl) (pe_lst (pa_cons pe_int (pa_cons pe_int (pa_cons pe_int pa_nil))))) (pss_cons (ps_if (pt_val (pe_fld (pe_fld (pv 0) rfl) rfl)) (pss_one (ps_set (i := 1) sc_collect.nd rfl (Or.inl rfl) (pe_call G_complete (hr.mono (by decide)) rfl T.D_complete.g T.D_complete.F.kp T.D_complete.b .nil pass0 (pa_cons (pv 0) pa_nil)))) pss_nil) (pss_cons (ps_expr (pe_call G_begin (hr.mono (by decide)) rfl T.D_begin.g T.D_begin.F.kp T.D_begin.b .nil pass0 (pa_cons (pv 0) pa_nil))) (pss_one (ps_ret (pe_op op_cat (pv 1) (pe_call G_complete (hr.mono (by decide)) rfl T.D_complete.g T.D_complete.F.kp T.D_complete.b .nil pass0 (pa_cons (pv 0) pa_nil)))))))), ?_⟩
  refine st_seq (st_setH (valh_lst (va3 val_c val_c val_c) (by show 3 ≤ 1000; decide)) fun y H1 h => ?_)
  obtain ⟨p0, rfl, hp0, W1⟩ := h.push W
  have key : ∀ (q : Addr) (H2 : Hp) (A2 : Ad) (r : List Int) (m2 : M), F q = none → Ext A A2 → WA a (upd F q (.lst (r.map V.int))) H2 A2 m2 → Gc.Good m2 → m2.owners = m.owners → m2.reports.length < 2000000 → r.length ≤ 100000 → m.first = (m2, r) →
      tSeq (tDrop (tCall (Pr (pWC a M.begin (fun _ => True))) [] E0 (tCons (tVar 0) tNil))) (tRet (tOp rCat (tVar 1) (tCall (Pr (pOp a M.complete (fun m => m.running = true))) [] E0 (tCons (tVar 0) tNil)))) { nx := fun _ H' => Q .non H', rt := Q } [some (.ref A.w), some (.ref q)] H2 := by
    intro q H2 A2 r m2 hq x2 W2 g2 ho2 hrp2 hr2 hf
    obtain ⟨g3, r3⟩ := g2.begin
    have hw : A2.w = A.w := x2.w
    refine st_seq (st_dropH (use_call (va1 (val_var rfl)) ⟨_, A2, m2, by rw [hw], W2, g2, by rw [ho2]; exact ho, trivial, rfl⟩) fun v H3 h => ?_)
    obtain ⟨_, lc, lg, lm, W3⟩ := h
    have hl1 : H3 q = some (.lst (r.map V.int)) := W3.get
    dsimp only
    refine st_retH (PV := Res a F A m.opCollect) (fun Q2 q2 => ?_) fun v H' h => k _ _ h
    refine val_var (i := 1) rfl _ ?_
    refine use_call (va1 (val_var rfl)) ⟨_, _, m2.begin, by rw [← hw], W3, g3, by rw [begin_owners, ho2]; exact ho, by rw [begin_reports]; exact hrp2, r3, rfl⟩ _ fun v H4 h => ?_
    obtain ⟨p, A4, rfl, hp, x4, W4⟩ := h
    have npq : q ≠ p := fun z => by
      rw [← z, upd_same] at hp
      cases hp
    have h1 : H4 q = some (.lst (r.map V.int)) := W4.same _ _ (by rw [upd_ne npq, upd_same])
    have h2 : H4 p = some (.lst (m2.begin.complete.2.map V.int)) := W4.get
    have hr4 : m2.begin.complete.2.length ≤ 1000 := by
      obtain ⟨g5, _⟩ := Good.complete g3 r3
      have a1 := white_small g5.wf
      have a2 := codesOf_le (M.doUnits m2.begin.unitsLeft.toNat m2.begin).1 (M.doUnits m2.begin.unitsLeft.toNat m2.begin).1.white
      have a3 := gone_le (M.doUnits m2.begin.unitsLeft.toNat m2.begin).1
      unfold M.complete M.finish zints
      simp only [List.length_append, List.length_map, List.length_cons, List.length_nil]
      omega
    refine ⟨q, p, _, _, rfl, rfl, h1, h2, ?_, fun l hl => q2 _ _ ?_⟩
    · rw [List.length_map, List.length_map]
      exact Nat.le_trans (show _ ≤ 200000 by omega) (by decide)
    · have W5 : WA a F H4 A4 m2.begin.complete.1 := (W4.pop hp).pop hq
      refine ⟨l, A4, rfl, W5.free hl, ⟨x4.w.trans hw, x4.hp.trans x2.hp, x4.ex.trans x2.ex, x4.im.trans x2.im, x4.cy.trans x2.cy⟩, ?_⟩
      have e1 : m.opCollect = (m2.begin.complete.1, r ++ m2.begin.complete.2) := by
        unfold M.opCollect
        rw [hf]
      rw [e1]
      dsimp only
      rw [List.map_append]
      exact W5.push hl
  dsimp only
  refine st_ifN (ans_val (v_Cycle_running T W1 (v_World_cycle T W1 (val_var rfl)))) (fun h => ?_) (fun h => ?_)
  · have hf : m.first = m.complete := by
      unfold M.first
      rw [if_pos h]
    refine st_setH (use_call (va1 (val_var rfl)) ⟨_, A, m, rfl, W1, g, ho, by omega, h, rfl⟩) fun v H2 hh => ?_
    obtain ⟨q, A2, rfl, hq, x2, W2⟩ := hh
    have npq : p0 ≠ q := fun z => by
      rw [← z, upd_same] at hq
      cases hq
    rw [upd_comm npq] at W2
    rw [upd_ne npq.symm] at hq
    have hc := complete_both g h
    refine key q H2 A2 m.complete.2 m.complete.1 hq x2 (W2.pop (by rw [upd_ne npq]; exact hp0)) hc.2.2.1 (complete_owners m) ?_ ?_ hf
    · have := complete_reports g h
      omega
    · obtain ⟨g5, _⟩ := Good.complete g h
      have a1 := white_small g5.wf
      have a2 := codesOf_le (M.doUnits m.unitsLeft.toNat m).1 (M.doUnits m.unitsLeft.toNat m).1.white
      have a3 := gone_le (M.doUnits m.unitsLeft.toNat m).1
      unfold M.complete M.finish zints
      simp only [List.length_append, List.length_map, List.length_cons, List.length_nil]
      omega
  · have hf : m.first = (m, [0, 0, 0]) := by
      unfold M.first
      rw [if_neg (by rw [h]; decide)]
    exact key p0 H1 A [0, 0, 0] m hp0 (Ext.refl A) W1 g rfl (by omega) (by show 3 ≤ 100000; decide) hf
end
end Gw

set_option Elab.async false
set_option maxRecDepth 100000
set_option maxHeartbeats 4000000
set_option linter.all false
/-! The operations 0 to 14. -/
namespace Gw
open PySem PySem.Spec PyProof.Rows L2 Gc

/-- the addresses A' with A's fixed ones in their places -/
def Ad.fix (A A' : Ad) : Ad := { A' with w := A.w, hp := A.hp, ex := A.ex, im := A.im, cy := A.cy }
theorem Ext.fixed {A A' : Ad} (x : Ext A A') : A.fix A' = A' := by
  unfold Ad.fix
  rw [← x.w, ← x.hp, ← x.ex, ← x.im, ← x.cy]
theorem fixed_ext (A A' : Ad) : Ext A (A.fix A') := ⟨rfl, rfl, rfl, rfl, rfl⟩
theorem Wd.fix {a : Ads} {F H' : Hp} {A : Ad} {v r : V} {m' : M} (h : Wd a F A v m' r H') : r = v ∧ ∃ A', WA a F H' (A.fix A') m' := ⟨h.1, let ⟨A', x, W⟩ := h.2; ⟨A', by rw [x.toExt.fixed]; exact W⟩⟩
theorem WdE.fix {a : Ads} {F H' : Hp} {A : Ad} {v r : V} {m' : M} (h : WdE a F A v m' r H') : r = v ∧ ∃ A', WA a F H' (A.fix A') m' := ⟨h.1, let ⟨A', x, W⟩ := h.2; ⟨A', by rw [x.fixed]; exact W⟩⟩
theorem bnot_false {b : Bool} (h : (!b) = false) : b = true := by
  cases b with
  | true => rfl
  | false => cases h
theorem bor_false {b c : Bool} (h : (b || c) = false) : b = false ∧ c = false := by
  cases b <;> cases c <;> first | exact ⟨rfl, rfl⟩ | cases h
theorem between_iff {x lo hi : Int} (h : between x lo hi = true) : lo ≤ x ∧ x ≤ hi := by
  unfold between at h
  rw [Bool.and_eq_true, decide_eq_true_eq, decide_eq_true_eq] at h
  exact h
section
variable {P : Program} {w : World} {K : PySem.W.Frag} {mg : Str → Option Value} {base : Heap} {a : Ads}
def pOp2 (a : Ads) (f : M → Int → Int → M × List Int) : Pre := fun vs H post => ∃ F A m, ∃ x y : Int, vs = [.ref A.w, .int x, .int y] ∧ WA a F H A m ∧ Good m ∧ m.owners.length < 10000 ∧ m.reports.length < 2000000 ∧ post = Res a F A (f m x y)
def pOp3 (a : Ads) (f : M → Int → Int → Int → M × List Int) : Pre := fun vs H post => ∃ F A m, ∃ x y z : Int, vs = [.ref A.w, .int x, .int y, .int z] ∧ WA a F H A m ∧ Good m ∧ m.owners.length < 10000 ∧ m.reports.length < 2000000 ∧ post = Res a F A (f m x y z)
/-- return [n] -/
theorem ret_one {σ : Sl} {H F : Hp} {A A' : Ad} {m' : M} {te : TE} {n : Int} {D : Ends} (h : Val te σ H (.int n)) (W : WA a F H A' m') (x : Ext A A') (k : ∀ v H', Res a F A (m', [n]) v H' → D.rt v H') : tRet (tLst (tCons te tNil)) D σ H :=
  st_retH (valh_lst (va1 h) (by show 1 ≤ 1000; decide)) fun v H' h => k _ _ (res_list (l := [n]) W x h)
theorem ok_create (T : Txt K mg a) : FnOk P w K mg base CX0 4 a.f_create a.d_create ["world", "slot", "size", "code"] (Pr (pOp3 a M.opCreate)) := by
  have G_between := ok_between (P := P) (w := w) (base := base) T
  have G_is_slot := ok_is_slot (P := P) (w := w) (base := base) T
  have G_Heap_created := ok_Heap_created (P := P) (w := w) (base := base) T
  have G_Heap_create := ok_Heap_create (P := P) (w := w) (base := base) T
  have G_Heap_put := ok_Heap_put (P := P) (w := w) (base := base) T
  refine T.D_create.F.ok sc_create (fun vs H Q E h => ?_) (fun cdv A0 outer s H vs Q E hr h => ?_)
  · obtain ⟨_, ⟨F, A, m, i, n, c, rfl, W, g, ho, hrp, rfl⟩, _⟩ := h
    rfl
  obtain ⟨_, ⟨F, A, m, i, n, c, rfl, W, g, ho, hrp, rfl⟩, k⟩ := h
  refine ⟨_, (pss_cons (ps_if (PW.pt (pw_or (pt_not (pt_val (pe_call G_is_slot (hr.mono (by decide)) rfl T.D_is_slot.g T.D_is_slot.F.kp T.D_is_slot.b .nil pass0 (pa_cons (pv 1) pa_nil)))) (pw_or (pt_not (pt_val (pe_call G_between (hr.mono (by decide)) rfl T.D_between.g T.D_between.F.kp T.D_between.b .nil pass0 (pa_cons (pv 2) (pa_cons pe_int (pa_cons (pe_gv rfl T.k_MOST_FIELDS) pa_nil)))))) (pw_or1 (pt_not (pt_val (pe_call G_between (hr.mono (by decide)) rfl T.D_between.g T.D_between.F.kp T.D_between.b .nil pass0 (pa_cons (pv 3) (pa_cons pe_int (pa_cons (pe_gv rfl T.k_MOST_CODE) pa_nil)))))))))) (pss_one (ps_ret (pe_lst (pa_cons (pe_gv rfl T.k_OUT_OF_RANGE) pa_nil)))) pss_nil) (pss_cons (ps_if (pt_cmpR op_ge (pe_meth0 (pe_fld (pv 0) rfl) T.c_Heap.cl T.D_Heap_created.m G_Heap_created (hr.mono (by decide)) T.D_Heap_created.b .nil pass0) (pe_gv rfl T.k_MOST_OBJECTS) (nomark _)) (pss_one (ps_ret (pe_lst (pa_cons (pe_gv rfl T.k_TOO_MANY_OBJECTS) pa_nil)))) pss_nil) (pss_cons (ps_set (i := 4) sc_create.nd rfl (Or.inl rfl) (pe_meth (pe_fld (pv 0) rfl) T.c_Heap.cl T.D_Heap_create.m G_Heap_create (hr.mono (by decide)) T.D_Heap_create.b .nil pass0 (pa_cons (pv 2) (pa_cons (pv 3) pa_nil)))) (pss_cons (ps_expr (pe_meth (pe_fld (pv 0) rfl) T.c_Heap.cl T.D_Heap_put.m G_Heap_put (hr.mono (by decide)) T.D_Heap_put.b .nil pass0 (pa_cons (pv 1) (pa_cons (pe_tup (pa_cons (pe_gv rfl T.k_OBJECT) (pa_cons (pv 4) pa_nil))) pa_nil)))) (pss_one (ps_ret (pe_lst (pa_cons (pv 4) pa_nil)))))))), ?_⟩
  unfold M.opCreate at k
  refine st_ifN (ans_orL (ans_not (ans_val (Val.hh (use_call (va1 (val_var rfl)) ⟨i, rfl, rfl⟩)))) fun _ => ans_orL (ans_not (ans_val (Val.hh (use_call (va3 (val_var rfl) val_c val_c) ⟨n, 0, 4, rfl, rfl⟩)))) fun _ => ans_not (ans_val (Val.hh (use_call (va3 (val_var rfl) val_c val_c) ⟨c, 0, 1000000000, rfl, rfl⟩)))) (fun h => ?_) (fun h => ?_)
  · rw [if_pos h] at k
    exact ret_one val_c W (Ext.refl A) k
  · rw [if_neg (by rw [h]; decide)] at k
    obtain ⟨h1, h23⟩ := bor_false h
    obtain ⟨h2, h3⟩ := bor_false h23
    have i1 := between_iff (bnot_false h1)
    have i2 := between_iff (bnot_false h2)
    have i3 := between_iff (bnot_false h3)
    refine st_ifN (b := decide (60 ≤ m.ents.length)) (Ans.to (ans_b0 (Val.hh (use_meth (v_World_heap T W (val_var rfl)) W.h_hp no_Heap_created va_nil ⟨F, A, m, rfl, W, rfl⟩)) val_c rfl) (decide_eq_decide.mpr (by omega))) (fun h => ?_) (fun h => ?_)
    · rw [if_pos (of_decide_eq_true h)] at k
      exact ret_one val_c W (Ext.refl A) k
    · have hl := of_decide_eq_false h
      rw [if_neg hl] at k
      obtain ⟨i, rfl⟩ := Int.eq_ofNat_of_zero_le i1.1
      obtain ⟨n, rfl⟩ := Int.eq_ofNat_of_zero_le i2.1
      obtain ⟨c, rfl⟩ := Int.eq_ofNat_of_zero_le i3.1
      refine st_seq (st_setH (use_meth (v_World_heap T W (val_var rfl)) W.h_hp no_Heap_create (va2 (val_var rfl) (val_var rfl)) ⟨F, A, m, n, c, rfl, W, by omega, by omega, rfl⟩) fun v H1 h => ?_)
      obtain ⟨rfl, A1, W1⟩ := h.fix
      dsimp only
      refine st_seq (st_dropH (use_methH (post := fun r H2 => ∃ A2, WA a F H2 ((A.fix A1).fix A2) ((m.create n c).put i (.object (m.ents.length + 1)))) (v_World_heap T W1 (val_var rfl)) W1.h_hp no_Heap_put (vah2 (val_var rfl) (valh_pair (v := .object (m.ents.length + 1)) (va2 val_c (val_var rfl)) W1 rfl rfl)) fun vs H2 h => ?_) fun r H2 h => ?_)
      · obtain ⟨y, rfl, hy, W2, _⟩ := h
        exact ⟨_, ⟨F, _, _, y, _, i, by rfl, W2, hy, by show i < m.slots.length; rw [g.wf.sl]; omega, rfl⟩, fun v H3 h => h.fix.2⟩
      · obtain ⟨A2, W2⟩ := h
        dsimp only
        exact ret_one (A := A) (val_var rfl) W2 ⟨rfl, rfl, rfl, rfl, rfl⟩ k

/-- put a value into a slot, then return [0] -/
theorem put_ret (T : Txt K mg a) {σ : Sl} {H F : Hp} {A A' : Ad} {m : M} {D : Ends} {tw ti tv : TE} {v : Va} {i : Nat} (W : WA a F H (A.fix A') m) (hs : m.slots.length = 6) (hi : i ≤ 5)
    (hw : Val tw σ H (.ref A.w)) (h1 : Val ti σ H (.int (i : Int))) (h2 : ValH tv σ H fun r H' => VAt H' r v ∧ WA a F H' (A.fix A') m ∧ Same H H') (k : ∀ r H', Res a F A (m.put i v, [0]) r H' → D.rt r H') :
    tSeq (tDrop (tMeth a.cHeap "put" (Pr (pPut a)) [] E0 (tFld K tw "heap") (tCons ti (tCons tv tNil)))) (tRet (tLst (tCons (tC (.int 0)) tNil))) D σ H := by
  refine st_seq (st_dropH (use_methH (post := fun r H2 => ∃ A2, WA a F H2 ((A.fix A').fix A2) (m.put i v)) (v_World_heap T W hw) W.h_hp no_Heap_put (vah2 h1 h2) fun vs H2 h => ?_) fun r H2 h => ?_)
  · obtain ⟨y, rfl, hy, W2, _⟩ := h
    exact ⟨_, ⟨F, _, _, y, _, i, by rfl, W2, hy, by omega, rfl⟩, fun v H3 h => h.fix.2⟩
  · obtain ⟨A2, W2⟩ := h
    dsimp only
    exact ret_one (A := A) val_c W2 ⟨rfl, rfl, rfl, rfl, rfl⟩ k
theorem valh_self {σ : Sl} {H F : Hp} {A : Ad} {m : M} {te : TE} {x : V} {v : Va} (h : Val te σ H x) (hv : VAt H x v) (W : WA a F H A m) : ValH te σ H fun r H' => VAt H' r v ∧ WA a F H' A m ∧ Same H H' := fun Q q => h _ (q _ _ ⟨hv, W, Same.refl H⟩)
theorem ok_set_integer (T : Txt K mg a) : FnOk P w K mg base CX0 3 a.f_set_integer a.d_set_integer ["world", "slot", "n"] (Pr (pOp2 a (fun m i n => m.opSet i (.integer n)))) := by
  have G_is_slot := ok_is_slot (P := P) (w := w) (base := base) T
  have G_Heap_put := ok_Heap_put (P := P) (w := w) (base := base) T
  refine T.D_set_integer.F.ok sc_set_integer (fun vs H Q E h => ?_) (fun cdv A0 outer s H vs Q E hr h => ?_)
  · obtain ⟨_, ⟨F, A, m, i, n, rfl, W, g, ho, hrp, rfl⟩, _⟩ := h
    rfl
  obtain ⟨_, ⟨F, A, m, i, n, rfl, W, g, ho, hrp, rfl⟩, k⟩ := h
  refine ⟨_, (pss_cons (ps_if (pt_not (pt_val (pe_call G_is_slot (hr.mono (by decide)) rfl T.D_is_slot.g T.D_is_slot.F.kp T.D_is_slot.b .nil pass0 (pa_cons (pv 1) pa_nil)))) (pss_one (ps_ret (pe_lst (pa_cons (pe_gv rfl T.k_OUT_OF_RANGE) pa_nil)))) pss_nil) (pss_cons (ps_expr (pe_meth (pe_fld (pv 0) rfl) T.c_Heap.cl T.D_Heap_put.m G_Heap_put (hr.mono (by decide)) T.D_Heap_put.b .nil pass0 (pa_cons (pv 1) (pa_cons (pe_tup (pa_cons (pe_gv rfl T.k_INTEGER) (pa_cons (pv 2) pa_nil))) pa_nil)))) (pss_one (ps_ret (pe_lst (pa_cons pe_int pa_nil)))))), ?_⟩
  unfold M.opSet at k
  dsimp only at k
  refine st_ifN (ans_not (ans_val (Val.hh (use_call (va1 (val_var rfl)) ⟨i, rfl, rfl⟩)))) (fun h => ?_) (fun h => ?_)
  · rw [if_pos h] at k
    exact ret_one val_c W (Ext.refl A) k
  · rw [if_neg (by rw [h]; decide)] at k
    have i1 := between_iff (bnot_false h)
    obtain ⟨i, rfl⟩ := Int.eq_ofNat_of_zero_le i1.1
    exact put_ret T (A' := A) (v := .integer n) W g.wf.sl (by omega) (val_var rfl) (val_var rfl) (valh_pair (va2 val_c (val_var rfl)) W rfl rfl) k
theorem ok_clear_slot (T : Txt K mg a) : FnOk P w K mg base CX0 3 a.f_clear_slot a.d_clear_slot ["world", "slot"] (Pr (pOp1 a (fun m i => m.opSet i .nothing))) := by
  have G_is_slot := ok_is_slot (P := P) (w := w) (base := base) T
  have G_Heap_put := ok_Heap_put (P := P) (w := w) (base := base) T
  refine T.D_clear_slot.F.ok sc_clear_slot (fun vs H Q E h => ?_) (fun cdv A0 outer s H vs Q E hr h => ?_)
  · obtain ⟨_, ⟨F, A, m, i, rfl, W, g, ho, hrp, rfl⟩, _⟩ := h
    rfl
  obtain ⟨_, ⟨F, A, m, i, rfl, W, g, ho, hrp, rfl⟩, k⟩ := h
  refine ⟨_, (pss_cons (ps_if (pt_not (pt_val (pe_call G_is_slot (hr.mono (by decide)) rfl T.D_is_slot.g T.D_is_slot.F.kp T.D_is_slot.b .nil pass0 (pa_cons (pv 1) pa_nil)))) (pss_one (ps_ret (pe_lst (pa_cons (pe_gv rfl T.k_OUT_OF_RANGE) pa_nil)))) pss_nil) (pss_cons (ps_expr (pe_meth (pe_fld (pv 0) rfl) T.c_Heap.cl T.D_Heap_put.m G_Heap_put (hr.mono (by decide)) T.D_Heap_put.b .nil pass0 (pa_cons (pv 1) (pa_cons (pe_tup (pa_cons (pe_gv rfl T.k_NOTHING) (pa_cons pe_int pa_nil))) pa_nil)))) (pss_one (ps_ret (pe_lst (pa_cons pe_int pa_nil)))))), ?_⟩
  unfold M.opSet at k
  dsimp only at k
  refine st_ifN (ans_not (ans_val (Val.hh (use_call (va1 (val_var rfl)) ⟨i, rfl, rfl⟩)))) (fun h => ?_) (fun h => ?_)
  · rw [if_pos h] at k
    exact ret_one val_c W (Ext.refl A) k
  · rw [if_neg (by rw [h]; decide)] at k
    have i1 := between_iff (bnot_false h)
    obtain ⟨i, rfl⟩ := Int.eq_ofNat_of_zero_le i1.1
    exact put_ret T (A' := A) (v := .nothing) W g.wf.sl (by omega) (val_var rfl) (val_var rfl) (valh_pair (va2 val_c val_c) W rfl rfl) k
theorem ok_copy_slot (T : Txt K mg a) : FnOk P w K mg base CX0 3 a.f_copy_slot a.d_copy_slot ["world", "source", "target"] (Pr (pOp2 a M.opCopy)) := by
  have G_is_slot := ok_is_slot (P := P) (w := w) (base := base) T
  have G_Heap_put := ok_Heap_put (P := P) (w := w) (base := base) T
  refine T.D_copy_slot.F.ok sc_copy_slot (fun vs H Q E h => ?_) (fun cdv A0 outer s H vs Q E hr h => ?_)
  · obtain ⟨_, ⟨F, A, m, i, j, rfl, W, g, ho, hrp, rfl⟩, _⟩ := h
    rfl
  obtain ⟨_, ⟨F, A, m, i, j, rfl, W, g, ho, hrp, rfl⟩, k⟩ := h
  refine ⟨_, (pss_cons (ps_if (PW.pt (pw_or (pt_not (pt_val (pe_call G_is_slot (hr.mono (by decide)) rfl T.D_is_slot.g T.D_is_slot.F.kp T.D_is_slot.b .nil pass0 (pa_cons (pv 1) pa_nil)))) (pw_or1 (pt_not (pt_val (pe_call G_is_slot (hr.mono (by decide)) rfl T.D_is_slot.g T.D_is_slot.F.kp T.D_is_slot.b .nil pass0 (pa_cons (pv 2) pa_nil))))))) (pss_one (ps_ret (pe_lst (pa_cons (pe_gv rfl T.k_OUT_OF_RANGE) pa_nil)))) pss_nil) (pss_cons (ps_expr (pe_meth (pe_fld (pv 0) rfl) T.c_Heap.cl T.D_Heap_put.m G_Heap_put (hr.mono (by decide)) T.D_Heap_put.b .nil pass0 (pa_cons (pv 2) (pa_cons (pe_ix ix_list (pe_fld (pe_fld (pv 0) rfl) rfl) (pv 1) (fun _ _ => rfl)) pa_nil)))) (pss_one (ps_ret (pe_lst (pa_cons pe_int pa_nil)))))), ?_⟩
  unfold M.opCopy at k
  refine st_ifN (ans_orL (ans_not (ans_val (Val.hh (use_call (va1 (val_var rfl)) ⟨i, rfl, rfl⟩)))) fun _ => ans_not (ans_val (Val.hh (use_call (va1 (val_var rfl)) ⟨j, rfl, rfl⟩)))) (fun h => ?_) (fun h => ?_)
  · rw [if_pos h] at k
    exact ret_one val_c W (Ext.refl A) k
  · rw [if_neg (by rw [h]; decide)] at k
    obtain ⟨h1, h2⟩ := bor_false h
    have i1 := between_iff (bnot_false h1)
    have i2 := between_iff (bnot_false h2)
    obtain ⟨i, rfl⟩ := Int.eq_ofNat_of_zero_le i1.1
    obtain ⟨j, rfl⟩ := Int.eq_ofNat_of_zero_le i2.1
    obtain ⟨x, hx, hv⟩ := W.slot (i := i) (by rw [g.wf.sl]; omega)
    exact put_ret T (A' := A) (v := m.slot i) W g.wf.sl (by omega) (val_var rfl) (val_var rfl) (valh_self (val_ix (j := i) (v_Heap_slots T W (v_World_heap T W (val_var rfl))) (SqL.of W.h_ls) (val_var rfl) rfl hx) hv W) k
/-! ### fields -/
def pFieldError (a : Ads) : Pre := fun vs H post => ∃ F A m, ∃ i : Nat, ∃ k : Int, vs = [.ref A.w, .int (i : Int), .int k] ∧ WA a F H A m ∧ Good m ∧ i ≤ 5 ∧ post = Ret (.int (m.fieldError (i : Int) k)) H
theorem fieldError_not {m : M} {i k : Int} (h : ∀ n, m.slot i.toNat ≠ .object n) : m.fieldError i k = -3 := by
  unfold M.fieldError
  cases q : m.slot i.toNat with
  | object n => exact absurd q (h n)
  | _ => rfl
theorem ok_field_error (T : Txt K mg a) : FnOk P w K mg base CX0 2 a.f_field_error a.d_field_error ["world", "slot", "field"] (Pr (pFieldError a)) := by
  have G_Heap_entry := ok_Heap_entry (P := P) (w := w) (base := base) T
  refine T.D_field_error.F.ok sc_field_error (fun vs H Q E h => ?_) (fun cdv A0 outer s H vs Q E hr h => ?_)
  · obtain ⟨_, ⟨F, A, m, i, f, rfl, W, g, hi, rfl⟩, _⟩ := h
    rfl
  obtain ⟨_, ⟨F, A, m, i, f, rfl, W, g, hi, rfl⟩, k⟩ := h
  refine ⟨_, (pss_cons (ps_asg (pe_ix ix_list (pe_fld (pe_fld (pv 0) rfl) rfl) (pv 1) (fun _ _ => rfl)) (pg_tup rfl (pgs_cons (pg_name (i := 3) sc_field_error.nd rfl (Or.inl rfl)) (pgs_cons (pg_name (i := 4) sc_field_error.nd rfl (Or.inl rfl)) pgs_nil)))) (pss_cons (ps_if (pt_cmpR op_ne (pv 3) (pe_gv rfl T.k_OBJECT) (nomark _)) (pss_one (ps_ret (pe_gv rfl T.k_NO_OBJECT))) pss_nil) (pss_cons (ps_if (pt_cmpR op_ge (pv 2) (pe_callB call_len_seq (by rfl) T.n_len PySem.boot_len (pa_cons (pe_fld (pe_meth (pe_fld (pv 0) rfl) T.c_Heap.cl T.D_Heap_entry.m G_Heap_entry (hr.mono (by decide)) T.D_Heap_entry.b .nil pass0 (pa_cons (pv 4) pa_nil)) rfl) pa_nil)) (nomark _)) (pss_one (ps_ret (pe_gv rfl T.k_NO_FIELD))) pss_nil) (pss_one (ps_ret pe_int))))), ?_⟩
  obtain ⟨x, hx, hv⟩ := W.slot (i := i) (by rw [g.wf.sl]; omega)
  have hlive := g.slot i
  refine st_seq (st_tup (val_ix (j := i) (v_Heap_slots T W (v_World_heap T W (val_var rfl))) (SqL.of W.h_ls) (val_var rfl) rfl hx) hv ?_)
  cases q : m.slot i with
  | object n =>
    rw [q] at hlive
    have hle := live_le hlive
    rw [show m.fieldError (i : Int) f = _ from fieldError_object q] at k
    refine st_ifN (ans_neI (val_var rfl) val_c rfl) (fun h => by cases h) (fun _ => ?_)
    refine st_ifN (ans_b0 (val_var rfl) (val_len (v_Entry_cells T W (ent_get hle.1 hle.2) (Val.hh (use_meth (v_World_heap T W (val_var rfl)) W.h_hp no_Heap_entry (va1 (val_var rfl)) ⟨F, A, m, n, rfl, W, hle.1, hle.2, rfl⟩))) (SqL.of (W.h_ce (ent_get hle.1 hle.2)))) rfl) (fun h => ?_) (fun h => ?_)
    · have hh := of_decide_eq_true h
      rw [W.cell_len hle.1 hle.2] at hh
      rw [if_pos hh] at k
      exact st_ret val_c (k _ _ ⟨rfl, rfl⟩)
    · have hh := of_decide_eq_false h
      rw [W.cell_len hle.1 hle.2] at hh
      rw [if_neg hh] at k
      exact st_ret val_c (k _ _ ⟨rfl, rfl⟩)
  | _ =>
    rw [fieldError_not (fun n z => by rw [show ((i : Int)).toNat = i from rfl, q] at z; cases z)] at k
    refine st_ifN (ans_neI (val_var rfl) val_c rfl) (fun _ => ?_) (fun h => by cases h)
    exact st_ret val_c (k _ _ ⟨rfl, rfl⟩)
theorem fieldError_zero {m : M} {i : Nat} {k : Int} (h : m.fieldError (i : Int) k = 0) : ∃ n, m.slot i = .object n ∧ k < ((m.cells n).length : Int) := by
  cases q : m.slot i with
  | object n =>
    rw [show m.fieldError (i : Int) k = _ from fieldError_object q] at h
    split at h
    · cases h
    · exact ⟨n, rfl, by omega⟩
  | _ =>
    rw [fieldError_not (fun n z => by rw [show ((i : Int)).toNat = i from rfl, q] at z; cases z)] at h
    cases h
theorem ok_read_field (T : Txt K mg a) : FnOk P w K mg base CX0 3 a.f_read_field a.d_read_field ["world", "slot", "field", "target"] (Pr (pOp3 a M.opRead)) := by
  have G_is_slot := ok_is_slot (P := P) (w := w) (base := base) T
  have G_is_field := ok_is_field (P := P) (w := w) (base := base) T
  have G_field_error := ok_field_error (P := P) (w := w) (base := base) T
  have G_Heap_put := ok_Heap_put (P := P) (w := w) (base := base) T
  have G_Heap_entry := ok_Heap_entry (P := P) (w := w) (base := base) T
  refine T.D_read_field.F.ok sc_read_field (fun vs H Q E h => ?_) (fun cdv A0 outer s H vs Q E hr h => ?_)
  · obtain ⟨_, ⟨F, A, m, i, f, j, rfl, W, g, ho, hrp, rfl⟩, _⟩ := h
    rfl
  obtain ⟨_, ⟨F, A, m, i, f, j, rfl, W, g, ho, hrp, rfl⟩, k⟩ := h
  refine ⟨_, (pss_cons (ps_if (PW.pt (pw_or (pt_not (pt_val (pe_call G_is_slot (hr.mono (by decide)) rfl T.D_is_slot.g T.D_is_slot.F.kp T.D_is_slot.b .nil pass0 (pa_cons (pv 1) pa_nil)))) (pw_or (pt_not (pt_val (pe_call G_is_field (hr.mono (by decide)) rfl T.D_is_field.g T.D_is_field.F.kp T.D_is_field.b .nil pass0 (pa_cons (pv 2) pa_nil)))) (pw_or1 (pt_not (pt_val (pe_call G_is_slot (hr.mono (by decide)) rfl T.D_is_slot.g T.D_is_slot.F.kp T.D_is_slot.b .nil pass0 (pa_cons (pv 3) pa_nil)))))))) (pss_one (ps_ret (pe_lst (pa_cons (pe_gv rfl T.k_OUT_OF_RANGE) pa_nil)))) pss_nil) (pss_cons (ps_set (i := 4) sc_read_field.nd rfl (Or.inl rfl) (pe_call G_field_error (hr.mono (by decide)) rfl T.D_field_error.g T.D_field_error.F.kp T.D_field_error.b .nil pass0 (pa_cons (pv 0) (pa_cons (pv 1) (pa_cons (pv 2) pa_nil))))) (pss_cons (ps_if (pt_cmpR op_ne (pv 4) pe_int (nomark _)) (pss_one (ps_ret (pe_lst (pa_cons (pv 4) pa_nil)))) pss_nil) (pss_cons (ps_asg (pe_ix ix_list (pe_fld (pe_fld (pv 0) rfl) rfl) (pv 1) (fun _ _ => rfl)) (pg_tup rfl (pgs_cons (pg_name (i := 5) sc_read_field.nd rfl (Or.inl rfl)) (pgs_cons (pg_name (i := 6) sc_read_field.nd rfl (Or.inl rfl)) pgs_nil)))) (pss_cons (ps_expr (pe_meth (pe_fld (pv 0) rfl) T.c_Heap.cl T.D_Heap_put.m G_Heap_put (hr.mono (by decide)) T.D_Heap_put.b .nil pass0 (pa_cons (pv 3) (pa_cons (pe_ix ix_list (pe_fld (pe_meth (pe_fld (pv 0) rfl) T.c_Heap.cl T.D_Heap_entry.m G_Heap_entry (hr.mono (by decide)) T.D_Heap_entry.b .nil pass0 (pa_cons (pv 6) pa_nil)) rfl) (pv 2) (fun _ _ => rfl)) pa_nil)))) (pss_one (ps_ret (pe_lst (pa_cons pe_int pa_nil))))))))), ?_⟩
  unfold M.opRead at k
  refine st_ifN (ans_orL (ans_not (ans_val (Val.hh (use_call (va1 (val_var rfl)) ⟨i, rfl, rfl⟩)))) fun _ => ans_orL (ans_not (ans_val (Val.hh (use_call (va1 (val_var rfl)) ⟨f, rfl, rfl⟩)))) fun _ => ans_not (ans_val (Val.hh (use_call (va1 (val_var rfl)) ⟨j, rfl, rfl⟩)))) (fun h => ?_) (fun h => ?_)
  · rw [if_pos h] at k
    exact ret_one val_c W (Ext.refl A) k
  · rw [if_neg (by rw [h]; decide)] at k
    obtain ⟨h1, h23⟩ := bor_false h
    obtain ⟨h2, h3⟩ := bor_false h23
    have i1 := between_iff (bnot_false h1)
    have i2 := between_iff (bnot_false h2)
    have i3 := between_iff (bnot_false h3)
    obtain ⟨i, rfl⟩ := Int.eq_ofNat_of_zero_le i1.1
    obtain ⟨f, rfl⟩ := Int.eq_ofNat_of_zero_le i2.1
    obtain ⟨j, rfl⟩ := Int.eq_ofNat_of_zero_le i3.1
    refine st_seq (st_set (Val.hh (use_call (va3 (val_var rfl) (val_var rfl) (val_var rfl)) ⟨F, A, m, i, (f : Int), rfl, W, g, by omega, rfl⟩)) ?_)
    refine st_ifN (b := !decide (m.fieldError (i : Int) (f : Int) = 0)) (ans_neI (val_var rfl) val_c rfl) (fun h => ?_) (fun h => ?_)
    · have hh : m.fieldError (i : Int) (f : Int) ≠ 0 := fun z => by
        rw [decide_eq_true z] at h
        cases h
      rw [if_pos hh] at k
      exact ret_one (val_var rfl) W (Ext.refl A) k
    · have hh : m.fieldError (i : Int) (f : Int) = 0 := by
        by_cases z : m.fieldError (i : Int) (f : Int) = 0
        · exact z
        · rw [decide_eq_false z] at h
          cases h
      rw [if_neg (fun z => z hh)] at k
      obtain ⟨n, hn, hlt⟩ := fieldError_zero hh
      have hlive := g.slot i
      rw [hn] at hlive
      have hle := live_le hlive
      obtain ⟨x, hx, hv⟩ := W.slot (i := i) (by rw [g.wf.sl]; omega)
      rw [hn] at hv
      obtain ⟨y, hy, hyv⟩ := W.cell (k := f) hle.1 hle.2 (by omega)
      have k' : ∀ v H', Res a F A (m.put j (((m.cells n)[f]?).getD .nothing), [0]) v H' → Q v H' := by
        have e : num (m.slot ((i : Nat) : Int).toNat) = n := by
          show num (m.slot i) = n
          rw [hn]
          rfl
        rw [e] at k
        exact k
      refine st_seq (st_tup (val_ix (j := i) (v_Heap_slots T W (v_World_heap T W (val_var rfl))) (SqL.of W.h_ls) (val_var rfl) rfl hx) hv ?_)
      dsimp only
      exact put_ret T (A' := A) W g.wf.sl (by omega) (val_var rfl) (val_var rfl) (valh_self (val_ix (j := f) (v_Entry_cells T W (ent_get hle.1 hle.2) (Val.hh (use_meth (v_World_heap T W (val_var rfl)) W.h_hp no_Heap_entry (va1 (val_var rfl)) ⟨F, A, m, n, rfl, W, hle.1, hle.2, rfl⟩))) (SqL.of (W.h_ce (ent_get hle.1 hle.2))) (val_var rfl) rfl hy) hyv W) k'
theorem ok_write_field (T : Txt K mg a) : FnOk P w K mg base CX0 4 a.f_write_field a.d_write_field ["world", "slot", "field", "source"] (Pr (pOp3 a M.opWrite)) := by
  have G_is_slot := ok_is_slot (P := P) (w := w) (base := base) T
  have G_is_field := ok_is_field (P := P) (w := w) (base := base) T
  have G_field_error := ok_field_error (P := P) (w := w) (base := base) T
  have G_Heap_entry := ok_Heap_entry (P := P) (w := w) (base := base) T
  have G_Cycle_is_old := ok_Cycle_is_old (P := P) (w := w) (base := base) T
  have G_Cycle_mark := ok_Cycle_mark (P := P) (w := w) (base := base) T
  refine T.D_write_field.F.ok sc_write_field (fun vs H Q E h => ?_) (fun cdv A0 outer s H vs Q E hr h => ?_)
  · obtain ⟨_, ⟨F, A, m, i, f, j, rfl, W, g, ho, hrp, rfl⟩, _⟩ := h
    rfl
  obtain ⟨_, ⟨F, A, m, i, f, j, rfl, W, g, ho, hrp, rfl⟩, k⟩ := h
  refine ⟨_, (pss_cons (ps_if (PW.pt (pw_or (pt_not (pt_val (pe_call G_is_slot (hr.mono (by decide)) rfl T.D_is_slot.g T.D_is_slot.F.kp T.D_is_slot.b .nil pass0 (pa_cons (pv 1) pa_nil)))) (pw_or (pt_not (pt_val (pe_call G_is_field (hr.mono (by decide)) rfl T.D_is_field.g T.D_is_field.F.kp T.D_is_field.b .nil pass0 (pa_cons (pv 2) pa_nil)))) (pw_or1 (pt_not (pt_val (pe_call G_is_slot (hr.mono (by decide)) rfl T.D_is_slot.g T.D_is_slot.F.kp T.D_is_slot.b .nil pass0 (pa_cons (pv 3) pa_nil)))))))) (pss_one (ps_ret (pe_lst (pa_cons (pe_gv rfl T.k_OUT_OF_RANGE) pa_nil)))) pss_nil) (pss_cons (ps_set (i := 4) sc_write_field.nd rfl (Or.inl rfl) (pe_call G_field_error (hr.mono (by decide)) rfl T.D_field_error.g T.D_field_error.F.kp T.D_field_error.b .nil pass0 (pa_cons (pv 0) (pa_cons (pv 1) (pa_cons (pv 2) pa_nil))))) (pss_cons (ps_if (pt_cmpR op_ne (pv 4) pe_int (nomark _)) (pss_one (ps_ret (pe_lst (pa_cons (pv 4) pa_nil)))) pss_nil) (pss_cons (ps_asg (pe_ix ix_list (pe_fld (pe_fld (pv 0) rfl) rfl) (pv 1) (fun _ _ => rfl)) (pg_tup rfl (pgs_cons (pg_name (i := 5) sc_write_field.nd rfl (Or.inl rfl)) (pgs_cons (pg_name (i := 6) sc_write_field.nd rfl (Or.inl rfl)) pgs_nil)))) (pss_cons (ps_set (i := 7) sc_write_field.nd rfl (Or.inl rfl) (pe_meth (pe_fld (pv 0) rfl) T.c_Heap.cl T.D_Heap_entry.m G_Heap_entry (hr.mono (by decide)) T.D_Heap_entry.b .nil pass0 (pa_cons (pv 6) pa_nil))) (pss_cons (ps_if (PW.pt (pw_and (pt_val (pe_fld (pe_fld (pv 0) rfl) rfl)) (pw_and1 (pt_val (pe_meth (pe_fld (pv 0) rfl) T.c_Cycle.cl T.D_Cycle_is_old.m G_Cycle_is_old (hr.mono (by decide)) T.D_Cycle_is_old.b .nil pass0 (pa_cons (pv 6) pa_nil)))))) (pss_one (ps_expr (pe_meth (pe_fld (pv 0) rfl) T.c_Cycle.cl T.D_Cycle_mark.m G_Cycle_mark (hr.mono (by decide)) T.D_Cycle_mark.b .nil pass0 (pa_cons (pe_ix ix_list (pe_fld (pv 7) rfl) (pv 2) (fun _ _ => rfl)) pa_nil)))) pss_nil) (pss_cons (ps_asg (pe_ix ix_list (pe_fld (pe_fld (pv 0) rfl) rfl) (pv 3) (fun _ _ => rfl)) (pg_sub (pe_fld (pv 7) rfl) (pv 2) set_list)) (pss_one (ps_ret (pe_lst (pa_cons pe_int pa_nil))))))))))), ?_⟩
  unfold M.opWrite at k
  refine st_ifN (ans_orL (ans_not (ans_val (Val.hh (use_call (va1 (val_var rfl)) ⟨i, rfl, rfl⟩)))) fun _ => ans_orL (ans_not (ans_val (Val.hh (use_call (va1 (val_var rfl)) ⟨f, rfl, rfl⟩)))) fun _ => ans_not (ans_val (Val.hh (use_call (va1 (val_var rfl)) ⟨j, rfl, rfl⟩)))) (fun h => ?_) (fun h => ?_)
  · rw [if_pos h] at k
    exact ret_one val_c W (Ext.refl A) k
  · rw [if_neg (by rw [h]; decide)] at k
    obtain ⟨h1, h23⟩ := bor_false h
    obtain ⟨h2, h3⟩ := bor_false h23
    have i1 := between_iff (bnot_false h1)
    have i2 := between_iff (bnot_false h2)
    have i3 := between_iff (bnot_false h3)
    obtain ⟨i, rfl⟩ := Int.eq_ofNat_of_zero_le i1.1
    obtain ⟨f, rfl⟩ := Int.eq_ofNat_of_zero_le i2.1
    obtain ⟨j, rfl⟩ := Int.eq_ofNat_of_zero_le i3.1
    refine st_seq (st_set (Val.hh (use_call (va3 (val_var rfl) (val_var rfl) (val_var rfl)) ⟨F, A, m, i, (f : Int), rfl, W, g, by omega, rfl⟩)) ?_)
    refine st_ifN (b := !decide (m.fieldError (i : Int) (f : Int) = 0)) (ans_neI (val_var rfl) val_c rfl) (fun h => ?_) (fun h => ?_)
    · have hh : m.fieldError (i : Int) (f : Int) ≠ 0 := fun z => by
        rw [decide_eq_true z] at h
        cases h
      rw [if_pos hh] at k
      exact ret_one (val_var rfl) W (Ext.refl A) k
    · have hh : m.fieldError (i : Int) (f : Int) = 0 := by
        by_cases z : m.fieldError (i : Int) (f : Int) = 0
        · exact z
        · rw [decide_eq_false z] at h
          cases h
      rw [if_neg (fun z => z hh)] at k
      obtain ⟨n, hn, hlt⟩ := fieldError_zero hh
      have hlive := g.slot i
      rw [hn] at hlive
      have hle := live_le hlive
      obtain ⟨x, hx, hv⟩ := W.slot (i := i) (by rw [g.wf.sl]; omega)
      rw [hn] at hv
      obtain ⟨y, hy, hyv⟩ := W.cell (k := f) hle.1 hle.2 (by omega)
      have hgd : m.guard n f = if (m.running && m.isOld n) = true then m.mark (((m.cells n)[f]?).getD .nothing) else m := rfl
      have k' : ∀ v H', Res a F A ((m.guard n f).setCell n f (m.slot j), [0]) v H' → Q v H' := by
        have e : num (m.slot ((i : Nat) : Int).toNat) = n := by
          show num (m.slot i) = n
          rw [hn]
          rfl
        rw [e] at k
        exact k
      refine st_seq (st_tup (val_ix (j := i) (v_Heap_slots T W (v_World_heap T W (val_var rfl))) (SqL.of W.h_ls) (val_var rfl) rfl hx) hv ?_)
      refine st_seq (st_set (Val.hh (use_meth (v_World_heap T W (val_var rfl)) W.h_hp no_Heap_entry (va1 (val_var rfl)) ⟨F, A, m, n, rfl, W, hle.1, hle.2, rfl⟩)) ?_)
      have key : ∀ (H2 : Hp) (lc lg lm : Addr) (m2 : M), WA a F H2 { A with lc := lc, lg := lg, lm := lm } m2 → m2 = m.guard n f →
          tSeq (tAsg (tOp (rIxL K) (tFld K (tFld K (tVar 0) "heap") "slots") (tVar 3)) (gSub (tFld K (tVar 7) "cells") (tVar 2) rSetL)) (tRet (tLst (tCons (tC (.int 0)) tNil))) { nx := fun _ H' => Q .non H', rt := Q }
            [some (.ref A.w), some (.int (i : Int)), some (.int (f : Int)), some (.int (j : Int)), some (.int (m.fieldError (i : Int) (f : Int))), some (.int 2), some (.int (n : Int)), some (.ref (A.en (n - 1)))] H2 := by
        intro H2 lc lg lm m2 W2 em
        have eents : m2.ents = m.ents := by
          rw [em, hgd]
          split
          · exact mark_ents _ _
          · rfl
        have eslots : m2.slots = m.slots := by
          rw [em, hgd]
          split
          · exact mark_slots _ _
          · rfl
        have hle2 : 1 ≤ n ∧ n ≤ m2.ents.length := by rw [eents]; exact hle
        have ecell : m2.cells n = m.cells n := by
          unfold M.cells M.ent
          rw [eents]
        obtain ⟨z, hz, hzv⟩ := W2.slot (i := j) (by rw [eslots, g.wf.sl]; omega)
        have esl : m2.slot j = m.slot j := by
          unfold M.slot
          rw [eslots]
        refine st_seq (st_setL (j := f) (val_ix (j := j) (v_Heap_slots T W2 (v_World_heap T W2 (val_var rfl))) (SqL.of W2.h_ls) (val_var rfl) rfl hz) (v_Entry_cells T W2 (ent_get hle2.1 hle2.2) (val_var rfl)) (val_var rfl) (W2.h_ce (ent_get hle2.1 hle2.2)) rfl (by rw [W2.cell_len hle2.1 hle2.2, ecell]; omega) ?_)
        have W3 := W2.s_ce (ent_get hle2.1 hle2.2) hzv f
        rw [esl] at W3
        dsimp only
        rw [em] at W3
        exact ret_one (A := A) val_c W3 ⟨rfl, rfl, rfl, rfl, rfl⟩ k'
      dsimp only
      refine st_ifN (ans_andL (ans_val (v_Cycle_running T W (v_World_cycle T W (val_var rfl)))) fun _ => ans_val (Val.hh (use_meth (v_World_cycle T W (val_var rfl)) W.h_cy no_Cycle_is_old (va1 (val_var rfl)) ⟨F, A, m, n, rfl, W, rfl⟩))) (fun h => ?_) (fun h => ?_)
      · have hrun : m.running = true := (Bool.and_eq_true _ _ ▸ h).1
        have hcl : m.Live (((m.cells n)[f]?).getD .nothing) := by
          rw [List.getElem?_eq_getElem (by omega)]
          exact g.lc n hlive _ (List.getElem_mem (by omega))
        refine st_dropH (use_meth (v_World_cycle T W (val_var rfl)) W.h_cy no_Cycle_mark (va1 (val_ix (j := f) (v_Entry_cells T W (ent_get hle.1 hle.2) (val_var rfl)) (SqL.of (W.h_ce (ent_get hle.1 hle.2))) (val_var rfl) rfl hy)) ⟨F, A, m, y, _, rfl, W, hyv, Good.ok g.wf hrun hcl, grey_small g.wf, rfl⟩) fun r H2 hh => ?_
        obtain ⟨_, lc, lg, lm, W2⟩ := hh
        exact key H2 lc lg lm _ W2 (by rw [hgd, if_pos h])
      · exact key H A.lc A.lg A.lm m W (by rw [hgd, if_neg (by rw [h]; decide)])

/-! ### looking -/
theorem pair_eqv (v w : Va) : PyData.eqv (.tuple [.int (kd v), .int (nm v)]) (.tuple [.int (kd w), .int (nm w)]) = decide (v = w) := by
  have e : PyData.eqv (.tuple [.int (kd v), .int (nm v)]) (.tuple [.int (kd w), .int (nm w)]) = (kd v == kd w && (nm v == nm w && true)) := by
    simp [PyData.eqv, PyData.eqvAll]
  rw [e, Bool.eq_iff_iff]
  cases v <;> cases w <;> simp [kd, nm] <;> omega
theorem vat_dp {H : Hp} {x : V} {v : Va} (h : VAt H x v) : Dp K H x (.tuple [.int (kd v), .int (nm v)]) := by
  obtain ⟨p, rfl, hp⟩ := h
  exact Dp.tup (SqT.of hp) (.cons (.int _) (.cons (.int _) .nil))
theorem ans_vat {σ : Sl} {H : Hp} {ta tb : TE} {x y : V} {v w : Va} (ha : Val ta σ H x) (hb : Val tb σ H y) (hx : VAt H x v) (hy : VAt H y w) : Ans (tTest (tOp (rEqD K) ta tb)) σ H (decide (v = w)) :=
  ans_cmp ha hb fun Q q => ⟨_, _, vat_dp hx, vat_dp hy, by rfl, by rfl, by rw [pair_eqv]; exact q⟩
theorem ok_compare (T : Txt K mg a) : FnOk P w K mg base CX0 3 a.f_compare a.d_compare ["world", "first", "second"] (Pr (pOp2 a M.opCompare)) := by
  have G_is_slot := ok_is_slot (P := P) (w := w) (base := base) T
  refine T.D_compare.F.ok sc_compare (fun vs H Q E h => ?_) (fun cdv A0 outer s H vs Q E hr h => ?_)
  · obtain ⟨_, ⟨F, A, m, i, j, rfl, W, g, ho, hrp, rfl⟩, _⟩ := h
    rfl
  obtain ⟨_, ⟨F, A, m, i, j, rfl, W, g, ho, hrp, rfl⟩, k⟩ := h
  refine ⟨_, (pss_cons (ps_if (PW.pt (pw_or (pt_not (pt_val (pe_call G_is_slot (hr.mono (by decide)) rfl T.D_is_slot.g T.D_is_slot.F.kp T.D_is_slot.b .nil pass0 (pa_cons (pv 1) pa_nil)))) (pw_or1 (pt_not (pt_val (pe_call G_is_slot (hr.mono (by decide)) rfl T.D_is_slot.g T.D_is_slot.F.kp T.D_is_slot.b .nil pass0 (pa_cons (pv 2) pa_nil))))))) (pss_one (ps_ret (pe_lst (pa_cons (pe_gv rfl T.k_OUT_OF_RANGE) pa_nil)))) pss_nil) (pss_cons (ps_if (pt_cmpR (op_eqD hr.units) (pe_ix ix_list (pe_fld (pe_fld (pv 0) rfl) rfl) (pv 1) (fun _ _ => rfl)) (pe_ix ix_list (pe_fld (pe_fld (pv 0) rfl) rfl) (pv 2) (fun _ _ => rfl)) (nomark _)) (pss_one (ps_ret (pe_lst (pa_cons pe_int pa_nil)))) pss_nil) (pss_one (ps_ret (pe_lst (pa_cons pe_int pa_nil)))))), ?_⟩
  unfold M.opCompare at k
  refine st_ifN (ans_orL (ans_not (ans_val (Val.hh (use_call (va1 (val_var rfl)) ⟨i, rfl, rfl⟩)))) fun _ => ans_not (ans_val (Val.hh (use_call (va1 (val_var rfl)) ⟨j, rfl, rfl⟩)))) (fun h => ?_) (fun h => ?_)
  · rw [if_pos h] at k
    exact ret_one val_c W (Ext.refl A) k
  · rw [if_neg (by rw [h]; decide)] at k
    obtain ⟨h1, h2⟩ := bor_false h
    have i1 := between_iff (bnot_false h1)
    have i2 := between_iff (bnot_false h2)
    obtain ⟨i, rfl⟩ := Int.eq_ofNat_of_zero_le i1.1
    obtain ⟨j, rfl⟩ := Int.eq_ofNat_of_zero_le i2.1
    obtain ⟨x, hx, hv⟩ := W.slot (i := i) (by rw [g.wf.sl]; omega)
    obtain ⟨y, hy, hw⟩ := W.slot (i := j) (by rw [g.wf.sl]; omega)
    refine st_ifN (ans_vat (val_ix (j := i) (v_Heap_slots T W (v_World_heap T W (val_var rfl))) (SqL.of W.h_ls) (val_var rfl) rfl hx) (val_ix (j := j) (v_Heap_slots T W (v_World_heap T W (val_var rfl))) (SqL.of W.h_ls) (val_var rfl) rfl hy) hv hw) (fun h => ?_) (fun h => ?_)
    · have e : m.slot ((i : Int)).toNat = m.slot ((j : Int)).toNat := of_decide_eq_true h
      rw [if_pos e] at k
      exact ret_one val_c W (Ext.refl A) k
    · have e : ¬ m.slot ((i : Int)).toNat = m.slot ((j : Int)).toNat := of_decide_eq_false h
      rw [if_neg e] at k
      exact ret_one val_c W (Ext.refl A) k
theorem ret_ints {σ : Sl} {H F : Hp} {A A' : Ad} {m' : M} {t : TA} {vs : List V} {l : List Int} {D : Ends} (h : ValA t σ H vs) (e : vs = l.map V.int) (hl : vs.length ≤ 1000) (W : WA a F H A' m') (x : Ext A A') (k : ∀ v H', Res a F A (m', l) v H' → D.rt v H') :
    tRet (tLst t) D σ H :=
  st_retH (valh_lst h hl) fun v H' h => k _ _ (by subst e; exact res_list (l := l) W x h)
theorem ok_inspect_slot (T : Txt K mg a) : FnOk P w K mg base CX0 3 a.f_inspect_slot a.d_inspect_slot ["world", "slot"] (Pr (pOp1 a M.opInspect)) := by
  have G_is_slot := ok_is_slot (P := P) (w := w) (base := base) T
  have G_Heap_entry := ok_Heap_entry (P := P) (w := w) (base := base) T
  refine T.D_inspect_slot.F.ok sc_inspect_slot (fun vs H Q E h => ?_) (fun cdv A0 outer s H vs Q E hr h => ?_)
  · obtain ⟨_, ⟨F, A, m, i, rfl, W, g, ho, hrp, rfl⟩, _⟩ := h
    rfl
  obtain ⟨_, ⟨F, A, m, i, rfl, W, g, ho, hrp, rfl⟩, k⟩ := h
  refine ⟨_, (pss_cons (ps_if (pt_not (pt_val (pe_call G_is_slot (hr.mono (by decide)) rfl T.D_is_slot.g T.D_is_slot.F.kp T.D_is_slot.b .nil pass0 (pa_cons (pv 1) pa_nil)))) (pss_one (ps_ret (pe_lst (pa_cons (pe_gv rfl T.k_OUT_OF_RANGE) pa_nil)))) pss_nil) (pss_cons (ps_asg (pe_ix ix_list (pe_fld (pe_fld (pv 0) rfl) rfl) (pv 1) (fun _ _ => rfl)) (pg_tup rfl (pgs_cons (pg_name (i := 2) sc_inspect_slot.nd rfl (Or.inl rfl)) (pgs_cons (pg_name (i := 3) sc_inspect_slot.nd rfl (Or.inl rfl)) pgs_nil)))) (pss_cons (ps_if (pt_cmpR op_eq (pv 2) (pe_gv rfl T.k_NOTHING) (nomark _)) (pss_one (ps_ret (pe_lst (pa_cons pe_int pa_nil)))) pss_nil) (pss_cons (ps_if (pt_cmpR op_eq (pv 2) (pe_gv rfl T.k_INTEGER) (nomark _)) (pss_one (ps_ret (pe_lst (pa_cons pe_int (pa_cons (pv 3) pa_nil))))) pss_nil) (pss_cons (ps_if (pt_cmpR op_eq (pv 2) (pe_gv rfl T.k_OBJECT) (nomark _)) (pss_one (ps_ret (pe_lst (pa_cons pe_int (pa_cons (pv 3) (pa_cons (pe_callB call_len_seq (by rfl) T.n_len PySem.boot_len (pa_cons (pe_fld (pe_meth (pe_fld (pv 0) rfl) T.c_Heap.cl T.D_Heap_entry.m G_Heap_entry (hr.mono (by decide)) T.D_Heap_entry.b .nil pass0 (pa_cons (pv 3) pa_nil)) rfl) pa_nil)) pa_nil)))))) pss_nil) (pss_one (ps_ret (pe_lst (pa_cons pe_int (pa_cons (pv 3) pa_nil)))))))))), ?_⟩
  unfold M.opInspect at k
  refine st_ifN (ans_not (ans_val (Val.hh (use_call (va1 (val_var rfl)) ⟨i, rfl, rfl⟩)))) (fun h => ?_) (fun h => ?_)
  · rw [if_pos h] at k
    exact ret_one val_c W (Ext.refl A) k
  · rw [if_neg (by rw [h]; decide)] at k
    have i1 := between_iff (bnot_false h)
    obtain ⟨i, rfl⟩ := Int.eq_ofNat_of_zero_le i1.1
    obtain ⟨x, hx, hv⟩ := W.slot (i := i) (by rw [g.wf.sl]; omega)
    have hlive := g.slot i
    rw [show ((i : Int)).toNat = i from rfl] at k
    refine st_seq (st_tup (val_ix (j := i) (v_Heap_slots T W (v_World_heap T W (val_var rfl))) (SqL.of W.h_ls) (val_var rfl) rfl hx) hv ?_)
    cases q : m.slot i with
    | nothing =>
      rw [q] at k
      refine st_ifN (ans_eqI (val_var rfl) val_c rfl) (fun _ => ?_) (fun h => by cases h)
      exact ret_one val_c W (Ext.refl A) k
    | integer n =>
      rw [q] at k
      refine st_ifN (ans_eqI (val_var rfl) val_c rfl) (fun h => by cases h) (fun _ => ?_)
      refine st_ifN (ans_eqI (val_var rfl) val_c rfl) (fun _ => ?_) (fun h => by cases h)
      exact ret_ints (va2 val_c (val_var rfl)) rfl (by show 2 ≤ 1000; decide) W (Ext.refl A) k
    | object n =>
      rw [q] at k hlive
      have hle := live_le hlive
      refine st_ifN (ans_eqI (val_var rfl) val_c rfl) (fun h => by cases h) (fun _ => ?_)
      refine st_ifN (ans_eqI (val_var rfl) val_c rfl) (fun h => by cases h) (fun _ => ?_)
      refine st_ifN (ans_eqI (val_var rfl) val_c rfl) (fun _ => ?_) (fun h => by cases h)
      refine ret_ints (va3 val_c (val_var rfl) (val_len (v_Entry_cells T W (ent_get hle.1 hle.2) (Val.hh (use_meth (v_World_heap T W (val_var rfl)) W.h_hp no_Heap_entry (va1 (val_var rfl)) ⟨F, A, m, n, rfl, W, hle.1, hle.2, rfl⟩))) (SqL.of (W.h_ce (ent_get hle.1 hle.2))))) ?_ (by show 3 ≤ 1000; decide) W (Ext.refl A) k
      rw [W.cell_len hle.1 hle.2]
      rfl
    | foreign n =>
      rw [q] at k
      refine st_ifN (ans_eqI (val_var rfl) val_c rfl) (fun h => by cases h) (fun _ => ?_)
      refine st_ifN (ans_eqI (val_var rfl) val_c rfl) (fun h => by cases h) (fun _ => ?_)
      refine st_ifN (ans_eqI (val_var rfl) val_c rfl) (fun h => by cases h) (fun _ => ?_)
      exact ret_ints (va2 val_c (val_var rfl)) rfl (by show 2 ≤ 1000; decide) W (Ext.refl A) k

theorem valh_lstH {σ : Sl} {H : Hp} {te : TE} {PV : V → Hp → Prop} (h : ValH te σ H PV) : ValH (tLst (tCons te tNil)) σ H fun v H' => ∃ y H1, PV y H1 ∧ NewL [y] H1 v H' :=
  fun Q q => h _ fun y H1 hy => ⟨by show 1 ≤ sizeLine; decide, fun p hp => q _ _ ⟨y, H1, hy, p, hp, rfl, rfl⟩⟩

/-! ### handles -/
theorem ok_export_object (T : Txt K mg a) : FnOk P w K mg base CX0 4 a.f_export_object a.d_export_object ["world", "slot"] (Pr (pOp1 a M.opExport)) := by
  have G_is_slot := ok_is_slot (P := P) (w := w) (base := base) T
  have G_Exports_export := ok_Exports_export (P := P) (w := w) (base := base) T
  refine T.D_export_object.F.ok sc_export_object (fun vs H Q E h => ?_) (fun cdv A0 outer s H vs Q E hr h => ?_)
  · obtain ⟨_, ⟨F, A, m, i, rfl, W, g, ho, hrp, rfl⟩, _⟩ := h
    rfl
  obtain ⟨_, ⟨F, A, m, i, rfl, W, g, ho, hrp, rfl⟩, k⟩ := h
  refine ⟨_, (pss_cons (ps_if (pt_not (pt_val (pe_call G_is_slot (hr.mono (by decide)) rfl T.D_is_slot.g T.D_is_slot.F.kp T.D_is_slot.b .nil pass0 (pa_cons (pv 1) pa_nil)))) (pss_one (ps_ret (pe_lst (pa_cons (pe_gv rfl T.k_OUT_OF_RANGE) pa_nil)))) pss_nil) (pss_cons (ps_asg (pe_ix ix_list (pe_fld (pe_fld (pv 0) rfl) rfl) (pv 1) (fun _ _ => rfl)) (pg_tup rfl (pgs_cons (pg_name (i := 2) sc_export_object.nd rfl (Or.inl rfl)) (pgs_cons (pg_name (i := 3) sc_export_object.nd rfl (Or.inl rfl)) pgs_nil)))) (pss_cons (ps_if (pt_cmpR op_ne (pv 2) (pe_gv rfl T.k_OBJECT) (nomark _)) (pss_one (ps_ret (pe_lst (pa_cons (pe_gv rfl T.k_NO_OBJECT) pa_nil)))) pss_nil) (pss_one (ps_ret (pe_lst (pa_cons (pe_meth (pe_fld (pv 0) rfl) T.c_Exports.cl T.D_Exports_export.m G_Exports_export (hr.mono (by decide)) T.D_Exports_export.b .nil pass0 (pa_cons (pv 3) pa_nil)) pa_nil))))))), ?_⟩
  unfold M.opExport at k
  refine st_ifN (ans_not (ans_val (Val.hh (use_call (va1 (val_var rfl)) ⟨i, rfl, rfl⟩)))) (fun h => ?_) (fun h => ?_)
  · rw [if_pos h] at k
    exact ret_one val_c W (Ext.refl A) k
  · rw [if_neg (by rw [h]; decide)] at k
    have i1 := between_iff (bnot_false h)
    obtain ⟨i, rfl⟩ := Int.eq_ofNat_of_zero_le i1.1
    obtain ⟨x, hx, hv⟩ := W.slot (i := i) (by rw [g.wf.sl]; omega)
    rw [show ((i : Int)).toNat = i from rfl] at k
    refine st_seq (st_tup (val_ix (j := i) (v_Heap_slots T W (v_World_heap T W (val_var rfl))) (SqL.of W.h_ls) (val_var rfl) rfl hx) hv ?_)
    cases q : m.slot i with
    | object n =>
      rw [q] at k
      refine st_ifN (ans_neI (val_var rfl) val_c rfl) (fun h => by cases h) (fun _ => ?_)
      refine st_retH (valh_lstH (use_meth (v_World_exports T W (val_var rfl)) W.h_ex no_Exports_export (va1 (val_var rfl)) ⟨F, A, m, n, rfl, W, ho, g.wf.ow, rfl⟩)) ?_
      intro v H' hh
      obtain ⟨y, H1, hy, hn⟩ := hh
      obtain ⟨rfl, A1, x1, W1⟩ := hy
      exact k _ _ (res_list (l := [((m.export n).2 : Int)]) W1 x1.toExt hn)
    | _ =>
      rw [q] at k
      refine st_ifN (ans_neI (val_var rfl) val_c rfl) (fun _ => ?_) (fun h => by cases h)
      exact ret_one val_c W (Ext.refl A) k
theorem ans_state {T : Txt K mg a} {σ : Sl} {F H : Hp} {A : Ad} {m : M} {te th tc : TE} {x : Int} {c : Nat} (W : WA a F H A m) (hw : Val te σ H (.ref A.ex)) (hh : Val th σ H (.int x)) (hc : Val tc σ H (.int (c : Int))) :
    Val (tMeth a.cExports "state" (Pr (pState a)) [] E0 te (tCons th tNil)) σ H (.int (m.state x : Int)) :=
  Val.hh (use_meth hw W.h_ex no_Exports_state (va1 hh) ⟨F, A, m, x, rfl, W, rfl⟩)
theorem state_in {m : M} {x : Int} (h : m.state x ≠ 0) : 1 ≤ x.toNat ∧ x.toNat ≤ m.states.length ∧ x = (x.toNat : Int) := by
  unfold M.state at h
  split at h
  · exact absurd rfl h
  · omega
theorem ok_accept_handle (T : Txt K mg a) : FnOk P w K mg base CX0 3 a.f_accept_handle a.d_accept_handle ["world", "handle", "slot"] (Pr (pOp2 a M.opAccept)) := by
  have G_is_slot := ok_is_slot (P := P) (w := w) (base := base) T
  have G_Exports_state := ok_Exports_state (P := P) (w := w) (base := base) T
  have G_Heap_put := ok_Heap_put (P := P) (w := w) (base := base) T
  have G_Exports_owner := ok_Exports_owner (P := P) (w := w) (base := base) T
  refine T.D_accept_handle.F.ok sc_accept_handle (fun vs H Q E h => ?_) (fun cdv A0 outer s H vs Q E hr h => ?_)
  · obtain ⟨_, ⟨F, A, m, x, i, rfl, W, g, ho, hrp, rfl⟩, _⟩ := h
    rfl
  obtain ⟨_, ⟨F, A, m, x, i, rfl, W, g, ho, hrp, rfl⟩, k⟩ := h
  refine ⟨_, (pss_cons (ps_if (pt_not (pt_val (pe_call G_is_slot (hr.mono (by decide)) rfl T.D_is_slot.g T.D_is_slot.F.kp T.D_is_slot.b .nil pass0 (pa_cons (pv 2) pa_nil)))) (pss_one (ps_ret (pe_lst (pa_cons (pe_gv rfl T.k_OUT_OF_RANGE) pa_nil)))) pss_nil) (pss_cons (ps_if (pt_cmpR op_ne (pe_meth (pe_fld (pv 0) rfl) T.c_Exports.cl T.D_Exports_state.m G_Exports_state (hr.mono (by decide)) T.D_Exports_state.b .nil pass0 (pa_cons (pv 1) pa_nil)) (pe_gv rfl T.k_ACTIVE) (nomark _)) (pss_one (ps_ret (pe_lst (pa_cons (pe_gv rfl T.k_NO_HANDLE) pa_nil)))) pss_nil) (pss_cons (ps_expr (pe_meth (pe_fld (pv 0) rfl) T.c_Heap.cl T.D_Heap_put.m G_Heap_put (hr.mono (by decide)) T.D_Heap_put.b .nil pass0 (pa_cons (pv 2) (pa_cons (pe_tup (pa_cons (pe_gv rfl T.k_OBJECT) (pa_cons (pe_meth (pe_fld (pv 0) rfl) T.c_Exports.cl T.D_Exports_owner.m G_Exports_owner (hr.mono (by decide)) T.D_Exports_owner.b .nil pass0 (pa_cons (pv 1) pa_nil)) pa_nil))) pa_nil)))) (pss_one (ps_ret (pe_lst (pa_cons pe_int pa_nil))))))), ?_⟩
  unfold M.opAccept at k
  refine st_ifN (ans_not (ans_val (Val.hh (use_call (va1 (val_var rfl)) ⟨i, rfl, rfl⟩)))) (fun h => ?_) (fun h => ?_)
  · rw [if_pos h] at k
    exact ret_one val_c W (Ext.refl A) k
  · rw [if_neg (by rw [h]; decide)] at k
    have i1 := between_iff (bnot_false h)
    obtain ⟨i, rfl⟩ := Int.eq_ofNat_of_zero_le i1.1
    refine st_ifN (b := !decide (m.state x = 2)) (ans_neI (Val.hh (use_meth (v_World_exports T W (val_var rfl)) W.h_ex no_Exports_state (va1 (val_var rfl)) ⟨F, A, m, x, rfl, W, rfl⟩)) val_c (congrArg Bool.not (decide_eq_decide.mpr (by omega)))) (fun h => ?_) (fun h => ?_)
    · rw [if_pos (of_decide_eq_false (by cases e : decide (m.state x = 2) with | true => rw [e] at h; cases h | false => rfl))] at k
      exact ret_one val_c W (Ext.refl A) k
    · have e2 : m.state x = 2 := of_decide_eq_true (bnot_false h)
      rw [if_neg (fun z => z e2)] at k
      have hin := state_in (m := m) (x := x) (by rw [e2]; decide)
      have hin2 : x.toNat ≤ m.owners.length := by rw [g.wf.ow]; exact hin.2.1
      refine put_ret T (A' := A) (v := .object (m.owner x.toNat)) W g.wf.sl (by omega) (val_var rfl) (val_var rfl) (valh_pair (va2 val_c (Val.hh (use_meth (v_World_exports T W (val_var rfl)) W.h_ex no_Exports_owner (va1 (val_var rfl)) ⟨F, A, m, x.toNat, ?_, W, hin.1, hin2, rfl⟩))) W rfl rfl) k
      rw [← hin.2.2]
theorem ok_retire_handle (T : Txt K mg a) : FnOk P w K mg base CX0 2 a.f_retire_handle a.d_retire_handle ["world", "handle"] (Pr (pOp1 a M.opRetire)) := by
  have G_Exports_state := ok_Exports_state (P := P) (w := w) (base := base) T
  have G_Exports_retire := ok_Exports_retire (P := P) (w := w) (base := base) T
  refine T.D_retire_handle.F.ok sc_retire_handle (fun vs H Q E h => ?_) (fun cdv A0 outer s H vs Q E hr h => ?_)
  · obtain ⟨_, ⟨F, A, m, x, rfl, W, g, ho, hrp, rfl⟩, _⟩ := h
    rfl
  obtain ⟨_, ⟨F, A, m, x, rfl, W, g, ho, hrp, rfl⟩, k⟩ := h
  refine ⟨_, (pss_cons (ps_if (pt_cmpR op_ne (pe_meth (pe_fld (pv 0) rfl) T.c_Exports.cl T.D_Exports_state.m G_Exports_state (hr.mono (by decide)) T.D_Exports_state.b .nil pass0 (pa_cons (pv 1) pa_nil)) (pe_gv rfl T.k_ACTIVE) (nomark _)) (pss_one (ps_ret (pe_lst (pa_cons (pe_gv rfl T.k_NO_HANDLE) pa_nil)))) pss_nil) (pss_cons (ps_expr (pe_meth (pe_fld (pv 0) rfl) T.c_Exports.cl T.D_Exports_retire.m G_Exports_retire (hr.mono (by decide)) T.D_Exports_retire.b .nil pass0 (pa_cons (pv 1) pa_nil))) (pss_one (ps_ret (pe_lst (pa_cons pe_int pa_nil)))))), ?_⟩
  unfold M.opRetire at k
  refine st_ifN (b := !decide (m.state x = 2)) (ans_neI (Val.hh (use_meth (v_World_exports T W (val_var rfl)) W.h_ex no_Exports_state (va1 (val_var rfl)) ⟨F, A, m, x, rfl, W, rfl⟩)) val_c (congrArg Bool.not (decide_eq_decide.mpr (by omega)))) (fun h => ?_) (fun h => ?_)
  · rw [if_pos (of_decide_eq_false (by cases e : decide (m.state x = 2) with | true => rw [e] at h; cases h | false => rfl))] at k
    exact ret_one val_c W (Ext.refl A) k
  · have e2 : m.state x = 2 := of_decide_eq_true (bnot_false h)
    rw [if_neg (fun z => z e2)] at k
    have hin := state_in (m := m) (x := x) (by rw [e2]; decide)
    refine st_seq (st_dropH (use_meth (v_World_exports T W (val_var rfl)) W.h_ex no_Exports_retire (va1 (val_var rfl)) ⟨F, A, m, x.toNat, by rw [← hin.2.2], W, hin.1, hin.2.1, rfl⟩) fun r H2 hh => ?_)
    obtain ⟨_, A2, x2, W2⟩ := hh
    dsimp only
    exact ret_one (A := A) val_c W2 x2.toExt k
theorem ok_withdraw_handle (T : Txt K mg a) : FnOk P w K mg base CX0 2 a.f_withdraw_handle a.d_withdraw_handle ["world", "handle"] (Pr (pOp1 a M.opWithdraw)) := by
  have G_Exports_state := ok_Exports_state (P := P) (w := w) (base := base) T
  have G_Exports_withdraw := ok_Exports_withdraw (P := P) (w := w) (base := base) T
  refine T.D_withdraw_handle.F.ok sc_withdraw_handle (fun vs H Q E h => ?_) (fun cdv A0 outer s H vs Q E hr h => ?_)
  · obtain ⟨_, ⟨F, A, m, x, rfl, W, g, ho, hrp, rfl⟩, _⟩ := h
    rfl
  obtain ⟨_, ⟨F, A, m, x, rfl, W, g, ho, hrp, rfl⟩, k⟩ := h
  refine ⟨_, (pss_cons (ps_if (pt_cmpR op_eq (pe_meth (pe_fld (pv 0) rfl) T.c_Exports.cl T.D_Exports_state.m G_Exports_state (hr.mono (by decide)) T.D_Exports_state.b .nil pass0 (pa_cons (pv 1) pa_nil)) (pe_gv rfl T.k_REMOVED) (nomark _)) (pss_one (ps_ret (pe_lst (pa_cons (pe_gv rfl T.k_NO_HANDLE) pa_nil)))) pss_nil) (pss_cons (ps_expr (pe_meth (pe_fld (pv 0) rfl) T.c_Exports.cl T.D_Exports_withdraw.m G_Exports_withdraw (hr.mono (by decide)) T.D_Exports_withdraw.b .nil pass0 (pa_cons (pv 1) pa_nil))) (pss_one (ps_ret (pe_lst (pa_cons pe_int pa_nil)))))), ?_⟩
  unfold M.opWithdraw at k
  refine st_ifN (b := decide (m.state x = 0)) (ans_eqI (Val.hh (use_meth (v_World_exports T W (val_var rfl)) W.h_ex no_Exports_state (va1 (val_var rfl)) ⟨F, A, m, x, rfl, W, rfl⟩)) val_c (decide_eq_decide.mpr (by omega))) (fun h => ?_) (fun h => ?_)
  · rw [if_pos (of_decide_eq_true h)] at k
    exact ret_one val_c W (Ext.refl A) k
  · have e2 : m.state x ≠ 0 := of_decide_eq_false h
    rw [if_neg e2] at k
    have hin := state_in (m := m) (x := x) e2
    refine st_seq (st_dropH (use_meth (v_World_exports T W (val_var rfl)) W.h_ex no_Exports_withdraw (va1 (val_var rfl)) ⟨F, A, m, x.toNat, by rw [← hin.2.2], W, hin.1, hin.2.1, rfl⟩) fun r H2 hh => ?_)
    obtain ⟨_, A2, x2, W2⟩ := hh
    dsimp only
    exact ret_one (A := A) val_c W2 x2.toExt k

/-! ### references -/
theorem ok_import_reference (T : Txt K mg a) : FnOk P w K mg base CX0 4 a.f_import_reference a.d_import_reference ["world", "reference", "slot"] (Pr (pOp2 a M.opImport)) := by
  have G_is_slot := ok_is_slot (P := P) (w := w) (base := base) T
  have G_is_reference := ok_is_reference (P := P) (w := w) (base := base) T
  have G_Imports_receive := ok_Imports_receive (P := P) (w := w) (base := base) T
  have G_Cycle_mark := ok_Cycle_mark (P := P) (w := w) (base := base) T
  have G_Heap_put := ok_Heap_put (P := P) (w := w) (base := base) T
  refine T.D_import_reference.F.ok sc_import_reference (fun vs H Q E h => ?_) (fun cdv A0 outer s H vs Q E hr h => ?_)
  · obtain ⟨_, ⟨F, A, m, x, i, rfl, W, g, ho, hrp, rfl⟩, _⟩ := h
    rfl
  obtain ⟨_, ⟨F, A, m, x, i, rfl, W, g, ho, hrp, rfl⟩, k⟩ := h
  refine ⟨_, (pss_cons (ps_if (PW.pt (pw_or (pt_not (pt_val (pe_call G_is_reference (hr.mono (by decide)) rfl T.D_is_reference.g T.D_is_reference.F.kp T.D_is_reference.b .nil pass0 (pa_cons (pv 1) pa_nil)))) (pw_or1 (pt_not (pt_val (pe_call G_is_slot (hr.mono (by decide)) rfl T.D_is_slot.g T.D_is_slot.F.kp T.D_is_slot.b .nil pass0 (pa_cons (pv 2) pa_nil))))))) (pss_one (ps_ret (pe_lst (pa_cons (pe_gv rfl T.k_OUT_OF_RANGE) pa_nil)))) pss_nil) (pss_cons (ps_expr (pe_meth (pe_fld (pv 0) rfl) T.c_Imports.cl T.D_Imports_receive.m G_Imports_receive (hr.mono (by decide)) T.D_Imports_receive.b .nil pass0 (pa_cons (pv 1) pa_nil))) (pss_cons (ps_if (pt_val (pe_fld (pe_fld (pv 0) rfl) rfl)) (pss_one (ps_expr (pe_meth (pe_fld (pv 0) rfl) T.c_Cycle.cl T.D_Cycle_mark.m G_Cycle_mark (hr.mono (by decide)) T.D_Cycle_mark.b .nil pass0 (pa_cons (pe_tup (pa_cons (pe_gv rfl T.k_FOREIGN) (pa_cons (pv 1) pa_nil))) pa_nil)))) pss_nil) (pss_cons (ps_expr (pe_meth (pe_fld (pv 0) rfl) T.c_Heap.cl T.D_Heap_put.m G_Heap_put (hr.mono (by decide)) T.D_Heap_put.b .nil pass0 (pa_cons (pv 2) (pa_cons (pe_tup (pa_cons (pe_gv rfl T.k_FOREIGN) (pa_cons (pv 1) pa_nil))) pa_nil)))) (pss_one (ps_ret (pe_lst (pa_cons pe_int pa_nil)))))))), ?_⟩
  unfold M.opImport at k
  refine st_ifN (ans_orL (ans_not (ans_val (Val.hh (use_call (va1 (val_var rfl)) ⟨x, rfl, rfl⟩)))) fun _ => ans_not (ans_val (Val.hh (use_call (va1 (val_var rfl)) ⟨i, rfl, rfl⟩)))) (fun h => ?_) (fun h => ?_)
  · rw [if_pos h] at k
    exact ret_one val_c W (Ext.refl A) k
  · rw [if_neg (by rw [h]; decide)] at k
    obtain ⟨h1, h2⟩ := bor_false h
    have i1 := between_iff (bnot_false h1)
    have i2 := between_iff (bnot_false h2)
    obtain ⟨x, rfl⟩ := Int.eq_ofNat_of_zero_le (by omega : 0 ≤ x)
    obtain ⟨i, rfl⟩ := Int.eq_ofNat_of_zero_le i2.1
    refine st_seq (st_dropH (use_meth (v_World_imports T W (val_var rfl)) W.h_im no_Imports_receive (va1 (val_var rfl)) ⟨F, A, m, x, rfl, W, g.wf.im, g.wf.pi, by omega, rfl⟩) fun r H2 hh => ?_)
    obtain ⟨_, A2, x2, W2⟩ := hh
    rw [← x2.toExt.fixed] at W2
    have g2 : Good (m.receive x) := Good.receive g (by omega)
    dsimp only
    refine st_ifN (ans_val (v_Cycle_running T W2 (v_World_cycle T W2 (val_var rfl)))) (fun h => ?_) (fun h => ?_)
    · have hm : (m.receive x).markIf (.foreign x) = (m.receive x).mark (.foreign x) := by
        unfold M.markIf
        rw [if_pos h]
      have k' : ∀ v H', Res a F A (((m.receive x).mark (.foreign x)).put i (.foreign x), [0]) v H' → Q v H' := by
        rw [← hm]
        exact k
      have hl : (m.receive x).Live (.foreign x) := by
        refine ⟨by omega, by omega, ?_⟩
        rw [receive_imported (by rw [g.wf.im]; omega)]
        simp
      refine st_dropH (use_methH (post := fun r H3 => ∃ lc lg lm, WA a F H3 { A.fix A2 with lc := lc, lg := lg, lm := lm } ((m.receive x).mark (.foreign x))) (v_World_cycle T W2 (val_var rfl)) W2.h_cy no_Cycle_mark (vah1 (valh_pair (v := .foreign x) (va2 val_c (val_var rfl)) W2 rfl rfl)) fun vs H3 hh => ?_) fun r H3 hh => ?_
      · obtain ⟨y, rfl, hy, W3, _⟩ := hh
        exact ⟨_, ⟨F, _, _, y, _, by rfl, W3, hy, Good.ok g2.wf h hl, grey_small g2.wf, rfl⟩, fun v H4 hh => hh.2⟩
      · obtain ⟨lc, lg, lm, W3⟩ := hh
        dsimp only
        exact put_ret T (A := A) (A' := { A2 with lc := lc, lg := lg, lm := lm }) (v := .foreign x) W3 (by rw [mark_slots]; exact g2.wf.sl) (by omega) (val_var rfl) (val_var rfl) (valh_pair (va2 val_c (val_var rfl)) W3 rfl rfl) k'
    · have hm : (m.receive x).markIf (.foreign x) = m.receive x := by
        unfold M.markIf
        rw [if_neg (by rw [h]; decide)]
      have k' : ∀ v H', Res a F A ((m.receive x).put i (.foreign x), [0]) v H' → Q v H' := by
        rw [← hm]
        exact k
      exact put_ret T (A' := A2) (v := .foreign x) W2 g2.wf.sl (by omega) (val_var rfl) (val_var rfl) (valh_pair (va2 val_c (val_var rfl)) W2 rfl rfl) k'
theorem ok_pin_reference (T : Txt K mg a) : FnOk P w K mg base CX0 3 a.f_pin_reference a.d_pin_reference ["world", "slot"] (Pr (pOp1 a M.opPin)) := by
  have G_is_slot := ok_is_slot (P := P) (w := w) (base := base) T
  have G_Imports_pin := ok_Imports_pin (P := P) (w := w) (base := base) T
  refine T.D_pin_reference.F.ok sc_pin_reference (fun vs H Q E h => ?_) (fun cdv A0 outer s H vs Q E hr h => ?_)
  · obtain ⟨_, ⟨F, A, m, i, rfl, W, g, ho, hrp, rfl⟩, _⟩ := h
    rfl
  obtain ⟨_, ⟨F, A, m, i, rfl, W, g, ho, hrp, rfl⟩, k⟩ := h
  refine ⟨_, (pss_cons (ps_if (pt_not (pt_val (pe_call G_is_slot (hr.mono (by decide)) rfl T.D_is_slot.g T.D_is_slot.F.kp T.D_is_slot.b .nil pass0 (pa_cons (pv 1) pa_nil)))) (pss_one (ps_ret (pe_lst (pa_cons (pe_gv rfl T.k_OUT_OF_RANGE) pa_nil)))) pss_nil) (pss_cons (ps_asg (pe_ix ix_list (pe_fld (pe_fld (pv 0) rfl) rfl) (pv 1) (fun _ _ => rfl)) (pg_tup rfl (pgs_cons (pg_name (i := 2) sc_pin_reference.nd rfl (Or.inl rfl)) (pgs_cons (pg_name (i := 3) sc_pin_reference.nd rfl (Or.inl rfl)) pgs_nil)))) (pss_cons (ps_if (pt_cmpR op_ne (pv 2) (pe_gv rfl T.k_FOREIGN) (nomark _)) (pss_one (ps_ret (pe_lst (pa_cons (pe_gv rfl T.k_NO_REFERENCE) pa_nil)))) pss_nil) (pss_cons (ps_expr (pe_meth (pe_fld (pv 0) rfl) T.c_Imports.cl T.D_Imports_pin.m G_Imports_pin (hr.mono (by decide)) T.D_Imports_pin.b .nil pass0 (pa_cons (pv 3) pa_nil))) (pss_one (ps_ret (pe_lst (pa_cons pe_int pa_nil)))))))), ?_⟩
  unfold M.opPin at k
  refine st_ifN (ans_not (ans_val (Val.hh (use_call (va1 (val_var rfl)) ⟨i, rfl, rfl⟩)))) (fun h => ?_) (fun h => ?_)
  · rw [if_pos h] at k
    exact ret_one val_c W (Ext.refl A) k
  · rw [if_neg (by rw [h]; decide)] at k
    have i1 := between_iff (bnot_false h)
    obtain ⟨i, rfl⟩ := Int.eq_ofNat_of_zero_le i1.1
    obtain ⟨x, hx, hv⟩ := W.slot (i := i) (by rw [g.wf.sl]; omega)
    have hlive := g.slot i
    rw [show ((i : Int)).toNat = i from rfl] at k
    refine st_seq (st_tup (val_ix (j := i) (v_Heap_slots T W (v_World_heap T W (val_var rfl))) (SqL.of W.h_ls) (val_var rfl) rfl hx) hv ?_)
    cases q : m.slot i with
    | foreign n =>
      rw [q] at k hlive
      refine st_ifN (ans_neI (val_var rfl) val_c rfl) (fun h => by cases h) (fun _ => ?_)
      refine st_seq (st_dropH (use_meth (v_World_imports T W (val_var rfl)) W.h_im no_Imports_pin (va1 (val_var rfl)) ⟨F, A, m, n, rfl, W, g.wf.im, g.wf.pi, Nat.lt_succ_of_le hlive.2.1, rfl⟩) fun r H2 hh => ?_)
      obtain ⟨_, A2, x2, W2⟩ := hh
      dsimp only
      exact ret_one (A := A) val_c W2 x2.toExt k
    | _ =>
      rw [q] at k
      refine st_ifN (ans_neI (val_var rfl) val_c rfl) (fun _ => ?_) (fun h => by cases h)
      exact ret_one val_c W (Ext.refl A) k
theorem ok_unpin_reference (T : Txt K mg a) : FnOk P w K mg base CX0 2 a.f_unpin_reference a.d_unpin_reference ["world", "reference"] (Pr (pOp1 a M.opUnpin)) := by
  have G_Imports_is_pinned := ok_Imports_is_pinned (P := P) (w := w) (base := base) T
  have G_Imports_unpin := ok_Imports_unpin (P := P) (w := w) (base := base) T
  refine T.D_unpin_reference.F.ok sc_unpin_reference (fun vs H Q E h => ?_) (fun cdv A0 outer s H vs Q E hr h => ?_)
  · obtain ⟨_, ⟨F, A, m, x, rfl, W, g, ho, hrp, rfl⟩, _⟩ := h
    rfl
  obtain ⟨_, ⟨F, A, m, x, rfl, W, g, ho, hrp, rfl⟩, k⟩ := h
  refine ⟨_, (pss_cons (ps_if (pt_not (pt_val (pe_meth (pe_fld (pv 0) rfl) T.c_Imports.cl T.D_Imports_is_pinned.m G_Imports_is_pinned (hr.mono (by decide)) T.D_Imports_is_pinned.b .nil pass0 (pa_cons (pv 1) pa_nil)))) (pss_one (ps_ret (pe_lst (pa_cons (pe_gv rfl T.k_NOT_PINNED) pa_nil)))) pss_nil) (pss_cons (ps_expr (pe_meth (pe_fld (pv 0) rfl) T.c_Imports.cl T.D_Imports_unpin.m G_Imports_unpin (hr.mono (by decide)) T.D_Imports_unpin.b .nil pass0 (pa_cons (pv 1) pa_nil))) (pss_one (ps_ret (pe_lst (pa_cons pe_int pa_nil)))))), ?_⟩
  unfold M.opUnpin at k
  refine st_ifN (ans_not (ans_val (Val.hh (use_meth (v_World_imports T W (val_var rfl)) W.h_im no_Imports_is_pinned (va1 (val_var rfl)) ⟨F, A, m, x, rfl, W, g.wf.pi, rfl⟩)))) (fun h => ?_) (fun h => ?_)
  · rw [if_pos h] at k
    exact ret_one val_c W (Ext.refl A) k
  · rw [if_neg (by rw [h]; decide)] at k
    have hp := bnot_false h
    unfold M.pinnedI at hp
    have hb : 1 ≤ x ∧ x ≤ 99 := by
      by_cases z : x < 1 ∨ x > 99
      · rw [if_pos z] at hp
        cases hp
      · omega
    obtain ⟨x, rfl⟩ := Int.eq_ofNat_of_zero_le (by omega : 0 ≤ x)
    refine st_seq (st_dropH (use_meth (v_World_imports T W (val_var rfl)) W.h_im no_Imports_unpin (va1 (val_var rfl)) ⟨F, A, m, x, rfl, W, g.wf.im, g.wf.pi, by omega, rfl⟩) fun r H2 hh => ?_)
    obtain ⟨_, A2, x2, W2⟩ := hh
    dsimp only
    exact ret_one (A := A) val_c W2 x2.toExt k
end
end Gw

set_option Elab.async false
set_option maxRecDepth 100000
set_option maxHeartbeats 4000000
set_option linter.all false
/-! The inquiries. -/
namespace Gw
open PySem PySem.Spec PyProof.Rows L2 Gc

/-! ### values in new lists -/
section
variable {K : PySem.W.Frag} {a : Ads} {F F1 F2 H H1 H' : Hp} {A : Ad} {m : M} {σ : Sl} {te : TE} {p q : Addr} {o o' : HO} {xs : List V}
/-- len of a new list -/
theorem valh_len (h : ValH te σ H (NewL xs H)) : ValH (tCB (fun xs H Q => ∃ p ys, xs = [.ref p] ∧ (SqL K H p ys ∨ SqT K H p ys) ∧ Q (.int (ys.length : Int)) H) (tCons te tNil)) σ H (fun r H' => r = .int (xs.length : Int) ∧ Same H H') :=
  fun Q q => h _ fun v H1 hv => by
    have s := hv.same
    obtain ⟨p, hp, rfl, rfl⟩ := hv
    exact ⟨p, xs, rfl, .inl (SqL.of upd_same), q _ _ ⟨rfl, s⟩⟩
theorem valh_rev (h : Val te σ H (.ref p)) (hp : SqL K H p xs) : ValH (tRevL K te) σ H (NewL xs.reverse H) := fun Q q => h _ ⟨p, xs, rfl, hp, fun l hl => q _ _ ⟨l, hl, rfl, rfl⟩⟩
theorem lc_filterV {j : Nat} {tl : TE} {tt : TT} {l : List Nat} {pr : Nat → Bool} (h : Val tl σ H (.ref p)) (hp : H p = some (.lst (nats l))) (hl : l.length < 100000) (hj : j < σ.length)
    (hs : ∀ x ∈ l, ∀ D, H D = none → ∀ acc, Ans tt ((wipe σ [j]).set j (some (.int (x : Int)))) (upd H D (.lst acc)) (pr x))
    (hw : ∀ x : Option V, wipe ((wipe σ [j]).set j x) [j] = wipe σ [j]) : ValH (tLc (iList K tl) (gName j) tt (tVar j) [j]) σ H (NewL (nats (l.filter pr)) H) := by
  intro Q q
  refine h _ ?_
  refine ⟨p, rfl, ⟨_, SqL.of hp⟩, fun D hD => ?_⟩
  refine lc_list (K := K) (a := p) (xs := nats l) (fun i H' => H' = upd H D (.lst (nats ((l.take i).filter pr)))) rfl (fun i H' _ e => ?_) (fun i x H' hx e => ?_) fun H' e => q _ _ ⟨D, hD, rfl, ?_⟩
  · subst e
    exact SqL.of (by rw [upd_ne (ne_of_none hp hD)]; exact hp)
  · subst e
    obtain ⟨hi, rfl⟩ := nats_item hx
    refine ⟨hw _, ?_⟩
    refine hs _ (List.getElem_mem hi) D hD _ _ ?_
    have et := take_next hi
    have hl2 : ((l.take i).filter pr).length ≤ i := Nat.le_trans (List.length_filter_le _ _) (by rw [List.length_take]; omega)
    cases hp : pr l[i] with
    | true =>
      refine iteT ⟨.int ((l[i] : Nat) : Int), ?_, _, upd_same, ?_, ?_⟩
      · have hl3 : (wipe σ [j]).length = σ.length := wipe_length σ [j]
        rw [List.getElem?_set_self (by rw [hl3]; exact hj)]
      · rw [nats_len]
        exact Nat.lt_of_le_of_lt hl2 (Nat.lt_trans hi (Nat.lt_of_lt_of_le hl (by decide)))
      · rw [upd_upd, et, List.filter_append, List.filter_cons, hp]
        unfold nats
        rw [List.map_append]
        rfl
    | false =>
      refine iteF ?_
      rw [et, List.filter_append, List.filter_cons, hp]
      simp
  · subst e
    rw [nats_len, List.take_length]
theorem _root_.L2.Same.of_eq (h : F1 p = some o) : upd F1 p o = F1 := by
  funext b
  by_cases e : b = p
  · rw [e, upd_same, h]
  · rw [upd_ne e]
/-- a frame's object is written -/
theorem WA.pokeF (W : WA a F1 H A m) (h : F1 p = some o) (n : ∀ ys, o ≠ .tup ys) : WA a (upd F1 p o') (upd H p o') A m := by
  have W' := W
  rw [← L2.Same.of_eq h] at W'
  have W2 := W'.poke (o' := o') n
  exact W2
theorem WA.shrink (W : WA a F1 H A m) (s : Same F F1) : WA a F H A m := ⟨⟨s.trans W.rep.same, W.rep.at_, W.rep.inj, fun t o q => s.free (W.rep.own t o q)⟩, W.sv, W.cv⟩
end

/-! ### the search in the heap -/
inductive STag where
  | sr | se | fo | pa | la
  deriving DecidableEq
structure SAd where
  sr : Addr
  se : Addr
  fo : Addr
  pa : Addr
  la : Addr
  dx : Addr
def SAd.at (S : SAd) : STag → Addr
  | .sr => S.sr
  | .se => S.se
  | .fo => S.fo
  | .pa => S.pa
  | .la => S.la
def zis (l : List Int) : List V := l.map V.int
def scont (a : Ads) (S : SAd) (s : Sr) : STag → Option HO
  | .sr => some (.ins a.cSearch S.dx (F_Search (.ref S.se) (.ref S.fo) (.ref S.pa) (.ref S.la)))
  | .se => some (.lst (bools s.seen))
  | .fo => some (.lst (nats s.found))
  | .pa => some (.lst (zis s.par))
  | .la => some (.lst (nats s.lab))
/-- the world, and a search over the frame F -/
def SW (a : Ads) (F H : Hp) (A : Ad) (m : M) (S : SAd) (s : Sr) : Prop := ∃ F1, WA a F1 H A m ∧ Rep F F1 S.at (scont a S s)
section
variable {K : PySem.W.Frag} {mg : Str → Option Value} {a : Ads} {F H H' : Hp} {A : Ad} {m : M} {S : SAd} {s s' : Sr} {p : Addr} {o o' : HO} {σ : Sl} {te : TE}
theorem SW.wa (h : SW a F H A m S s) : WA a F H A m := let ⟨_, W, R⟩ := h; W.shrink R.same
theorem SW.same (h : SW a F H A m S s) : Same F H := h.wa.same
theorem SW.ext (h : SW a F H A m S s) (x : Same H H') : SW a F H' A m S s := let ⟨F1, W, R⟩ := h; ⟨F1, W.ext x, R⟩
theorem SW.push (h : SW a F H A m S s) (n : H p = none) : SW a (upd F p o) (upd H p o) A m S s := let ⟨F1, W, R⟩ := h; ⟨_, W.push n, R.push (W.free n)⟩
theorem SW.poke (h : SW a (upd F p o) H A m S s) (n : ∀ ys, o ≠ .tup ys) : SW a (upd F p o') (upd H p o') A m S s := let ⟨F1, W, R⟩ := h; ⟨_, W.pokeF R.get n, R.poke⟩
theorem scont_notup {t : STag} {ys : List V} : scont a S s t ≠ some (.tup ys) := by
  cases t <;> exact fun h => by cases h
theorem SW.set (h : SW a F H A m S s) (t : STag) (hc : scont a S s t = some o) (h' : ∀ u, scont a S s' u = if u = t then some o' else scont a S s u) : SW a F (upd H (S.at t) o') A m S s' := by
  obtain ⟨F1, W, R⟩ := h
  exact ⟨_, W.pokeF (R.at_ t o hc) fun ys e => scont_notup (hc.trans (congrArg some e)), R.upd hc h'⟩
theorem SW.get (h : SW a F H A m S s) (t : STag) (hc : scont a S s t = some o) : H (S.at t) = some o := let ⟨_, W, R⟩ := h; W.same _ _ (R.at_ t o hc)
theorem SW.h_sr (h : SW a F H A m S s) : H S.sr = some (.ins a.cSearch S.dx (F_Search (.ref S.se) (.ref S.fo) (.ref S.pa) (.ref S.la))) := h.get .sr rfl
theorem SW.h_se (h : SW a F H A m S s) : H S.se = some (.lst (bools s.seen)) := h.get .se rfl
theorem SW.h_fo (h : SW a F H A m S s) : H S.fo = some (.lst (nats s.found)) := h.get .fo rfl
theorem SW.h_pa (h : SW a F H A m S s) : H S.pa = some (.lst (zis s.par)) := h.get .pa rfl
theorem SW.h_la (h : SW a F H A m S s) : H S.la = some (.lst (nats s.lab)) := h.get .la rfl
theorem v_Search_seen (T : Txt K mg a) (W : SW a F H A m S s) (h : Val te σ H (.ref S.sr)) : Val (tFld K te "seen") σ H (.ref S.se) := val_fld h W.h_sr T.c_Search.cl T.na_Search_seen lk_Search_seen
theorem v_Search_found (T : Txt K mg a) (W : SW a F H A m S s) (h : Val te σ H (.ref S.sr)) : Val (tFld K te "found") σ H (.ref S.fo) := val_fld h W.h_sr T.c_Search.cl T.na_Search_found lk_Search_found
theorem v_Search_parents (T : Txt K mg a) (W : SW a F H A m S s) (h : Val te σ H (.ref S.sr)) : Val (tFld K te "parents") σ H (.ref S.pa) := val_fld h W.h_sr T.c_Search.cl T.na_Search_parents lk_Search_parents
theorem v_Search_labels (T : Txt K mg a) (W : SW a F H A m S s) (h : Val te σ H (.ref S.sr)) : Val (tFld K te "labels") σ H (.ref S.la) := val_fld h W.h_sr T.c_Search.cl T.na_Search_labels lk_Search_labels
theorem zis_snoc {l : List Int} (v : Int) : zis l ++ [.int v] = zis (l ++ [v]) := by
  unfold zis
  rw [List.map_append]
  rfl
theorem zis_len {l : List Int} : (zis l).length = l.length := List.length_map _
theorem zis_get {l : List Int} {i : Nat} (h : i < l.length) : (zis l)[i]? = some (.int ((l[i]?).getD (-1))) := by
  unfold zis
  rw [List.getElem?_map, List.getElem?_eq_getElem h]
  rfl
end

/-! ### what a search keeps -/
def SOk (m : M) (s : Sr) (k : Nat) : Prop := s.seen.length = m.ents.length + 1 ∧ (∀ x ∈ s.found, m.Live (.object x)) ∧ s.found.length ≤ k ∧ s.par.length ≤ k ∧ s.lab.length ≤ k
theorem SOk.mono {m : M} {s : Sr} {k k' : Nat} (h : SOk m s k) (l : k ≤ k') : SOk m s k' := ⟨h.1, h.2.1, Nat.le_trans h.2.2.1 l, Nat.le_trans h.2.2.2.1 l, Nat.le_trans h.2.2.2.2 l⟩
theorem SOk.visit {m : M} {s : Sr} {k n l : Nat} {p : Int} (h : SOk m s k) (hn : m.Live (.object n)) : SOk m (s.visit n p l) (k + 1) := by
  obtain ⟨h1, h2, h3, h4, h5⟩ := h
  unfold Sr.visit
  split
  · exact SOk.mono ⟨h1, h2, h3, h4, h5⟩ (Nat.le_succ _)
  · refine ⟨?_, fun x hx => ?_, ?_, ?_, ?_⟩
    · show (s.seen.set n true).length = _
      rw [List.length_set]
      exact h1
    · rcases List.mem_append.mp hx with q | q
      · exact h2 x q
      · rw [List.mem_singleton.mp q]
        exact hn
    all_goals
      dsimp only
      rw [List.length_append, List.length_singleton]
      omega
section
variable {P : Program} {w : World} {K : PySem.W.Frag} {mg : Str → Option Value} {base : Heap} {a : Ads}
def seta' (a : STag → Addr) (t : STag) (p : Addr) : STag → Addr := fun u => if u = t then p else a u
def setc' (c : STag → Option HO) (t : STag) (o : HO) : STag → Option HO := fun u => if u = t then some o else c u
/-- a search half made: its instance at x holds i -/
def Stg (a : Ads) (F : Hp) (x : Addr) (i : HO) (H : Hp) (A : Ad) (m : M) (at' : STag → Addr) (c : STag → Option HO) : Prop := ∃ F1, WA a F1 H A m ∧ Rep (upd F x i) F1 at' c
theorem Stg.next {F H H' : Hp} {x : Addr} {i : HO} {A : Ad} {m : M} {at' : STag → Addr} {c : STag → Option HO} {xs : List V} {y : V} (h : Stg a F x i H A m at' c) (hn : NewL xs H y H') (ni : ∀ ys, i ≠ .tup ys) (t : STag) :
    ∃ p, y = .ref p ∧ H' x = some i ∧ ∀ i', Stg a F x i' (upd H' x i') A m (seta' at' t p) (setc' c t (.lst xs)) := by
  obtain ⟨F1, W, R⟩ := h
  obtain ⟨p, hp, rfl, rfl⟩ := hn
  have f1 := W.free hp
  have R2 : Rep (upd F x i) (upd F1 p (.lst xs)) (seta' at' t p) (setc' c t (.lst xs)) := (R.push f1).adopt (R.same.free f1) (fun _ => rfl) (fun _ => rfl)
  have W2 := W.push (o := .lst xs) hp
  exact ⟨p, rfl, W2.same _ _ R2.get, fun i' => ⟨_, W2.pokeF R2.get ni, R2.poke⟩⟩
def pSearchInit (a : Ads) : Pre := fun vs H post => ∃ F A m x dx, ∃ n : Nat, vs = [.ref x, .int (n : Int)] ∧ WA a (upd F x (.ins a.cSearch dx [])) H A m ∧ n < 900 ∧ F x = none ∧ post = fun r H' => r = .non ∧ ∃ S : SAd, S.sr = x ∧ SW a F H' A m S (Sr.new n)
theorem ok_Search_init (T : Txt K mg a) : FnOk P w K mg base CX0 1 a.f_Search_init a.d_Search_init ["self", "created"] (Pr (pSearchInit a)) := by
  refine T.D_Search_init.F.ok sc_Search_init (fun vs H Q E h => ?_) (fun cdv A0 outer s H vs Q E hr h => ?_)
  · obtain ⟨_, ⟨F, A, m, x, dx, n, rfl, W, hn, hF, rfl⟩, _⟩ := h
    rfl
  obtain ⟨_, ⟨F, A, m, x, dx, n, rfl, W, hn, hF, rfl⟩, k⟩ := h
  refine ⟨_, (pss_cons (ps_fld (pv 0) (pe_lc (own := [("k", 2)]) (g := gName 2) (tt := tYes) rfl sc_Search_init.nd (pi_range1 (by rfl) T.n_range (pa_cons (pe_op op_add (pv 1) pe_int) pa_nil)) (blkOk_by (N := N_Search_init) (sc := defScope s_Search_init) (by decide +kernel)) (fun _ _ _ _ _ => pg_name (i := 2) sc_Search_init.nd rfl (Or.inl rfl)) (fun _ _ _ _ _ => pts_nil) (fun _ _ _ _ _ => pe_bl)) rfl) (pss_cons (ps_fld (pv 0) (pe_lst pa_nil) rfl) (pss_cons (ps_fld (pv 0) (pe_lst pa_nil) rfl) (pss_one (ps_fld (pv 0) (pe_lst pa_nil) rfl))))), ?_⟩
  have S0 : Stg a F x (.ins a.cSearch dx []) H A m (fun _ => 0) (fun _ => Option.none) := ⟨_, W, Rep.none⟩
  refine st_seq (st_fldH (p := x) (C := a.cSearch) (dx := dx) (fs := []) (valh_falses (nn := n + 1) (va1 (val_add (val_var rfl) val_c)) rfl (by omega) (fun x => rfl)) fun y H1 h => ?_)
  obtain ⟨se, rfl, g1, S1⟩ := S0.next h (fun ys q => by cases q) .se
  refine ⟨val_var rfl, g1, T.c_Search.cl, T.na_Search_seen, by show 0 < 1000; decide, ?_⟩
  rw [new_Search_seen]
  have S1 := S1 (.ins a.cSearch dx [("seen", .ref se)])
  refine st_seq (st_fldH (p := x) (C := a.cSearch) (dx := dx) (fs := [("seen", .ref se)]) (valh_lst va_nil (by decide)) fun y H2 h => ?_)
  obtain ⟨fo, rfl, g2, S2⟩ := S1.next h (fun ys q => by cases q) .fo
  refine ⟨val_var rfl, g2, T.c_Search.cl, T.na_Search_found, by show 1 < 1000; decide, ?_⟩
  rw [new_Search_found]
  have S2 := S2 (.ins a.cSearch dx [("seen", .ref se), ("found", .ref fo)])
  refine st_seq (st_fldH (p := x) (C := a.cSearch) (dx := dx) (fs := [("seen", .ref se), ("found", .ref fo)]) (valh_lst va_nil (by decide)) fun y H3 h => ?_)
  obtain ⟨pa, rfl, g3, S3⟩ := S2.next h (fun ys q => by cases q) .pa
  refine ⟨val_var rfl, g3, T.c_Search.cl, T.na_Search_parents, by show 2 < 1000; decide, ?_⟩
  rw [new_Search_parents]
  have S3 := S3 (.ins a.cSearch dx [("seen", .ref se), ("found", .ref fo), ("parents", .ref pa)])
  refine st_fldH (p := x) (C := a.cSearch) (dx := dx) (fs := [("seen", .ref se), ("found", .ref fo), ("parents", .ref pa)]) (valh_lst va_nil (by decide)) fun y H4 h => ?_
  obtain ⟨la, rfl, g4, S4⟩ := S3.next h (fun ys q => by cases q) .la
  refine ⟨val_var rfl, g4, T.c_Search.cl, T.na_Search_labels, by show 3 < 1000; decide, ?_⟩
  rw [new_Search_labels]
  obtain ⟨F1, W5, R5⟩ := S4 (.ins a.cSearch dx (F_Search (.ref se) (.ref fo) (.ref pa) (.ref la)))
  refine k _ _ ⟨rfl, ⟨x, se, fo, pa, la, dx⟩, rfl, F1, W5, ?_⟩
  have R6 := R5.adopt (t := .sr) (a' := seta' _ .sr x) (c' := setc' _ .sr _) hF (fun _ => rfl) (fun _ => rfl)
  have ea : SAd.at ⟨x, se, fo, pa, la, dx⟩ = seta' (seta' (seta' (seta' (seta' (fun _ => 0) .se se) .fo fo) .pa pa) .la la) .sr x := funext fun u => by cases u <;> rfl
  rw [ea]
  refine R6.conv fun u => ?_
  cases u <;> rfl
def pVisit (a : Ads) : Pre := fun vs H post => ∃ F A m S s, ∃ n l k : Nat, ∃ p : Int, vs = [.ref S.sr, .int (n : Int), .int p, .int (l : Int)] ∧ SW a F H A m S s ∧ SOk m s k ∧ k < 1000000 ∧ m.Live (.object n) ∧ post = fun r H' => r = .non ∧ SW a F H' A m S (s.visit n p l)
theorem ok_Search_visit (T : Txt K mg a) : FnOk P w K mg base CX0 1 a.f_Search_visit a.d_Search_visit ["self", "number", "parent", "label"] (Pr (pVisit a)) := by
  refine T.D_Search_visit.F.ok sc_Search_visit (fun vs H Q E h => ?_) (fun cdv A0 outer s H vs Q E hr h => ?_)
  · obtain ⟨_, ⟨F, A, m, S, s, n, l, kk, p, rfl, W, ok, hk, hn, rfl⟩, _⟩ := h
    rfl
  obtain ⟨_, ⟨F, A, m, S, s, n, l, kk, p, rfl, W, ok, hk, hn, rfl⟩, k⟩ := h
  refine ⟨_, (pss_one (ps_if (pt_not (pt_val (pe_ix ix_list (pe_fld (pv 0) rfl) (pv 1) (fun _ _ => rfl)))) (pss_cons (ps_asg pe_bl (pg_sub (pe_fld (pv 0) rfl) (pv 1) set_list)) (pss_cons (ps_expr (pe_bm PySem.F.plainAttrs_list PySem.F.slot_list_append PySem.F.type_list_append mt_append (pe_fld (pv 0) rfl) (pa_cons (pv 1) pa_nil))) (pss_cons (ps_expr (pe_bm PySem.F.plainAttrs_list PySem.F.slot_list_append PySem.F.type_list_append mt_append (pe_fld (pv 0) rfl) (pa_cons (pv 2) pa_nil))) (pss_one (ps_expr (pe_bm PySem.F.plainAttrs_list PySem.F.slot_list_append PySem.F.type_list_append mt_append (pe_fld (pv 0) rfl) (pa_cons (pv 3) pa_nil))))))) pss_nil)), ?_⟩
  have hle := live_le hn
  have hs : n < s.seen.length := by rw [ok.1]; omega
  have big : kk < sizeLine := Nat.lt_of_lt_of_le hk (by decide)
  refine st_if (ans_not (ans_val (val_ix (j := n) (v_Search_seen T W (val_var rfl)) (SqL.of W.h_se) (val_var rfl) rfl (bools_get hs)))) (fun h => ?_) (fun h => ?_)
  · have hf : ¬ (s.seen[n]?).getD false = true := fun z => by
      rw [z] at h
      cases h
    unfold Sr.visit at k
    rw [if_neg hf] at k
    refine st_seq (st_setL (j := n) val_c (v_Search_seen T W (val_var rfl)) (val_var rfl) W.h_se rfl (by rw [bools_len]; exact hs) ?_)
    rw [bools_set]
    have W1 := W.set (s' := { s with seen := s.seen.set n true }) .se rfl (fun u => by cases u <;> rfl)
    refine st_seq (st_app (v_Search_found T W1 (val_var rfl)) (val_var rfl) W1.h_fo (by rw [nats_len]; exact Nat.lt_of_le_of_lt ok.2.2.1 big) ?_)
    rw [nats_snoc]
    have W2 := W1.set (s' := { s with seen := s.seen.set n true, found := s.found ++ [n] }) .fo rfl (fun u => by cases u <;> rfl)
    refine st_seq (st_app (v_Search_parents T W2 (val_var rfl)) (val_var rfl) W2.h_pa (by rw [zis_len]; exact Nat.lt_of_le_of_lt ok.2.2.2.1 big) ?_)
    rw [zis_snoc]
    have W3 := W2.set (s' := { s with seen := s.seen.set n true, found := s.found ++ [n], par := s.par ++ [p] }) .pa rfl (fun u => by cases u <;> rfl)
    refine st_app (v_Search_labels T W3 (val_var rfl)) (val_var rfl) W3.h_la (by rw [nats_len]; exact Nat.lt_of_le_of_lt ok.2.2.2.2 big) ?_
    rw [nats_snoc]
    have W4 := W3.set (s' := ⟨s.seen.set n true, s.found ++ [n], s.par ++ [p], s.lab ++ [l]⟩) .la rfl (fun u => by cases u <;> rfl)
    exact k _ _ ⟨rfl, W4⟩
  · have hf : (s.seen[n]?).getD false = true := bnot_false h
    unfold Sr.visit at k
    rw [if_pos hf] at k
    exact k _ _ ⟨rfl, W⟩

/-! ### the roots -/
def RtLs (F : Hp) (xs : List V) (rs : List (Nat × Nat × Nat)) : Prop := xs.length = rs.length ∧ ∀ (i : Nat) (r : Nat × Nat × Nat), rs[i]? = some r → ∃ p, xs[i]? = some (.ref p) ∧ F p = some (.tup [.int (r.1 : Int), .int (r.2.1 : Int), .int (r.2.2 : Int)])
/-- the world, and the list of the roots at q in its frame -/
def RtW (a : Ads) (F H : Hp) (A : Ad) (m : M) (q : Addr) (rs : List (Nat × Nat × Nat)) : Prop := F q = none ∧ ∃ F1 xs, WA a F1 H A m ∧ Same F F1 ∧ F1 q = some (.lst xs) ∧ RtLs F1 xs rs
section
variable {F H H' : Hp} {A : Ad} {m : M} {q l : Addr} {rs : List (Nat × Nat × Nat)} {o : HO}
theorem RtW.wa (h : RtW a F H A m q rs) : WA a F H A m := let ⟨_, _, _, W, s, _⟩ := h; W.shrink s
theorem RtW.new (W : WA a F H A m) (hq : H q = none) : RtW a F (upd H q (.lst [])) A m q [] :=
  ⟨W.free hq, _, [], W.push hq, new_same (W.free hq), upd_same, rfl, fun i r h => by simp at h⟩
theorem RtW.push (h : RtW a F H A m q rs) (hl : H l = none) : RtW a (upd F l o) (upd H l o) A m q rs := by
  obtain ⟨h1, F1, xs, W, s, h2, h3⟩ := h
  have fl := W.free hl
  have nq : q ≠ l := ne_of_none h2 fl
  refine ⟨by rw [upd_ne nq]; exact h1, _, xs, W.push hl, (s.new1 fl).2, by rw [upd_ne nq]; exact h2, h3.1, fun i r hi => ?_⟩
  obtain ⟨p, e1, e2⟩ := h3.2 i r hi
  exact ⟨p, e1, by rw [upd_ne (ne_of_none e2 fl)]; exact e2⟩
theorem RtW.pop (h : RtW a (upd F l o) H A m q rs) (hl : F l = none) : RtW a F H A m q rs := by
  obtain ⟨h1, F1, xs, W, s, h2, h3⟩ := h
  have nq : q ≠ l := fun e => by
    rw [e, upd_same] at h1
    cases h1
  rw [upd_ne nq] at h1
  exact ⟨h1, F1, xs, W, (new_same hl).trans s, h2, h3⟩
theorem RtW.add (h : RtW a F H A m q rs) : ∃ xs, H q = some (.lst xs) ∧ xs.length = rs.length ∧ ∀ (p : Addr) (r : Nat × Nat × Nat), H p = none →
    (upd H p (.tup [.int (r.1 : Int), .int (r.2.1 : Int), .int (r.2.2 : Int)])) q = some (.lst xs) ∧ RtW a F (upd (upd H p (.tup [.int (r.1 : Int), .int (r.2.1 : Int), .int (r.2.2 : Int)])) q (.lst (xs ++ [.ref p]))) A m q (rs ++ [r]) := by
  obtain ⟨h1, F1, xs, W, s, h2, h3⟩ := h
  have hq := W.same _ _ h2
  refine ⟨xs, hq, h3.1, fun p r hp => ?_⟩
  have fp := W.free hp
  have nq : q ≠ p := ne_of_none h2 fp
  refine ⟨by rw [upd_ne nq]; exact hq, h1, _, _, (W.push hp).pokeF (p := q) (by rw [upd_ne nq]; exact h2) (fun ys z => by cases z), fun b u e => ?_, upd_same, ?_, fun i r' hi => ?_⟩
  · rw [upd_ne (ne_of_none e h1), upd_ne (ne_of_none e (s.free fp))]
    exact s _ _ e
  · rw [List.length_append, List.length_append, h3.1]
    rfl
  · rcases getElem?_snoc hi with z | ⟨z, e⟩
    · obtain ⟨p', e1, e2⟩ := h3.2 i r' z
      refine ⟨p', getElem?_old e1, ?_⟩
      rw [upd_ne (fun e : p' = q => by rw [e, h2] at e2; cases e2), upd_ne (ne_of_none e2 fp)]
      exact e2
    · subst e
      refine ⟨p, by rw [z, ← h3.1]; exact getElem?_new, ?_⟩
      rw [upd_ne nq.symm, upd_same]
end
theorem valh_tup3 {σ : Sl} {H : Hp} {targs : TA} {x y z : V} (h : ValA targs σ H [x, y, z]) : ValH (tTup targs) σ H (fun v H' => ∃ p, H p = none ∧ v = .ref p ∧ H' = upd H p (.tup [x, y, z])) :=
  fun Q q => h _ ⟨by show 3 ≤ sizeLine; decide, fun p hp => q _ _ ⟨p, hp, rfl, rfl⟩⟩
theorem slotRoots_succ (m : M) (i : Nat) : m.slotRoots (i + 1) = m.slotRoots i ++ (match m.slot i with | .object n => [(0, i, n)] | _ => []) := by
  unfold M.slotRoots
  rw [List.range_succ, List.filterMap_append]
  congr 1
  rw [List.filterMap_cons, List.filterMap_nil]
  cases m.slot i <;> rfl
theorem slotRoots_le (m : M) (i : Nat) : (m.slotRoots i).length ≤ i := by
  unfold M.slotRoots
  refine Nat.le_trans (List.length_filterMap_le _ _) ?_
  rw [List.length_range]
  exact Nat.le_refl _
theorem ones_len (n : Nat) : (ones n).length = n := by
  unfold ones
  rw [List.length_map, List.length_range]
theorem act_le (m : M) : m.active.length ≤ m.states.length := by
  unfold M.active
  refine Nat.le_trans (List.length_filter_le _ _) ?_
  rw [ones_len]
  exact Nat.le_refl _
theorem roots_len {m : M} (g : Good m) (ho : m.owners.length < 10000) : m.roots.length < 10010 := by
  unfold M.roots
  rw [List.length_append, List.length_map]
  have h1 := slotRoots_le m 6
  have h2 := act_le m
  have h3 := g.wf.ow
  omega
theorem mem_active {m : M} {h : Nat} (q : h ∈ m.active) : 1 ≤ h ∧ h ≤ m.states.length ∧ m.state (h : Int) = 2 := by
  have := List.mem_filter.mp q
  have h1 := mem_ones.mp this.1
  exact ⟨h1.1, h1.2, eq_of_beq this.2⟩
def pRoots (a : Ads) : Pre := fun vs H post => ∃ F A m, vs = [.ref A.w] ∧ WA a F H A m ∧ Good m ∧ m.owners.length < 10000 ∧ post = fun r H' => ∃ q, r = .ref q ∧ RtW a F H' A m q m.roots
theorem ok_list_roots (T : Txt K mg a) : FnOk P w K mg base CX0 3 a.f_list_roots a.d_list_roots ["world"] (Pr (pRoots a)) := by
  have G_Exports_active := ok_Exports_active (P := P) (w := w) (base := base) T
  have G_Exports_owner := ok_Exports_owner (P := P) (w := w) (base := base) T
  refine T.D_list_roots.F.ok sc_list_roots (fun vs H Q E h => ?_) (fun cdv A0 outer s H vs Q E hr h => ?_)
  · obtain ⟨_, ⟨F, A, m, rfl, W, g, ho, rfl⟩, _⟩ := h
    rfl
  obtain ⟨_, ⟨F, A, m, rfl, W, g, ho, rfl⟩, k⟩ := h
  refine ⟨_, (pss_cons (ps_set (i := 1) sc_list_roots.nd rfl (Or.inl rfl) (pe_lst pa_nil)) (pss_cons (ps_for PassesOwn.never rfl (pi_range1 (by rfl) T.n_range (pa_cons (pe_gv rfl T.k_SLOTS) pa_nil)) (pg_name (i := 2) sc_list_roots.nd rfl (Or.inl rfl)) (pss_cons (ps_asg (pe_ix ix_list (pe_fld (pe_fld (pv 0) rfl) rfl) (pv 2) (fun _ _ => rfl)) (pg_tup rfl (pgs_cons (pg_name (i := 3) sc_list_roots.nd rfl (Or.inl rfl)) (pgs_cons (pg_name (i := 4) sc_list_roots.nd rfl (Or.inl rfl)) pgs_nil)))) (pss_one (ps_if (pt_cmpR op_eq (pv 3) (pe_gv rfl T.k_OBJECT) (nomark _)) (pss_one (ps_expr (pe_bm PySem.F.plainAttrs_list PySem.F.slot_list_append PySem.F.type_list_append mt_append (pv 1) (pa_cons (pe_tup (pa_cons pe_int (pa_cons (pv 2) (pa_cons (pv 4) pa_nil)))) pa_nil)))) pss_nil)))) (pss_cons (ps_for PassesOwn.never rfl (pi_list (pe_meth0 (pe_fld (pv 0) rfl) T.c_Exports.cl T.D_Exports_active.m G_Exports_active (hr.mono (by decide)) T.D_Exports_active.b .nil pass0)) (pg_name (i := 5) sc_list_roots.nd rfl (Or.inl rfl)) (pss_one (ps_expr (pe_bm PySem.F.plainAttrs_list PySem.F.slot_list_append PySem.F.type_list_append mt_append (pv 1) (pa_cons (pe_tup (pa_cons pe_int (pa_cons (pv 5) (pa_cons (pe_meth (pe_fld (pv 0) rfl) T.c_Exports.cl T.D_Exports_owner.m G_Exports_owner (hr.mono (by decide)) T.D_Exports_owner.b .nil pass0 (pa_cons (pv 5) pa_nil)) pa_nil)))) pa_nil))))) (pss_one (ps_ret (pv 1)))))), ?_⟩
  refine st_seq (st_setH (valh_lst va_nil (by decide)) fun y H1 h => ?_)
  obtain ⟨q, hq, rfl, rfl⟩ := h
  have R0 := RtW.new W hq
  dsimp only
  refine st_seq (st_forR (n := 6) (va1 val_c) rfl (by decide) (by decide) (fun i σ H' => (∃ v1 v2 v3 v4 : Option V, σ = [some (.ref A.w), some (.ref q), v1, v2, v3, v4]) ∧ RtW a F H' A m q (m.slotRoots i)) ⟨⟨none, none, none, none, rfl⟩, R0⟩ ?_ ?_)
  · rintro i σ H' hi ⟨⟨v1, v2, v3, v4, rfl⟩, R⟩
    have hi' : i < 6 := hi
    have W' := R.wa
    obtain ⟨x, hx, hv⟩ := W'.slot (i := i) (by rw [g.wf.sl]; exact hi')
    refine st_seq (st_tup (val_ix (j := i) (v_Heap_slots T W' (v_World_heap T W' (val_var rfl))) (SqL.of W'.h_ls) (val_var rfl) rfl hx) hv ?_)
    cases e : m.slot i with
    | object n =>
      have es : m.slotRoots (i + 1) = m.slotRoots i ++ [(0, i, n)] := by
        rw [slotRoots_succ, e]
      refine st_if (b := true) (ans_eqI (val_var rfl) val_c rfl) (fun _ => ?_) (fun h => by cases h)
      obtain ⟨xs, hxs, hlen, hadd⟩ := R.add
      refine st_appH (val_var rfl) hxs (valh_tup3 (va3 val_c (val_var rfl) (val_var rfl))) fun v H2 h => ?_
      obtain ⟨p, hp, rfl, rfl⟩ := h
      obtain ⟨h1, h2⟩ := hadd p (0, i, n) hp
      have hle := slotRoots_le m i
      refine ⟨xs, h1, Nat.lt_of_le_of_lt (show xs.length ≤ 10 by omega) (by decide), ⟨_, _, _, _, rfl⟩, ?_⟩
      rw [es]
      exact h2
    | _ =>
      have es : m.slotRoots (i + 1) = m.slotRoots i := by
        rw [slotRoots_succ, e]
        exact List.append_nil _
      refine st_if (b := false) (ans_eqI (val_var rfl) val_c rfl) (fun h => by cases h) (fun _ => ?_)
      refine ⟨⟨_, _, _, _, rfl⟩, ?_⟩
      rw [es]
      exact R
  · rintro σ H' ⟨⟨v1, v2, v3, v4, rfl⟩, R⟩
    have W' := R.wa
    dsimp only
    have hst : m.states.length < 100000 := by
      have := g.wf.ow
      omega
    refine st_seq (st_forLH (xs := nats m.active) (use_meth (v_World_exports T W' (val_var rfl)) W'.h_ex no_Exports_active va_nil ⟨F, A, m, rfl, W', hst, rfl⟩) fun y H2 h => ?_)
    obtain ⟨l, hl, rfl, rfl⟩ := h
    have fl := W'.free hl
    refine ⟨l, fun i σ H3 => (∃ v : Option V, σ = [some (.ref A.w), some (.ref q), v1, v2, v3, v]) ∧ RtW a (upd F l (.lst (nats m.active))) H3 A m q (m.slotRoots 6 ++ (m.active.take i).map fun h => (1, h, m.owner h)), rfl, ⟨⟨_, rfl⟩, ?_⟩, fun i σ H3 _ h => SqL.of h.2.wa.get, ?_, ?_⟩
    · show RtW a _ _ A m q (m.slotRoots 6 ++ [])
      rw [List.append_nil]
      exact R.push hl
    · rintro i x σ H3 hx ⟨⟨v, rfl⟩, R3⟩
      obtain ⟨hi, rfl⟩ := nats_item hx
      have hm := mem_active (List.getElem_mem hi)
      have W3 := R3.wa
      have hle := slotRoots_le m 6
      have hle2 := act_le m
      have how := g.wf.ow
      obtain ⟨xs, hxs, hlen, hadd⟩ := R3.add
      refine st_appH (val_var rfl) hxs (valh_tup3 (va3 val_c (val_var rfl) (Val.hh (use_meth (v_World_exports T W3 (val_var rfl)) W3.h_ex no_Exports_owner (va1 (val_var rfl)) ⟨_, A, m, m.active[i], rfl, W3, hm.1, by rw [how]; exact hm.2.1, rfl⟩)))) fun v H2 h => ?_
      obtain ⟨p, hp, rfl, rfl⟩ := h
      obtain ⟨h1, h2⟩ := hadd p (1, m.active[i], m.owner m.active[i]) hp
      refine ⟨xs, h1, Nat.lt_of_le_of_lt (show xs.length ≤ 20000 from ?_) (by decide), ⟨_, rfl⟩, ?_⟩
      · rw [hlen, List.length_append, List.length_map, List.length_take]
        omega
      · rw [take_next hi, List.map_append, ← List.append_assoc]
        exact h2
    · rintro σ H3 ⟨⟨v, rfl⟩, R3⟩
      dsimp only
      rw [nats_len, List.take_length] at R3
      exact st_ret (val_var rfl) (k _ _ ⟨q, rfl, R3.pop fl⟩)

/-! ### the search -/
theorem SOk.field {m : M} {s : Sr} {k place f : Nat} {cs : List Va} (h : SOk m s k) (hl : m.Live ((cs[f]?).getD .nothing)) : SOk m (s.field cs place f) (k + 1) := by
  unfold Sr.field
  cases e : (cs[f]?).getD .nothing with
  | object n =>
    rw [e] at hl
    exact h.visit hl
  | _ => exact h.mono (Nat.le_succ _)
theorem range_fold {α : Type} (f : α → Nat → α) (x : α) (n : Nat) : (List.range (n + 1)).foldl f x = f ((List.range n).foldl f x) n := by
  rw [List.range_succ, List.foldl_append]
  rfl
theorem fold_ok {m : M} {f : Sr → Nat → Sr} {s : Sr} {k c : Nat} (h : SOk m s k) : ∀ n, (∀ i, i < n → ∀ t j, SOk m t j → SOk m (f t i) (j + c)) → SOk m ((List.range n).foldl f s) (k + n * c)
  | 0, _ => by
    rw [Nat.zero_mul]
    exact h
  | n + 1, hs => by
    rw [range_fold, Nat.succ_mul, ← Nat.add_assoc]
    exact hs n (Nat.lt_succ_self n) _ _ (fold_ok h n fun i hi => hs i (Nat.lt_succ_of_lt hi))
theorem cell_live {m : M} (g : Good m) {n f : Nat} (hn : m.Live (.object n)) (hf : f < (m.cells n).length) : m.Live (((m.cells n)[f]?).getD .nothing) := by
  rw [List.getElem?_eq_getElem hf]
  exact g.lc n hn _ (List.getElem_mem hf)
theorem found_live {m : M} {s : Sr} {k place : Nat} (ok : SOk m s k) (hp : place < s.found.length) : m.Live (.object ((s.found[place]?).getD 0)) := by
  rw [List.getElem?_eq_getElem hp]
  exact ok.2.1 _ (List.getElem_mem hp)
theorem SOk.expand {m : M} (g : Good m) {s : Sr} {k place : Nat} (ok : SOk m s k) (hp : place < s.found.length) : SOk m (m.expand s place) (k + 4) := by
  have hn := found_live ok hp
  have := fold_ok (f := fun t f => t.field (m.cells ((s.found[place]?).getD 0)) place f) ok (m.cells ((s.found[place]?).getD 0)).length (c := 1) fun i hi t j ht => ht.field (cell_live g hn hi)
  rw [Nat.mul_one] at this
  exact this.mono (by have := cells_le g.wf ((s.found[place]?).getD 0); omega)
theorem turn_yes {m : M} {s : Sr} {k : Nat} (h : k < s.found.length) : m.turn s k = m.expand s k := if_pos h
theorem turn_no {m : M} {s : Sr} {k : Nat} (h : ¬ k < s.found.length) : m.turn s k = s := if_neg h
theorem SOk.turn {m : M} (g : Good m) {s : Sr} {k place : Nat} (ok : SOk m s k) : SOk m (m.turn s place) (k + 4) := by
  unfold M.turn
  split
  · rename_i h
    exact ok.expand g h
  · exact ok.mono (Nat.le_add_right _ _)
theorem root_at {m : M} (g : Good m) {i : Nat} (hi : i < m.roots.length) : m.Live (.object ((m.roots[i]?).getD (0, 0, 0)).2.2) := by
  rw [List.getElem?_eq_getElem hi]
  exact (roots_live g _ (List.getElem_mem hi)).1
theorem new_ok (m : M) : SOk m (Sr.new m.ents.length) 0 := by
  refine ⟨?_, fun x hx => (nomatch hx), Nat.le_refl _, Nat.le_refl _, Nat.le_refl _⟩
  show (List.replicate _ _).length = _
  rw [List.length_replicate]
def pExpand (a : Ads) : Pre := fun vs H post => ∃ F A m S s, ∃ place k : Nat, vs = [.ref A.hp, .ref S.sr, .int (place : Int)] ∧ SW a F H A m S s ∧ Good m ∧ SOk m s k ∧ k < 100000 ∧ place < s.found.length ∧ post = fun r H' => r = .non ∧ SW a F H' A m S (m.expand s place)
theorem ok_expand (T : Txt K mg a) : FnOk P w K mg base CX0 2 a.f_expand a.d_expand ["heap", "search", "place"] (Pr (pExpand a)) := by
  have G_Heap_entry := ok_Heap_entry (P := P) (w := w) (base := base) T
  have G_Search_visit := ok_Search_visit (P := P) (w := w) (base := base) T
  refine T.D_expand.F.ok sc_expand (fun vs H Q E h => ?_) (fun cdv A0 outer s H vs Q E hr h => ?_)
  · obtain ⟨_, ⟨F, A, m, S, s, place, kk, rfl, W, g, ok, hk, hp, rfl⟩, _⟩ := h
    rfl
  obtain ⟨_, ⟨F, A, m, S, s, place, kk, rfl, W, g, ok, hk, hp, rfl⟩, k⟩ := h
  refine ⟨_, (pss_cons (ps_set (i := 3) sc_expand.nd rfl (Or.inl rfl) (pe_fld (pe_meth (pv 0) T.c_Heap.cl T.D_Heap_entry.m G_Heap_entry (hr.mono (by decide)) T.D_Heap_entry.b .nil pass0 (pa_cons (pe_ix ix_list (pe_fld (pv 1) rfl) (pv 2) (fun _ _ => rfl)) pa_nil)) rfl)) (pss_one (ps_for PassesOwn.never rfl (pi_range1 (by rfl) T.n_range (pa_cons (pe_callB call_len_seq (by rfl) T.n_len PySem.boot_len (pa_cons (pv 3) pa_nil)) pa_nil)) (pg_name (i := 4) sc_expand.nd rfl (Or.inl rfl)) (pss_cons (ps_asg (pe_ix ix_list (pv 3) (pv 4) (fun _ _ => rfl)) (pg_tup rfl (pgs_cons (pg_name (i := 5) sc_expand.nd rfl (Or.inl rfl)) (pgs_cons (pg_name (i := 6) sc_expand.nd rfl (Or.inl rfl)) pgs_nil)))) (pss_one (ps_if (pt_cmpR op_eq (pv 5) (pe_gv rfl T.k_OBJECT) (nomark _)) (pss_one (ps_expr (pe_meth (pv 1) T.c_Search.cl T.D_Search_visit.m G_Search_visit (hr.mono (by decide)) T.D_Search_visit.b .nil pass0 (pa_cons (pv 6) (pa_cons (pv 2) (pa_cons (pv 4) pa_nil)))))) pss_nil)))))), ?_⟩
  have hn := found_live ok hp
  have hle := live_le hn
  refine st_seq (st_set (v_Entry_cells T W.wa (ent_get hle.1 hle.2) (Val.hh (use_meth (val_var rfl) W.wa.h_hp no_Heap_entry (va1 (val_ix (j := place) (v_Search_found T W (val_var rfl)) (SqL.of W.h_fo) (val_var rfl) rfl (nats_get hp))) ⟨F, A, m, (s.found[place]?).getD 0, rfl, W.wa, hle.1, hle.2, rfl⟩))) ?_)
  have hc4 := cells_le g.wf ((s.found[place]?).getD 0)
  refine st_forR (n := ((m.cells ((s.found[place]?).getD 0)).length : Int)) (va1 (val_len (val_var rfl) (SqL.of (W.wa.h_ce (ent_get hle.1 hle.2))))) (by rw [W.wa.cell_len hle.1 hle.2]) (by omega) (by omega)
    (fun i σ H' => (∃ v1 v2 v3 : Option V, σ = [some (.ref A.hp), some (.ref S.sr), some (.int (place : Int)), some (.ref (A.ce ((s.found[place]?).getD 0 - 1))), v1, v2, v3]) ∧ SW a F H' A m S ((List.range i).foldl (fun t f => t.field (m.cells ((s.found[place]?).getD 0)) place f) s) ∧ SOk m ((List.range i).foldl (fun t f => t.field (m.cells ((s.found[place]?).getD 0)) place f) s) (kk + i)) ⟨⟨_, _, _, rfl⟩, W, ok⟩ ?_ ?_
  · rintro i σ H' hi ⟨⟨v1, v2, v3, rfl⟩, W', ok'⟩
    have hi' : i < (m.cells ((s.found[place]?).getD 0)).length := hi
    have hl := cell_live g hn hi'
    obtain ⟨x, hx, hv⟩ := W'.wa.cell (k := i) hle.1 hle.2 hi'
    refine st_seq (st_tup (val_ix (j := i) (val_var rfl) (SqL.of (W'.wa.h_ce (ent_get hle.1 hle.2))) (val_var rfl) rfl hx) hv ?_)
    have ok2 : SOk m ((List.range (i + 1)).foldl (fun t f => t.field (m.cells ((s.found[place]?).getD 0)) place f) s) (kk + (i + 1)) := by
      rw [range_fold]
      exact ok'.field hl
    cases e : ((m.cells ((s.found[place]?).getD 0))[i]?).getD .nothing with
    | object n =>
      have es : (List.range (i + 1)).foldl (fun t f => t.field (m.cells ((s.found[place]?).getD 0)) place f) s = ((List.range i).foldl (fun t f => t.field (m.cells ((s.found[place]?).getD 0)) place f) s).visit n (place : Int) i := by
        rw [range_fold]
        show Sr.field _ _ _ _ = _
        unfold Sr.field
        rw [e]
      rw [e] at hl
      refine st_if (b := true) (ans_eqI (val_var rfl) val_c rfl) (fun _ => ?_) (fun h => by cases h)
      refine st_dropH (use_meth (val_var rfl) W'.h_sr no_Search_visit (va3 (val_var rfl) (val_var rfl) (val_var rfl)) ⟨F, A, m, S, _, n, i, kk + i, (place : Int), rfl, W', ok', by omega, hl, rfl⟩) fun r H2 h => ?_
      refine ⟨⟨_, _, _, rfl⟩, ?_, ok2⟩
      rw [es]
      exact h.2
    | _ =>
      have es : (List.range (i + 1)).foldl (fun t f => t.field (m.cells ((s.found[place]?).getD 0)) place f) s = (List.range i).foldl (fun t f => t.field (m.cells ((s.found[place]?).getD 0)) place f) s := by
        rw [range_fold]
        show Sr.field _ _ _ _ = _
        unfold Sr.field
        rw [e]
      refine st_if (b := false) (ans_eqI (val_var rfl) val_c rfl) (fun h => by cases h) (fun _ => ?_)
      refine ⟨⟨_, _, _, rfl⟩, ?_, ok2⟩
      rw [es]
      exact W'
  · rintro σ H' ⟨_, W', _⟩
    exact k _ _ ⟨rfl, W'⟩
def pSearch (a : Ads) : Pre := fun vs H post => ∃ F A m q, vs = [.ref A.hp, .ref q] ∧ RtW a F H A m q m.roots ∧ Good m ∧ m.owners.length < 10000 ∧ post = fun r H' => ∃ S F1 xs, r = .ref S.sr ∧ SW a F1 H' A m S (m.searchFrom m.roots) ∧ Same F F1 ∧ F1 q = some (.lst xs) ∧ RtLs F1 xs m.roots
theorem ok_search_from (T : Txt K mg a) : FnOk P w K mg base CX0 3 a.f_search_from a.d_search_from ["heap", "roots"] (Pr (pSearch a)) := by
  have G_Search_init := ok_Search_init (P := P) (w := w) (base := base) T
  have G_Heap_created := ok_Heap_created (P := P) (w := w) (base := base) T
  have G_Search_visit := ok_Search_visit (P := P) (w := w) (base := base) T
  have G_expand := ok_expand (P := P) (w := w) (base := base) T
  refine T.D_search_from.F.ok sc_search_from (fun vs H Q E h => ?_) (fun cdv A0 outer s H vs Q E hr h => ?_)
  · obtain ⟨_, ⟨F, A, m, q, rfl, R, g, ho, rfl⟩, _⟩ := h
    rfl
  obtain ⟨_, ⟨F, A, m, q, rfl, R, g, ho, rfl⟩, k⟩ := h
  refine ⟨_, (pss_cons (ps_set (i := 2) sc_search_from.nd rfl (Or.inl rfl) (pe_make (T.mk_Search) G_Search_init (hr.mono (by decide)) rfl T.c_Search.g T.D_Search_init.b .nil pass0 (pa_cons (pe_meth0 (pv 0) T.c_Heap.cl T.D_Heap_created.m G_Heap_created (hr.mono (by decide)) T.D_Heap_created.b .nil pass0) pa_nil))) (pss_cons (ps_for PassesOwn.never rfl (pi_range1 (by rfl) T.n_range (pa_cons (pe_callB call_len_seq (by rfl) T.n_len PySem.boot_len (pa_cons (pv 1) pa_nil)) pa_nil)) (pg_name (i := 3) sc_search_from.nd rfl (Or.inl rfl)) (pss_one (ps_expr (pe_meth (pv 2) T.c_Search.cl T.D_Search_visit.m G_Search_visit (hr.mono (by decide)) T.D_Search_visit.b .nil pass0 (pa_cons (pe_ix ix_tup (pe_ix ix_list (pv 1) (pv 3) (fun _ _ => rfl)) pe_int (fun _ _ => rfl)) (pa_cons (pe_un un_neg pe_int) (pa_cons (pv 3) pa_nil))))))) (pss_cons (ps_for PassesOwn.never rfl (pi_range1 (by rfl) T.n_range (pa_cons (pe_meth0 (pv 0) T.c_Heap.cl T.D_Heap_created.m G_Heap_created (hr.mono (by decide)) T.D_Heap_created.b .nil pass0) pa_nil)) (pg_name (i := 3) sc_search_from.nd rfl (Or.inl rfl)) (pss_one (ps_if (pt_cmpR op_lt (pv 3) (pe_callB call_len_seq (by rfl) T.n_len PySem.boot_len (pa_cons (pe_fld (pv 2) rfl) pa_nil)) (nomark _)) (pss_one (ps_expr (pe_call G_expand (hr.mono (by decide)) rfl T.D_expand.g T.D_expand.F.kp T.D_expand.b .nil pass0 (pa_cons (pv 0) (pa_cons (pv 2) (pa_cons (pv 3) pa_nil)))))) pss_nil))) (pss_one (ps_ret (pv 2)))))), ?_⟩
  obtain ⟨hq0, F1, xs, W, sm, hq, hr⟩ := R
  have hen := g.wf.en
  have hrl := roots_len g ho
  refine st_seq (st_setH (use_make (post := fun r H' => ∃ S : SAd, r = .ref S.sr ∧ SW a F1 H' A m S (Sr.new m.ents.length)) (va1 (Val.hh (use_meth (val_var rfl) W.h_hp no_Heap_created va_nil ⟨F1, A, m, rfl, W, rfl⟩)))
    fun x dx nx nd ne => ⟨_, ⟨F1, A, m, x, dx, m.ents.length, rfl, W.make nx nd ne, by omega, W.free nx, rfl⟩, fun v H2 ⟨e, S, e2, h⟩ => ⟨e, S, by rw [e2], h⟩⟩) fun y H1 h => ?_)
  obtain ⟨S, rfl, W1⟩ := h
  dsimp only
  refine st_seq (st_forR (n := (m.roots.length : Int)) (va1 (val_len (val_var rfl) (SqL.of (W1.same _ _ hq)))) (by rw [hr.1]) (by omega) (by omega)
    (fun i σ H' => (∃ v : Option V, σ = [some (.ref A.hp), some (.ref q), some (.ref S.sr), v]) ∧ SW a F1 H' A m S ((List.range i).foldl (Sr.root m.roots) (Sr.new m.ents.length)) ∧ SOk m ((List.range i).foldl (Sr.root m.roots) (Sr.new m.ents.length)) i) ⟨⟨none, rfl⟩, W1, new_ok m⟩ ?_ ?_)
  · rintro i σ H' hi ⟨⟨v, rfl⟩, W', ok'⟩
    have hi' : i < m.roots.length := hi
    obtain ⟨p, e1, e2⟩ := hr.2 i _ (List.getElem?_eq_getElem hi')
    have hl := root_at g hi'
    have er : (m.roots[i]?).getD (0, 0, 0) = m.roots[i] := by
      rw [List.getElem?_eq_getElem hi']
      rfl
    refine st_dropH (use_meth (val_var rfl) W'.h_sr no_Search_visit (va3 (val_ixT (j := 2) (val_ix (j := i) (val_var rfl) (SqL.of (W'.same _ _ hq)) (val_var rfl) rfl e1) (SqT.of (W'.same _ _ e2)) val_c rfl rfl) (val_neg val_c) (val_var rfl)) ⟨F1, A, m, S, _, m.roots[i].2.2, i, i, -1, rfl, W', ok', by omega, by rw [← er]; exact hl, rfl⟩) fun r H2 h => ?_
    refine ⟨⟨_, rfl⟩, ?_, ?_⟩
    · rw [range_fold]
      show SW a F1 H2 A m S (Sr.root m.roots _ i)
      unfold Sr.root
      rw [er]
      exact h.2
    · rw [range_fold]
      exact ok'.visit hl
  · rintro σ H' ⟨⟨v, rfl⟩, W2, ok2⟩
    dsimp only
    refine st_seq (st_forR (n := (m.ents.length : Int)) (va1 (Val.hh (use_meth (val_var rfl) W2.wa.h_hp no_Heap_created va_nil ⟨F1, A, m, rfl, W2.wa, rfl⟩))) rfl (by omega) (by omega)
      (fun i σ H' => (∃ v : Option V, σ = [some (.ref A.hp), some (.ref q), some (.ref S.sr), v]) ∧ SW a F1 H' A m S ((List.range i).foldl m.turn ((List.range m.roots.length).foldl (Sr.root m.roots) (Sr.new m.ents.length))) ∧ SOk m ((List.range i).foldl m.turn ((List.range m.roots.length).foldl (Sr.root m.roots) (Sr.new m.ents.length))) (m.roots.length + i * 4)) ⟨⟨_, rfl⟩, W2, by rw [Nat.zero_mul]; exact ok2⟩ ?_ ?_)
    · rintro i σ H3 hi ⟨⟨v, rfl⟩, W3, ok3⟩
      have hi' : i < m.ents.length := hi
      have ok4 : SOk m ((List.range (i + 1)).foldl m.turn ((List.range m.roots.length).foldl (Sr.root m.roots) (Sr.new m.ents.length))) (m.roots.length + (i + 1) * 4) := by
        rw [range_fold, Nat.succ_mul, ← Nat.add_assoc]
        exact ok3.turn g
      refine st_if (ans_b0 (val_var rfl) (val_len (v_Search_found T W3 (val_var rfl)) (SqL.of W3.h_fo)) rfl) (fun h => ?_) (fun h => ?_)
      · have hh := of_decide_eq_true h
        rw [nats_len] at hh
        have hh2 := Int.ofNat_lt.mp hh
        refine st_dropH (use_call (va3 (val_var rfl) (val_var rfl) (val_var rfl)) ⟨F1, A, m, S, _, i, m.roots.length + i * 4, rfl, W3, g, ok3, by omega, hh2, rfl⟩) fun r H4 h4 => ?_
        refine ⟨⟨_, rfl⟩, ?_, ok4⟩
        rw [range_fold]
        rw [turn_yes hh2]
        exact h4.2
      · have hh := of_decide_eq_false h
        rw [nats_len] at hh
        have hh2 := fun z => hh (Int.ofNat_lt.mpr z)
        refine ⟨⟨_, rfl⟩, ?_, ok4⟩
        rw [range_fold]
        rw [turn_no hh2]
        exact W3
    · rintro σ H3 ⟨⟨v, rfl⟩, W3, _⟩
      dsimp only
      exact st_ret (val_var rfl) (k _ _ ⟨S, F1, xs, rfl, W3, sm, hq, hr⟩)
end
end Gw

set_option Elab.async false
set_option maxRecDepth 100000
set_option maxHeartbeats 4000000
set_option linter.all false
/-! The inquiries: what is told. -/
namespace Gw
open PySem PySem.Spec PyProof.Rows L2 Gc

section
variable {P : Program} {w : World} {K : PySem.W.Frag} {mg : Str → Option Value} {base : Heap} {a : Ads}
theorem st_whileB {c : TT} {tb : TS} {D : Ends} {σ : Sl} {H : Hp} (Pv : Sl → Hp → Prop) (μ : Sl → Hp → Nat) (h0 : Pv σ H)
    (hs : ∀ σ H, Pv σ H → ∃ b, Ans c σ H b ∧ if b = true then tb { D with nx := fun σ' H' => Pv σ' H' ∧ μ σ' H' < μ σ H, ct := fun σ' H' => Pv σ' H' ∧ μ σ' H' < μ σ H, bk := D.nx } σ H else D.nx σ H) : tWhile c tb D σ H := by
  refine ⟨fun m σ H => m = μ σ H ∧ Pv σ H, ⟨_, rfl, h0⟩, ?_⟩
  rintro m σ H ⟨rfl, p⟩
  obtain ⟨b, ha, hb⟩ := hs σ H p
  refine ha _ ?_
  cases b with
  | true => exact iteT ⟨_, fun σ' H' ⟨p', l⟩ => ⟨_, l, rfl, p'⟩, hb⟩
  | false => exact iteF hb
def pTell (a : Ads) (f : M → List Int) : Pre := pOp a (fun m => (m, f m)) (fun _ => True)
theorem ok_tell_present (T : Txt K mg a) : FnOk P w K mg base CX0 3 a.f_tell_present a.d_tell_present ["world"] (Pr (pTell a M.tellPresent)) := by
  have G_Heap_present := ok_Heap_present (P := P) (w := w) (base := base) T
  refine T.D_tell_present.F.ok sc_tell_present (fun vs H Q E h => ?_) (fun cdv A0 outer s H vs Q E hr h => ?_)
  · obtain ⟨_, ⟨F, A, m, rfl, W, g, ho, hrp, _, rfl⟩, _⟩ := h
    rfl
  obtain ⟨_, ⟨F, A, m, rfl, W, g, ho, hrp, _, rfl⟩, k⟩ := h
  refine ⟨_, (pss_cons (ps_set (i := 1) sc_tell_present.nd rfl (Or.inl rfl) (pe_meth0 (pe_fld (pv 0) rfl) T.c_Heap.cl T.D_Heap_present.m G_Heap_present (hr.mono (by decide)) T.D_Heap_present.b .nil pass0)) (pss_one (ps_ret (pe_op op_cat (pe_lst (pa_cons (pe_callB call_len_seq (by rfl) T.n_len PySem.boot_len (pa_cons (pv 1) pa_nil)) pa_nil)) (pv 1))))), ?_⟩
  have hen := g.wf.en
  refine st_seq (st_setH (use_meth (v_World_heap T W (val_var rfl)) W.h_hp no_Heap_present va_nil ⟨F, A, m, rfl, W, Nat.lt_of_le_of_lt hen (by decide), rfl⟩) fun y H1 h => ?_)
  obtain ⟨p, rfl, hp, W1⟩ := h.push W
  have hpl : m.present.length ≤ 60 := Nat.le_trans (by unfold M.present; refine Nat.le_trans (List.length_filter_le _ _) ?_; rw [ones_len]; exact Nat.le_refl _) hen
  refine st_retH (valh_cat (opl_new (valh_lst (va1 (val_len (val_var rfl) (SqL.of W1.get))) (by show 1 ≤ 1000; decide))) (fun H2 s => opl_var (val_var rfl) (s _ _ W1.get)) ?_) fun v H' h => k _ _ (h.res (W1.pop hp) (Ext.refl A) ?_)
  · show 1 + (nats m.present).length ≤ sizeLine
    rw [nats_len]
    exact Nat.le_trans (show 1 + m.present.length ≤ 61 by omega) (by decide)
  · show _ = (((m.present.length : Nat) : Int) :: zints m.present).map V.int
    rw [nats_len, nats_ints]
    rfl
theorem ok_tell_reported (T : Txt K mg a) : FnOk P w K mg base CX0 1 a.f_tell_reported a.d_tell_reported ["world"] (Pr (pTell a M.tellReported)) := by
  refine T.D_tell_reported.F.ok sc_tell_reported (fun vs H Q E h => ?_) (fun cdv A0 outer s H vs Q E hr h => ?_)
  · obtain ⟨_, ⟨F, A, m, rfl, W, g, ho, hrp, _, rfl⟩, _⟩ := h
    rfl
  obtain ⟨_, ⟨F, A, m, rfl, W, g, ho, hrp, _, rfl⟩, k⟩ := h
  refine ⟨_, (pss_one (ps_ret (pe_op op_cat (pe_lst (pa_cons (pe_callB call_len_seq (by rfl) T.n_len PySem.boot_len (pa_cons (pe_fld (pv 0) rfl) pa_nil)) pa_nil)) (pe_fld (pv 0) rfl)))), ?_⟩
  refine st_retH (valh_cat (opl_new (valh_lst (va1 (val_len (v_World_reports T W (val_var rfl)) (SqL.of W.h_lr))) (by show 1 ≤ 1000; decide))) (fun H2 s => opl_var (v_World_reports T (W.ext s) (val_var rfl)) (s _ _ W.h_lr)) ?_) fun v H' h => k _ _ (h.res W (Ext.refl A) ?_)
  · show 1 + (nats m.reports).length ≤ sizeLine
    rw [nats_len]
    exact Nat.le_trans (show 1 + m.reports.length ≤ 2000001 by omega) (by decide)
  · show _ = (((m.reports.length : Nat) : Int) :: zints m.reports).map V.int
    rw [nats_len, nats_ints]
    rfl
theorem ok_tell_remaining (T : Txt K mg a) : FnOk P w K mg base CX0 4 a.f_tell_remaining a.d_tell_remaining ["world"] (Pr (pTell a M.tellRemaining)) := by
  have G_units_left := ok_units_left (P := P) (w := w) (base := base) T
  refine T.D_tell_remaining.F.ok sc_tell_remaining (fun vs H Q E h => ?_) (fun cdv A0 outer s H vs Q E hr h => ?_)
  · obtain ⟨_, ⟨F, A, m, rfl, W, g, ho, hrp, _, rfl⟩, _⟩ := h
    rfl
  obtain ⟨_, ⟨F, A, m, rfl, W, g, ho, hrp, _, rfl⟩, k⟩ := h
  refine ⟨_, (pss_cons (ps_if (pt_not (pt_val (pe_fld (pe_fld (pv 0) rfl) rfl))) (pss_one (ps_ret (pe_lst (pa_cons (pe_gv rfl T.k_NO_CYCLE) pa_nil)))) pss_nil) (pss_one (ps_ret (pe_lst (pa_cons (pe_call G_units_left (hr.mono (by decide)) rfl T.D_units_left.g T.D_units_left.F.kp T.D_units_left.b .nil pass0 (pa_cons (pv 0) pa_nil)) pa_nil))))), ?_⟩
  dsimp only at k
  unfold M.tellRemaining at k
  refine st_ifN (ans_not (ans_val (v_Cycle_running T W (v_World_cycle T W (val_var rfl))))) (fun h => ?_) (fun h => ?_)
  · rw [if_pos h] at k
    exact ret_one val_c W (Ext.refl A) k
  · rw [if_neg (by rw [h]; decide)] at k
    refine st_retH (valh_lstH (use_call (va1 (val_var rfl)) ⟨F, A, m, rfl, W, g, rfl⟩)) fun v H' hh => ?_
    obtain ⟨y, H1, hy, hn⟩ := hh
    obtain ⟨rfl, s1⟩ := hy
    exact k _ _ (res_list (l := [m.unitsLeft]) (W.ext s1) (Ext.refl A) hn)
theorem ok_tell_status (T : Txt K mg a) : FnOk P w K mg base CX0 3 a.f_tell_status a.d_tell_status ["world"] (Pr (pTell a M.tellStatus)) := by
  have G_Heap_present := ok_Heap_present (P := P) (w := w) (base := base) T
  have G_Exports_active := ok_Exports_active (P := P) (w := w) (base := base) T
  have G_Imports_all_imported := ok_Imports_all_imported (P := P) (w := w) (base := base) T
  have G_Cycle_color := ok_Cycle_color (P := P) (w := w) (base := base) T
  refine T.D_tell_status.F.ok sc_tell_status (fun vs H Q E h => ?_) (fun cdv A0 outer s H vs Q E hr h => ?_)
  · obtain ⟨_, ⟨F, A, m, rfl, W, g, ho, hrp, _, rfl⟩, _⟩ := h
    rfl
  obtain ⟨_, ⟨F, A, m, rfl, W, g, ho, hrp, _, rfl⟩, k⟩ := h
  refine ⟨_, (pss_cons (ps_set (i := 1) sc_tell_status.nd rfl (Or.inl rfl) (pe_meth0 (pe_fld (pv 0) rfl) T.c_Heap.cl T.D_Heap_present.m G_Heap_present (hr.mono (by decide)) T.D_Heap_present.b .nil pass0)) (pss_cons (ps_set (i := 2) sc_tell_status.nd rfl (Or.inl rfl) (pe_callB call_len_seq (by rfl) T.n_len PySem.boot_len (pa_cons (pe_meth0 (pe_fld (pv 0) rfl) T.c_Exports.cl T.D_Exports_active.m G_Exports_active (hr.mono (by decide)) T.D_Exports_active.b .nil pass0) pa_nil))) (pss_cons (ps_set (i := 3) sc_tell_status.nd rfl (Or.inl rfl) (pe_callB call_len_seq (by rfl) T.n_len PySem.boot_len (pa_cons (pe_meth0 (pe_fld (pv 0) rfl) T.c_Imports.cl T.D_Imports_all_imported.m G_Imports_all_imported (hr.mono (by decide)) T.D_Imports_all_imported.b .nil pass0) pa_nil))) (pss_cons (ps_if (pt_not (pt_val (pe_fld (pe_fld (pv 0) rfl) rfl))) (pss_one (ps_ret (pe_lst (pa_cons pe_int (pa_cons (pe_callB call_len_seq (by rfl) T.n_len PySem.boot_len (pa_cons (pv 1) pa_nil)) (pa_cons pe_int (pa_cons pe_int (pa_cons (pv 2) (pa_cons (pv 3) (pa_cons pe_int pa_nil)))))))))) pss_nil) (pss_cons (ps_setLc (i := 4) (own := [("number", 5)]) (g := gName 5) (tt := tTest (tOp rEq (tMeth a.cCycle "color" (Pr (pColor a)) [] E0 (tFld K (tVar 0) "cycle") (tCons (tVar 5) tNil)) (tC (.int 2)))) rfl sc_tell_status.nd rfl rfl (sw_true rfl rfl rfl (by decide +kernel)) (pi_list (pv 1)) (blkOk_by (N := N_tell_status) (sc := defScope s_tell_status) (by decide +kernel)) (fun _ _ _ _ _ => pg_name (i := 5) sc_tell_status.nd rfl (Or.inl rfl)) (fun _ _ _ _ _ => pts_one (pt_cmpR op_eq (pe_meth (pe_fld (pv 0) rfl) T.c_Cycle.cl T.D_Cycle_color.m G_Cycle_color (hr.mono (by decide)) T.D_Cycle_color.b .nil pass0 (pa_cons (pv 5) pa_nil)) (pe_gv rfl T.k_BLACK) (nomark _))) (fun _ _ _ _ _ => (pv 5))) (pss_one (ps_ret (pe_lst (pa_cons pe_int (pa_cons (pe_callB call_len_seq (by rfl) T.n_len PySem.boot_len (pa_cons (pv 1) pa_nil)) (pa_cons (pe_callB call_len_seq (by rfl) T.n_len PySem.boot_len (pa_cons (pe_fld (pe_fld (pv 0) rfl) rfl) pa_nil)) (pa_cons (pe_callB call_len_seq (by rfl) T.n_len PySem.boot_len (pa_cons (pv 4) pa_nil)) (pa_cons (pv 2) (pa_cons (pv 3) (pa_cons (pe_fld (pe_fld (pv 0) rfl) rfl) pa_nil))))))))))))))), ?_⟩
  have hen := g.wf.en
  have how := g.wf.ow
  dsimp only at k
  unfold M.tellStatus at k
  refine st_seq (st_setH (use_meth (v_World_heap T W (val_var rfl)) W.h_hp no_Heap_present va_nil ⟨F, A, m, rfl, W, Nat.lt_of_le_of_lt hen (by decide), rfl⟩) fun y H1 h => ?_)
  obtain ⟨p, rfl, hp, W1⟩ := h.push W
  have hpl : m.present.length ≤ 60 := Nat.le_trans (by unfold M.present; refine Nat.le_trans (List.length_filter_le _ _) ?_; rw [ones_len]; exact Nat.le_refl _) hen
  dsimp only
  refine st_seq (st_setH (valh_len (use_meth (v_World_exports T W1 (val_var rfl)) W1.h_ex no_Exports_active va_nil ⟨_, A, m, rfl, W1, by omega, rfl⟩)) fun y H2 h => ?_)
  obtain ⟨rfl, s2⟩ := h
  have W2 := W1.ext s2
  dsimp only
  refine st_seq (st_setH (valh_len (use_meth (v_World_imports T W2 (val_var rfl)) W2.h_im no_Imports_all_imported va_nil ⟨_, A, m, rfl, W2, g.wf.im, rfl⟩)) fun y H3 h => ?_)
  obtain ⟨rfl, s3⟩ := h
  have W3 := W2.ext s3
  rw [nats_len, nats_len]
  dsimp only
  refine st_ifN (ans_not (ans_val (v_Cycle_running T W3 (v_World_cycle T W3 (val_var rfl))))) (fun h => ?_) (fun h => ?_)
  · rw [if_pos h] at k
    refine ret_ints (va_cons val_c (va_cons (val_len (val_var rfl) (SqL.of W3.get)) (va_cons val_c (va_cons val_c (va3 (val_var rfl) (val_var rfl) val_c))))) ?_ (by show 7 ≤ 1000; decide) (W3.pop hp) (Ext.refl A) k
    rw [nats_len]
    rfl
  · rw [if_neg (by rw [h]; decide)] at k
    refine st_seq (st_setH (lc_filterV (l := m.present) (pr := fun n => m.color n == 2) (val_var rfl) W3.get (by omega) (by show 5 < 6; decide) (fun x hx D hD acc => ?_) (fun x => rfl)) fun y H4 h => ?_)
    · have W' := W3.push (o := .lst acc) hD
      have hpr := mem_present.mp hx
      exact ans_eqI (Val.hh (use_meth (v_World_cycle T W' (val_var rfl)) W'.h_cy no_Cycle_color (va1 (val_var rfl)) ⟨_, A, m, x, rfl, W', hpr.1, rfl⟩)) val_c (dec_beq (y := 2) rfl)
    · have s4 := h.same
      obtain ⟨q, rfl, hq, W4⟩ := h.push W3
      dsimp only
      refine ret_ints (va_cons val_c (va_cons (val_len (val_var rfl) (SqL.of (s4 _ _ W3.get))) (va_cons (val_len (v_Cycle_grey T W4 (v_World_cycle T W4 (val_var rfl))) (SqL.of W4.h_lg)) (va_cons (val_len (val_var rfl) (SqL.of W4.get)) (va3 (val_var rfl) (val_var rfl) (v_Cycle_units T W4 (v_World_cycle T W4 (val_var rfl)))))))) ?_ (by show 7 ≤ 1000; decide) ((W4.pop hq).pop hp) (Ext.refl A) k
      rw [nats_len, nats_len, nats_len]
      rfl

/-! ### the path -/
theorem val_index {σ : Sl} {H : Hp} {tob te : TE} {l : Addr} {ns : List Nat} {n j : Nat} (ho : Val tob σ H (.ref l)) (he : Val te σ H (.int (n : Int))) (hl : H l = some (.lst (nats ns))) (hj : ns[j]? = some n) (hno : ∀ i z, i < j → ns[i]? = some z → z ≠ n) :
    Val (tBM K "list" (rIndex K) tob (tCons te tNil)) σ H (.int (j : Int)) := fun Q q => by
  refine ho _ ?_
  refine ⟨.inl ⟨rfl, _, SqL.of hl⟩, ?_⟩
  refine he _ ?_
  refine ⟨l, nats ns, _, j, .int (n : Int), rfl, rfl, SqL.of hl, rfl, ?_, ?_, ?_, fun i z hi hz => ?_, q⟩
  · rw [List.all_eq_true]
    intro y hy
    obtain ⟨u, _, rfl⟩ := List.mem_map.mp hy
    rfl
  · unfold nats
    rw [List.getElem?_map, hj]
    rfl
  · show ((n : Int) == (n : Int)) = true
    exact beq_self_eq_true _
  · unfold nats at hz
    rw [List.getElem?_map] at hz
    cases e : ns[i]? with
    | none =>
      rw [e] at hz
      cases hz
    | some u =>
      rw [e] at hz
      cases hz
      have := hno i u hi e
      show ((u : Int) == (n : Int)) = false
      have h2 : ¬ (u : Int) = (n : Int) := by omega
      simpa using h2
theorem idx_first : ∀ {l : List Nat} {n : Nat}, n ∈ l → l[l.idxOf n]? = some n ∧ ∀ i z, i < l.idxOf n → l[i]? = some z → z ≠ n
  | [], _, h => nomatch h
  | y :: r, n, h => by
    rw [List.idxOf_cons]
    cases e : (y == n) with
    | true =>
      rw [cond_true, eq_of_beq e]
      exact ⟨rfl, fun i z hi => absurd hi (Nat.not_lt_zero _)⟩
    | false =>
      rw [cond_false]
      have hne : y ≠ n := fun z => by
        rw [z, beq_self_eq_true] at e
        cases e
      have hr : n ∈ r := by
        rcases List.mem_cons.mp h with q | q
        · exact absurd q.symm hne
        · exact q
      obtain ⟨h1, h2⟩ := idx_first hr
      refine ⟨by rw [List.getElem?_cons_succ]; exact h1, fun i z hi hz => ?_⟩
      cases i with
      | zero =>
        cases hz
        exact hne
      | succ i =>
        rw [List.getElem?_cons_succ] at hz
        exact h2 i z (by omega) hz
theorem st_tup3 {σ : Sl} {H : Hp} {te : TE} {D : Ends} {i j l : Nat} {p : Addr} {x y z : V} (h : Val te σ H (.ref p)) (ht : H p = some (.tup [x, y, z])) (q : D.nx (((σ.set i (some x)).set j (some y)).set l (some z)) H) : tAsg te (gTup K 3 (gCons (gName i) (gCons (gName j) (gCons (gName l) gNil)))) D σ H := by
  refine h _ ?_
  exact ⟨p, _, rfl, SqT.of ht, rfl, _, _, rfl, _, _, rfl, _, _, rfl, rfl, q⟩
def placeOf (σ : Sl) : Nat := match (σ[4]? : Option (Option V)) with
  | some (some (V.int i)) => i.toNat
  | _ => 0
theorem ok_tell_path (T : Txt K mg a) : FnOk P w K mg base CX0 4 a.f_tell_path a.d_tell_path ["world", "number"] (Pr (pOp1 a (fun m x => (m, m.tellPath x)))) := by
  have G_Heap_is_present := ok_Heap_is_present (P := P) (w := w) (base := base) T
  have G_list_roots := ok_list_roots (P := P) (w := w) (base := base) T
  have G_search_from := ok_search_from (P := P) (w := w) (base := base) T
  refine T.D_tell_path.F.ok sc_tell_path (fun vs H Q E h => ?_) (fun cdv A0 outer s H vs Q E hr h => ?_)
  · obtain ⟨_, ⟨F, A, m, x, rfl, W, g, ho, hrp, rfl⟩, _⟩ := h
    rfl
  obtain ⟨_, ⟨F, A, m, x, rfl, W, g, ho, hrp, rfl⟩, k⟩ := h
  refine ⟨_, (pss_cons (ps_if (pt_not (pt_val (pe_meth (pe_fld (pv 0) rfl) T.c_Heap.cl T.D_Heap_is_present.m G_Heap_is_present (hr.mono (by decide)) T.D_Heap_is_present.b .nil pass0 (pa_cons (pv 1) pa_nil)))) (pss_one (ps_ret (pe_lst (pa_cons (pe_gv rfl T.k_NOT_PRESENT) pa_nil)))) pss_nil) (pss_cons (ps_set (i := 2) sc_tell_path.nd rfl (Or.inl rfl) (pe_call G_list_roots (hr.mono (by decide)) rfl T.D_list_roots.g T.D_list_roots.F.kp T.D_list_roots.b .nil pass0 (pa_cons (pv 0) pa_nil))) (pss_cons (ps_set (i := 3) sc_tell_path.nd rfl (Or.inl rfl) (pe_call G_search_from (hr.mono (by decide)) rfl T.D_search_from.g T.D_search_from.F.kp T.D_search_from.b .nil pass0 (pa_cons (pe_fld (pv 0) rfl) (pa_cons (pv 2) pa_nil)))) (pss_cons (ps_if (pt_not (pt_val (pe_ix ix_list (pe_fld (pv 3) rfl) (pv 1) (fun _ _ => rfl)))) (pss_one (ps_ret (pe_lst (pa_cons pe_int pa_nil)))) pss_nil) (pss_cons (ps_set (i := 4) sc_tell_path.nd rfl (Or.inl rfl) (pe_bm PySem.F.plainAttrs_list PySem.F.slot_list_index PySem.F.type_list_index mt_index (pe_fld (pv 3) rfl) (pa_cons (pv 1) pa_nil))) (pss_cons (ps_set (i := 5) sc_tell_path.nd rfl (Or.inl rfl) (pe_lst pa_nil)) (pss_cons (ps_while PassesOwn.never (pt_cmpR op_ge (pe_ix ix_list (pe_fld (pv 3) rfl) (pv 4) (fun _ _ => rfl)) pe_int (nomark _)) (pss_cons (ps_expr (pe_bm PySem.F.plainAttrs_list PySem.F.slot_list_append PySem.F.type_list_append mt_append (pv 5) (pa_cons (pe_ix ix_list (pe_fld (pv 3) rfl) (pv 4) (fun _ _ => rfl)) pa_nil))) (pss_one (ps_set (i := 4) sc_tell_path.nd rfl (Or.inl rfl) (pe_ix ix_list (pe_fld (pv 3) rfl) (pv 4) (fun _ _ => rfl)))))) (pss_cons (ps_asg (pe_ix ix_list (pv 2) (pe_ix ix_list (pe_fld (pv 3) rfl) (pv 4) (fun _ _ => rfl)) (fun _ _ => rfl)) (pg_tup rfl (pgs_cons (pg_name (i := 6) sc_tell_path.nd rfl (Or.inl rfl)) (pgs_cons (pg_name (i := 7) sc_tell_path.nd rfl (Or.inl rfl)) (pgs_cons (pg_name (i := 8) sc_tell_path.nd rfl (Or.inl rfl)) pgs_nil))))) (pss_one (ps_ret (pe_op op_cat (pe_lst (pa_cons pe_int (pa_cons (pv 6) (pa_cons (pv 7) (pa_cons (pe_callB call_len_seq (by rfl) T.n_len PySem.boot_len (pa_cons (pv 5) pa_nil)) pa_nil))))) (pe_revL (pv 5))))))))))))), ?_⟩
  dsimp only at k
  unfold M.tellPath at k
  refine st_ifN (ans_not (ans_val (Val.hh (use_meth (v_World_heap T W (val_var rfl)) W.h_hp no_Heap_is_present (va1 (val_var rfl)) ⟨F, A, m, x, rfl, W, rfl⟩)))) (fun h => ?_) (fun h => ?_)
  · rw [if_pos h] at k
    exact ret_one val_c W (Ext.refl A) k
  rw [if_neg (by rw [h]; decide)] at k
  have hpr := bnot_false h
  have hb : 1 ≤ x ∧ x ≤ (m.ents.length : Int) := by
    unfold M.isPresent at hpr
    by_cases z : x < 1 ∨ x > (m.ents.length : Int)
    · rw [if_pos z] at hpr
      cases hpr
    · omega
  obtain ⟨n, rfl⟩ := Int.eq_ofNat_of_zero_le (by omega : 0 ≤ x)
  rw [show ((n : Int)).toNat = n from rfl] at k
  refine st_seq (st_setH (use_call (va1 (val_var rfl)) ⟨F, A, m, rfl, W, g, ho, rfl⟩) fun y H1 h => ?_)
  obtain ⟨q, rfl, RW1⟩ := h
  have W1 := RW1.wa
  dsimp only
  refine st_seq (st_setH (use_call (va2 (v_World_heap T W1 (val_var rfl)) (val_var rfl)) ⟨F, A, m, q, rfl, RW1, g, ho, rfl⟩) fun y H2 h => ?_)
  obtain ⟨S, F1, xs, rfl, W2, sm, hq, hr⟩ := h
  have R := paths_rel g
  dsimp only
  refine st_ifN (ans_not (ans_val (val_ix (j := n) (v_Search_seen T W2 (val_var rfl)) (SqL.of W2.h_se) (val_var rfl) rfl (bools_get (by rw [R.sl]; omega))))) (fun h => ?_) (fun h => ?_)
  · rw [if_pos h] at k
    exact ret_one val_c (W2.wa.shrink sm) (Ext.refl A) k
  rw [if_neg (by rw [h]; decide)] at k
  have hm := (R.se n).mp (bnot_false h)
  obtain ⟨ix1, ix2⟩ := idx_first hm
  have hpl : (Vbxlab.paths m.abs).length ≤ 60 := by
    have h1 := found_le R
    have h2 : m.present.length ≤ m.ents.length := by
      unfold M.present
      refine Nat.le_trans (List.length_filter_le _ _) ?_
      rw [ones_len]
      exact Nat.le_refl _
    have := g.wf.en
    omega
  have hfl := found_len R
  have hj0 := (List.getElem?_eq_some_iff.mp ix1).1
  generalize hs : m.searchFrom m.roots = s at R W2 hm ix1 ix2 hfl hj0 k
  generalize hps : Vbxlab.paths m.abs = ps at R hpl hfl
  generalize hj : s.found.idxOf n = j0 at ix1 ix2 hj0
  obtain ⟨p0, hp0⟩ : ∃ p0, ps[j0]? = some p0 := ⟨_, List.getElem?_eq_getElem (by omega)⟩
  obtain ⟨_, r, hr1, _⟩ := back_rel R (j0 + 1) j0 p0 [] hp0 (Nat.lt_succ_self _)
  refine st_seq (st_set (val_index (n := n) (j := j0) (v_Search_found T W2 (val_var rfl)) (val_var rfl) W2.h_fo ix1 ix2) ?_)
  refine st_seq (st_setH (valh_lst va_nil (by decide)) fun y H3 h => ?_)
  obtain ⟨bl, hbl, rfl, rfl⟩ := h
  have f1 := W2.wa.free hbl
  have W3 := W2.push (o := .lst []) hbl
  have nq : q ≠ bl := ne_of_none hq f1
  dsimp only
  refine st_seq (st_whileB (fun σ H' => ∃ (f p : Nat) (acc : List Nat), σ = [some (.ref A.w), some (.int (n : Int)), some (.ref q), some (.ref S.sr), some (.int (p : Int)), some (.ref bl), none, none, none] ∧ SW a (upd F1 bl (.lst (nats acc))) H' A m S s ∧ s.back f p acc = s.back (j0 + 1) j0 [] ∧ p < f ∧ p < ps.length ∧ acc.length + p ≤ j0)
    (fun σ _ => placeOf σ) ⟨j0 + 1, j0, [], rfl, W3, rfl, Nat.lt_succ_self _, by omega, by simp⟩ ?_)
  rintro σ H' ⟨f, p, acc, rfl, W4, hback, hpf, hpp, hacc⟩
  obtain ⟨f, rfl⟩ : ∃ f', f = f' + 1 := ⟨f - 1, by omega⟩
  have l1 : p < s.par.length := by rw [R.pl]; exact hpp
  have l2 : p < s.lab.length := by rw [R.ll]; exact hpp
  have ch := R.ch p ps[p] s.par[p] s.lab[p] (List.getElem?_eq_getElem hpp) (List.getElem?_eq_getElem l1) (List.getElem?_eq_getElem l2)
  have e0 : s.back (f + 1) p acc = if 0 ≤ s.par[p] then s.back f s.par[p].toNat (acc ++ [s.lab[p]]) else (acc, p) := by
    show (if 0 ≤ (s.par[p]?).getD (-1) then s.back f ((s.par[p]?).getD (-1)).toNat (acc ++ [(s.lab[p]?).getD 0]) else (acc, p)) = _
    rw [List.getElem?_eq_getElem l1, List.getElem?_eq_getElem l2]
    rfl
  have vpar : (zis s.par)[p]? = some (.int s.par[p]) := by
    rw [zis_get l1, List.getElem?_eq_getElem l1]
    rfl
  have vlab : (nats s.lab)[p]? = some (.int ((s.lab[p] : Nat) : Int)) := by
    rw [nats_get l2, List.getElem?_eq_getElem l2]
    rfl
  refine ⟨decide (0 ≤ s.par[p]), ans_ge (val_ix (j := p) (v_Search_parents T W4 (val_var rfl)) (SqL.of W4.h_pa) (val_var rfl) rfl vpar) rfl, ?_⟩
  by_cases hge : 0 ≤ s.par[p]
  · rw [decide_eq_true hge]
    refine iteT ?_
    rcases ch with ⟨e, _⟩ | ⟨j, qq, e, hjp, _⟩
    · omega
    refine st_seq (st_app (val_var rfl) (val_ix (j := p) (v_Search_labels T W4 (val_var rfl)) (SqL.of W4.h_la) (val_var rfl) rfl vlab) (W4.same _ _ upd_same) (by rw [nats_len]; exact Nat.lt_of_le_of_lt (show acc.length ≤ 60 by omega) (by decide)) ?_)
    rw [nats_snoc]
    have W5 := W4.poke (o' := .lst (nats (acc ++ [s.lab[p]]))) (fun ys z => by cases z)
    dsimp only
    refine st_set (val_ix (j := p) (v_Search_parents T W5 (val_var rfl)) (SqL.of W5.h_pa) (val_var rfl) rfl vpar) ?_
    refine ⟨⟨f, j, acc ++ [s.lab[p]], ?_, W5, ?_, by omega, by omega, ?_⟩, ?_⟩
    · rw [e]
      rfl
    · rw [← hback, e0, if_pos hge, e]
      rfl
    · rw [List.length_append, List.length_singleton]
      omega
    · show (s.par[p]).toNat < ((p : Nat) : Int).toNat
      omega
  · rw [decide_eq_false hge]
    refine iteF ?_
    have eB : s.back (j0 + 1) j0 [] = (acc, p) := by rw [← hback, e0, if_neg hge]
    rw [eB] at hr1
    have hr2 : m.roots[s.lab[p]]? = some r := by
      have : (s.lab[p]?).getD 0 = s.lab[p] := by
        rw [List.getElem?_eq_getElem l2]
        rfl
      rw [← this]
      exact hr1
    obtain ⟨pt, e1, e2⟩ := hr.2 _ _ hr2
    have hqH : H' q = some (.lst xs) := W4.same _ _ (by rw [upd_ne nq]; exact hq)
    have hpt : H' pt = some (.tup [.int (r.1 : Int), .int (r.2.1 : Int), .int (r.2.2 : Int)]) := W4.same _ _ (by rw [upd_ne (ne_of_none e2 f1)]; exact e2)
    have hblH : H' bl = some (.lst (nats acc)) := W4.same _ _ upd_same
    refine st_seq (st_tup3 (val_ix (j := s.lab[p]) (val_var rfl) (SqL.of hqH) (val_ix (j := p) (v_Search_labels T W4 (val_var rfl)) (SqL.of W4.h_la) (val_var rfl) rfl vlab) rfl e1) hpt ?_)
    have et : s.tell m.roots n = [1, (r.1 : Int), (r.2.1 : Int), (acc.length : Int)] ++ zints acc.reverse := by
      unfold Sr.tell
      rw [hj, eB]
      dsimp only
      rw [hr1]
      rfl
    rw [et] at k
    refine st_retH (valh_cat (opl_new (valh_lst (va_cons val_c (va3 (val_var rfl) (val_var rfl) (val_len (val_var rfl) (SqL.of hblH)))) (by show 4 ≤ 1000; decide))) (fun H5 s5 => opl_new (valh_rev (val_var rfl) (SqL.of (s5 _ _ hblH)))) ?_) fun v H6 h => k _ _ (h.res (W4.wa.shrink (sm.trans (new_same f1))) (Ext.refl A) ?_)
    · show 4 + (nats acc).reverse.length ≤ sizeLine
      rw [List.length_reverse, nats_len]
      exact Nat.le_trans (show 4 + acc.length ≤ 64 by omega) (by decide)
    · show _ = ([1, (r.1 : Int), (r.2.1 : Int), (acc.length : Int)] ++ zints acc.reverse).map V.int
      rw [List.map_append, ← nats_ints, nats_len]
      unfold nats
      rw [List.map_reverse]
      rfl
end
end Gw

set_option Elab.async false
set_option maxRecDepth 100000
set_option maxHeartbeats 4000000
set_option linter.all false
/-! The desk. -/
namespace Gw
open PySem PySem.Spec PyProof.Rows L2 Gc

/-! ### how many reports -/
theorem op_reports {m : M} (g : Gc.Good m) (c : Vbxlab.Call) : (m.op c).1.reports.length ≤ m.reports.length + 120 := by
  cases c with
  | create i n c =>
    show (m.opCreate i n c).1.reports.length ≤ _
    unfold M.opCreate
    split
    · exact Nat.le_add_right _ _
    · split
      · exact Nat.le_add_right _ _
      · exact Nat.le_add_right _ _
  | setInteger i n =>
    show (m.opSet i _).1.reports.length ≤ _
    unfold M.opSet
    split <;> exact Nat.le_add_right _ _
  | clear i =>
    show (m.opSet i _).1.reports.length ≤ _
    unfold M.opSet
    split <;> exact Nat.le_add_right _ _
  | copy i j =>
    show (m.opCopy i j).1.reports.length ≤ _
    unfold M.opCopy
    split <;> exact Nat.le_add_right _ _
  | read i k j =>
    show (m.opRead i k j).1.reports.length ≤ _
    unfold M.opRead
    split
    · exact Nat.le_add_right _ _
    · split <;> exact Nat.le_add_right _ _
  | write i k j =>
    show (m.opWrite i k j).1.reports.length ≤ _
    unfold M.opWrite
    split
    · exact Nat.le_add_right _ _
    · split
      · exact Nat.le_add_right _ _
      · show (m.guard _ _).reports.length ≤ _
        unfold M.guard
        split
        · rw [mark_reports]
          exact Nat.le_add_right _ _
        · exact Nat.le_add_right _ _
  | compare i j =>
    show (m.opCompare i j).1.reports.length ≤ _
    unfold M.opCompare
    split <;> exact Nat.le_add_right _ _
  | inspect i =>
    show (m.opInspect i).1.reports.length ≤ _
    unfold M.opInspect
    split <;> exact Nat.le_add_right _ _
  | exportObject i =>
    show (m.opExport i).1.reports.length ≤ _
    unfold M.opExport
    split
    · exact Nat.le_add_right _ _
    · split
      · unfold M.export
        split
        · exact Nat.le_add_right _ _
        · exact Nat.le_add_right _ _
      · exact Nat.le_add_right _ _
  | accept h i =>
    show (m.opAccept h i).1.reports.length ≤ _
    unfold M.opAccept
    split
    · exact Nat.le_add_right _ _
    · split <;> exact Nat.le_add_right _ _
  | retire h =>
    show (m.opRetire h).1.reports.length ≤ _
    unfold M.opRetire
    split <;> exact Nat.le_add_right _ _
  | withdraw h =>
    show (m.opWithdraw h).1.reports.length ≤ _
    unfold M.opWithdraw
    split <;> exact Nat.le_add_right _ _
  | importReference r i =>
    show (m.opImport r i).1.reports.length ≤ _
    unfold M.opImport
    split
    · exact Nat.le_add_right _ _
    · show ((m.receive _).markIf _).reports.length ≤ _
      unfold M.markIf
      split
      · rw [mark_reports]
        exact Nat.le_add_right _ _
      · exact Nat.le_add_right _ _
  | pin i =>
    show (m.opPin i).1.reports.length ≤ _
    unfold M.opPin
    split
    · exact Nat.le_add_right _ _
    · split <;> exact Nat.le_add_right _ _
  | unpin r =>
    show (m.opUnpin r).1.reports.length ≤ _
    unfold M.opUnpin
    split <;> exact Nat.le_add_right _ _
  | beginCycle =>
    show m.opBegin.1.reports.length ≤ _
    unfold M.opBegin
    split
    · exact Nat.le_add_right _ _
    · rw [begin_reports]
      exact Nat.le_add_right _ _
  | work b =>
    show (m.opWork b).1.reports.length ≤ _
    unfold M.opWork
    split
    · exact Nat.le_add_right _ _
    · split
      · exact Nat.le_add_right _ _
      · rw [doUnits_reports]
        exact Nat.le_add_right _ _
  | endCycle =>
    show m.opEnd.1.reports.length ≤ _
    unfold M.opEnd
    split
    · exact Nat.le_add_right _ _
    · split
      · exact Nat.le_add_right _ _
      · exact Nat.le_trans (finish_reports g.wf) (Nat.add_le_add_left (by decide) _)
  | collect =>
    show m.opCollect.1.reports.length ≤ _
    unfold M.opCollect
    unfold M.first
    split
    · rename_i h
      have g1 := (complete_both g h).2.2.1
      have h1 := complete_reports g h
      obtain ⟨g2, r2⟩ := g1.begin
      have h2 := complete_reports g2 r2
      rw [begin_reports] at h2
      exact Nat.le_trans h2 (by omega)
    · obtain ⟨g2, r2⟩ := g.begin
      have h2 := complete_reports g2 r2
      rw [begin_reports] at h2
      exact Nat.le_trans h2 (Nat.add_le_add_left (by decide) _)
  | _ => exact Nat.le_add_right _ _
section
variable {P : Program} {w : World} {K : PySem.W.Frag} {mg : Str → Option Value} {base : Heap} {a : Ads}
theorem hrp2 {n : Nat} (h : n < 1000000) : n < 2000000 := by omega
/-- the calls with the numbers from lo to hi -/
def pDesk (a : Ads) (lo hi : Nat) : Pre := fun vs H post => ∃ F A m, ∃ (c : Vbxlab.Call) (p : Addr), vs = [.ref A.w, .int ((code c).1 : Int), .ref p] ∧ lo ≤ (code c).1 ∧ (code c).1 ≤ hi ∧ WA a F H A m ∧ Good m ∧ m.owners.length < 10000 ∧ m.reports.length < 1000000 ∧ F p = some (.lst ((code c).2.map V.int)) ∧ post = Res a F A (m.op c)
theorem ok_slot_call (T : Txt K mg a) : FnOk P w K mg base CX0 5 a.f_slot_call a.d_slot_call ["world", "operation", "given"] (Pr (pDesk a 0 7)) := by
  have G_create := ok_create (P := P) (w := w) (base := base) T
  have G_set_integer := ok_set_integer (P := P) (w := w) (base := base) T
  have G_clear_slot := ok_clear_slot (P := P) (w := w) (base := base) T
  have G_copy_slot := ok_copy_slot (P := P) (w := w) (base := base) T
  have G_read_field := ok_read_field (P := P) (w := w) (base := base) T
  have G_write_field := ok_write_field (P := P) (w := w) (base := base) T
  have G_compare := ok_compare (P := P) (w := w) (base := base) T
  have G_inspect_slot := ok_inspect_slot (P := P) (w := w) (base := base) T
  refine T.D_slot_call.F.ok sc_slot_call (fun vs H Q E h => ?_) (fun cdv A0 outer s H vs Q E hr h => ?_)
  · obtain ⟨_, ⟨F, A, m, c, p, rfl, lo, hi, W, g, ho, hrp, hp, rfl⟩, _⟩ := h
    rfl
  obtain ⟨_, ⟨F, A, m, c, p, rfl, lo, hi, W, g, ho, hrp, hp, rfl⟩, k⟩ := h
  refine ⟨_, (pss_cons (ps_if (pt_cmpR op_eq (pv 1) pe_int (nomark _)) (pss_one (ps_ret (pe_call G_create (hr.mono (by decide)) rfl T.D_create.g T.D_create.F.kp T.D_create.b .nil pass0 (pa_cons (pv 0) (pa_cons (pe_ix ix_list (pv 2) pe_int (fun _ _ => rfl)) (pa_cons (pe_ix ix_list (pv 2) pe_int (fun _ _ => rfl)) (pa_cons (pe_ix ix_list (pv 2) pe_int (fun _ _ => rfl)) pa_nil))))))) pss_nil) (pss_cons (ps_if (pt_cmpR op_eq (pv 1) pe_int (nomark _)) (pss_one (ps_ret (pe_call G_set_integer (hr.mono (by decide)) rfl T.D_set_integer.g T.D_set_integer.F.kp T.D_set_integer.b .nil pass0 (pa_cons (pv 0) (pa_cons (pe_ix ix_list (pv 2) pe_int (fun _ _ => rfl)) (pa_cons (pe_ix ix_list (pv 2) pe_int (fun _ _ => rfl)) pa_nil)))))) pss_nil) (pss_cons (ps_if (pt_cmpR op_eq (pv 1) pe_int (nomark _)) (pss_one (ps_ret (pe_call G_clear_slot (hr.mono (by decide)) rfl T.D_clear_slot.g T.D_clear_slot.F.kp T.D_clear_slot.b .nil pass0 (pa_cons (pv 0) (pa_cons (pe_ix ix_list (pv 2) pe_int (fun _ _ => rfl)) pa_nil))))) pss_nil) (pss_cons (ps_if (pt_cmpR op_eq (pv 1) pe_int (nomark _)) (pss_one (ps_ret (pe_call G_copy_slot (hr.mono (by decide)) rfl T.D_copy_slot.g T.D_copy_slot.F.kp T.D_copy_slot.b .nil pass0 (pa_cons (pv 0) (pa_cons (pe_ix ix_list (pv 2) pe_int (fun _ _ => rfl)) (pa_cons (pe_ix ix_list (pv 2) pe_int (fun _ _ => rfl)) pa_nil)))))) pss_nil) (pss_cons (ps_if (pt_cmpR op_eq (pv 1) pe_int (nomark _)) (pss_one (ps_ret (pe_call G_read_field (hr.mono (by decide)) rfl T.D_read_field.g T.D_read_field.F.kp T.D_read_field.b .nil pass0 (pa_cons (pv 0) (pa_cons (pe_ix ix_list (pv 2) pe_int (fun _ _ => rfl)) (pa_cons (pe_ix ix_list (pv 2) pe_int (fun _ _ => rfl)) (pa_cons (pe_ix ix_list (pv 2) pe_int (fun _ _ => rfl)) pa_nil))))))) pss_nil) (pss_cons (ps_if (pt_cmpR op_eq (pv 1) pe_int (nomark _)) (pss_one (ps_ret (pe_call G_write_field (hr.mono (by decide)) rfl T.D_write_field.g T.D_write_field.F.kp T.D_write_field.b .nil pass0 (pa_cons (pv 0) (pa_cons (pe_ix ix_list (pv 2) pe_int (fun _ _ => rfl)) (pa_cons (pe_ix ix_list (pv 2) pe_int (fun _ _ => rfl)) (pa_cons (pe_ix ix_list (pv 2) pe_int (fun _ _ => rfl)) pa_nil))))))) pss_nil) (pss_cons (ps_if (pt_cmpR op_eq (pv 1) pe_int (nomark _)) (pss_one (ps_ret (pe_call G_compare (hr.mono (by decide)) rfl T.D_compare.g T.D_compare.F.kp T.D_compare.b .nil pass0 (pa_cons (pv 0) (pa_cons (pe_ix ix_list (pv 2) pe_int (fun _ _ => rfl)) (pa_cons (pe_ix ix_list (pv 2) pe_int (fun _ _ => rfl)) pa_nil)))))) pss_nil) (pss_one (ps_ret (pe_call G_inspect_slot (hr.mono (by decide)) rfl T.D_inspect_slot.g T.D_inspect_slot.F.kp T.D_inspect_slot.b .nil pass0 (pa_cons (pv 0) (pa_cons (pe_ix ix_list (pv 2) pe_int (fun _ _ => rfl)) pa_nil)))))))))))), ?_⟩
  have hp' := W.same _ _ hp
  cases c with
  | create x y z =>
    refine st_ifN (b := true) (ans_eqI (val_var rfl) val_c rfl) (fun _ => ?_) (fun h => by cases h)
    exact st_retH (use_call (va_cons (val_var rfl) (va3 (val_ix (j := 0) (val_var rfl) (SqL.of hp') val_c rfl rfl) (val_ix (j := 1) (val_var rfl) (SqL.of hp') val_c rfl rfl) (val_ix (j := 2) (val_var rfl) (SqL.of hp') val_c rfl rfl))) ⟨F, A, m, x, y, z, rfl, W, g, ho, hrp2 hrp, rfl⟩) fun v H' h => k _ _ h
  | setInteger x y =>
    refine st_ifN (b := false) (ans_eqI (val_var rfl) val_c rfl) (fun h => by cases h) (fun _ => ?_)
    refine st_ifN (b := true) (ans_eqI (val_var rfl) val_c rfl) (fun _ => ?_) (fun h => by cases h)
    exact st_retH (use_call (va3 (val_var rfl) (val_ix (j := 0) (val_var rfl) (SqL.of hp') val_c rfl rfl) (val_ix (j := 1) (val_var rfl) (SqL.of hp') val_c rfl rfl)) ⟨F, A, m, x, y, rfl, W, g, ho, hrp2 hrp, rfl⟩) fun v H' h => k _ _ h
  | clear x =>
    refine st_ifN (b := false) (ans_eqI (val_var rfl) val_c rfl) (fun h => by cases h) (fun _ => ?_)
    refine st_ifN (b := false) (ans_eqI (val_var rfl) val_c rfl) (fun h => by cases h) (fun _ => ?_)
    refine st_ifN (b := true) (ans_eqI (val_var rfl) val_c rfl) (fun _ => ?_) (fun h => by cases h)
    exact st_retH (use_call (va2 (val_var rfl) (val_ix (j := 0) (val_var rfl) (SqL.of hp') val_c rfl rfl)) ⟨F, A, m, x, rfl, W, g, ho, hrp2 hrp, rfl⟩) fun v H' h => k _ _ h
  | copy x y =>
    refine st_ifN (b := false) (ans_eqI (val_var rfl) val_c rfl) (fun h => by cases h) (fun _ => ?_)
    refine st_ifN (b := false) (ans_eqI (val_var rfl) val_c rfl) (fun h => by cases h) (fun _ => ?_)
    refine st_ifN (b := false) (ans_eqI (val_var rfl) val_c rfl) (fun h => by cases h) (fun _ => ?_)
    refine st_ifN (b := true) (ans_eqI (val_var rfl) val_c rfl) (fun _ => ?_) (fun h => by cases h)
    exact st_retH (use_call (va3 (val_var rfl) (val_ix (j := 0) (val_var rfl) (SqL.of hp') val_c rfl rfl) (val_ix (j := 1) (val_var rfl) (SqL.of hp') val_c rfl rfl)) ⟨F, A, m, x, y, rfl, W, g, ho, hrp2 hrp, rfl⟩) fun v H' h => k _ _ h
  | read x y z =>
    refine st_ifN (b := false) (ans_eqI (val_var rfl) val_c rfl) (fun h => by cases h) (fun _ => ?_)
    refine st_ifN (b := false) (ans_eqI (val_var rfl) val_c rfl) (fun h => by cases h) (fun _ => ?_)
    refine st_ifN (b := false) (ans_eqI (val_var rfl) val_c rfl) (fun h => by cases h) (fun _ => ?_)
    refine st_ifN (b := false) (ans_eqI (val_var rfl) val_c rfl) (fun h => by cases h) (fun _ => ?_)
    refine st_ifN (b := true) (ans_eqI (val_var rfl) val_c rfl) (fun _ => ?_) (fun h => by cases h)
    exact st_retH (use_call (va_cons (val_var rfl) (va3 (val_ix (j := 0) (val_var rfl) (SqL.of hp') val_c rfl rfl) (val_ix (j := 1) (val_var rfl) (SqL.of hp') val_c rfl rfl) (val_ix (j := 2) (val_var rfl) (SqL.of hp') val_c rfl rfl))) ⟨F, A, m, x, y, z, rfl, W, g, ho, hrp2 hrp, rfl⟩) fun v H' h => k _ _ h
  | write x y z =>
    refine st_ifN (b := false) (ans_eqI (val_var rfl) val_c rfl) (fun h => by cases h) (fun _ => ?_)
    refine st_ifN (b := false) (ans_eqI (val_var rfl) val_c rfl) (fun h => by cases h) (fun _ => ?_)
    refine st_ifN (b := false) (ans_eqI (val_var rfl) val_c rfl) (fun h => by cases h) (fun _ => ?_)
    refine st_ifN (b := false) (ans_eqI (val_var rfl) val_c rfl) (fun h => by cases h) (fun _ => ?_)
    refine st_ifN (b := false) (ans_eqI (val_var rfl) val_c rfl) (fun h => by cases h) (fun _ => ?_)
    refine st_ifN (b := true) (ans_eqI (val_var rfl) val_c rfl) (fun _ => ?_) (fun h => by cases h)
    exact st_retH (use_call (va_cons (val_var rfl) (va3 (val_ix (j := 0) (val_var rfl) (SqL.of hp') val_c rfl rfl) (val_ix (j := 1) (val_var rfl) (SqL.of hp') val_c rfl rfl) (val_ix (j := 2) (val_var rfl) (SqL.of hp') val_c rfl rfl))) ⟨F, A, m, x, y, z, rfl, W, g, ho, hrp2 hrp, rfl⟩) fun v H' h => k _ _ h
  | compare x y =>
    refine st_ifN (b := false) (ans_eqI (val_var rfl) val_c rfl) (fun h => by cases h) (fun _ => ?_)
    refine st_ifN (b := false) (ans_eqI (val_var rfl) val_c rfl) (fun h => by cases h) (fun _ => ?_)
    refine st_ifN (b := false) (ans_eqI (val_var rfl) val_c rfl) (fun h => by cases h) (fun _ => ?_)
    refine st_ifN (b := false) (ans_eqI (val_var rfl) val_c rfl) (fun h => by cases h) (fun _ => ?_)
    refine st_ifN (b := false) (ans_eqI (val_var rfl) val_c rfl) (fun h => by cases h) (fun _ => ?_)
    refine st_ifN (b := false) (ans_eqI (val_var rfl) val_c rfl) (fun h => by cases h) (fun _ => ?_)
    refine st_ifN (b := true) (ans_eqI (val_var rfl) val_c rfl) (fun _ => ?_) (fun h => by cases h)
    exact st_retH (use_call (va3 (val_var rfl) (val_ix (j := 0) (val_var rfl) (SqL.of hp') val_c rfl rfl) (val_ix (j := 1) (val_var rfl) (SqL.of hp') val_c rfl rfl)) ⟨F, A, m, x, y, rfl, W, g, ho, hrp2 hrp, rfl⟩) fun v H' h => k _ _ h
  | inspect x =>
    refine st_ifN (b := false) (ans_eqI (val_var rfl) val_c rfl) (fun h => by cases h) (fun _ => ?_)
    refine st_ifN (b := false) (ans_eqI (val_var rfl) val_c rfl) (fun h => by cases h) (fun _ => ?_)
    refine st_ifN (b := false) (ans_eqI (val_var rfl) val_c rfl) (fun h => by cases h) (fun _ => ?_)
    refine st_ifN (b := false) (ans_eqI (val_var rfl) val_c rfl) (fun h => by cases h) (fun _ => ?_)
    refine st_ifN (b := false) (ans_eqI (val_var rfl) val_c rfl) (fun h => by cases h) (fun _ => ?_)
    refine st_ifN (b := false) (ans_eqI (val_var rfl) val_c rfl) (fun h => by cases h) (fun _ => ?_)
    refine st_ifN (b := false) (ans_eqI (val_var rfl) val_c rfl) (fun h => by cases h) (fun _ => ?_)
    exact st_retH (use_call (va2 (val_var rfl) (val_ix (j := 0) (val_var rfl) (SqL.of hp') val_c rfl rfl)) ⟨F, A, m, x, rfl, W, g, ho, hrp2 hrp, rfl⟩) fun v H' h => k _ _ h
  | exportObject x => exact absurd hi (by show ¬ 8 ≤ 7; decide)
  | accept x y => exact absurd hi (by show ¬ 9 ≤ 7; decide)
  | retire x => exact absurd hi (by show ¬ 10 ≤ 7; decide)
  | withdraw x => exact absurd hi (by show ¬ 11 ≤ 7; decide)
  | importReference x y => exact absurd hi (by show ¬ 12 ≤ 7; decide)
  | pin x => exact absurd hi (by show ¬ 13 ≤ 7; decide)
  | unpin x => exact absurd hi (by show ¬ 14 ≤ 7; decide)
  | beginCycle => exact absurd hi (by show ¬ 15 ≤ 7; decide)
  | work x => exact absurd hi (by show ¬ 16 ≤ 7; decide)
  | endCycle => exact absurd hi (by show ¬ 17 ≤ 7; decide)
  | collect => exact absurd hi (by show ¬ 18 ≤ 7; decide)
  | status => exact absurd hi (by show ¬ 19 ≤ 7; decide)
  | present => exact absurd hi (by show ¬ 20 ≤ 7; decide)
  | path x => exact absurd hi (by show ¬ 21 ≤ 7; decide)
  | reported => exact absurd hi (by show ¬ 22 ≤ 7; decide)
  | remaining => exact absurd hi (by show ¬ 23 ≤ 7; decide)
theorem ok_outside_call (T : Txt K mg a) : FnOk P w K mg base CX0 5 a.f_outside_call a.d_outside_call ["world", "operation", "given"] (Pr (pDesk a 8 14)) := by
  have G_export_object := ok_export_object (P := P) (w := w) (base := base) T
  have G_accept_handle := ok_accept_handle (P := P) (w := w) (base := base) T
  have G_retire_handle := ok_retire_handle (P := P) (w := w) (base := base) T
  have G_withdraw_handle := ok_withdraw_handle (P := P) (w := w) (base := base) T
  have G_import_reference := ok_import_reference (P := P) (w := w) (base := base) T
  have G_pin_reference := ok_pin_reference (P := P) (w := w) (base := base) T
  have G_unpin_reference := ok_unpin_reference (P := P) (w := w) (base := base) T
  refine T.D_outside_call.F.ok sc_outside_call (fun vs H Q E h => ?_) (fun cdv A0 outer s H vs Q E hr h => ?_)
  · obtain ⟨_, ⟨F, A, m, c, p, rfl, lo, hi, W, g, ho, hrp, hp, rfl⟩, _⟩ := h
    rfl
  obtain ⟨_, ⟨F, A, m, c, p, rfl, lo, hi, W, g, ho, hrp, hp, rfl⟩, k⟩ := h
  refine ⟨_, (pss_cons (ps_if (pt_cmpR op_eq (pv 1) pe_int (nomark _)) (pss_one (ps_ret (pe_call G_export_object (hr.mono (by decide)) rfl T.D_export_object.g T.D_export_object.F.kp T.D_export_object.b .nil pass0 (pa_cons (pv 0) (pa_cons (pe_ix ix_list (pv 2) pe_int (fun _ _ => rfl)) pa_nil))))) pss_nil) (pss_cons (ps_if (pt_cmpR op_eq (pv 1) pe_int (nomark _)) (pss_one (ps_ret (pe_call G_accept_handle (hr.mono (by decide)) rfl T.D_accept_handle.g T.D_accept_handle.F.kp T.D_accept_handle.b .nil pass0 (pa_cons (pv 0) (pa_cons (pe_ix ix_list (pv 2) pe_int (fun _ _ => rfl)) (pa_cons (pe_ix ix_list (pv 2) pe_int (fun _ _ => rfl)) pa_nil)))))) pss_nil) (pss_cons (ps_if (pt_cmpR op_eq (pv 1) pe_int (nomark _)) (pss_one (ps_ret (pe_call G_retire_handle (hr.mono (by decide)) rfl T.D_retire_handle.g T.D_retire_handle.F.kp T.D_retire_handle.b .nil pass0 (pa_cons (pv 0) (pa_cons (pe_ix ix_list (pv 2) pe_int (fun _ _ => rfl)) pa_nil))))) pss_nil) (pss_cons (ps_if (pt_cmpR op_eq (pv 1) pe_int (nomark _)) (pss_one (ps_ret (pe_call G_withdraw_handle (hr.mono (by decide)) rfl T.D_withdraw_handle.g T.D_withdraw_handle.F.kp T.D_withdraw_handle.b .nil pass0 (pa_cons (pv 0) (pa_cons (pe_ix ix_list (pv 2) pe_int (fun _ _ => rfl)) pa_nil))))) pss_nil) (pss_cons (ps_if (pt_cmpR op_eq (pv 1) pe_int (nomark _)) (pss_one (ps_ret (pe_call G_import_reference (hr.mono (by decide)) rfl T.D_import_reference.g T.D_import_reference.F.kp T.D_import_reference.b .nil pass0 (pa_cons (pv 0) (pa_cons (pe_ix ix_list (pv 2) pe_int (fun _ _ => rfl)) (pa_cons (pe_ix ix_list (pv 2) pe_int (fun _ _ => rfl)) pa_nil)))))) pss_nil) (pss_cons (ps_if (pt_cmpR op_eq (pv 1) pe_int (nomark _)) (pss_one (ps_ret (pe_call G_pin_reference (hr.mono (by decide)) rfl T.D_pin_reference.g T.D_pin_reference.F.kp T.D_pin_reference.b .nil pass0 (pa_cons (pv 0) (pa_cons (pe_ix ix_list (pv 2) pe_int (fun _ _ => rfl)) pa_nil))))) pss_nil) (pss_one (ps_ret (pe_call G_unpin_reference (hr.mono (by decide)) rfl T.D_unpin_reference.g T.D_unpin_reference.F.kp T.D_unpin_reference.b .nil pass0 (pa_cons (pv 0) (pa_cons (pe_ix ix_list (pv 2) pe_int (fun _ _ => rfl)) pa_nil))))))))))), ?_⟩
  have hp' := W.same _ _ hp
  cases c with
  | create x y z => exact absurd lo (by show ¬ 8 ≤ 0; decide)
  | setInteger x y => exact absurd lo (by show ¬ 8 ≤ 1; decide)
  | clear x => exact absurd lo (by show ¬ 8 ≤ 2; decide)
  | copy x y => exact absurd lo (by show ¬ 8 ≤ 3; decide)
  | read x y z => exact absurd lo (by show ¬ 8 ≤ 4; decide)
  | write x y z => exact absurd lo (by show ¬ 8 ≤ 5; decide)
  | compare x y => exact absurd lo (by show ¬ 8 ≤ 6; decide)
  | inspect x => exact absurd lo (by show ¬ 8 ≤ 7; decide)
  | exportObject x =>
    refine st_ifN (b := true) (ans_eqI (val_var rfl) val_c rfl) (fun _ => ?_) (fun h => by cases h)
    exact st_retH (use_call (va2 (val_var rfl) (val_ix (j := 0) (val_var rfl) (SqL.of hp') val_c rfl rfl)) ⟨F, A, m, x, rfl, W, g, ho, hrp2 hrp, rfl⟩) fun v H' h => k _ _ h
  | accept x y =>
    refine st_ifN (b := false) (ans_eqI (val_var rfl) val_c rfl) (fun h => by cases h) (fun _ => ?_)
    refine st_ifN (b := true) (ans_eqI (val_var rfl) val_c rfl) (fun _ => ?_) (fun h => by cases h)
    exact st_retH (use_call (va3 (val_var rfl) (val_ix (j := 0) (val_var rfl) (SqL.of hp') val_c rfl rfl) (val_ix (j := 1) (val_var rfl) (SqL.of hp') val_c rfl rfl)) ⟨F, A, m, x, y, rfl, W, g, ho, hrp2 hrp, rfl⟩) fun v H' h => k _ _ h
  | retire x =>
    refine st_ifN (b := false) (ans_eqI (val_var rfl) val_c rfl) (fun h => by cases h) (fun _ => ?_)
    refine st_ifN (b := false) (ans_eqI (val_var rfl) val_c rfl) (fun h => by cases h) (fun _ => ?_)
    refine st_ifN (b := true) (ans_eqI (val_var rfl) val_c rfl) (fun _ => ?_) (fun h => by cases h)
    exact st_retH (use_call (va2 (val_var rfl) (val_ix (j := 0) (val_var rfl) (SqL.of hp') val_c rfl rfl)) ⟨F, A, m, x, rfl, W, g, ho, hrp2 hrp, rfl⟩) fun v H' h => k _ _ h
  | withdraw x =>
    refine st_ifN (b := false) (ans_eqI (val_var rfl) val_c rfl) (fun h => by cases h) (fun _ => ?_)
    refine st_ifN (b := false) (ans_eqI (val_var rfl) val_c rfl) (fun h => by cases h) (fun _ => ?_)
    refine st_ifN (b := false) (ans_eqI (val_var rfl) val_c rfl) (fun h => by cases h) (fun _ => ?_)
    refine st_ifN (b := true) (ans_eqI (val_var rfl) val_c rfl) (fun _ => ?_) (fun h => by cases h)
    exact st_retH (use_call (va2 (val_var rfl) (val_ix (j := 0) (val_var rfl) (SqL.of hp') val_c rfl rfl)) ⟨F, A, m, x, rfl, W, g, ho, hrp2 hrp, rfl⟩) fun v H' h => k _ _ h
  | importReference x y =>
    refine st_ifN (b := false) (ans_eqI (val_var rfl) val_c rfl) (fun h => by cases h) (fun _ => ?_)
    refine st_ifN (b := false) (ans_eqI (val_var rfl) val_c rfl) (fun h => by cases h) (fun _ => ?_)
    refine st_ifN (b := false) (ans_eqI (val_var rfl) val_c rfl) (fun h => by cases h) (fun _ => ?_)
    refine st_ifN (b := false) (ans_eqI (val_var rfl) val_c rfl) (fun h => by cases h) (fun _ => ?_)
    refine st_ifN (b := true) (ans_eqI (val_var rfl) val_c rfl) (fun _ => ?_) (fun h => by cases h)
    exact st_retH (use_call (va3 (val_var rfl) (val_ix (j := 0) (val_var rfl) (SqL.of hp') val_c rfl rfl) (val_ix (j := 1) (val_var rfl) (SqL.of hp') val_c rfl rfl)) ⟨F, A, m, x, y, rfl, W, g, ho, hrp2 hrp, rfl⟩) fun v H' h => k _ _ h
  | pin x =>
    refine st_ifN (b := false) (ans_eqI (val_var rfl) val_c rfl) (fun h => by cases h) (fun _ => ?_)
    refine st_ifN (b := false) (ans_eqI (val_var rfl) val_c rfl) (fun h => by cases h) (fun _ => ?_)
    refine st_ifN (b := false) (ans_eqI (val_var rfl) val_c rfl) (fun h => by cases h) (fun _ => ?_)
    refine st_ifN (b := false) (ans_eqI (val_var rfl) val_c rfl) (fun h => by cases h) (fun _ => ?_)
    refine st_ifN (b := false) (ans_eqI (val_var rfl) val_c rfl) (fun h => by cases h) (fun _ => ?_)
    refine st_ifN (b := true) (ans_eqI (val_var rfl) val_c rfl) (fun _ => ?_) (fun h => by cases h)
    exact st_retH (use_call (va2 (val_var rfl) (val_ix (j := 0) (val_var rfl) (SqL.of hp') val_c rfl rfl)) ⟨F, A, m, x, rfl, W, g, ho, hrp2 hrp, rfl⟩) fun v H' h => k _ _ h
  | unpin x =>
    refine st_ifN (b := false) (ans_eqI (val_var rfl) val_c rfl) (fun h => by cases h) (fun _ => ?_)
    refine st_ifN (b := false) (ans_eqI (val_var rfl) val_c rfl) (fun h => by cases h) (fun _ => ?_)
    refine st_ifN (b := false) (ans_eqI (val_var rfl) val_c rfl) (fun h => by cases h) (fun _ => ?_)
    refine st_ifN (b := false) (ans_eqI (val_var rfl) val_c rfl) (fun h => by cases h) (fun _ => ?_)
    refine st_ifN (b := false) (ans_eqI (val_var rfl) val_c rfl) (fun h => by cases h) (fun _ => ?_)
    refine st_ifN (b := false) (ans_eqI (val_var rfl) val_c rfl) (fun h => by cases h) (fun _ => ?_)
    exact st_retH (use_call (va2 (val_var rfl) (val_ix (j := 0) (val_var rfl) (SqL.of hp') val_c rfl rfl)) ⟨F, A, m, x, rfl, W, g, ho, hrp2 hrp, rfl⟩) fun v H' h => k _ _ h
  | beginCycle => exact absurd hi (by show ¬ 15 ≤ 14; decide)
  | work x => exact absurd hi (by show ¬ 16 ≤ 14; decide)
  | endCycle => exact absurd hi (by show ¬ 17 ≤ 14; decide)
  | collect => exact absurd hi (by show ¬ 18 ≤ 14; decide)
  | status => exact absurd hi (by show ¬ 19 ≤ 14; decide)
  | present => exact absurd hi (by show ¬ 20 ≤ 14; decide)
  | path x => exact absurd hi (by show ¬ 21 ≤ 14; decide)
  | reported => exact absurd hi (by show ¬ 22 ≤ 14; decide)
  | remaining => exact absurd hi (by show ¬ 23 ≤ 14; decide)
theorem ok_collector_call (T : Txt K mg a) : FnOk P w K mg base CX0 9 a.f_collector_call a.d_collector_call ["world", "operation", "given"] (Pr (pDesk a 15 18)) := by
  have G_begin_cycle := ok_begin_cycle (P := P) (w := w) (base := base) T
  have G_work := ok_work (P := P) (w := w) (base := base) T
  have G_end_cycle := ok_end_cycle (P := P) (w := w) (base := base) T
  have G_collect := ok_collect (P := P) (w := w) (base := base) T
  refine T.D_collector_call.F.ok sc_collector_call (fun vs H Q E h => ?_) (fun cdv A0 outer s H vs Q E hr h => ?_)
  · obtain ⟨_, ⟨F, A, m, c, p, rfl, lo, hi, W, g, ho, hrp, hp, rfl⟩, _⟩ := h
    rfl
  obtain ⟨_, ⟨F, A, m, c, p, rfl, lo, hi, W, g, ho, hrp, hp, rfl⟩, k⟩ := h
  refine ⟨_, (pss_cons (ps_if (pt_cmpR op_eq (pv 1) pe_int (nomark _)) (pss_one (ps_ret (pe_call G_begin_cycle (hr.mono (by decide)) rfl T.D_begin_cycle.g T.D_begin_cycle.F.kp T.D_begin_cycle.b .nil pass0 (pa_cons (pv 0) pa_nil)))) pss_nil) (pss_cons (ps_if (pt_cmpR op_eq (pv 1) pe_int (nomark _)) (pss_one (ps_ret (pe_call G_work (hr.mono (by decide)) rfl T.D_work.g T.D_work.F.kp T.D_work.b .nil pass0 (pa_cons (pv 0) (pa_cons (pe_ix ix_list (pv 2) pe_int (fun _ _ => rfl)) pa_nil))))) pss_nil) (pss_cons (ps_if (pt_cmpR op_eq (pv 1) pe_int (nomark _)) (pss_one (ps_ret (pe_call G_end_cycle (hr.mono (by decide)) rfl T.D_end_cycle.g T.D_end_cycle.F.kp T.D_end_cycle.b .nil pass0 (pa_cons (pv 0) pa_nil)))) pss_nil) (pss_one (ps_ret (pe_call G_collect (hr.mono (by decide)) rfl T.D_collect.g T.D_collect.F.kp T.D_collect.b .nil pass0 (pa_cons (pv 0) pa_nil))))))), ?_⟩
  have hp' := W.same _ _ hp
  cases c with
  | create x y z => exact absurd lo (by show ¬ 15 ≤ 0; decide)
  | setInteger x y => exact absurd lo (by show ¬ 15 ≤ 1; decide)
  | clear x => exact absurd lo (by show ¬ 15 ≤ 2; decide)
  | copy x y => exact absurd lo (by show ¬ 15 ≤ 3; decide)
  | read x y z => exact absurd lo (by show ¬ 15 ≤ 4; decide)
  | write x y z => exact absurd lo (by show ¬ 15 ≤ 5; decide)
  | compare x y => exact absurd lo (by show ¬ 15 ≤ 6; decide)
  | inspect x => exact absurd lo (by show ¬ 15 ≤ 7; decide)
  | exportObject x => exact absurd lo (by show ¬ 15 ≤ 8; decide)
  | accept x y => exact absurd lo (by show ¬ 15 ≤ 9; decide)
  | retire x => exact absurd lo (by show ¬ 15 ≤ 10; decide)
  | withdraw x => exact absurd lo (by show ¬ 15 ≤ 11; decide)
  | importReference x y => exact absurd lo (by show ¬ 15 ≤ 12; decide)
  | pin x => exact absurd lo (by show ¬ 15 ≤ 13; decide)
  | unpin x => exact absurd lo (by show ¬ 15 ≤ 14; decide)
  | beginCycle =>
    refine st_ifN (b := true) (ans_eqI (val_var rfl) val_c rfl) (fun _ => ?_) (fun h => by cases h)
    exact st_retH (use_call (va1 (val_var rfl)) ⟨F, A, m, rfl, W, g, ho, hrp2 hrp, trivial, rfl⟩) fun v H' h => k _ _ h
  | work x =>
    refine st_ifN (b := false) (ans_eqI (val_var rfl) val_c rfl) (fun h => by cases h) (fun _ => ?_)
    refine st_ifN (b := true) (ans_eqI (val_var rfl) val_c rfl) (fun _ => ?_) (fun h => by cases h)
    exact st_retH (use_call (va2 (val_var rfl) (val_ix (j := 0) (val_var rfl) (SqL.of hp') val_c rfl rfl)) ⟨F, A, m, x, rfl, W, g, ho, hrp2 hrp, rfl⟩) fun v H' h => k _ _ h
  | endCycle =>
    refine st_ifN (b := false) (ans_eqI (val_var rfl) val_c rfl) (fun h => by cases h) (fun _ => ?_)
    refine st_ifN (b := false) (ans_eqI (val_var rfl) val_c rfl) (fun h => by cases h) (fun _ => ?_)
    refine st_ifN (b := true) (ans_eqI (val_var rfl) val_c rfl) (fun _ => ?_) (fun h => by cases h)
    exact st_retH (use_call (va1 (val_var rfl)) ⟨F, A, m, rfl, W, g, ho, hrp2 hrp, trivial, rfl⟩) fun v H' h => k _ _ h
  | collect =>
    refine st_ifN (b := false) (ans_eqI (val_var rfl) val_c rfl) (fun h => by cases h) (fun _ => ?_)
    refine st_ifN (b := false) (ans_eqI (val_var rfl) val_c rfl) (fun h => by cases h) (fun _ => ?_)
    refine st_ifN (b := false) (ans_eqI (val_var rfl) val_c rfl) (fun h => by cases h) (fun _ => ?_)
    exact st_retH (use_call (va1 (val_var rfl)) ⟨F, A, m, rfl, W, g, ho, hrp2 hrp, hrp, rfl⟩) fun v H' h => k _ _ h
  | status => exact absurd hi (by show ¬ 19 ≤ 18; decide)
  | present => exact absurd hi (by show ¬ 20 ≤ 18; decide)
  | path x => exact absurd hi (by show ¬ 21 ≤ 18; decide)
  | reported => exact absurd hi (by show ¬ 22 ≤ 18; decide)
  | remaining => exact absurd hi (by show ¬ 23 ≤ 18; decide)
theorem ok_inquiry_call (T : Txt K mg a) : FnOk P w K mg base CX0 5 a.f_inquiry_call a.d_inquiry_call ["world", "operation", "given"] (Pr (pDesk a 19 23)) := by
  have G_tell_status := ok_tell_status (P := P) (w := w) (base := base) T
  have G_tell_present := ok_tell_present (P := P) (w := w) (base := base) T
  have G_tell_path := ok_tell_path (P := P) (w := w) (base := base) T
  have G_tell_reported := ok_tell_reported (P := P) (w := w) (base := base) T
  have G_tell_remaining := ok_tell_remaining (P := P) (w := w) (base := base) T
  refine T.D_inquiry_call.F.ok sc_inquiry_call (fun vs H Q E h => ?_) (fun cdv A0 outer s H vs Q E hr h => ?_)
  · obtain ⟨_, ⟨F, A, m, c, p, rfl, lo, hi, W, g, ho, hrp, hp, rfl⟩, _⟩ := h
    rfl
  obtain ⟨_, ⟨F, A, m, c, p, rfl, lo, hi, W, g, ho, hrp, hp, rfl⟩, k⟩ := h
  refine ⟨_, (pss_cons (ps_if (pt_cmpR op_eq (pv 1) pe_int (nomark _)) (pss_one (ps_ret (pe_call G_tell_status (hr.mono (by decide)) rfl T.D_tell_status.g T.D_tell_status.F.kp T.D_tell_status.b .nil pass0 (pa_cons (pv 0) pa_nil)))) pss_nil) (pss_cons (ps_if (pt_cmpR op_eq (pv 1) pe_int (nomark _)) (pss_one (ps_ret (pe_call G_tell_present (hr.mono (by decide)) rfl T.D_tell_present.g T.D_tell_present.F.kp T.D_tell_present.b .nil pass0 (pa_cons (pv 0) pa_nil)))) pss_nil) (pss_cons (ps_if (pt_cmpR op_eq (pv 1) pe_int (nomark _)) (pss_one (ps_ret (pe_call G_tell_path (hr.mono (by decide)) rfl T.D_tell_path.g T.D_tell_path.F.kp T.D_tell_path.b .nil pass0 (pa_cons (pv 0) (pa_cons (pe_ix ix_list (pv 2) pe_int (fun _ _ => rfl)) pa_nil))))) pss_nil) (pss_cons (ps_if (pt_cmpR op_eq (pv 1) pe_int (nomark _)) (pss_one (ps_ret (pe_call G_tell_reported (hr.mono (by decide)) rfl T.D_tell_reported.g T.D_tell_reported.F.kp T.D_tell_reported.b .nil pass0 (pa_cons (pv 0) pa_nil)))) pss_nil) (pss_one (ps_ret (pe_call G_tell_remaining (hr.mono (by decide)) rfl T.D_tell_remaining.g T.D_tell_remaining.F.kp T.D_tell_remaining.b .nil pass0 (pa_cons (pv 0) pa_nil)))))))), ?_⟩
  have hp' := W.same _ _ hp
  cases c with
  | create x y z => exact absurd lo (by show ¬ 19 ≤ 0; decide)
  | setInteger x y => exact absurd lo (by show ¬ 19 ≤ 1; decide)
  | clear x => exact absurd lo (by show ¬ 19 ≤ 2; decide)
  | copy x y => exact absurd lo (by show ¬ 19 ≤ 3; decide)
  | read x y z => exact absurd lo (by show ¬ 19 ≤ 4; decide)
  | write x y z => exact absurd lo (by show ¬ 19 ≤ 5; decide)
  | compare x y => exact absurd lo (by show ¬ 19 ≤ 6; decide)
  | inspect x => exact absurd lo (by show ¬ 19 ≤ 7; decide)
  | exportObject x => exact absurd lo (by show ¬ 19 ≤ 8; decide)
  | accept x y => exact absurd lo (by show ¬ 19 ≤ 9; decide)
  | retire x => exact absurd lo (by show ¬ 19 ≤ 10; decide)
  | withdraw x => exact absurd lo (by show ¬ 19 ≤ 11; decide)
  | importReference x y => exact absurd lo (by show ¬ 19 ≤ 12; decide)
  | pin x => exact absurd lo (by show ¬ 19 ≤ 13; decide)
  | unpin x => exact absurd lo (by show ¬ 19 ≤ 14; decide)
  | beginCycle => exact absurd lo (by show ¬ 19 ≤ 15; decide)
  | work x => exact absurd lo (by show ¬ 19 ≤ 16; decide)
  | endCycle => exact absurd lo (by show ¬ 19 ≤ 17; decide)
  | collect => exact absurd lo (by show ¬ 19 ≤ 18; decide)
  | status =>
    refine st_ifN (b := true) (ans_eqI (val_var rfl) val_c rfl) (fun _ => ?_) (fun h => by cases h)
    exact st_retH (use_call (va1 (val_var rfl)) ⟨F, A, m, rfl, W, g, ho, hrp2 hrp, trivial, rfl⟩) fun v H' h => k _ _ h
  | present =>
    refine st_ifN (b := false) (ans_eqI (val_var rfl) val_c rfl) (fun h => by cases h) (fun _ => ?_)
    refine st_ifN (b := true) (ans_eqI (val_var rfl) val_c rfl) (fun _ => ?_) (fun h => by cases h)
    exact st_retH (use_call (va1 (val_var rfl)) ⟨F, A, m, rfl, W, g, ho, hrp2 hrp, trivial, rfl⟩) fun v H' h => k _ _ h
  | path x =>
    refine st_ifN (b := false) (ans_eqI (val_var rfl) val_c rfl) (fun h => by cases h) (fun _ => ?_)
    refine st_ifN (b := false) (ans_eqI (val_var rfl) val_c rfl) (fun h => by cases h) (fun _ => ?_)
    refine st_ifN (b := true) (ans_eqI (val_var rfl) val_c rfl) (fun _ => ?_) (fun h => by cases h)
    exact st_retH (use_call (va2 (val_var rfl) (val_ix (j := 0) (val_var rfl) (SqL.of hp') val_c rfl rfl)) ⟨F, A, m, x, rfl, W, g, ho, hrp2 hrp, rfl⟩) fun v H' h => k _ _ h
  | reported =>
    refine st_ifN (b := false) (ans_eqI (val_var rfl) val_c rfl) (fun h => by cases h) (fun _ => ?_)
    refine st_ifN (b := false) (ans_eqI (val_var rfl) val_c rfl) (fun h => by cases h) (fun _ => ?_)
    refine st_ifN (b := false) (ans_eqI (val_var rfl) val_c rfl) (fun h => by cases h) (fun _ => ?_)
    refine st_ifN (b := true) (ans_eqI (val_var rfl) val_c rfl) (fun _ => ?_) (fun h => by cases h)
    exact st_retH (use_call (va1 (val_var rfl)) ⟨F, A, m, rfl, W, g, ho, hrp2 hrp, trivial, rfl⟩) fun v H' h => k _ _ h
  | remaining =>
    refine st_ifN (b := false) (ans_eqI (val_var rfl) val_c rfl) (fun h => by cases h) (fun _ => ?_)
    refine st_ifN (b := false) (ans_eqI (val_var rfl) val_c rfl) (fun h => by cases h) (fun _ => ?_)
    refine st_ifN (b := false) (ans_eqI (val_var rfl) val_c rfl) (fun h => by cases h) (fun _ => ?_)
    refine st_ifN (b := false) (ans_eqI (val_var rfl) val_c rfl) (fun h => by cases h) (fun _ => ?_)
    exact st_retH (use_call (va1 (val_var rfl)) ⟨F, A, m, rfl, W, g, ho, hrp2 hrp, trivial, rfl⟩) fun v H' h => k _ _ h
theorem ok_perform (T : Txt K mg a) : FnOk P w K mg base CX0 10 a.f_perform a.d_perform ["world", "operation", "given"] (Pr (pDesk a 0 23)) := by
  have G_slot_call := ok_slot_call (P := P) (w := w) (base := base) T
  have G_outside_call := ok_outside_call (P := P) (w := w) (base := base) T
  have G_collector_call := ok_collector_call (P := P) (w := w) (base := base) T
  have G_inquiry_call := ok_inquiry_call (P := P) (w := w) (base := base) T
  refine T.D_perform.F.ok sc_perform (fun vs H Q E h => ?_) (fun cdv A0 outer s H vs Q E hr h => ?_)
  · obtain ⟨_, ⟨F, A, m, c, p, rfl, lo, hi, W, g, ho, hrp, hp, rfl⟩, _⟩ := h
    rfl
  obtain ⟨_, ⟨F, A, m, c, p, rfl, lo, hi, W, g, ho, hrp, hp, rfl⟩, k⟩ := h
  refine ⟨_, (pss_cons (ps_if (pt_cmpR op_le (pv 1) pe_int (nomark _)) (pss_one (ps_ret (pe_call G_slot_call (hr.mono (by decide)) rfl T.D_slot_call.g T.D_slot_call.F.kp T.D_slot_call.b .nil pass0 (pa_cons (pv 0) (pa_cons (pv 1) (pa_cons (pv 2) pa_nil)))))) pss_nil) (pss_cons (ps_if (pt_cmpR op_le (pv 1) pe_int (nomark _)) (pss_one (ps_ret (pe_call G_outside_call (hr.mono (by decide)) rfl T.D_outside_call.g T.D_outside_call.F.kp T.D_outside_call.b .nil pass0 (pa_cons (pv 0) (pa_cons (pv 1) (pa_cons (pv 2) pa_nil)))))) pss_nil) (pss_cons (ps_if (pt_cmpR op_le (pv 1) pe_int (nomark _)) (pss_one (ps_ret (pe_call G_collector_call (hr.mono (by decide)) rfl T.D_collector_call.g T.D_collector_call.F.kp T.D_collector_call.b .nil pass0 (pa_cons (pv 0) (pa_cons (pv 1) (pa_cons (pv 2) pa_nil)))))) pss_nil) (pss_one (ps_ret (pe_call G_inquiry_call (hr.mono (by decide)) rfl T.D_inquiry_call.g T.D_inquiry_call.F.kp T.D_inquiry_call.b .nil pass0 (pa_cons (pv 0) (pa_cons (pv 1) (pa_cons (pv 2) pa_nil))))))))), ?_⟩
  refine st_ifN (ans_b0 (val_var rfl) val_c rfl) (fun h => ?_) (fun h => ?_)
  · have h1 := of_decide_eq_true h
    exact st_retH (use_call (va3 (val_var rfl) (val_var rfl) (val_var rfl)) ⟨F, A, m, c, p, rfl, lo, by omega, W, g, ho, hrp, hp, rfl⟩) fun v H' h => k _ _ h
  have n1 := of_decide_eq_false h
  refine st_ifN (ans_b0 (val_var rfl) val_c rfl) (fun h => ?_) (fun h => ?_)
  · have h1 := of_decide_eq_true h
    exact st_retH (use_call (va3 (val_var rfl) (val_var rfl) (val_var rfl)) ⟨F, A, m, c, p, rfl, by omega, by omega, W, g, ho, hrp, hp, rfl⟩) fun v H' h => k _ _ h
  have n2 := of_decide_eq_false h
  refine st_ifN (ans_b0 (val_var rfl) val_c rfl) (fun h => ?_) (fun h => ?_)
  · have h1 := of_decide_eq_true h
    exact st_retH (use_call (va3 (val_var rfl) (val_var rfl) (val_var rfl)) ⟨F, A, m, c, p, rfl, by omega, by omega, W, g, ho, hrp, hp, rfl⟩) fun v H' h => k _ _ h
  have n3 := of_decide_eq_false h
  exact st_retH (use_call (va3 (val_var rfl) (val_var rfl) (val_var rfl)) ⟨F, A, m, c, p, rfl, by omega, hi, W, g, ho, hrp, hp, rfl⟩) fun v H' h => k _ _ h

/-! ### the loop over the calls -/
theorem code_le (c : Vbxlab.Call) : (code c).1 ≤ 23 := by cases c <;> exact Nat.le_of_ble_eq_true rfl
theorem code_len (c : Vbxlab.Call) : (code c).2.length ≤ 3 := by cases c <;> exact Nat.le_of_ble_eq_true rfl
theorem _root_.L2.SqL.same {H H' : Hp} {p : Addr} {xs : List V} (h : SqL K H p xs) (s : Same H H') : SqL K H' p xs :=
  h.elim (fun h => .inl (h.elim (fun h => .inl (s _ _ h)) fun ⟨o, h⟩ => .inr ⟨o, s _ _ h⟩)) fun h => .inr h
def at3 (σ : Sl) : Nat := match (σ[3]? : Option (Option V)) with
  | some (some (V.int i)) => i.toNat
  | _ => 0
def spAnswers (K : PySem.W.Frag) : Sp := fun vs H Q _ => ∃ (p : Addr) (ns : List Int), vs = [.ref p] ∧ SqL K H p (ns.map V.int) ∧ ns.length ≤ 1800 ∧ PyVbxlab.answers_asked ns = true ∧ ∀ (H' : Hp) (q : Addr), H' q = some (.lst ((PyVbxlab.answers ns).map V.int)) → Q (.ref q) H'
theorem ok_answers (T : Txt K mg a) : FnOk P w K mg base CX0 11 a.f_answers a.d_answers ["calls"] (spAnswers K) := by
  have G_World_init := ok_World_init (P := P) (w := w) (base := base) T
  have G_perform := ok_perform (P := P) (w := w) (base := base) T
  refine T.D_answers.F.ok sc_answers (fun vs H Q E h => ?_) (fun cdv A0 outer s H vs Q E hr h => ?_)
  · obtain ⟨p, ns, rfl, _⟩ := h
    rfl
  obtain ⟨p, ns, rfl, hp, hlen, hask, k⟩ := h
  refine ⟨_, (pss_cons (ps_set (i := 1) sc_answers.nd rfl (Or.inl rfl) (pe_make0 (T.mk_World) G_World_init (hr.mono (by decide)) rfl T.c_World.g T.D_World_init.b .nil pass0)) (pss_cons (ps_set (i := 2) sc_answers.nd rfl (Or.inl rfl) (pe_lst pa_nil)) (pss_cons (ps_set (i := 3) sc_answers.nd rfl (Or.inl rfl) pe_int) (pss_cons (ps_while PassesOwn.never (pt_cmpR op_lt (pv 3) (pe_callB call_len_seq (by rfl) T.n_len PySem.boot_len (pa_cons (pv 0) pa_nil)) (nomark _)) (pss_cons (ps_set (i := 4) sc_answers.nd rfl (Or.inl rfl) (pe_ix ix_list (pv 0) (pv 3) (fun _ _ => rfl))) (pss_cons (ps_set (i := 5) sc_answers.nd rfl (Or.inl rfl) (pe_op op_add (pe_op op_add (pv 3) pe_int) (pe_ix ix_tup (pe_gv rfl T.k_ARGUMENTS) (pv 4) (fun _ _ => rfl)))) (pss_cons (ps_set (i := 6) sc_answers.nd rfl (Or.inl rfl) (pe_call G_perform (hr.mono (by decide)) rfl T.D_perform.g T.D_perform.F.kp T.D_perform.b .nil pass0 (pa_cons (pv 1) (pa_cons (pv 4) (pa_cons (pe_slice sl_list (pv 0) (po_some (pe_op op_add (pv 3) pe_int)) (po_some (pv 5))) pa_nil))))) (pss_cons (ps_expr (pe_bm PySem.F.plainAttrs_list PySem.F.slot_list_append PySem.F.type_list_append mt_append (pv 2) (pa_cons (pe_callB call_len_seq (by rfl) T.n_len PySem.boot_len (pa_cons (pv 6) pa_nil)) pa_nil))) (pss_cons (ps_expr (pe_bm PySem.F.plainAttrs_list PySem.F.slot_list_extend PySem.F.type_list_extend mt_extend (pv 2) (pa_cons (pv 6) pa_nil))) (pss_one (ps_set (i := 3) sc_answers.nd rfl (Or.inl rfl) (pv 5))))))))) (pss_one (ps_ret (pv 2))))))), ?_⟩
  have hshort := asked_short hask
  refine st_seq (st_setH (use_make (post := fun r H' => ∃ A : Ad, r = .ref A.w ∧ WA a H H' A M0) va_nil
    fun x dx nx nd ne => let ⟨g1, g2, _⟩ := (Same.refl H).make (C := a.cWorld) nx nd ne; ⟨_, ⟨H, x, dx, rfl, g2, g1, rfl⟩, fun v H' ⟨e, A, e2, h⟩ => ⟨e, A, by rw [e2], h⟩⟩) fun y H1 h => ?_)
  obtain ⟨A, rfl, W0⟩ := h
  dsimp only
  refine st_seq (st_setH (valh_lst va_nil (by decide)) fun y H2 h => ?_)
  obtain ⟨t, rfl, ht, W1⟩ := h.push W0
  dsimp only
  refine st_seq (st_set val_c ?_)
  dsimp only
  refine st_seq (st_whileB (fun σ H' => ∃ (place : Nat) (m : M) (told : List Int) (A' : Ad) (v4 v5 v6 : Option V), σ = [some (.ref p), some (.ref A.w), some (.ref t), some (.int (place : Int)), v4, v5, v6] ∧
      Gw.Ext A A' ∧ WA a (upd H t (.lst (told.map V.int))) H' A' m ∧ Loop ns place m told ∧ m.reports.length ≤ 120 * place ∧ told.length ≤ 10000000) (fun σ _ => ns.length - at3 σ)
    ⟨0, M0, [], A, _, _, _, rfl, Ext.refl A, W1, loop_start hask, Nat.zero_le _, Nat.zero_le _⟩ ?_)
  rintro σ H3 ⟨place, m, told, A', v4, v5, v6, rfl, x, W, L, hrp, htl⟩
  have hsame : Same H H3 := (new_same ht).trans W.same
  have hp3 := hp.same hsame
  have hnl : (ns.map V.int).length = ns.length := List.length_map _
  refine ⟨decide (place < ns.length), Ans.to (ans_b0 (val_var rfl) (val_len (val_var rfl) hp3) rfl) (decide_eq_decide.mpr (by rw [hnl]; omega)), ?_⟩
  by_cases hlt : place < ns.length
  · rw [decide_eq_true hlt]
    refine iteT ?_
    obtain ⟨c, hc1, hc2, hc3, hc4, L2'⟩ := loop_turn L hlt
    have hcode := code_le c
    have hcl := code_len c
    have hxw : A'.w = A.w := x.w
    refine st_seq (st_set (val_ix (j := place) (v := .int ((code c).1 : Int)) (val_var rfl) hp3 (val_var rfl) rfl (by rw [List.getElem?_map, hc1]; rfl)) ?_)
    have hb : ((place : Int) + 1 + ((code c).2.length : Int)) = ((place + 1 + (code c).2.length : Nat) : Int) := by omega
    refine st_seq (st_set (v := .int ((place + 1 + (code c).2.length : Nat) : Int)) (Val.to (val_add (val_add (val_var rfl) val_c) (val_ixT (j := (code c).1) (v := .int ((code c).2.length : Int)) val_c (T.tup _) (val_var rfl) rfl (by rw [List.getElem?_map, arity_code]; rfl))) (congrArg V.int hb)) ?_)
    have hcut : cutV (ns.map V.int) (some ((place + 1 : Nat) : Int)) (some ((place + 1 + (code c).2.length : Nat) : Int)) = (code c).2.map V.int := by
      rw [cutV_mid _ (Nat.le_add_right _ _) (by rw [hnl]; exact hc3), Nat.add_sub_cancel_left, ← List.map_drop, ← List.map_take, ← hc2]
    have how := L.ow
    dsimp only
    refine st_seq (st_setH (use_callH (post := fun r H' => ∃ l q A2, r = .ref q ∧ l ≠ t ∧ H l = none ∧ (upd (upd H t (.lst (told.map V.int))) l (.lst ((code c).2.map V.int))) q = none ∧ Gw.Ext A' A2 ∧
        WA a (upd (upd (upd H t (.lst (told.map V.int))) l (.lst ((code c).2.map V.int))) q (.lst ((m.op c).2.map V.int))) H' A2 (m.op c).1)
      (vah3 (val_var rfl) (val_var rfl) (valh_slice (val_var rfl) hp3 (vo_some (Val.to (val_add (val_var rfl) val_c) (congrArg V.int (show (place : Int) + 1 = ((place + 1 : Nat) : Int) by omega)))) (vo_some (val_var rfl)))) fun vs H4 h => ?_) fun r H4 h => ?_)
    · obtain ⟨v, rfl, hv⟩ := h
      rw [hcut] at hv
      obtain ⟨l, rfl, hl, W4⟩ := hv.push W
      have nlt : l ≠ t := fun e => by
        rw [e, upd_same] at hl
        cases hl
      rw [upd_ne nlt] at hl
      exact ⟨_, ⟨_, A', m, c, l, by rw [hxw], Nat.zero_le _, hcode, W4, L.good, by omega, by omega, upd_same, rfl⟩, fun v H5 ⟨q, A2, e, hq, x2, W5⟩ => ⟨l, q, A2, e, nlt, hl, hq, x2, W5⟩⟩
    · obtain ⟨l, q, A2, rfl, nlt, hl, hq, x2, W4⟩ := h
      have nql : q ≠ l := fun e => by
        rw [e, upd_same] at hq
        cases hq
      rw [upd_ne nql] at hq
      have nqt : q ≠ t := fun e => by
        rw [e, upd_same] at hq
        cases hq
      rw [upd_ne nqt] at hq
      have f1 : (upd (upd (upd H t (.lst (told.map V.int))) l (.lst ((code c).2.map V.int))) q (.lst ((m.op c).2.map V.int))) t = some (.lst (told.map V.int)) := by
        rw [upd_ne nqt.symm, upd_ne nlt.symm, upd_same]
      dsimp only
      refine st_seq (st_app (val_var rfl) (val_len (val_var rfl) (SqL.of W4.get)) (W4.same _ _ f1) (by rw [List.length_map]; exact Nat.lt_of_le_of_lt htl (by decide)) ?_)
      have W5 := W4.pokeF (o' := .lst (told.map V.int ++ [.int ((((m.op c).2.map V.int).length : Nat) : Int)])) f1 (fun ys z => by cases z)
      have f2 : (upd (upd (upd (upd H t (.lst (told.map V.int))) l (.lst ((code c).2.map V.int))) q (.lst ((m.op c).2.map V.int))) t (.lst (told.map V.int ++ [.int ((((m.op c).2.map V.int).length : Nat) : Int)]))) q = some (.lst ((m.op c).2.map V.int)) := by
        rw [upd_ne nqt, upd_same]
      dsimp only
      refine st_seq (st_extend (val_var rfl) (val_var rfl) (W5.same _ _ upd_same) (W5.same _ _ f2) ?_ ?_)
      · rw [List.length_append, List.length_map, List.length_map, List.length_singleton]
        exact Nat.le_trans (show _ ≤ 10000000 by omega) (by decide)
      have W6 := W5.pokeF (p := t) (o' := .lst ((told.map V.int ++ [.int ((((m.op c).2.map V.int).length : Nat) : Int)]) ++ (m.op c).2.map V.int)) upd_same (fun ys z => by cases z)
      have et : (told.map V.int ++ [.int ((((m.op c).2.map V.int).length : Nat) : Int)]) ++ (m.op c).2.map V.int = (told ++ (((m.op c).2.length : Int) :: (m.op c).2)).map V.int := by
        rw [List.map_append, List.append_assoc, List.length_map]
        rfl
      rw [et] at W6 ⊢
      have W7 := W6.shrink (F := upd H t (.lst ((told ++ (((m.op c).2.length : Int) :: (m.op c).2)).map V.int))) fun b o e => by
        by_cases eb : b = t
        · rw [eb, upd_same] at e ⊢
          exact e
        · rw [upd_ne eb] at e
          rw [upd_ne eb, upd_ne eb, upd_ne (ne_of_none e hq), upd_ne (ne_of_none e hl), upd_ne eb]
          exact e
      dsimp only
      refine st_set (val_var rfl) ?_
      refine ⟨⟨place + 1 + (code c).2.length, (m.op c).1, _, A2, _, _, _, rfl, x.trans x2, W7, L2', ?_, ?_⟩, ?_⟩
      · have := op_reports L.good c
        omega
      · rw [List.length_append, List.length_cons]
        omega
      · show ns.length - ((place + 1 + (code c).2.length : Nat) : Int).toNat < ns.length - ((place : Nat) : Int).toNat
        omega
  · rw [decide_eq_false hlt]
    refine iteF ?_
    have e := loop_end L hlt
    subst e
    exact st_ret (val_var rfl) (k _ _ (W.same _ _ upd_same))
end
end Gw

set_option Elab.async false
set_option maxRecDepth 100000
set_option linter.all false
open PySem PySem.W PyProof.Rows
set_option maxRecDepth 100000 in
set_option maxHeartbeats 0 in
theorem PySem.Challenge.cw_sweepcycles_s01_answers_holds : PySem.Challenge.rw_sweepcycles_s01_answers.Holds := by
  w_on; k_headS; (case hw => exact ⟨[.list [.int 20]], by decide +kernel, by decide +kernel⟩)
  k_fillS
  refine L2.walk_specK (r := PySem.Challenge.rw_sweepcycles_s01_answers) (k := 11) (CX := L2.CX0) (ps := ["calls"]) (sp := Gw.spAnswers) (by decide +kernel) rfl rfl ⟨rfl, by decide, by decide⟩ (fun w h Y => PySem.W.kIn_of Y) ?F ?S (fun _ _ _ _ z => z)
  case F =>
    intro w mg fa h Y KX G hmg
    obtain ⟨cSearch, hc_Search, na_Search_seen, na_Search_found, na_Search_parents, na_Search_labels, ⟨f_Search_init, d_Search_init, D_Search_init⟩, ⟨f_Search_visit, d_Search_visit, D_Search_visit⟩⟩ : Gw.FX_Search KX mg := by
      refine' ⟨_, Gw.clsT_mk KX G ?a ?pg ?hd ?po ?sa ?mk ?kc, ?n0, ?n1, ?n2, ?n3, ⟨_, _, Gw.defM_mk ?a0 ?i0 ?l0 ?c0 ?k0 (fun _ _ _ _ _ _ us hl => match us, hl with | [_, _], _ => rfl)⟩, ⟨_, _, Gw.defM_mk ?a1 ?i1 ?l1 ?c1 ?k1 (fun _ _ _ _ _ _ us hl => match us, hl with | [_, _, _, _], _ => rfl)⟩⟩
      (case a => k_is); (case pg => k_is); (case hd => k_is); (case po => k_is); (case sa => k_is); (case mk => k_is); (case kc => k_is)
      (case n0 => k_is); (case n1 => k_is); (case n2 => k_is); (case n3 => k_is)
      (case a0 => k_is); (case i0 => k_is); (case l0 => k_is); (case c0 => k_is); (case k0 => k_is)
      (case a1 => k_is); (case i1 => k_is); (case l1 => k_is); (case c1 => k_is); (case k1 => k_is)
    obtain ⟨cCycle, hc_Cycle, na_Cycle_running, na_Cycle_colors, na_Cycle_grey, na_Cycle_examined, na_Cycle_units, na_Cycle_marked, ⟨f_Cycle_init, d_Cycle_init, D_Cycle_init⟩, ⟨f_Cycle_start, d_Cycle_start, D_Cycle_start⟩, ⟨f_Cycle_stop, d_Cycle_stop, D_Cycle_stop⟩, ⟨f_Cycle_is_old, d_Cycle_is_old, D_Cycle_is_old⟩, ⟨f_Cycle_color, d_Cycle_color, D_Cycle_color⟩, ⟨f_Cycle_mark, d_Cycle_mark, D_Cycle_mark⟩, ⟨f_Cycle_examine, d_Cycle_examine, D_Cycle_examine⟩, ⟨f_Cycle_blacken, d_Cycle_blacken, D_Cycle_blacken⟩, ⟨f_Cycle_count_unit, d_Cycle_count_unit, D_Cycle_count_unit⟩⟩ : Gw.FX_Cycle KX mg := by
      refine' ⟨_, Gw.clsT_mk KX G ?a ?pg ?hd ?po ?sa ?mk ?kc, ?n0, ?n1, ?n2, ?n3, ?n4, ?n5, ⟨_, _, Gw.defM_mk ?a0 ?i0 ?l0 ?c0 ?k0 (fun _ _ _ _ _ _ us hl => match us, hl with | [_], _ => rfl)⟩, ⟨_, _, Gw.defM_mk ?a1 ?i1 ?l1 ?c1 ?k1 (fun _ _ _ _ _ _ us hl => match us, hl with | [_, _, _], _ => rfl)⟩, ⟨_, _, Gw.defM_mk ?a2 ?i2 ?l2 ?c2 ?k2 (fun _ _ _ _ _ _ us hl => match us, hl with | [_], _ => rfl)⟩, ⟨_, _, Gw.defM_mk ?a3 ?i3 ?l3 ?c3 ?k3 (fun _ _ _ _ _ _ us hl => match us, hl with | [_, _], _ => rfl)⟩, ⟨_, _, Gw.defM_mk ?a4 ?i4 ?l4 ?c4 ?k4 (fun _ _ _ _ _ _ us hl => match us, hl with | [_, _], _ => rfl)⟩, ⟨_, _, Gw.defM_mk ?a5 ?i5 ?l5 ?c5 ?k5 (fun _ _ _ _ _ _ us hl => match us, hl with | [_, _], _ => rfl)⟩, ⟨_, _, Gw.defM_mk ?a6 ?i6 ?l6 ?c6 ?k6 (fun _ _ _ _ _ _ us hl => match us, hl with | [_, _], _ => rfl)⟩, ⟨_, _, Gw.defM_mk ?a7 ?i7 ?l7 ?c7 ?k7 (fun _ _ _ _ _ _ us hl => match us, hl with | [_], _ => rfl)⟩, ⟨_, _, Gw.defM_mk ?a8 ?i8 ?l8 ?c8 ?k8 (fun _ _ _ _ _ _ us hl => match us, hl with | [_], _ => rfl)⟩⟩
      (case a => k_is); (case pg => k_is); (case hd => k_is); (case po => k_is); (case sa => k_is); (case mk => k_is); (case kc => k_is)
      (case n0 => k_is); (case n1 => k_is); (case n2 => k_is); (case n3 => k_is); (case n4 => k_is); (case n5 => k_is)
      (case a0 => k_is); (case i0 => k_is); (case l0 => k_is); (case c0 => k_is); (case k0 => k_is)
      (case a1 => k_is); (case i1 => k_is); (case l1 => k_is); (case c1 => k_is); (case k1 => k_is)
      (case a2 => k_is); (case i2 => k_is); (case l2 => k_is); (case c2 => k_is); (case k2 => k_is)
      (case a3 => k_is); (case i3 => k_is); (case l3 => k_is); (case c3 => k_is); (case k3 => k_is)
      (case a4 => k_is); (case i4 => k_is); (case l4 => k_is); (case c4 => k_is); (case k4 => k_is)
      (case a5 => k_is); (case i5 => k_is); (case l5 => k_is); (case c5 => k_is); (case k5 => k_is)
      (case a6 => k_is); (case i6 => k_is); (case l6 => k_is); (case c6 => k_is); (case k6 => k_is)
      (case a7 => k_is); (case i7 => k_is); (case l7 => k_is); (case c7 => k_is); (case k7 => k_is)
      (case a8 => k_is); (case i8 => k_is); (case l8 => k_is); (case c8 => k_is); (case k8 => k_is)
    obtain ⟨cEntry, hc_Entry, na_Entry_cells, na_Entry_code, na_Entry_there, ⟨f_Entry_init, d_Entry_init, D_Entry_init⟩⟩ : Gw.FX_Entry KX mg := by
      refine' ⟨_, Gw.clsT_mk KX G ?a ?pg ?hd ?po ?sa ?mk ?kc, ?n0, ?n1, ?n2, ⟨_, _, Gw.defM_mk ?a0 ?i0 ?l0 ?c0 ?k0 (fun _ _ _ _ _ _ us hl => match us, hl with | [_, _, _], _ => rfl)⟩⟩
      (case a => k_is); (case pg => k_is); (case hd => k_is); (case po => k_is); (case sa => k_is); (case mk => k_is); (case kc => k_is)
      (case n0 => k_is); (case n1 => k_is); (case n2 => k_is)
      (case a0 => k_is); (case i0 => k_is); (case l0 => k_is); (case c0 => k_is); (case k0 => k_is)
    obtain ⟨cHeap, hc_Heap, na_Heap_slots, na_Heap_entries, ⟨f_Heap_init, d_Heap_init, D_Heap_init⟩, ⟨f_Heap_created, d_Heap_created, D_Heap_created⟩, ⟨f_Heap_entry, d_Heap_entry, D_Heap_entry⟩, ⟨f_Heap_create, d_Heap_create, D_Heap_create⟩, ⟨f_Heap_put, d_Heap_put, D_Heap_put⟩, ⟨f_Heap_is_present, d_Heap_is_present, D_Heap_is_present⟩, ⟨f_Heap_present, d_Heap_present, D_Heap_present⟩, ⟨f_Heap_free, d_Heap_free, D_Heap_free⟩⟩ : Gw.FX_Heap KX mg := by
      refine' ⟨_, Gw.clsT_mk KX G ?a ?pg ?hd ?po ?sa ?mk ?kc, ?n0, ?n1, ⟨_, _, Gw.defM_mk ?a0 ?i0 ?l0 ?c0 ?k0 (fun _ _ _ _ _ _ us hl => match us, hl with | [_], _ => rfl)⟩, ⟨_, _, Gw.defM_mk ?a1 ?i1 ?l1 ?c1 ?k1 (fun _ _ _ _ _ _ us hl => match us, hl with | [_], _ => rfl)⟩, ⟨_, _, Gw.defM_mk ?a2 ?i2 ?l2 ?c2 ?k2 (fun _ _ _ _ _ _ us hl => match us, hl with | [_, _], _ => rfl)⟩, ⟨_, _, Gw.defM_mk ?a3 ?i3 ?l3 ?c3 ?k3 (fun _ _ _ _ _ _ us hl => match us, hl with | [_, _, _], _ => rfl)⟩, ⟨_, _, Gw.defM_mk ?a4 ?i4 ?l4 ?c4 ?k4 (fun _ _ _ _ _ _ us hl => match us, hl with | [_, _, _], _ => rfl)⟩, ⟨_, _, Gw.defM_mk ?a5 ?i5 ?l5 ?c5 ?k5 (fun _ _ _ _ _ _ us hl => match us, hl with | [_, _], _ => rfl)⟩, ⟨_, _, Gw.defM_mk ?a6 ?i6 ?l6 ?c6 ?k6 (fun _ _ _ _ _ _ us hl => match us, hl with | [_], _ => rfl)⟩, ⟨_, _, Gw.defM_mk ?a7 ?i7 ?l7 ?c7 ?k7 (fun _ _ _ _ _ _ us hl => match us, hl with | [_, _], _ => rfl)⟩⟩
      (case a => k_is); (case pg => k_is); (case hd => k_is); (case po => k_is); (case sa => k_is); (case mk => k_is); (case kc => k_is)
      (case n0 => k_is); (case n1 => k_is)
      (case a0 => k_is); (case i0 => k_is); (case l0 => k_is); (case c0 => k_is); (case k0 => k_is)
      (case a1 => k_is); (case i1 => k_is); (case l1 => k_is); (case c1 => k_is); (case k1 => k_is)
      (case a2 => k_is); (case i2 => k_is); (case l2 => k_is); (case c2 => k_is); (case k2 => k_is)
      (case a3 => k_is); (case i3 => k_is); (case l3 => k_is); (case c3 => k_is); (case k3 => k_is)
      (case a4 => k_is); (case i4 => k_is); (case l4 => k_is); (case c4 => k_is); (case k4 => k_is)
      (case a5 => k_is); (case i5 => k_is); (case l5 => k_is); (case c5 => k_is); (case k5 => k_is)
      (case a6 => k_is); (case i6 => k_is); (case l6 => k_is); (case c6 => k_is); (case k6 => k_is)
      (case a7 => k_is); (case i7 => k_is); (case l7 => k_is); (case c7 => k_is); (case k7 => k_is)
    obtain ⟨cExports, hc_Exports, na_Exports_owners, na_Exports_states, ⟨f_Exports_init, d_Exports_init, D_Exports_init⟩, ⟨f_Exports_state, d_Exports_state, D_Exports_state⟩, ⟨f_Exports_owner, d_Exports_owner, D_Exports_owner⟩, ⟨f_Exports_handle_of, d_Exports_handle_of, D_Exports_handle_of⟩, ⟨f_Exports_export, d_Exports_export, D_Exports_export⟩, ⟨f_Exports_retire, d_Exports_retire, D_Exports_retire⟩, ⟨f_Exports_withdraw, d_Exports_withdraw, D_Exports_withdraw⟩, ⟨f_Exports_active, d_Exports_active, D_Exports_active⟩⟩ : Gw.FX_Exports KX mg := by
      refine' ⟨_, Gw.clsT_mk KX G ?a ?pg ?hd ?po ?sa ?mk ?kc, ?n0, ?n1, ⟨_, _, Gw.defM_mk ?a0 ?i0 ?l0 ?c0 ?k0 (fun _ _ _ _ _ _ us hl => match us, hl with | [_], _ => rfl)⟩, ⟨_, _, Gw.defM_mk ?a1 ?i1 ?l1 ?c1 ?k1 (fun _ _ _ _ _ _ us hl => match us, hl with | [_, _], _ => rfl)⟩, ⟨_, _, Gw.defM_mk ?a2 ?i2 ?l2 ?c2 ?k2 (fun _ _ _ _ _ _ us hl => match us, hl with | [_, _], _ => rfl)⟩, ⟨_, _, Gw.defM_mk ?a3 ?i3 ?l3 ?c3 ?k3 (fun _ _ _ _ _ _ us hl => match us, hl with | [_, _], _ => rfl)⟩, ⟨_, _, Gw.defM_mk ?a4 ?i4 ?l4 ?c4 ?k4 (fun _ _ _ _ _ _ us hl => match us, hl with | [_, _], _ => rfl)⟩, ⟨_, _, Gw.defM_mk ?a5 ?i5 ?l5 ?c5 ?k5 (fun _ _ _ _ _ _ us hl => match us, hl with | [_, _], _ => rfl)⟩, ⟨_, _, Gw.defM_mk ?a6 ?i6 ?l6 ?c6 ?k6 (fun _ _ _ _ _ _ us hl => match us, hl with | [_, _], _ => rfl)⟩, ⟨_, _, Gw.defM_mk ?a7 ?i7 ?l7 ?c7 ?k7 (fun _ _ _ _ _ _ us hl => match us, hl with | [_], _ => rfl)⟩⟩
      (case a => k_is); (case pg => k_is); (case hd => k_is); (case po => k_is); (case sa => k_is); (case mk => k_is); (case kc => k_is)
      (case n0 => k_is); (case n1 => k_is)
      (case a0 => k_is); (case i0 => k_is); (case l0 => k_is); (case c0 => k_is); (case k0 => k_is)
      (case a1 => k_is); (case i1 => k_is); (case l1 => k_is); (case c1 => k_is); (case k1 => k_is)
      (case a2 => k_is); (case i2 => k_is); (case l2 => k_is); (case c2 => k_is); (case k2 => k_is)
      (case a3 => k_is); (case i3 => k_is); (case l3 => k_is); (case c3 => k_is); (case k3 => k_is)
      (case a4 => k_is); (case i4 => k_is); (case l4 => k_is); (case c4 => k_is); (case k4 => k_is)
      (case a5 => k_is); (case i5 => k_is); (case l5 => k_is); (case c5 => k_is); (case k5 => k_is)
      (case a6 => k_is); (case i6 => k_is); (case l6 => k_is); (case c6 => k_is); (case k6 => k_is)
      (case a7 => k_is); (case i7 => k_is); (case l7 => k_is); (case c7 => k_is); (case k7 => k_is)
    obtain ⟨cImports, hc_Imports, na_Imports_imported, na_Imports_pinned, ⟨f_Imports_init, d_Imports_init, D_Imports_init⟩, ⟨f_Imports_receive, d_Imports_receive, D_Imports_receive⟩, ⟨f_Imports_pin, d_Imports_pin, D_Imports_pin⟩, ⟨f_Imports_is_pinned, d_Imports_is_pinned, D_Imports_is_pinned⟩, ⟨f_Imports_unpin, d_Imports_unpin, D_Imports_unpin⟩, ⟨f_Imports_all_imported, d_Imports_all_imported, D_Imports_all_imported⟩, ⟨f_Imports_give_up, d_Imports_give_up, D_Imports_give_up⟩⟩ : Gw.FX_Imports KX mg := by
      refine' ⟨_, Gw.clsT_mk KX G ?a ?pg ?hd ?po ?sa ?mk ?kc, ?n0, ?n1, ⟨_, _, Gw.defM_mk ?a0 ?i0 ?l0 ?c0 ?k0 (fun _ _ _ _ _ _ us hl => match us, hl with | [_], _ => rfl)⟩, ⟨_, _, Gw.defM_mk ?a1 ?i1 ?l1 ?c1 ?k1 (fun _ _ _ _ _ _ us hl => match us, hl with | [_, _], _ => rfl)⟩, ⟨_, _, Gw.defM_mk ?a2 ?i2 ?l2 ?c2 ?k2 (fun _ _ _ _ _ _ us hl => match us, hl with | [_, _], _ => rfl)⟩, ⟨_, _, Gw.defM_mk ?a3 ?i3 ?l3 ?c3 ?k3 (fun _ _ _ _ _ _ us hl => match us, hl with | [_, _], _ => rfl)⟩, ⟨_, _, Gw.defM_mk ?a4 ?i4 ?l4 ?c4 ?k4 (fun _ _ _ _ _ _ us hl => match us, hl with | [_, _], _ => rfl)⟩, ⟨_, _, Gw.defM_mk ?a5 ?i5 ?l5 ?c5 ?k5 (fun _ _ _ _ _ _ us hl => match us, hl with | [_], _ => rfl)⟩, ⟨_, _, Gw.defM_mk ?a6 ?i6 ?l6 ?c6 ?k6 (fun _ _ _ _ _ _ us hl => match us, hl with | [_, _], _ => rfl)⟩⟩
      (case a => k_is); (case pg => k_is); (case hd => k_is); (case po => k_is); (case sa => k_is); (case mk => k_is); (case kc => k_is)
      (case n0 => k_is); (case n1 => k_is)
      (case a0 => k_is); (case i0 => k_is); (case l0 => k_is); (case c0 => k_is); (case k0 => k_is)
      (case a1 => k_is); (case i1 => k_is); (case l1 => k_is); (case c1 => k_is); (case k1 => k_is)
      (case a2 => k_is); (case i2 => k_is); (case l2 => k_is); (case c2 => k_is); (case k2 => k_is)
      (case a3 => k_is); (case i3 => k_is); (case l3 => k_is); (case c3 => k_is); (case k3 => k_is)
      (case a4 => k_is); (case i4 => k_is); (case l4 => k_is); (case c4 => k_is); (case k4 => k_is)
      (case a5 => k_is); (case i5 => k_is); (case l5 => k_is); (case c5 => k_is); (case k5 => k_is)
      (case a6 => k_is); (case i6 => k_is); (case l6 => k_is); (case c6 => k_is); (case k6 => k_is)
    obtain ⟨cWorld, hc_World, na_World_heap, na_World_exports, na_World_imports, na_World_cycle, na_World_reports, ⟨f_World_init, d_World_init, D_World_init⟩, ⟨f_World_report, d_World_report, D_World_report⟩⟩ : Gw.FX_World KX mg := by
      refine' ⟨_, Gw.clsT_mk KX G ?a ?pg ?hd ?po ?sa ?mk ?kc, ?n0, ?n1, ?n2, ?n3, ?n4, ⟨_, _, Gw.defM_mk ?a0 ?i0 ?l0 ?c0 ?k0 (fun _ _ _ _ _ _ us hl => match us, hl with | [_], _ => rfl)⟩, ⟨_, _, Gw.defM_mk ?a1 ?i1 ?l1 ?c1 ?k1 (fun _ _ _ _ _ _ us hl => match us, hl with | [_, _], _ => rfl)⟩⟩
      (case a => k_is); (case pg => k_is); (case hd => k_is); (case po => k_is); (case sa => k_is); (case mk => k_is); (case kc => k_is)
      (case n0 => k_is); (case n1 => k_is); (case n2 => k_is); (case n3 => k_is); (case n4 => k_is)
      (case a0 => k_is); (case i0 => k_is); (case l0 => k_is); (case c0 => k_is); (case k0 => k_is)
      (case a1 => k_is); (case i1 => k_is); (case l1 => k_is); (case c1 => k_is); (case k1 => k_is)
    obtain ⟨f_between, d_between, D_between⟩ : Gw.FX_between KX mg := by
      refine' ⟨_, _, Gw.defG_mk KX G ?a ?l ?c ?k (fun _ _ _ _ _ _ us hl => match us, hl with | [_, _, _], _ => rfl)⟩
      (case a => k_is); (case l => k_is); (case c => k_is); (case k => k_is)
    obtain ⟨f_is_slot, d_is_slot, D_is_slot⟩ : Gw.FX_is_slot KX mg := by
      refine' ⟨_, _, Gw.defG_mk KX G ?a ?l ?c ?k (fun _ _ _ _ _ _ us hl => match us, hl with | [_], _ => rfl)⟩
      (case a => k_is); (case l => k_is); (case c => k_is); (case k => k_is)
    obtain ⟨f_is_field, d_is_field, D_is_field⟩ : Gw.FX_is_field KX mg := by
      refine' ⟨_, _, Gw.defG_mk KX G ?a ?l ?c ?k (fun _ _ _ _ _ _ us hl => match us, hl with | [_], _ => rfl)⟩
      (case a => k_is); (case l => k_is); (case c => k_is); (case k => k_is)
    obtain ⟨f_is_reference, d_is_reference, D_is_reference⟩ : Gw.FX_is_reference KX mg := by
      refine' ⟨_, _, Gw.defG_mk KX G ?a ?l ?c ?k (fun _ _ _ _ _ _ us hl => match us, hl with | [_], _ => rfl)⟩
      (case a => k_is); (case l => k_is); (case c => k_is); (case k => k_is)
    obtain ⟨f_begin, d_begin, D_begin⟩ : Gw.FX_begin KX mg := by
      refine' ⟨_, _, Gw.defG_mk KX G ?a ?l ?c ?k (fun _ _ _ _ _ _ us hl => match us, hl with | [_], _ => rfl)⟩
      (case a => k_is); (case l => k_is); (case c => k_is); (case k => k_is)
    obtain ⟨f_do_unit, d_do_unit, D_do_unit⟩ : Gw.FX_do_unit KX mg := by
      refine' ⟨_, _, Gw.defG_mk KX G ?a ?l ?c ?k (fun _ _ _ _ _ _ us hl => match us, hl with | [_], _ => rfl)⟩
      (case a => k_is); (case l => k_is); (case c => k_is); (case k => k_is)
    obtain ⟨f_do_units, d_do_units, D_do_units⟩ : Gw.FX_do_units KX mg := by
      refine' ⟨_, _, Gw.defG_mk KX G ?a ?l ?c ?k (fun _ _ _ _ _ _ us hl => match us, hl with | [_, _], _ => rfl)⟩
      (case a => k_is); (case l => k_is); (case c => k_is); (case k => k_is)
    obtain ⟨f_units_left, d_units_left, D_units_left⟩ : Gw.FX_units_left KX mg := by
      refine' ⟨_, _, Gw.defG_mk KX G ?a ?l ?c ?k (fun _ _ _ _ _ _ us hl => match us, hl with | [_], _ => rfl)⟩
      (case a => k_is); (case l => k_is); (case c => k_is); (case k => k_is)
    obtain ⟨f_free_white, d_free_white, D_free_white⟩ : Gw.FX_free_white KX mg := by
      refine' ⟨_, _, Gw.defG_mk KX G ?a ?l ?c ?k (fun _ _ _ _ _ _ us hl => match us, hl with | [_], _ => rfl)⟩
      (case a => k_is); (case l => k_is); (case c => k_is); (case k => k_is)
    obtain ⟨f_codes_of, d_codes_of, D_codes_of⟩ : Gw.FX_codes_of KX mg := by
      refine' ⟨_, _, Gw.defG_mk KX G ?a ?l ?c ?k (fun _ _ _ _ _ _ us hl => match us, hl with | [_, _], _ => rfl)⟩
      (case a => k_is); (case l => k_is); (case c => k_is); (case k => k_is)
    obtain ⟨f_finish, d_finish, D_finish⟩ : Gw.FX_finish KX mg := by
      refine' ⟨_, _, Gw.defG_mk KX G ?a ?l ?c ?k (fun _ _ _ _ _ _ us hl => match us, hl with | [_], _ => rfl)⟩
      (case a => k_is); (case l => k_is); (case c => k_is); (case k => k_is)
    obtain ⟨f_complete, d_complete, D_complete⟩ : Gw.FX_complete KX mg := by
      refine' ⟨_, _, Gw.defG_mk KX G ?a ?l ?c ?k (fun _ _ _ _ _ _ us hl => match us, hl with | [_], _ => rfl)⟩
      (case a => k_is); (case l => k_is); (case c => k_is); (case k => k_is)
    obtain ⟨f_begin_cycle, d_begin_cycle, D_begin_cycle⟩ : Gw.FX_begin_cycle KX mg := by
      refine' ⟨_, _, Gw.defG_mk KX G ?a ?l ?c ?k (fun _ _ _ _ _ _ us hl => match us, hl with | [_], _ => rfl)⟩
      (case a => k_is); (case l => k_is); (case c => k_is); (case k => k_is)
    obtain ⟨f_work, d_work, D_work⟩ : Gw.FX_work KX mg := by
      refine' ⟨_, _, Gw.defG_mk KX G ?a ?l ?c ?k (fun _ _ _ _ _ _ us hl => match us, hl with | [_, _], _ => rfl)⟩
      (case a => k_is); (case l => k_is); (case c => k_is); (case k => k_is)
    obtain ⟨f_end_cycle, d_end_cycle, D_end_cycle⟩ : Gw.FX_end_cycle KX mg := by
      refine' ⟨_, _, Gw.defG_mk KX G ?a ?l ?c ?k (fun _ _ _ _ _ _ us hl => match us, hl with | [_], _ => rfl)⟩
      (case a => k_is); (case l => k_is); (case c => k_is); (case k => k_is)
    obtain ⟨f_collect, d_collect, D_collect⟩ : Gw.FX_collect KX mg := by
      refine' ⟨_, _, Gw.defG_mk KX G ?a ?l ?c ?k (fun _ _ _ _ _ _ us hl => match us, hl with | [_], _ => rfl)⟩
      (case a => k_is); (case l => k_is); (case c => k_is); (case k => k_is)
    obtain ⟨f_list_roots, d_list_roots, D_list_roots⟩ : Gw.FX_list_roots KX mg := by
      refine' ⟨_, _, Gw.defG_mk KX G ?a ?l ?c ?k (fun _ _ _ _ _ _ us hl => match us, hl with | [_], _ => rfl)⟩
      (case a => k_is); (case l => k_is); (case c => k_is); (case k => k_is)
    obtain ⟨f_expand, d_expand, D_expand⟩ : Gw.FX_expand KX mg := by
      refine' ⟨_, _, Gw.defG_mk KX G ?a ?l ?c ?k (fun _ _ _ _ _ _ us hl => match us, hl with | [_, _, _], _ => rfl)⟩
      (case a => k_is); (case l => k_is); (case c => k_is); (case k => k_is)
    obtain ⟨f_search_from, d_search_from, D_search_from⟩ : Gw.FX_search_from KX mg := by
      refine' ⟨_, _, Gw.defG_mk KX G ?a ?l ?c ?k (fun _ _ _ _ _ _ us hl => match us, hl with | [_, _], _ => rfl)⟩
      (case a => k_is); (case l => k_is); (case c => k_is); (case k => k_is)
    obtain ⟨f_tell_status, d_tell_status, D_tell_status⟩ : Gw.FX_tell_status KX mg := by
      refine' ⟨_, _, Gw.defG_mk KX G ?a ?l ?c ?k (fun _ _ _ _ _ _ us hl => match us, hl with | [_], _ => rfl)⟩
      (case a => k_is); (case l => k_is); (case c => k_is); (case k => k_is)
    obtain ⟨f_tell_present, d_tell_present, D_tell_present⟩ : Gw.FX_tell_present KX mg := by
      refine' ⟨_, _, Gw.defG_mk KX G ?a ?l ?c ?k (fun _ _ _ _ _ _ us hl => match us, hl with | [_], _ => rfl)⟩
      (case a => k_is); (case l => k_is); (case c => k_is); (case k => k_is)
    obtain ⟨f_tell_path, d_tell_path, D_tell_path⟩ : Gw.FX_tell_path KX mg := by
      refine' ⟨_, _, Gw.defG_mk KX G ?a ?l ?c ?k (fun _ _ _ _ _ _ us hl => match us, hl with | [_, _], _ => rfl)⟩
      (case a => k_is); (case l => k_is); (case c => k_is); (case k => k_is)
    obtain ⟨f_tell_reported, d_tell_reported, D_tell_reported⟩ : Gw.FX_tell_reported KX mg := by
      refine' ⟨_, _, Gw.defG_mk KX G ?a ?l ?c ?k (fun _ _ _ _ _ _ us hl => match us, hl with | [_], _ => rfl)⟩
      (case a => k_is); (case l => k_is); (case c => k_is); (case k => k_is)
    obtain ⟨f_tell_remaining, d_tell_remaining, D_tell_remaining⟩ : Gw.FX_tell_remaining KX mg := by
      refine' ⟨_, _, Gw.defG_mk KX G ?a ?l ?c ?k (fun _ _ _ _ _ _ us hl => match us, hl with | [_], _ => rfl)⟩
      (case a => k_is); (case l => k_is); (case c => k_is); (case k => k_is)
    obtain ⟨f_create, d_create, D_create⟩ : Gw.FX_create KX mg := by
      refine' ⟨_, _, Gw.defG_mk KX G ?a ?l ?c ?k (fun _ _ _ _ _ _ us hl => match us, hl with | [_, _, _, _], _ => rfl)⟩
      (case a => k_is); (case l => k_is); (case c => k_is); (case k => k_is)
    obtain ⟨f_set_integer, d_set_integer, D_set_integer⟩ : Gw.FX_set_integer KX mg := by
      refine' ⟨_, _, Gw.defG_mk KX G ?a ?l ?c ?k (fun _ _ _ _ _ _ us hl => match us, hl with | [_, _, _], _ => rfl)⟩
      (case a => k_is); (case l => k_is); (case c => k_is); (case k => k_is)
    obtain ⟨f_clear_slot, d_clear_slot, D_clear_slot⟩ : Gw.FX_clear_slot KX mg := by
      refine' ⟨_, _, Gw.defG_mk KX G ?a ?l ?c ?k (fun _ _ _ _ _ _ us hl => match us, hl with | [_, _], _ => rfl)⟩
      (case a => k_is); (case l => k_is); (case c => k_is); (case k => k_is)
    obtain ⟨f_copy_slot, d_copy_slot, D_copy_slot⟩ : Gw.FX_copy_slot KX mg := by
      refine' ⟨_, _, Gw.defG_mk KX G ?a ?l ?c ?k (fun _ _ _ _ _ _ us hl => match us, hl with | [_, _, _], _ => rfl)⟩
      (case a => k_is); (case l => k_is); (case c => k_is); (case k => k_is)
    obtain ⟨f_field_error, d_field_error, D_field_error⟩ : Gw.FX_field_error KX mg := by
      refine' ⟨_, _, Gw.defG_mk KX G ?a ?l ?c ?k (fun _ _ _ _ _ _ us hl => match us, hl with | [_, _, _], _ => rfl)⟩
      (case a => k_is); (case l => k_is); (case c => k_is); (case k => k_is)
    obtain ⟨f_read_field, d_read_field, D_read_field⟩ : Gw.FX_read_field KX mg := by
      refine' ⟨_, _, Gw.defG_mk KX G ?a ?l ?c ?k (fun _ _ _ _ _ _ us hl => match us, hl with | [_, _, _, _], _ => rfl)⟩
      (case a => k_is); (case l => k_is); (case c => k_is); (case k => k_is)
    obtain ⟨f_write_field, d_write_field, D_write_field⟩ : Gw.FX_write_field KX mg := by
      refine' ⟨_, _, Gw.defG_mk KX G ?a ?l ?c ?k (fun _ _ _ _ _ _ us hl => match us, hl with | [_, _, _, _], _ => rfl)⟩
      (case a => k_is); (case l => k_is); (case c => k_is); (case k => k_is)
    obtain ⟨f_compare, d_compare, D_compare⟩ : Gw.FX_compare KX mg := by
      refine' ⟨_, _, Gw.defG_mk KX G ?a ?l ?c ?k (fun _ _ _ _ _ _ us hl => match us, hl with | [_, _, _], _ => rfl)⟩
      (case a => k_is); (case l => k_is); (case c => k_is); (case k => k_is)
    obtain ⟨f_inspect_slot, d_inspect_slot, D_inspect_slot⟩ : Gw.FX_inspect_slot KX mg := by
      refine' ⟨_, _, Gw.defG_mk KX G ?a ?l ?c ?k (fun _ _ _ _ _ _ us hl => match us, hl with | [_, _], _ => rfl)⟩
      (case a => k_is); (case l => k_is); (case c => k_is); (case k => k_is)
    obtain ⟨f_export_object, d_export_object, D_export_object⟩ : Gw.FX_export_object KX mg := by
      refine' ⟨_, _, Gw.defG_mk KX G ?a ?l ?c ?k (fun _ _ _ _ _ _ us hl => match us, hl with | [_, _], _ => rfl)⟩
      (case a => k_is); (case l => k_is); (case c => k_is); (case k => k_is)
    obtain ⟨f_accept_handle, d_accept_handle, D_accept_handle⟩ : Gw.FX_accept_handle KX mg := by
      refine' ⟨_, _, Gw.defG_mk KX G ?a ?l ?c ?k (fun _ _ _ _ _ _ us hl => match us, hl with | [_, _, _], _ => rfl)⟩
      (case a => k_is); (case l => k_is); (case c => k_is); (case k => k_is)
    obtain ⟨f_retire_handle, d_retire_handle, D_retire_handle⟩ : Gw.FX_retire_handle KX mg := by
      refine' ⟨_, _, Gw.defG_mk KX G ?a ?l ?c ?k (fun _ _ _ _ _ _ us hl => match us, hl with | [_, _], _ => rfl)⟩
      (case a => k_is); (case l => k_is); (case c => k_is); (case k => k_is)
    obtain ⟨f_withdraw_handle, d_withdraw_handle, D_withdraw_handle⟩ : Gw.FX_withdraw_handle KX mg := by
      refine' ⟨_, _, Gw.defG_mk KX G ?a ?l ?c ?k (fun _ _ _ _ _ _ us hl => match us, hl with | [_, _], _ => rfl)⟩
      (case a => k_is); (case l => k_is); (case c => k_is); (case k => k_is)
    obtain ⟨f_import_reference, d_import_reference, D_import_reference⟩ : Gw.FX_import_reference KX mg := by
      refine' ⟨_, _, Gw.defG_mk KX G ?a ?l ?c ?k (fun _ _ _ _ _ _ us hl => match us, hl with | [_, _, _], _ => rfl)⟩
      (case a => k_is); (case l => k_is); (case c => k_is); (case k => k_is)
    obtain ⟨f_pin_reference, d_pin_reference, D_pin_reference⟩ : Gw.FX_pin_reference KX mg := by
      refine' ⟨_, _, Gw.defG_mk KX G ?a ?l ?c ?k (fun _ _ _ _ _ _ us hl => match us, hl with | [_, _], _ => rfl)⟩
      (case a => k_is); (case l => k_is); (case c => k_is); (case k => k_is)
    obtain ⟨f_unpin_reference, d_unpin_reference, D_unpin_reference⟩ : Gw.FX_unpin_reference KX mg := by
      refine' ⟨_, _, Gw.defG_mk KX G ?a ?l ?c ?k (fun _ _ _ _ _ _ us hl => match us, hl with | [_, _], _ => rfl)⟩
      (case a => k_is); (case l => k_is); (case c => k_is); (case k => k_is)
    obtain ⟨f_slot_call, d_slot_call, D_slot_call⟩ : Gw.FX_slot_call KX mg := by
      refine' ⟨_, _, Gw.defG_mk KX G ?a ?l ?c ?k (fun _ _ _ _ _ _ us hl => match us, hl with | [_, _, _], _ => rfl)⟩
      (case a => k_is); (case l => k_is); (case c => k_is); (case k => k_is)
    obtain ⟨f_outside_call, d_outside_call, D_outside_call⟩ : Gw.FX_outside_call KX mg := by
      refine' ⟨_, _, Gw.defG_mk KX G ?a ?l ?c ?k (fun _ _ _ _ _ _ us hl => match us, hl with | [_, _, _], _ => rfl)⟩
      (case a => k_is); (case l => k_is); (case c => k_is); (case k => k_is)
    obtain ⟨f_collector_call, d_collector_call, D_collector_call⟩ : Gw.FX_collector_call KX mg := by
      refine' ⟨_, _, Gw.defG_mk KX G ?a ?l ?c ?k (fun _ _ _ _ _ _ us hl => match us, hl with | [_, _, _], _ => rfl)⟩
      (case a => k_is); (case l => k_is); (case c => k_is); (case k => k_is)
    obtain ⟨f_inquiry_call, d_inquiry_call, D_inquiry_call⟩ : Gw.FX_inquiry_call KX mg := by
      refine' ⟨_, _, Gw.defG_mk KX G ?a ?l ?c ?k (fun _ _ _ _ _ _ us hl => match us, hl with | [_, _, _], _ => rfl)⟩
      (case a => k_is); (case l => k_is); (case c => k_is); (case k => k_is)
    obtain ⟨f_perform, d_perform, D_perform⟩ : Gw.FX_perform KX mg := by
      refine' ⟨_, _, Gw.defG_mk KX G ?a ?l ?c ?k (fun _ _ _ _ _ _ us hl => match us, hl with | [_, _, _], _ => rfl)⟩
      (case a => k_is); (case l => k_is); (case c => k_is); (case k => k_is)
    obtain ⟨f_answers, d_answers, D_answers, B_answers⟩ : Gw.FX_answers KX mg := by
      refine' ⟨_, _, Gw.defG_mk KX G ?a ?l ?c ?k (fun _ _ _ _ _ _ us hl => match us, hl with | [_], _ => rfl), ?b⟩
      (case a => k_is); (case l => k_is); (case c => k_is); (case k => k_is)
      (case b => exact fun s us hu => match us, hu with | [_], _ => .of_eq rfl)
    have k_NOTHING : Gw.Gv mg "NOTHING" (.int 0) := by
      refine' Gw.gv_mk KX G ?a; (case a => k_is)
    have k_INTEGER : Gw.Gv mg "INTEGER" (.int 1) := by
      refine' Gw.gv_mk KX G ?a; (case a => k_is)
    have k_OBJECT : Gw.Gv mg "OBJECT" (.int 2) := by
      refine' Gw.gv_mk KX G ?a; (case a => k_is)
    have k_FOREIGN : Gw.Gv mg "FOREIGN" (.int 3) := by
      refine' Gw.gv_mk KX G ?a; (case a => k_is)
    have k_WHITE : Gw.Gv mg "WHITE" (.int 0) := by
      refine' Gw.gv_mk KX G ?a; (case a => k_is)
    have k_GREY : Gw.Gv mg "GREY" (.int 1) := by
      refine' Gw.gv_mk KX G ?a; (case a => k_is)
    have k_BLACK : Gw.Gv mg "BLACK" (.int 2) := by
      refine' Gw.gv_mk KX G ?a; (case a => k_is)
    have k_REMOVED : Gw.Gv mg "REMOVED" (.int 0) := by
      refine' Gw.gv_mk KX G ?a; (case a => k_is)
    have k_RETIRED : Gw.Gv mg "RETIRED" (.int 1) := by
      refine' Gw.gv_mk KX G ?a; (case a => k_is)
    have k_ACTIVE : Gw.Gv mg "ACTIVE" (.int 2) := by
      refine' Gw.gv_mk KX G ?a; (case a => k_is)
    have k_OUT_OF_RANGE : Gw.Gv mg "OUT_OF_RANGE" (.int (-1)) := by
      refine' Gw.gv_mk KX G ?a; (case a => k_is)
    have k_TOO_MANY_OBJECTS : Gw.Gv mg "TOO_MANY_OBJECTS" (.int (-2)) := by
      refine' Gw.gv_mk KX G ?a; (case a => k_is)
    have k_NO_OBJECT : Gw.Gv mg "NO_OBJECT" (.int (-3)) := by
      refine' Gw.gv_mk KX G ?a; (case a => k_is)
    have k_NO_FIELD : Gw.Gv mg "NO_FIELD" (.int (-4)) := by
      refine' Gw.gv_mk KX G ?a; (case a => k_is)
    have k_NO_HANDLE : Gw.Gv mg "NO_HANDLE" (.int (-5)) := by
      refine' Gw.gv_mk KX G ?a; (case a => k_is)
    have k_NO_REFERENCE : Gw.Gv mg "NO_REFERENCE" (.int (-6)) := by
      refine' Gw.gv_mk KX G ?a; (case a => k_is)
    have k_NOT_PINNED : Gw.Gv mg "NOT_PINNED" (.int (-7)) := by
      refine' Gw.gv_mk KX G ?a; (case a => k_is)
    have k_CYCLE_RUNNING : Gw.Gv mg "CYCLE_RUNNING" (.int (-8)) := by
      refine' Gw.gv_mk KX G ?a; (case a => k_is)
    have k_NO_CYCLE : Gw.Gv mg "NO_CYCLE" (.int (-9)) := by
      refine' Gw.gv_mk KX G ?a; (case a => k_is)
    have k_STILL_GREY : Gw.Gv mg "STILL_GREY" (.int (-10)) := by
      refine' Gw.gv_mk KX G ?a; (case a => k_is)
    have k_NOT_PRESENT : Gw.Gv mg "NOT_PRESENT" (.int (-11)) := by
      refine' Gw.gv_mk KX G ?a; (case a => k_is)
    have k_SLOTS : Gw.Gv mg "SLOTS" (.int 6) := by
      refine' Gw.gv_mk KX G ?a; (case a => k_is)
    have k_MOST_FIELDS : Gw.Gv mg "MOST_FIELDS" (.int 4) := by
      refine' Gw.gv_mk KX G ?a; (case a => k_is)
    have k_MOST_CODE : Gw.Gv mg "MOST_CODE" (.int 1000000000) := by
      refine' Gw.gv_mk KX G ?a; (case a => k_is)
    have k_MOST_OBJECTS : Gw.Gv mg "MOST_OBJECTS" (.int 60) := by
      refine' Gw.gv_mk KX G ?a; (case a => k_is)
    have k_MOST_REFERENCE : Gw.Gv mg "MOST_REFERENCE" (.int 99) := by
      refine' Gw.gv_mk KX G ?a; (case a => k_is)
    have k_MOST_BUDGET : Gw.Gv mg "MOST_BUDGET" (.int 1000) := by
      refine' Gw.gv_mk KX G ?a; (case a => k_is)
    obtain ⟨aArgs, k_ARGUMENTS, tup⟩ : Gw.FX_tup KX mg := by
      refine' ⟨_, Gw.gr_mk KX G ?a, Gw.tup_mk ?l ?z ?h⟩
      (case a => k_is); (case l => k_is); (case z => decide +kernel); (case h => kernel_rfl)
    have n_len : mg "len" = none := by
      refine' PySem.W.mg_none_of KX G ?a; (case a => k_is)
    have n_range : mg "range" = none := by
      refine' PySem.W.mg_none_of KX G ?a; (case a => k_is)
    have n_list : mg "list" = none := by
      refine' PySem.W.mg_none_of KX G ?a; (case a => k_is)
    have e : f_answers = fa := by
      have e := D_answers.g.symm.trans hmg
      cases e
      rfl
    subst e
    exact ⟨d_answers, B_answers, fun base _ _ => Gw.ok_answers (a := ⟨aArgs, cSearch, cCycle, cEntry, cHeap, cExports, cImports, cWorld, f_between, d_between, f_is_slot, d_is_slot, f_is_field, d_is_field, f_is_reference, d_is_reference, f_begin, d_begin, f_do_unit, d_do_unit, f_do_units, d_do_units, f_units_left, d_units_left, f_free_white, d_free_white, f_codes_of, d_codes_of, f_finish, d_finish, f_complete, d_complete, f_begin_cycle, d_begin_cycle, f_work, d_work, f_end_cycle, d_end_cycle, f_collect, d_collect, f_Search_init, d_Search_init, f_Search_visit, d_Search_visit, f_list_roots, d_list_roots, f_expand, d_expand, f_search_from, d_search_from, f_tell_status, d_tell_status, f_tell_present, d_tell_present, f_tell_path, d_tell_path, f_tell_reported, d_tell_reported, f_tell_remaining, d_tell_remaining, f_create, d_create, f_set_integer, d_set_integer, f_clear_slot, d_clear_slot, f_copy_slot, d_copy_slot, f_field_error, d_field_error, f_read_field, d_read_field, f_write_field, d_write_field, f_compare, d_compare, f_inspect_slot, d_inspect_slot, f_export_object, d_export_object, f_accept_handle, d_accept_handle, f_retire_handle, d_retire_handle, f_withdraw_handle, d_withdraw_handle, f_import_reference, d_import_reference, f_pin_reference, d_pin_reference, f_unpin_reference, d_unpin_reference, f_Cycle_init, d_Cycle_init, f_Cycle_start, d_Cycle_start, f_Cycle_stop, d_Cycle_stop, f_Cycle_is_old, d_Cycle_is_old, f_Cycle_color, d_Cycle_color, f_Cycle_mark, d_Cycle_mark, f_Cycle_examine, d_Cycle_examine, f_Cycle_blacken, d_Cycle_blacken, f_Cycle_count_unit, d_Cycle_count_unit, f_Entry_init, d_Entry_init, f_Heap_init, d_Heap_init, f_Heap_created, d_Heap_created, f_Heap_entry, d_Heap_entry, f_Heap_create, d_Heap_create, f_Heap_put, d_Heap_put, f_Heap_is_present, d_Heap_is_present, f_Heap_present, d_Heap_present, f_Heap_free, d_Heap_free, f_Exports_init, d_Exports_init, f_Exports_state, d_Exports_state, f_Exports_owner, d_Exports_owner, f_Exports_handle_of, d_Exports_handle_of, f_Exports_export, d_Exports_export, f_Exports_retire, d_Exports_retire, f_Exports_withdraw, d_Exports_withdraw, f_Exports_active, d_Exports_active, f_Imports_init, d_Imports_init, f_Imports_receive, d_Imports_receive, f_Imports_pin, d_Imports_pin, f_Imports_is_pinned, d_Imports_is_pinned, f_Imports_unpin, d_Imports_unpin, f_Imports_all_imported, d_Imports_all_imported, f_Imports_give_up, d_Imports_give_up, f_World_init, d_World_init, f_World_report, d_World_report, f_slot_call, d_slot_call, f_outside_call, d_outside_call, f_collector_call, d_collector_call, f_inquiry_call, d_inquiry_call, f_perform, d_perform, f_answers, d_answers⟩) ⟨hc_Search, na_Search_seen, na_Search_found, na_Search_parents, na_Search_labels, hc_Cycle, na_Cycle_running, na_Cycle_colors, na_Cycle_grey, na_Cycle_examined, na_Cycle_units, na_Cycle_marked, hc_Entry, na_Entry_cells, na_Entry_code, na_Entry_there, hc_Heap, na_Heap_slots, na_Heap_entries, hc_Exports, na_Exports_owners, na_Exports_states, hc_Imports, na_Imports_imported, na_Imports_pinned, hc_World, na_World_heap, na_World_exports, na_World_imports, na_World_cycle, na_World_reports, D_between, D_is_slot, D_is_field, D_is_reference, D_begin, D_do_unit, D_do_units, D_units_left, D_free_white, D_codes_of, D_finish, D_complete, D_begin_cycle, D_work, D_end_cycle, D_collect, D_Search_init, D_Search_visit, D_list_roots, D_expand, D_search_from, D_tell_status, D_tell_present, D_tell_path, D_tell_reported, D_tell_remaining, D_create, D_set_integer, D_clear_slot, D_copy_slot, D_field_error, D_read_field, D_write_field, D_compare, D_inspect_slot, D_export_object, D_accept_handle, D_retire_handle, D_withdraw_handle, D_import_reference, D_pin_reference, D_unpin_reference, D_Cycle_init, D_Cycle_start, D_Cycle_stop, D_Cycle_is_old, D_Cycle_color, D_Cycle_mark, D_Cycle_examine, D_Cycle_blacken, D_Cycle_count_unit, D_Entry_init, D_Heap_init, D_Heap_created, D_Heap_entry, D_Heap_create, D_Heap_put, D_Heap_is_present, D_Heap_present, D_Heap_free, D_Exports_init, D_Exports_state, D_Exports_owner, D_Exports_handle_of, D_Exports_export, D_Exports_retire, D_Exports_withdraw, D_Exports_active, D_Imports_init, D_Imports_receive, D_Imports_pin, D_Imports_is_pinned, D_Imports_unpin, D_Imports_all_imported, D_Imports_give_up, D_World_init, D_World_report, D_slot_call, D_outside_call, D_collector_call, D_inquiry_call, D_perform, D_answers, k_NOTHING, k_INTEGER, k_OBJECT, k_FOREIGN, k_WHITE, k_GREY, k_BLACK, k_REMOVED, k_RETIRED, k_ACTIVE, k_OUT_OF_RANGE, k_TOO_MANY_OBJECTS, k_NO_OBJECT, k_NO_FIELD, k_NO_HANDLE, k_NO_REFERENCE, k_NOT_PINNED, k_CYCLE_RUNNING, k_NO_CYCLE, k_STILL_GREY, k_NOT_PRESENT, k_SLOTS, k_MOST_FIELDS, k_MOST_CODE, k_MOST_OBJECTS, k_MOST_REFERENCE, k_MOST_BUDGET, k_ARGUMENTS, n_len, n_range, n_list, tup⟩⟩
  case S =>
    intro K H xs a hO hwi hask hx
    cases hx with
    | cons h1 h2 =>
      cases h2
      cases h1 with
      | lst hs ha =>
        have e := L2.ints_dw a.1 _ ha
        subst e
        have q : ((Codec.inLen 0 1800 a.1 && a.1.all (Codec.inInt (-1000000000000000000) 1000000000000000000)) && true) = true := hwi
        rw [Bool.and_eq_true, Bool.and_eq_true] at q
        exact ⟨_, a.1, rfl, hs, (Codec.inNat_iff.mp q.1.1).2, hask, fun H' p hp => .lst (L2.SqL.of hp) (L2.dw_ints _)⟩
