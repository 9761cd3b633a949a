import PyProof.Rows.All
import Wide.All
import OpenK.AllK
import Wide.FinOn
import KE.KStateDown
import HandS.ForMost
import HandS.Defaults
import HandS.Head0
import HandS.Head1
import HandS.Head2
import HandS.HeadEnd
import HandS.HeadHook1
import HandS.HeadHook2
import HandS.ClsMeth
import PySem.Challenge.RW_ringchief_k32_whole_all_orders_of_small
import HandS.IsInst
import HandS.Style
import HandS.TupAny
import HandS.Conv
import HandS.Zip
import HandS.TupSets
import HandS.Walk
import KE.DatumOrd
import PyProof.Claim2Refuses
import HandS.SetFor
import KE.KDictWalk
import KE.KDictPairs
import KE.KDictKeyed
set_option Elab.async false
set_option linter.all false
set_option maxRecDepth 100000
set_option maxHeartbeats 0
namespace RC
/-! ### the mirror -/
inductive Wy | round | halves | reach | whole
deriving DecidableEq
inductive Lt
  | name (v : Int) | chief (v : Int) | first (v : Int) | second (v : Int) | label (v : Int)
  | probe (v r s : Int) | back (v r : Int)
deriving DecidableEq
structure Ho where
  own : Int
  awake : Bool
  touched : Bool
  chief : Option (List Int)
  crown : Bool
  held : Int
  near : Option Int
  work : Bool
  far : Int
  backs : Int
  labels : List Int
deriving DecidableEq
abbrev Told := List (Int × Lt)
def newHo (v : Int) : Ho := ⟨v, false, false, none, false, v, none, true, 1, 0, []⟩
def crowned (h : Ho) (v : Int) : Ho × Told := ({ h with chief := some [v], crown := true }, [(1, .chief v)])
def heardChief (h : Ho) (v : Int) : Ho × Told := ({ h with chief := some [v] }, if h.crown then [] else [(1, .chief v)])
def firstTold : Wy → Nat → Ho → Ho × Told
  | .round, _, h => (h, [(1, .name h.own)])
  | .halves, _, h => (h, [(1, .first h.held)])
  | .reach, _, h => (h, [(-1, .probe h.own h.far 1), (1, .probe h.own h.far 1)])
  | .whole, n, h => if n = 1 then ({ h with chief := some (h.own :: h.labels.reverse) }, []) else (h, [(1, .label h.own)])
def startH (y : Wy) (n : Nat) (h : Ho) : Ho × Told := firstTold y n { h with awake := true }
def relayed (y : Wy) (side : Int) (l : Lt) : Told := match y, l with
  | .reach, .probe v r s => if s < r then [(-side, .probe v r (s + 1))] else [(side, .back v r)]
  | _, l => [(-side, l)]
def cameBack (h : Ho) : Ho × Told :=
  if h.backs + 1 < 2 then ({ h with backs := h.backs + 1 }, [])
  else firstTold .reach 0 { h with backs := 0, far := 2 * h.far }
def heardSecond (h : Ho) (v : Int) : Option (Ho × Told) := match h.near with
  | none => none
  | some k => if h.held < k ∧ v < k then some (firstTold .halves 0 { h with held := k }) else some ({ h with work := false }, [])
def heardAwake (y : Wy) (n : Nat) (h : Ho) (side : Int) (l : Lt) : Option (Ho × Told) := match y, l with
  | .round, .name v => some (if v = h.own then crowned h v else if h.own < v then (h, [(1, l)]) else (h, []))
  | .halves, .first v => if h.work then (if v = h.held then some (crowned h v) else some ({ h with near := some v }, [(1, .second v)])) else some (h, [(-side, l)])
  | .halves, .second v => if h.work then heardSecond h v else some (h, [(-side, l)])
  | .reach, .probe v r s => if v = h.own then some (if h.crown then (h, []) else crowned h v) else if v < h.own then some (h, []) else some (h, relayed .reach side l)
  | .reach, .back v r => if v = h.own then some (cameBack h) else some (h, [(-side, l)])
  | .whole, .label v =>
    let h2 := { h with labels := h.labels ++ [v] }
    if (h2.labels.length : Int) < (n : Int) - 1 then some (h2, [(-side, l)]) else some ({ h2 with chief := some (h2.own :: h2.labels.reverse) }, [])
  | _, _ => none
def fits : Wy → Lt → Bool
  | .round, .name _ => true
  | .round, .chief _ => true
  | .halves, .first _ => true
  | .halves, .second _ => true
  | .halves, .chief _ => true
  | .reach, .probe _ _ _ => true
  | .reach, .back _ _ => true
  | .reach, .chief _ => true
  | .whole, .label _ => true
  | _, _ => false
def hear (y : Wy) (n : Nat) (h : Ho) (side : Int) (l : Lt) : Option (Ho × Told) :=
  if fits y l then
    match y with
    | .whole =>
      let p := if h.awake then (h, []) else startH .whole n h
      (heardAwake .whole n p.1 side l).map fun q => (q.1, p.2 ++ q.2)
    | y =>
      let h1 := { h with touched := true }
      match l with
      | .chief v => some (heardChief h1 v)
      | l => if h1.awake then heardAwake y n h1 side l else some (h1, relayed y side l)
  else none

structure Rod where
  ls : List Lt
  heard : Nat
deriving DecidableEq
structure Sta where
  homes : List Ho
  roads : List Rod
deriving DecidableEq
inductive Deed | beg (h : Nat) | come (h : Nat) (right : Bool)
deriving DecidableEq
def sideOf (r : Bool) : Int := if r then 1 else -1
def idx (h : Nat) (r : Bool) : Nat := 2 * h + (if r then 1 else 0)
def idxI (h : Nat) (side : Int) : Nat := 2 * h + (if side = 1 then 1 else 0)
def putOn (rs : List Rod) (i : Nat) (l : Lt) : List Rod := match rs[i]? with
  | some r => rs.set i { r with ls := r.ls ++ [l] }
  | none => rs
def tell1 (n : Nat) (h : Nat) (rs : List Rod) (p : Int × Lt) : List Rod := putOn rs (idxI ((((h : Int) + p.1) % (n : Int)).toNat) (-p.1)) p.2
def tell (n : Nat) (h : Nat) (rs : List Rod) (t : Told) : List Rod := t.foldl (tell1 n h) rs
def init (c : List Int) : Sta := ⟨c.map newHo, List.replicate (2 * c.length) ⟨[], 0⟩⟩
def Sta.n (s : Sta) : Nat := s.homes.length
def step (y : Wy) (s : Sta) : Deed → Option Sta
  | .beg h => match s.homes[h]? with
    | some ho => if ho.awake || ho.touched then none else
      let p := startH y s.n ho
      some ⟨s.homes.set h p.1, tell s.n h s.roads p.2⟩
    | none => none
  | .come h r => match s.homes[h]?, s.roads[idx h r]? with
    | some ho, some rd => match rd.ls[rd.heard]? with
      | some l => match hear y s.n ho (sideOf r) l with
        | some p => some ⟨s.homes.set h p.1, tell s.n h (s.roads.set (idx h r) { rd with heard := rd.heard + 1 }) p.2⟩
        | none => none
      | none => none
    | _, _ => none
def runRow (y : Wy) (c : List Int) (row : List Deed) : Option Sta := row.foldlM (step y) (init c)

/-! ### what is asked -/
def isOn (s : Sta) (h : Nat) : Bool := match s.homes[h]? with
  | some ho => ho.awake
  | none => false
def begun (s : Sta) : List Nat := (List.range s.n).filter (isOn s)
def sent (s : Sta) : Nat := (s.roads.map fun r => r.ls.length).sum
def still (s : Sta) : Bool := s.roads.all fun r => r.ls.length ≤ r.heard
def isGt (c : List Int) (i j : Nat) : Bool := match c[i]?, c[j]? with
  | some a, some b => decide (b < a)
  | _, _ => false
def spot (n : Nat) (h : Nat) (side : Int) (k : Nat) : Nat := (((h : Int) + side * (k : Int)) % (n : Int)).toNat
def stopAt (c : List Int) (some : List Nat) (h : Nat) (side : Int) (k : Nat) : Bool := some.contains (spot c.length h side k) && isGt c (spot c.length h side k) h
def stop (c : List Int) (some : List Nat) (h : Nat) (side : Int) : Nat := match (List.range (c.length - 1)).find? fun k => stopAt c some h side (k + 1) with
  | .some k => k + 1
  | .none => c.length
def nextG (row : List (Nat × Int)) (k : Nat) : Option (Nat × Int) := match row[k]?, row[(k + row.length - 1) % row.length]?, row[(k + row.length - 2) % row.length]? with
  | some a, some p, some q => if a.2 < p.2 ∧ q.2 < p.2 then some (a.1, p.2) else none
  | _, _, _ => none
def nextRow (row : List (Nat × Int)) : List (Nat × Int) := (List.range row.length).filterMap (nextG row)
def rowsN : Nat → List (Nat × Int) → Nat
  | 0, _ => 1
  | k + 1, row => if 1 < row.length then rowsN k (nextRow row) + 1 else 1
def row0 (c : List Int) (some : List Nat) : List (Nat × Int) := some.map fun h => (h, c.getD h 0)
def oneSide (far stop : Int) : Int := min far stop + far * (if far < stop then 1 else 0)
def reachLoop (l r : Int) : Nat → Int → Int → Int → Int
  | 0, _, _, t => t
  | k + 1, far, near, t => if near < min l r then reachLoop l r k (2 * far) far (t + oneSide far l + oneSide far r) else t
def total1 (y : Wy) (c : List Int) (some : List Nat) (t : Int) (h : Nat) : Int := match y with
  | .round => t + (stop c some h 1 : Int)
  | _ => reachLoop (stop c some h (-1)) (stop c some h 1) 4 1 0 t
def total (y : Wy) (c : List Int) (some : List Nat) : Int := match y with
  | .whole => (c.length : Int) * ((c.length : Int) - 1)
  | .halves => 2 * (c.length : Int) * (rowsN 4 (row0 c some) : Int)
  | y => some.foldl (total1 y c some) (c.length : Int)
/-- m is the greatest of the names of some -/
def isTop (c : List Int) (some : List Nat) (m : Int) : Bool := some.any (fun h => c[h]? == .some m) && some.all fun h => match c[h]? with
  | .some v => decide (v ≤ m)
  | .none => true
def rot (c : List Int) (i : Nat) : List Int := c.drop i ++ c.take i
def knowsRight (y : Wy) (c : List Int) (s : Sta) : Bool := match y with
  | .whole => (List.range s.n).all fun i => match s.homes[i]? with
    | .some ho => ho.chief == .some (rot c i)
    | .none => true
  | _ => s.homes.all fun ho => match ho.chief with
    | .some [m] => isTop c (begun s) m
    | _ => false
def right (y : Wy) (c : List Int) (s : Sta) : Bool := decide ((sent s : Int) = total y c (begun s)) && knowsRight y c s
end RC
/-! The text by places, the facts of the head (printed by genctx.py) -/
namespace RC
open PySem PySem.Spec PyProof.Rows L2
def top (i : Nat) : Stmt := PySem.Challenge.pw_ringchief_k32_whole_all_orders_of_small.main.body.getD i (.Pass ⟨0, 0, 0, 0⟩)
abbrev s_Rh_init : Stmt := inClass (top 8) 0
abbrev s_Rh_start : Stmt := inClass (top 8) 1
abbrev s_Rh_hear : Stmt := inClass (top 8) 3
abbrev s_Rh_relay : Stmt := inClass (top 8) 4
abbrev s_Rh_chief : Stmt := inClass (top 8) 6
abbrev s_Rh_crown : Stmt := inClass (top 8) 7
abbrev s_Hh_init : Stmt := inClass (top 10) 0
abbrev s_Hh_first : Stmt := inClass (top 10) 1
abbrev s_Hh_awake : Stmt := inClass (top 10) 2
abbrev s_Hh_second : Stmt := inClass (top 10) 3
abbrev s_Ah_init : Stmt := inClass (top 12) 0
abbrev s_Ah_first : Stmt := inClass (top 12) 1
abbrev s_Ah_awake : Stmt := inClass (top 12) 2
abbrev s_Ah_relay : Stmt := inClass (top 12) 3
abbrev s_Ah_back : Stmt := inClass (top 12) 4
abbrev s_is_number : Stmt := top 17
abbrev s_are_numbers : Stmt := top 18
abbrev s_is_ring : Stmt := top 19
abbrev s_is_word : Stmt := top 20
abbrev s_Oh_first : Stmt := inClass (top 22) 0
abbrev s_Oh_awake : Stmt := inClass (top 22) 1
abbrev s_read_from : Stmt := top 24
abbrev s_greatest_from : Stmt := top 25
abbrev s_Wh_init : Stmt := inClass (top 27) 0
abbrev s_Wh_first : Stmt := inClass (top 27) 1
abbrev s_Wh_hear : Stmt := inClass (top 27) 2
abbrev s_Wh_awake : Stmt := inClass (top 27) 3
abbrev s_Wh_great : Stmt := inClass (top 27) 4
abbrev s_is_whole : Stmt := top 31
abbrev s_goes_by : Stmt := top 32
abbrev s_house_by : Stmt := top 33
abbrev s_Ro_init : Stmt := inClass (top 34) 0
abbrev s_Ro_put : Stmt := inClass (top 34) 1
abbrev s_Ro_clear : Stmt := inClass (top 34) 2
abbrev s_Ro_take : Stmt := inClass (top 34) 3
abbrev s_Ru_init : Stmt := inClass (top 35) 0
abbrev s_Ru_need : Stmt := inClass (top 35) 1
abbrev s_Ru_road : Stmt := inClass (top 35) 2
abbrev s_Ru_tell : Stmt := inClass (top 35) 3
abbrev s_Ru_begin : Stmt := inClass (top 35) 4
abbrev s_Ru_come : Stmt := inClass (top 35) 5
abbrev s_Ru_begun : Stmt := inClass (top 35) 6
abbrev s_Ru_waiting : Stmt := inClass (top 35) 7
abbrev s_Ru_carried : Stmt := inClass (top 35) 8
abbrev s_Ru_still : Stmt := inClass (top 35) 9
abbrev s_Ru_knows : Stmt := inClass (top 35) 10
abbrev s_Ru_sent : Stmt := inClass (top 35) 11
abbrev s_mixed : Stmt := top 37
abbrev s_pot : Stmt := top 38
abbrev s_draw : Stmt := top 39
abbrev s_ring : Stmt := top 40
abbrev s_word : Stmt := top 41
abbrev s_reading : Stmt := top 42
abbrev s_rows : Stmt := top 43
abbrev s_stop : Stmt := top 44
abbrev s_total : Stmt := top 45
abbrev s_done : Stmt := top 46
abbrev s_onward : Stmt := top 47
abbrev s_key : Stmt := top 48
abbrev s_is_right : Stmt := top 49
abbrev s_law : Stmt := top 50
abbrev N_Rh_init : List PySem.Str := ["self", "own", "many"]
abbrev P_Rh_init : List PySem.Str := ["self", "own", "many"]
theorem sc_Rh_init : FnScope N_Rh_init P_Rh_init (defScope s_Rh_init) := ⟨rfl, rfl, rfl, by decide +kernel, rfl, by decide +kernel, by decide +kernel⟩
abbrev N_Rh_start : List PySem.Str := ["self"]
abbrev P_Rh_start : List PySem.Str := ["self"]
theorem sc_Rh_start : FnScope N_Rh_start P_Rh_start (defScope s_Rh_start) := ⟨rfl, rfl, rfl, by decide +kernel, rfl, by decide +kernel, by decide +kernel⟩
abbrev N_Rh_hear : List PySem.Str := ["self", "side", "letter"]
abbrev P_Rh_hear : List PySem.Str := ["self", "side", "letter"]
theorem sc_Rh_hear : FnScope N_Rh_hear P_Rh_hear (defScope s_Rh_hear) := ⟨rfl, rfl, rfl, by decide +kernel, rfl, by decide +kernel, by decide +kernel⟩
abbrev N_Rh_relay : List PySem.Str := ["self", "side", "letter"]
abbrev P_Rh_relay : List PySem.Str := ["self", "side", "letter"]
theorem sc_Rh_relay : FnScope N_Rh_relay P_Rh_relay (defScope s_Rh_relay) := ⟨rfl, rfl, rfl, by decide +kernel, rfl, by decide +kernel, by decide +kernel⟩
abbrev N_Rh_chief : List PySem.Str := ["self", "letter"]
abbrev P_Rh_chief : List PySem.Str := ["self", "letter"]
theorem sc_Rh_chief : FnScope N_Rh_chief P_Rh_chief (defScope s_Rh_chief) := ⟨rfl, rfl, rfl, by decide +kernel, rfl, by decide +kernel, by decide +kernel⟩
abbrev N_Rh_crown : List PySem.Str := ["self", "name"]
abbrev P_Rh_crown : List PySem.Str := ["self", "name"]
theorem sc_Rh_crown : FnScope N_Rh_crown P_Rh_crown (defScope s_Rh_crown) := ⟨rfl, rfl, rfl, by decide +kernel, rfl, by decide +kernel, by decide +kernel⟩
abbrev N_Hh_init : List PySem.Str := ["self", "own", "many"]
abbrev P_Hh_init : List PySem.Str := ["self", "own", "many"]
theorem sc_Hh_init : FnScope N_Hh_init P_Hh_init (defScope s_Hh_init) := ⟨rfl, rfl, rfl, by decide +kernel, rfl, by decide +kernel, by decide +kernel⟩
abbrev N_Hh_first : List PySem.Str := ["self"]
abbrev P_Hh_first : List PySem.Str := ["self"]
theorem sc_Hh_first : FnScope N_Hh_first P_Hh_first (defScope s_Hh_first) := ⟨rfl, rfl, rfl, by decide +kernel, rfl, by decide +kernel, by decide +kernel⟩
abbrev N_Hh_awake : List PySem.Str := ["self", "side", "letter", "word", "name"]
abbrev P_Hh_awake : List PySem.Str := ["self", "side", "letter"]
theorem sc_Hh_awake : FnScope N_Hh_awake P_Hh_awake (defScope s_Hh_awake) := ⟨rfl, rfl, rfl, by decide +kernel, rfl, by decide +kernel, by decide +kernel⟩
abbrev N_Hh_second : List PySem.Str := ["self", "name"]
abbrev P_Hh_second : List PySem.Str := ["self", "name"]
theorem sc_Hh_second : FnScope N_Hh_second P_Hh_second (defScope s_Hh_second) := ⟨rfl, rfl, rfl, by decide +kernel, rfl, by decide +kernel, by decide +kernel⟩
abbrev N_Ah_init : List PySem.Str := ["self", "own", "many"]
abbrev P_Ah_init : List PySem.Str := ["self", "own", "many"]
theorem sc_Ah_init : FnScope N_Ah_init P_Ah_init (defScope s_Ah_init) := ⟨rfl, rfl, rfl, by decide +kernel, rfl, by decide +kernel, by decide +kernel⟩
abbrev N_Ah_first : List PySem.Str := ["self", "probe"]
abbrev P_Ah_first : List PySem.Str := ["self"]
theorem sc_Ah_first : FnScope N_Ah_first P_Ah_first (defScope s_Ah_first) := ⟨rfl, rfl, rfl, by decide +kernel, rfl, by decide +kernel, by decide +kernel⟩
abbrev N_Ah_awake : List PySem.Str := ["self", "side", "letter", "name"]
abbrev P_Ah_awake : List PySem.Str := ["self", "side", "letter"]
theorem sc_Ah_awake : FnScope N_Ah_awake P_Ah_awake (defScope s_Ah_awake) := ⟨rfl, rfl, rfl, by decide +kernel, rfl, by decide +kernel, by decide +kernel⟩
abbrev N_Ah_relay : List PySem.Str := ["self", "side", "letter", "word", "name", "far", "steps"]
abbrev P_Ah_relay : List PySem.Str := ["self", "side", "letter"]
theorem sc_Ah_relay : FnScope N_Ah_relay P_Ah_relay (defScope s_Ah_relay) := ⟨rfl, rfl, rfl, by decide +kernel, rfl, by decide +kernel, by decide +kernel⟩
abbrev N_Ah_back : List PySem.Str := ["self"]
abbrev P_Ah_back : List PySem.Str := ["self"]
theorem sc_Ah_back : FnScope N_Ah_back P_Ah_back (defScope s_Ah_back) := ⟨rfl, rfl, rfl, by decide +kernel, rfl, by decide +kernel, by decide +kernel⟩
abbrev N_is_number : List PySem.Str := ["thing", "most"]
abbrev P_is_number : List PySem.Str := ["thing", "most"]
theorem sc_is_number : FnScope N_is_number P_is_number (defScope s_is_number) := ⟨rfl, rfl, rfl, by decide +kernel, rfl, by decide +kernel, by decide +kernel⟩
abbrev N_are_numbers : List PySem.Str := ["thing", "most", "one"]
abbrev P_are_numbers : List PySem.Str := ["thing", "most"]
theorem sc_are_numbers : FnScope N_are_numbers P_are_numbers (defScope s_are_numbers) := ⟨rfl, rfl, rfl, by decide +kernel, rfl, by decide +kernel, by decide +kernel⟩
abbrev N_is_ring : List PySem.Str := ["thing"]
abbrev P_is_ring : List PySem.Str := ["thing"]
theorem sc_is_ring : FnScope N_is_ring P_is_ring (defScope s_is_ring) := ⟨rfl, rfl, rfl, by decide +kernel, rfl, by decide +kernel, by decide +kernel⟩
abbrev N_is_word : List PySem.Str := ["thing"]
abbrev P_is_word : List PySem.Str := ["thing"]
theorem sc_is_word : FnScope N_is_word P_is_word (defScope s_is_word) := ⟨rfl, rfl, rfl, by decide +kernel, rfl, by decide +kernel, by decide +kernel⟩
abbrev N_Oh_first : List PySem.Str := ["self"]
abbrev P_Oh_first : List PySem.Str := ["self"]
theorem sc_Oh_first : FnScope N_Oh_first P_Oh_first (defScope s_Oh_first) := ⟨rfl, rfl, rfl, by decide +kernel, rfl, by decide +kernel, by decide +kernel⟩
abbrev N_Oh_awake : List PySem.Str := ["self", "side", "letter", "name"]
abbrev P_Oh_awake : List PySem.Str := ["self", "side", "letter"]
theorem sc_Oh_awake : FnScope N_Oh_awake P_Oh_awake (defScope s_Oh_awake) := ⟨rfl, rfl, rfl, by decide +kernel, rfl, by decide +kernel, by decide +kernel⟩
abbrev N_read_from : List PySem.Str := ["word", "house"]
abbrev P_read_from : List PySem.Str := ["word", "house"]
theorem sc_read_from : FnScope N_read_from P_read_from (defScope s_read_from) := ⟨rfl, rfl, rfl, by decide +kernel, rfl, by decide +kernel, by decide +kernel⟩
abbrev N_greatest_from : List PySem.Str := ["word", "readings", "greatest", "house", "reading"]
abbrev P_greatest_from : List PySem.Str := ["word"]
theorem sc_greatest_from : FnScope N_greatest_from P_greatest_from (defScope s_greatest_from) := ⟨rfl, rfl, rfl, by decide +kernel, rfl, by decide +kernel, by decide +kernel⟩
abbrev N_Wh_init : List PySem.Str := ["self", "own", "many"]
abbrev P_Wh_init : List PySem.Str := ["self", "own", "many"]
theorem sc_Wh_init : FnScope N_Wh_init P_Wh_init (defScope s_Wh_init) := ⟨rfl, rfl, rfl, by decide +kernel, rfl, by decide +kernel, by decide +kernel⟩
abbrev N_Wh_first : List PySem.Str := ["self"]
abbrev P_Wh_first : List PySem.Str := ["self"]
theorem sc_Wh_first : FnScope N_Wh_first P_Wh_first (defScope s_Wh_first) := ⟨rfl, rfl, rfl, by decide +kernel, rfl, by decide +kernel, by decide +kernel⟩
abbrev N_Wh_hear : List PySem.Str := ["self", "side", "letter", "told"]
abbrev P_Wh_hear : List PySem.Str := ["self", "side", "letter"]
theorem sc_Wh_hear : FnScope N_Wh_hear P_Wh_hear (defScope s_Wh_hear) := ⟨rfl, rfl, rfl, by decide +kernel, rfl, by decide +kernel, by decide +kernel⟩
abbrev N_Wh_awake : List PySem.Str := ["self", "side", "letter"]
abbrev P_Wh_awake : List PySem.Str := ["self", "side", "letter"]
theorem sc_Wh_awake : FnScope N_Wh_awake P_Wh_awake (defScope s_Wh_awake) := ⟨rfl, rfl, rfl, by decide +kernel, rfl, by decide +kernel, by decide +kernel⟩
abbrev N_Wh_great : List PySem.Str := ["self", "word", "some"]
abbrev P_Wh_great : List PySem.Str := ["self"]
theorem sc_Wh_great : FnScope N_Wh_great P_Wh_great (defScope s_Wh_great) := ⟨rfl, rfl, rfl, by decide +kernel, rfl, by decide +kernel, by decide +kernel⟩
abbrev N_is_whole : List PySem.Str := ["thing"]
abbrev P_is_whole : List PySem.Str := ["thing"]
theorem sc_is_whole : FnScope N_is_whole P_is_whole (defScope s_is_whole) := ⟨rfl, rfl, rfl, by decide +kernel, rfl, by decide +kernel, by decide +kernel⟩
abbrev N_goes_by : List PySem.Str := ["way", "ring"]
abbrev P_goes_by : List PySem.Str := ["way", "ring"]
theorem sc_goes_by : FnScope N_goes_by P_goes_by (defScope s_goes_by) := ⟨rfl, rfl, rfl, by decide +kernel, rfl, by decide +kernel, by decide +kernel⟩
abbrev N_house_by : List PySem.Str := ["way", "own", "many"]
abbrev P_house_by : List PySem.Str := ["way", "own", "many"]
theorem sc_house_by : FnScope N_house_by P_house_by (defScope s_house_by) := ⟨rfl, rfl, rfl, by decide +kernel, rfl, by decide +kernel, by decide +kernel⟩
abbrev N_Ro_init : List PySem.Str := ["self"]
abbrev P_Ro_init : List PySem.Str := ["self"]
theorem sc_Ro_init : FnScope N_Ro_init P_Ro_init (defScope s_Ro_init) := ⟨rfl, rfl, rfl, by decide +kernel, rfl, by decide +kernel, by decide +kernel⟩
abbrev N_Ro_put : List PySem.Str := ["self", "letter"]
abbrev P_Ro_put : List PySem.Str := ["self", "letter"]
theorem sc_Ro_put : FnScope N_Ro_put P_Ro_put (defScope s_Ro_put) := ⟨rfl, rfl, rfl, by decide +kernel, rfl, by decide +kernel, by decide +kernel⟩
abbrev N_Ro_clear : List PySem.Str := ["self"]
abbrev P_Ro_clear : List PySem.Str := ["self"]
theorem sc_Ro_clear : FnScope N_Ro_clear P_Ro_clear (defScope s_Ro_clear) := ⟨rfl, rfl, rfl, by decide +kernel, rfl, by decide +kernel, by decide +kernel⟩
abbrev N_Ro_take : List PySem.Str := ["self"]
abbrev P_Ro_take : List PySem.Str := ["self"]
theorem sc_Ro_take : FnScope N_Ro_take P_Ro_take (defScope s_Ro_take) := ⟨rfl, rfl, rfl, by decide +kernel, rfl, by decide +kernel, by decide +kernel⟩
abbrev N_Ru_init : List PySem.Str := ["self", "way", "ring", "house", "side", "own"]
abbrev P_Ru_init : List PySem.Str := ["self", "way", "ring"]
theorem sc_Ru_init : FnScope N_Ru_init P_Ru_init (defScope s_Ru_init) := ⟨rfl, rfl, rfl, by decide +kernel, rfl, by decide +kernel, by decide +kernel⟩
abbrev N_Ru_need : List PySem.Str := ["self", "house"]
abbrev P_Ru_need : List PySem.Str := ["self", "house"]
theorem sc_Ru_need : FnScope N_Ru_need P_Ru_need (defScope s_Ru_need) := ⟨rfl, rfl, rfl, by decide +kernel, rfl, by decide +kernel, by decide +kernel⟩
abbrev N_Ru_road : List PySem.Str := ["self", "house", "side"]
abbrev P_Ru_road : List PySem.Str := ["self", "house", "side"]
theorem sc_Ru_road : FnScope N_Ru_road P_Ru_road (defScope s_Ru_road) := ⟨rfl, rfl, rfl, by decide +kernel, rfl, by decide +kernel, by decide +kernel⟩
abbrev N_Ru_tell : List PySem.Str := ["self", "house", "told", "side", "letter"]
abbrev P_Ru_tell : List PySem.Str := ["self", "house", "told"]
theorem sc_Ru_tell : FnScope N_Ru_tell P_Ru_tell (defScope s_Ru_tell) := ⟨rfl, rfl, rfl, by decide +kernel, rfl, by decide +kernel, by decide +kernel⟩
abbrev N_Ru_begin : List PySem.Str := ["self", "house"]
abbrev P_Ru_begin : List PySem.Str := ["self", "house"]
theorem sc_Ru_begin : FnScope N_Ru_begin P_Ru_begin (defScope s_Ru_begin) := ⟨rfl, rfl, rfl, by decide +kernel, rfl, by decide +kernel, by decide +kernel⟩
abbrev N_Ru_come : List PySem.Str := ["self", "house", "side", "letter"]
abbrev P_Ru_come : List PySem.Str := ["self", "house", "side"]
theorem sc_Ru_come : FnScope N_Ru_come P_Ru_come (defScope s_Ru_come) := ⟨rfl, rfl, rfl, by decide +kernel, rfl, by decide +kernel, by decide +kernel⟩
abbrev N_Ru_begun : List PySem.Str := ["self", "house", "home"]
abbrev P_Ru_begun : List PySem.Str := ["self"]
theorem sc_Ru_begun : FnScope N_Ru_begun P_Ru_begun (defScope s_Ru_begun) := ⟨rfl, rfl, rfl, by decide +kernel, rfl, by decide +kernel, by decide +kernel⟩
abbrev N_Ru_waiting : List PySem.Str := ["self", "house", "side", "road"]
abbrev P_Ru_waiting : List PySem.Str := ["self", "house", "side"]
theorem sc_Ru_waiting : FnScope N_Ru_waiting P_Ru_waiting (defScope s_Ru_waiting) := ⟨rfl, rfl, rfl, by decide +kernel, rfl, by decide +kernel, by decide +kernel⟩
abbrev N_Ru_carried : List PySem.Str := ["self", "house", "side"]
abbrev P_Ru_carried : List PySem.Str := ["self", "house", "side"]
theorem sc_Ru_carried : FnScope N_Ru_carried P_Ru_carried (defScope s_Ru_carried) := ⟨rfl, rfl, rfl, by decide +kernel, rfl, by decide +kernel, by decide +kernel⟩
abbrev N_Ru_still : List PySem.Str := ["self", "road"]
abbrev P_Ru_still : List PySem.Str := ["self"]
theorem sc_Ru_still : FnScope N_Ru_still P_Ru_still (defScope s_Ru_still) := ⟨rfl, rfl, rfl, by decide +kernel, rfl, by decide +kernel, by decide +kernel⟩
abbrev N_Ru_knows : List PySem.Str := ["self", "house"]
abbrev P_Ru_knows : List PySem.Str := ["self", "house"]
theorem sc_Ru_knows : FnScope N_Ru_knows P_Ru_knows (defScope s_Ru_knows) := ⟨rfl, rfl, rfl, by decide +kernel, rfl, by decide +kernel, by decide +kernel⟩
abbrev N_Ru_sent : List PySem.Str := ["self", "road"]
abbrev P_Ru_sent : List PySem.Str := ["self"]
theorem sc_Ru_sent : FnScope N_Ru_sent P_Ru_sent (defScope s_Ru_sent) := ⟨rfl, rfl, rfl, by decide +kernel, rfl, by decide +kernel, by decide +kernel⟩
abbrev N_mixed : List PySem.Str := ["_law_cell", "_law_turn", "_law_once"]
abbrev P_mixed : List PySem.Str := ["_law_cell", "_law_turn"]
theorem sc_mixed : FnScope N_mixed P_mixed (defScope s_mixed) := ⟨rfl, rfl, rfl, by decide +kernel, rfl, by decide +kernel, by decide +kernel⟩
abbrev N_pot : List PySem.Str := ["_law_script"]
abbrev P_pot : List PySem.Str := ["_law_script"]
theorem sc_pot : FnScope N_pot P_pot (defScope s_pot) := ⟨rfl, rfl, rfl, by decide +kernel, rfl, by decide +kernel, by decide +kernel⟩
abbrev N_draw : List PySem.Str := ["_law_pot_here", "_law_many", "_law_cell", "_law_one"]
abbrev P_draw : List PySem.Str := ["_law_pot_here", "_law_many"]
theorem sc_draw : FnScope N_draw P_draw (defScope s_draw) := ⟨rfl, rfl, rfl, by decide +kernel, rfl, by decide +kernel, by decide +kernel⟩
abbrev N_ring : List PySem.Str := ["_law_pot_here", "_law_many", "_law_way", "_law_order", "_law_k", "_law_left", "_law_at", "_law_far", "_law_names"]
abbrev P_ring : List PySem.Str := ["_law_pot_here", "_law_many"]
theorem sc_ring : FnScope N_ring P_ring (defScope s_ring) := ⟨rfl, rfl, rfl, by decide +kernel, rfl, by decide +kernel, by decide +kernel⟩
abbrev N_word : List PySem.Str := ["_law_pot_here", "_law_many", "_law_way", "_law_top", "_law_word_here", "_law_piece", "_law_k"]
abbrev P_word : List PySem.Str := ["_law_pot_here", "_law_many"]
theorem sc_word : FnScope N_word P_word (defScope s_word) := ⟨rfl, rfl, rfl, by decide +kernel, rfl, by decide +kernel, by decide +kernel⟩
abbrev N_reading : List PySem.Str := ["_law_word_here", "_law_some", "_law_k"]
abbrev P_reading : List PySem.Str := ["_law_word_here"]
theorem sc_reading : FnScope N_reading P_reading (defScope s_reading) := ⟨rfl, rfl, rfl, by decide +kernel, rfl, by decide +kernel, by decide +kernel⟩
abbrev N_rows : List PySem.Str := ["_law_ring_here", "_law_some", "_law_house", "_law_rows_here", "_law_row", "_law_held", "_law_names", "_law_made", "_law_k"]
abbrev P_rows : List PySem.Str := ["_law_ring_here", "_law_some"]
theorem sc_rows : FnScope N_rows P_rows (defScope s_rows) := ⟨rfl, rfl, rfl, by decide +kernel, rfl, by decide +kernel, by decide +kernel⟩
abbrev N_stop : List PySem.Str := ["_law_ring_here", "_law_some", "_law_house", "_law_side", "_law_steps", "_law_spot"]
abbrev P_stop : List PySem.Str := ["_law_ring_here", "_law_some", "_law_house", "_law_side"]
theorem sc_stop : FnScope N_stop P_stop (defScope s_stop) := ⟨rfl, rfl, rfl, by decide +kernel, rfl, by decide +kernel, by decide +kernel⟩
abbrev N_total : List PySem.Str := ["_law_way", "_law_ring_here", "_law_some", "_law_many", "_law_total_here", "_law_house", "_law_left", "_law_right", "_law_far", "_law_near", "_law_stop_here"]
abbrev P_total : List PySem.Str := ["_law_way", "_law_ring_here", "_law_some"]
theorem sc_total : FnScope N_total P_total (defScope s_total) := ⟨rfl, rfl, rfl, by decide +kernel, rfl, by decide +kernel, by decide +kernel⟩
abbrev N_done : List PySem.Str := ["_law_way", "_law_ring_here", "_law_row", "_law_run", "_law_deed"]
abbrev P_done : List PySem.Str := ["_law_way", "_law_ring_here", "_law_row"]
theorem sc_done : FnScope N_done P_done (defScope s_done) := ⟨rfl, rfl, rfl, by decide +kernel, rfl, by decide +kernel, by decide +kernel⟩
abbrev N_onward : List PySem.Str := ["_law_ring_here", "_law_row", "_law_run", "_law_busy", "_law_house", "_law_found", "_law_deed", "_law_side"]
abbrev P_onward : List PySem.Str := ["_law_ring_here", "_law_row", "_law_run"]
theorem sc_onward : FnScope N_onward P_onward (defScope s_onward) := ⟨rfl, rfl, rfl, by decide +kernel, rfl, by decide +kernel, by decide +kernel⟩
abbrev N_key : List PySem.Str := ["_law_ring_here", "_law_run", "_law_roads", "_law_house", "_law_side"]
abbrev P_key : List PySem.Str := ["_law_ring_here", "_law_run"]
theorem sc_key : FnScope N_key P_key (defScope s_key) := ⟨rfl, rfl, rfl, by decide +kernel, rfl, by decide +kernel, by decide +kernel⟩
abbrev N_is_right : List PySem.Str := ["_law_way", "_law_ring_here", "_law_run", "_law_begun", "_law_due", "_law_house"]
abbrev P_is_right : List PySem.Str := ["_law_way", "_law_ring_here", "_law_run"]
theorem sc_is_right : FnScope N_is_right P_is_right (defScope s_is_right) := ⟨rfl, rfl, rfl, by decide +kernel, rfl, by decide +kernel, by decide +kernel⟩
abbrev N_law : List PySem.Str := ["_law_script", "_law_pot_here", "_law_way", "_law_many", "_law_ring_here", "_law_met", "_law_left", "_law_turn", "_law_row", "_law_run", "_law_key_here", "_law_deeds", "_law_deed"]
abbrev P_law : List PySem.Str := ["_law_script"]
theorem sc_law : FnScope N_law P_law (defScope s_law) := ⟨rfl, rfl, rfl, by decide +kernel, rfl, by decide +kernel, by decide +kernel⟩
def d_Rh_init : He.DefD := ⟨("RingHouse", some "__init__"), "__init__", "RingHouse.__init__", defArgs s_Rh_init, defBody s_Rh_init, defScope s_Rh_init, [], []⟩
def d_Rh_start : He.DefD := ⟨("RingHouse", some "start"), "start", "RingHouse.start", defArgs s_Rh_start, defBody s_Rh_start, defScope s_Rh_start, [], []⟩
def d_Rh_hear : He.DefD := ⟨("RingHouse", some "hear_one"), "hear_one", "RingHouse.hear_one", defArgs s_Rh_hear, defBody s_Rh_hear, defScope s_Rh_hear, [], []⟩
def d_Rh_relay : He.DefD := ⟨("RingHouse", some "relayed"), "relayed", "RingHouse.relayed", defArgs s_Rh_relay, defBody s_Rh_relay, defScope s_Rh_relay, [], []⟩
def d_Rh_chief : He.DefD := ⟨("RingHouse", some "heard_chief"), "heard_chief", "RingHouse.heard_chief", defArgs s_Rh_chief, defBody s_Rh_chief, defScope s_Rh_chief, [], []⟩
def d_Rh_crown : He.DefD := ⟨("RingHouse", some "crowned"), "crowned", "RingHouse.crowned", defArgs s_Rh_crown, defBody s_Rh_crown, defScope s_Rh_crown, [], []⟩
def d_Hh_init : He.DefD := ⟨("HalveHouse", some "__init__"), "__init__", "HalveHouse.__init__", defArgs s_Hh_init, defBody s_Hh_init, defScope s_Hh_init, [], []⟩
def d_Hh_first : He.DefD := ⟨("HalveHouse", some "first_told"), "first_told", "HalveHouse.first_told", defArgs s_Hh_first, defBody s_Hh_first, defScope s_Hh_first, [], []⟩
def d_Hh_awake : He.DefD := ⟨("HalveHouse", some "heard_awake"), "heard_awake", "HalveHouse.heard_awake", defArgs s_Hh_awake, defBody s_Hh_awake, defScope s_Hh_awake, [], []⟩
def d_Hh_second : He.DefD := ⟨("HalveHouse", some "heard_second"), "heard_second", "HalveHouse.heard_second", defArgs s_Hh_second, defBody s_Hh_second, defScope s_Hh_second, [], []⟩
def d_Ah_init : He.DefD := ⟨("ReachHouse", some "__init__"), "__init__", "ReachHouse.__init__", defArgs s_Ah_init, defBody s_Ah_init, defScope s_Ah_init, [], []⟩
def d_Ah_first : He.DefD := ⟨("ReachHouse", some "first_told"), "first_told", "ReachHouse.first_told", defArgs s_Ah_first, defBody s_Ah_first, defScope s_Ah_first, [], []⟩
def d_Ah_awake : He.DefD := ⟨("ReachHouse", some "heard_awake"), "heard_awake", "ReachHouse.heard_awake", defArgs s_Ah_awake, defBody s_Ah_awake, defScope s_Ah_awake, [], []⟩
def d_Ah_relay : He.DefD := ⟨("ReachHouse", some "relayed"), "relayed", "ReachHouse.relayed", defArgs s_Ah_relay, defBody s_Ah_relay, defScope s_Ah_relay, [], []⟩
def d_Ah_back : He.DefD := ⟨("ReachHouse", some "came_back"), "came_back", "ReachHouse.came_back", defArgs s_Ah_back, defBody s_Ah_back, defScope s_Ah_back, [], []⟩
def d_is_number : He.DefD := ⟨("is_number", none), "is_number", "is_number", defArgs s_is_number, defBody s_is_number, defScope s_is_number, [], []⟩
def d_are_numbers : He.DefD := ⟨("are_numbers", none), "are_numbers", "are_numbers", defArgs s_are_numbers, defBody s_are_numbers, defScope s_are_numbers, [], []⟩
def d_is_ring : He.DefD := ⟨("is_ring", none), "is_ring", "is_ring", defArgs s_is_ring, defBody s_is_ring, defScope s_is_ring, [], []⟩
def d_is_word : He.DefD := ⟨("is_word", none), "is_word", "is_word", defArgs s_is_word, defBody s_is_word, defScope s_is_word, [], []⟩
def d_Oh_first : He.DefD := ⟨("RoundHouse", some "first_told"), "first_told", "RoundHouse.first_told", defArgs s_Oh_first, defBody s_Oh_first, defScope s_Oh_first, [], []⟩
def d_Oh_awake : He.DefD := ⟨("RoundHouse", some "heard_awake"), "heard_awake", "RoundHouse.heard_awake", defArgs s_Oh_awake, defBody s_Oh_awake, defScope s_Oh_awake, [], []⟩
def d_read_from : He.DefD := ⟨("read_from", none), "read_from", "read_from", defArgs s_read_from, defBody s_read_from, defScope s_read_from, [], []⟩
def d_greatest_from : He.DefD := ⟨("greatest_from", none), "greatest_from", "greatest_from", defArgs s_greatest_from, defBody s_greatest_from, defScope s_greatest_from, [], []⟩
def d_Wh_init : He.DefD := ⟨("WholeHouse", some "__init__"), "__init__", "WholeHouse.__init__", defArgs s_Wh_init, defBody s_Wh_init, defScope s_Wh_init, [], []⟩
def d_Wh_first : He.DefD := ⟨("WholeHouse", some "first_told"), "first_told", "WholeHouse.first_told", defArgs s_Wh_first, defBody s_Wh_first, defScope s_Wh_first, [], []⟩
def d_Wh_hear : He.DefD := ⟨("WholeHouse", some "hear_one"), "hear_one", "WholeHouse.hear_one", defArgs s_Wh_hear, defBody s_Wh_hear, defScope s_Wh_hear, [], []⟩
def d_Wh_awake : He.DefD := ⟨("WholeHouse", some "heard_awake"), "heard_awake", "WholeHouse.heard_awake", defArgs s_Wh_awake, defBody s_Wh_awake, defScope s_Wh_awake, [], []⟩
def d_Wh_great : He.DefD := ⟨("WholeHouse", some "greatest_reading"), "greatest_reading", "WholeHouse.greatest_reading", defArgs s_Wh_great, defBody s_Wh_great, defScope s_Wh_great, [], []⟩
def d_is_whole : He.DefD := ⟨("is_whole", none), "is_whole", "is_whole", defArgs s_is_whole, defBody s_is_whole, defScope s_is_whole, [], []⟩
def d_goes_by : He.DefD := ⟨("goes_by", none), "goes_by", "goes_by", defArgs s_goes_by, defBody s_goes_by, defScope s_goes_by, [], []⟩
def d_house_by : He.DefD := ⟨("house_by", none), "house_by", "house_by", defArgs s_house_by, defBody s_house_by, defScope s_house_by, [], []⟩
def d_Ro_init : He.DefD := ⟨("Road", some "__init__"), "__init__", "Road.__init__", defArgs s_Ro_init, defBody s_Ro_init, defScope s_Ro_init, [], []⟩
def d_Ro_put : He.DefD := ⟨("Road", some "put_on"), "put_on", "Road.put_on", defArgs s_Ro_put, defBody s_Ro_put, defScope s_Ro_put, [], []⟩
def d_Ro_clear : He.DefD := ⟨("Road", some "is_clear"), "is_clear", "Road.is_clear", defArgs s_Ro_clear, defBody s_Ro_clear, defScope s_Ro_clear, [], []⟩
def d_Ro_take : He.DefD := ⟨("Road", some "take_eldest"), "take_eldest", "Road.take_eldest", defArgs s_Ro_take, defBody s_Ro_take, defScope s_Ro_take, [], []⟩
def d_Ru_init : He.DefD := ⟨("Run", some "__init__"), "__init__", "Run.__init__", defArgs s_Ru_init, defBody s_Ru_init, defScope s_Ru_init, [], []⟩
def d_Ru_need : He.DefD := ⟨("Run", some "need_house"), "need_house", "Run.need_house", defArgs s_Ru_need, defBody s_Ru_need, defScope s_Ru_need, [], []⟩
def d_Ru_road : He.DefD := ⟨("Run", some "road_at"), "road_at", "Run.road_at", defArgs s_Ru_road, defBody s_Ru_road, defScope s_Ru_road, [], []⟩
def d_Ru_tell : He.DefD := ⟨("Run", some "tell_all"), "tell_all", "Run.tell_all", defArgs s_Ru_tell, defBody s_Ru_tell, defScope s_Ru_tell, [], []⟩
def d_Ru_begin : He.DefD := ⟨("Run", some "begin"), "begin", "Run.begin", defArgs s_Ru_begin, defBody s_Ru_begin, defScope s_Ru_begin, [], []⟩
def d_Ru_come : He.DefD := ⟨("Run", some "come"), "come", "Run.come", defArgs s_Ru_come, defBody s_Ru_come, defScope s_Ru_come, [], []⟩
def d_Ru_begun : He.DefD := ⟨("Run", some "begun"), "begun", "Run.begun", defArgs s_Ru_begun, defBody s_Ru_begun, defScope s_Ru_begun, [], []⟩
def d_Ru_waiting : He.DefD := ⟨("Run", some "waiting"), "waiting", "Run.waiting", defArgs s_Ru_waiting, defBody s_Ru_waiting, defScope s_Ru_waiting, [], []⟩
def d_Ru_carried : He.DefD := ⟨("Run", some "carried"), "carried", "Run.carried", defArgs s_Ru_carried, defBody s_Ru_carried, defScope s_Ru_carried, [], []⟩
def d_Ru_still : He.DefD := ⟨("Run", some "is_still"), "is_still", "Run.is_still", defArgs s_Ru_still, defBody s_Ru_still, defScope s_Ru_still, [], []⟩
def d_Ru_knows : He.DefD := ⟨("Run", some "knows"), "knows", "Run.knows", defArgs s_Ru_knows, defBody s_Ru_knows, defScope s_Ru_knows, [], []⟩
def d_Ru_sent : He.DefD := ⟨("Run", some "sent"), "sent", "Run.sent", defArgs s_Ru_sent, defBody s_Ru_sent, defScope s_Ru_sent, [], []⟩
def d_mixed : He.DefD := ⟨("_law_mixed", none), "_law_mixed", "_law_mixed", defArgs s_mixed, defBody s_mixed, defScope s_mixed, [], []⟩
def d_pot : He.DefD := ⟨("_law_pot", none), "_law_pot", "_law_pot", defArgs s_pot, defBody s_pot, defScope s_pot, [], []⟩
def d_draw : He.DefD := ⟨("_law_draw", none), "_law_draw", "_law_draw", defArgs s_draw, defBody s_draw, defScope s_draw, [], []⟩
def d_ring : He.DefD := ⟨("_law_ring", none), "_law_ring", "_law_ring", defArgs s_ring, defBody s_ring, defScope s_ring, [], []⟩
def d_word : He.DefD := ⟨("_law_word", none), "_law_word", "_law_word", defArgs s_word, defBody s_word, defScope s_word, [], []⟩
def d_reading : He.DefD := ⟨("_law_reading", none), "_law_reading", "_law_reading", defArgs s_reading, defBody s_reading, defScope s_reading, [], []⟩
def d_rows : He.DefD := ⟨("_law_rows", none), "_law_rows", "_law_rows", defArgs s_rows, defBody s_rows, defScope s_rows, [], []⟩
def d_stop : He.DefD := ⟨("_law_stop", none), "_law_stop", "_law_stop", defArgs s_stop, defBody s_stop, defScope s_stop, [], []⟩
def d_total : He.DefD := ⟨("_law_total", none), "_law_total", "_law_total", defArgs s_total, defBody s_total, defScope s_total, [], []⟩
def d_done : He.DefD := ⟨("_law_done", none), "_law_done", "_law_done", defArgs s_done, defBody s_done, defScope s_done, [], []⟩
def d_onward : He.DefD := ⟨("_law_onward", none), "_law_onward", "_law_onward", defArgs s_onward, defBody s_onward, defScope s_onward, [], []⟩
def d_key : He.DefD := ⟨("_law_key", none), "_law_key", "_law_key", defArgs s_key, defBody s_key, defScope s_key, [], []⟩
def d_is_right : He.DefD := ⟨("_law_is_right", none), "_law_is_right", "_law_is_right", defArgs s_is_right, defBody s_is_right, defScope s_is_right, [], []⟩
def d_law : He.DefD := ⟨("law", none), "law", "law", defArgs s_law, defBody s_law, defScope s_law, [], []⟩
def fn : List He.DefD := [d_Rh_init, d_Rh_start, d_Rh_hear, d_Rh_relay, d_Rh_chief, d_Rh_crown, d_Hh_init, d_Hh_first, d_Hh_awake, d_Hh_second, d_Ah_init, d_Ah_first, d_Ah_awake, d_Ah_relay, d_Ah_back, d_is_number, d_are_numbers, d_is_ring, d_is_word, d_Oh_first, d_Oh_awake, d_read_from, d_greatest_from, d_Wh_init, d_Wh_first, d_Wh_hear, d_Wh_awake, d_Wh_great, d_is_whole, d_goes_by, d_house_by, d_Ro_init, d_Ro_put, d_Ro_clear, d_Ro_take, d_Ru_init, d_Ru_need, d_Ru_road, d_Ru_tell, d_Ru_begin, d_Ru_come, d_Ru_begun, d_Ru_waiting, d_Ru_carried, d_Ru_still, d_Ru_knows, d_Ru_sent, d_mixed, d_pot, d_draw, d_ring, d_word, d_reading, d_rows, d_stop, d_total, d_done, d_onward, d_key, d_is_right, d_law]
def fa0 : List He.Fa := [.glo "RingHouse", .glo "HalveHouse", .glo "ReachHouse", .glo "RoundHouse", .glo "WholeHouse", .glo "Road", .glo "Run", .glo "WAYS", .glo "SIDES", .glo "is_number", .glo "are_numbers", .glo "is_ring", .glo "is_word", .glo "read_from", .glo "greatest_from", .glo "is_whole", .glo "goes_by", .glo "house_by", .glo "_law_mixed", .glo "_law_pot", .glo "_law_draw", .glo "_law_ring", .glo "_law_word", .glo "_law_reading", .glo "_law_rows", .glo "_law_stop", .glo "_law_total", .glo "_law_done", .glo "_law_onward", .glo "_law_key", .glo "_law_is_right", .glo "law", .free "isinstance", .free "int", .free "bool", .free "tuple", .free "len", .free "all", .free "set", .free "range"]
def fa1 : List He.Fa := [.free "max", .free "enumerate", .free "str", .free "sum", .free "list", .free "sorted", .free "min", .int "MOST_HOUSES" 64, .int "MOST_NAME" 1000000000000, .int "MOST_LABEL" 99, .cls "RoundHouse", .mkr "RoundHouse", .noat "RoundHouse" "own", .noat "RoundHouse" "many", .noat "RoundHouse" "awake", .noat "RoundHouse" "touched", .noat "RoundHouse" "chief_name", .noat "RoundHouse" "was_first", .meth "RoundHouse" "start", .meth "RoundHouse" "first_told", .meth "RoundHouse" "hear_one", .meth "RoundHouse" "relayed", .meth "RoundHouse" "heard_awake", .meth "RoundHouse" "heard_chief", .meth "RoundHouse" "crowned", .cls "HalveHouse", .mkr "HalveHouse", .noat "HalveHouse" "own", .noat "HalveHouse" "many", .noat "HalveHouse" "awake", .noat "HalveHouse" "touched", .noat "HalveHouse" "chief_name", .noat "HalveHouse" "was_first", .noat "HalveHouse" "held", .noat "HalveHouse" "near_name", .noat "HalveHouse" "at_work", .meth "HalveHouse" "start", .meth "HalveHouse" "first_told", .meth "HalveHouse" "hear_one", .meth "HalveHouse" "relayed"]
def fa2 : List He.Fa := [.meth "HalveHouse" "heard_awake", .meth "HalveHouse" "heard_chief", .meth "HalveHouse" "crowned", .meth "HalveHouse" "heard_second", .cls "ReachHouse", .mkr "ReachHouse", .noat "ReachHouse" "own", .noat "ReachHouse" "many", .noat "ReachHouse" "awake", .noat "ReachHouse" "touched", .noat "ReachHouse" "chief_name", .noat "ReachHouse" "was_first", .noat "ReachHouse" "far", .noat "ReachHouse" "backs", .meth "ReachHouse" "start", .meth "ReachHouse" "first_told", .meth "ReachHouse" "hear_one", .meth "ReachHouse" "relayed", .meth "ReachHouse" "heard_awake", .meth "ReachHouse" "heard_chief", .meth "ReachHouse" "crowned", .meth "ReachHouse" "came_back", .cls "WholeHouse", .mkr "WholeHouse", .noat "WholeHouse" "own", .noat "WholeHouse" "many", .noat "WholeHouse" "awake", .noat "WholeHouse" "touched", .noat "WholeHouse" "chief_name", .noat "WholeHouse" "was_first", .noat "WholeHouse" "labels", .meth "WholeHouse" "start", .meth "WholeHouse" "first_told", .meth "WholeHouse" "hear_one", .meth "WholeHouse" "heard_awake", .meth "WholeHouse" "greatest_reading", .cls "Road", .mkr "Road", .noat "Road" "letters", .noat "Road" "heard"]
def fa3 : List He.Fa := [.meth "Road" "put_on", .meth "Road" "is_clear", .meth "Road" "take_eldest", .cls "Run", .mkr "Run", .noat "Run" "homes", .noat "Run" "roads", .meth "Run" "need_house", .meth "Run" "road_at", .meth "Run" "tell_all", .meth "Run" "begin", .meth "Run" "come", .meth "Run" "begun", .meth "Run" "waiting", .meth "Run" "carried", .meth "Run" "is_still", .meth "Run" "knows", .meth "Run" "sent"]
def fa : List He.Fa := fa0 ++ fa1 ++ fa2 ++ fa3
def inh : List (PySem.Str × PySem.Str) := [("RoundHouse", "start"), ("RoundHouse", "hear_one"), ("RoundHouse", "relayed"), ("RoundHouse", "heard_chief"), ("RoundHouse", "crowned"), ("HalveHouse", "start"), ("HalveHouse", "hear_one"), ("HalveHouse", "relayed"), ("HalveHouse", "heard_chief"), ("HalveHouse", "crowned"), ("ReachHouse", "start"), ("ReachHouse", "hear_one"), ("ReachHouse", "heard_chief"), ("ReachHouse", "crowned"), ("WholeHouse", "start"), ("RoundHouse", "__init__")]
/-- the class RingHouse is read as classes are; its __init__; the two tables -/
def ex (K : PySem.W.Frag) : Bool :=
  PySem.W.readsIn K (He.ga K "RingHouse") (.type "type") && (decide (PySem.W.specialIn K (.ref (He.ga K "RingHouse")) "__getattribute__" = some (some (.builtin "type.__getattribute__"))) &&
  ((match PySem.W.findCls K (.ref (He.ga K "RingHouse")) (.type "type") "__init__" with
    | some (.val (.ref f)) => decide (f = He.ma K (He.ga K "RingHouse") "__init__")
    | _ => false) &&
  (inh.all (fun p => decide (He.ma K (He.ga K p.1) p.2 = He.ma K (He.ga K "RingHouse") p.2)) && (He.tupB K "WAYS" [.str "round", .str "halves", .str "reach"] && He.tupB K "SIDES" [.int (-1), .int 1]))))
abbrev AlM : Type := He.AlD × Bool
def obsM (g : Addr → Option Obj) : AlM := (He.obsD fa fn (He.frG g (He.asD g 5 ++ [PySem.cStatics])), ex (He.frG g (He.asD g 5 ++ [PySem.cStatics])))
structure Says (K : PySem.W.Frag) : Prop where
  c : He.SaysD fa fn K
  ex : ex K = true
def hk : PySem.W.Hook where
  α := AlM
  obs := fun s => obsM s.heap.get?
  val := fun _ => (He.valD fn, true)
  says := fun _ h => ∃ K : PySem.W.Frag, K.In h ∧ Says K
  of := fun _ _ e => ⟨_, He.frG_in, ⟨congrArg (fun z : AlM => z.1) e, congrArg (fun z : AlM => z.2) e⟩⟩
  keeps := fun _ _ _ ⟨K, hK, c⟩ k => ⟨K, PySem.W.Frag.In.keeps hK k, c⟩
abbrev R : PySem.W.OpenRow := PySem.W.OpenLaw.row PySem.Challenge.rw_ringchief_k32_whole_all_orders_of_small
def ob (s : PySem.W.SharedT) : AlM := obsM (HandSHeadRun.getT s)
theorem ob_eq (s : PySem.W.SharedT) : ob s = hk.obs s.abs := by
  have e : HandSHeadRun.getT s = s.abs.heap.get? := funext (HandSHeadRun.getT_eq s)
  show obsM (HandSHeadRun.getT s) = obsM s.abs.heap.get?
  rw [e]
/-- the head's facts over a module's names -/
structure Tx (K : PySem.W.Frag) (mg : PySem.Str → Option Value) : Prop where
  s : Says K
  g : ∀ x, (He.Fa.glo x).ok K = true → mg x = some (.ref (He.ga K x))
  b : ∀ x, (He.Fa.free x).ok K = true → mg x = none
  i : ∀ x i, (He.Fa.int x i).ok K = true → ∃ t, mg x = some (.int i t)
theorem Tx.of {K : PySem.W.Frag} {h : Heap} {mg : PySem.Str → Option Value} (X : K.In h) (G : h.Ns mainGlobals mg) (c : Says K) : Tx K mg :=
  ⟨c, fun _ e => He.glo_ok X G e, fun _ e => He.free_ok X G e, fun _ _ e => He.int_ok X G e⟩
section
variable {K : PySem.W.Frag} {mg : PySem.Str → Option Value}
theorem Tx.f (T : Tx K mg) (i : Nat) {f : He.Fa} (h : fa[i]? = some f) : f.ok K = true := T.s.c.fact i h
theorem Says.ex1 (c : Says K) : PySem.W.readsIn K (He.ga K "RingHouse") (.type "type") = true := (He.ba c.ex).1
theorem Says.ex2 (c : Says K) : PySem.W.specialIn K (.ref (He.ga K "RingHouse")) "__getattribute__" = some (some (.builtin "type.__getattribute__")) := of_decide_eq_true (He.ba (He.ba c.ex).2).1
theorem Says.ex3 (c : Says K) : PySem.W.findCls K (.ref (He.ga K "RingHouse")) (.type "type") "__init__" = some (.val (.ref (He.ma K (He.ga K "RingHouse") "__init__"))) := by
  have h := (He.ba (He.ba (He.ba c.ex).2).2).1
  split at h
  · rename_i f e
    rw [e, of_decide_eq_true h]
  · cases h
theorem Says.ex4 (c : Says K) : inh.all (fun p => decide (He.ma K (He.ga K p.1) p.2 = He.ma K (He.ga K "RingHouse") p.2)) = true := (He.ba (He.ba (He.ba (He.ba c.ex).2).2).2).1
theorem Says.ways (c : Says K) (H : Hp) : SqT K H (He.ga K "WAYS") [.str "round", .str "halves", .str "reach"] := He.tupB_ok (He.ba (He.ba (He.ba (He.ba (He.ba c.ex).2).2).2).2).1 H
theorem Says.sides (c : Says K) (H : Hp) : SqT K H (He.ga K "SIDES") [.int (-1), .int 1] := He.tupB_ok (He.ba (He.ba (He.ba (He.ba (He.ba c.ex).2).2).2).2).2 H
theorem Tx.inhd (T : Tx K mg) {c m : PySem.Str} (h : (He.Fa.meth c m).ok K = true) (i : Nat) (hi : inh[i]? = some (c, m)) : Meth K (He.ga K c) m (He.ma K (He.ga K "RingHouse") m) := by
  have e := of_decide_eq_true (List.all_eq_true.mp T.s.ex4 (c, m) (List.mem_of_getElem? hi))
  have z := He.meth_ok h
  rw [e] at z
  exact z
theorem Tx.g_RingHouse (T : Tx K mg) : mg "RingHouse" = some (.ref (He.ga K "RingHouse")) := T.g _ (T.f 0 rfl)
theorem Tx.g_HalveHouse (T : Tx K mg) : mg "HalveHouse" = some (.ref (He.ga K "HalveHouse")) := T.g _ (T.f 1 rfl)
theorem Tx.g_ReachHouse (T : Tx K mg) : mg "ReachHouse" = some (.ref (He.ga K "ReachHouse")) := T.g _ (T.f 2 rfl)
theorem Tx.g_RoundHouse (T : Tx K mg) : mg "RoundHouse" = some (.ref (He.ga K "RoundHouse")) := T.g _ (T.f 3 rfl)
theorem Tx.g_WholeHouse (T : Tx K mg) : mg "WholeHouse" = some (.ref (He.ga K "WholeHouse")) := T.g _ (T.f 4 rfl)
theorem Tx.g_Road (T : Tx K mg) : mg "Road" = some (.ref (He.ga K "Road")) := T.g _ (T.f 5 rfl)
theorem Tx.g_Run (T : Tx K mg) : mg "Run" = some (.ref (He.ga K "Run")) := T.g _ (T.f 6 rfl)
theorem Tx.g_WAYS (T : Tx K mg) : mg "WAYS" = some (.ref (He.ga K "WAYS")) := T.g _ (T.f 7 rfl)
theorem Tx.g_SIDES (T : Tx K mg) : mg "SIDES" = some (.ref (He.ga K "SIDES")) := T.g _ (T.f 8 rfl)
theorem Tx.g_is_number (T : Tx K mg) : mg "is_number" = some (.ref (He.ga K "is_number")) := T.g _ (T.f 9 rfl)
theorem Tx.g_are_numbers (T : Tx K mg) : mg "are_numbers" = some (.ref (He.ga K "are_numbers")) := T.g _ (T.f 10 rfl)
theorem Tx.g_is_ring (T : Tx K mg) : mg "is_ring" = some (.ref (He.ga K "is_ring")) := T.g _ (T.f 11 rfl)
theorem Tx.g_is_word (T : Tx K mg) : mg "is_word" = some (.ref (He.ga K "is_word")) := T.g _ (T.f 12 rfl)
theorem Tx.g_read_from (T : Tx K mg) : mg "read_from" = some (.ref (He.ga K "read_from")) := T.g _ (T.f 13 rfl)
theorem Tx.g_greatest_from (T : Tx K mg) : mg "greatest_from" = some (.ref (He.ga K "greatest_from")) := T.g _ (T.f 14 rfl)
theorem Tx.g_is_whole (T : Tx K mg) : mg "is_whole" = some (.ref (He.ga K "is_whole")) := T.g _ (T.f 15 rfl)
theorem Tx.g_goes_by (T : Tx K mg) : mg "goes_by" = some (.ref (He.ga K "goes_by")) := T.g _ (T.f 16 rfl)
theorem Tx.g_house_by (T : Tx K mg) : mg "house_by" = some (.ref (He.ga K "house_by")) := T.g _ (T.f 17 rfl)
theorem Tx.g__law_mixed (T : Tx K mg) : mg "_law_mixed" = some (.ref (He.ga K "_law_mixed")) := T.g _ (T.f 18 rfl)
theorem Tx.g__law_pot (T : Tx K mg) : mg "_law_pot" = some (.ref (He.ga K "_law_pot")) := T.g _ (T.f 19 rfl)
theorem Tx.g__law_draw (T : Tx K mg) : mg "_law_draw" = some (.ref (He.ga K "_law_draw")) := T.g _ (T.f 20 rfl)
theorem Tx.g__law_ring (T : Tx K mg) : mg "_law_ring" = some (.ref (He.ga K "_law_ring")) := T.g _ (T.f 21 rfl)
theorem Tx.g__law_word (T : Tx K mg) : mg "_law_word" = some (.ref (He.ga K "_law_word")) := T.g _ (T.f 22 rfl)
theorem Tx.g__law_reading (T : Tx K mg) : mg "_law_reading" = some (.ref (He.ga K "_law_reading")) := T.g _ (T.f 23 rfl)
theorem Tx.g__law_rows (T : Tx K mg) : mg "_law_rows" = some (.ref (He.ga K "_law_rows")) := T.g _ (T.f 24 rfl)
theorem Tx.g__law_stop (T : Tx K mg) : mg "_law_stop" = some (.ref (He.ga K "_law_stop")) := T.g _ (T.f 25 rfl)
theorem Tx.g__law_total (T : Tx K mg) : mg "_law_total" = some (.ref (He.ga K "_law_total")) := T.g _ (T.f 26 rfl)
theorem Tx.g__law_done (T : Tx K mg) : mg "_law_done" = some (.ref (He.ga K "_law_done")) := T.g _ (T.f 27 rfl)
theorem Tx.g__law_onward (T : Tx K mg) : mg "_law_onward" = some (.ref (He.ga K "_law_onward")) := T.g _ (T.f 28 rfl)
theorem Tx.g__law_key (T : Tx K mg) : mg "_law_key" = some (.ref (He.ga K "_law_key")) := T.g _ (T.f 29 rfl)
theorem Tx.g__law_is_right (T : Tx K mg) : mg "_law_is_right" = some (.ref (He.ga K "_law_is_right")) := T.g _ (T.f 30 rfl)
theorem Tx.g_law (T : Tx K mg) : mg "law" = some (.ref (He.ga K "law")) := T.g _ (T.f 31 rfl)
theorem Tx.b_isinstance (T : Tx K mg) : mg "isinstance" = none := T.b _ (T.f 32 rfl)
theorem Tx.b_int (T : Tx K mg) : mg "int" = none := T.b _ (T.f 33 rfl)
theorem Tx.b_bool (T : Tx K mg) : mg "bool" = none := T.b _ (T.f 34 rfl)
theorem Tx.b_tuple (T : Tx K mg) : mg "tuple" = none := T.b _ (T.f 35 rfl)
theorem Tx.b_len (T : Tx K mg) : mg "len" = none := T.b _ (T.f 36 rfl)
theorem Tx.b_all (T : Tx K mg) : mg "all" = none := T.b _ (T.f 37 rfl)
theorem Tx.b_set (T : Tx K mg) : mg "set" = none := T.b _ (T.f 38 rfl)
theorem Tx.b_range (T : Tx K mg) : mg "range" = none := T.b _ (T.f 39 rfl)
theorem Tx.b_max (T : Tx K mg) : mg "max" = none := T.b _ (T.f 40 rfl)
theorem Tx.b_enumerate (T : Tx K mg) : mg "enumerate" = none := T.b _ (T.f 41 rfl)
theorem Tx.b_str (T : Tx K mg) : mg "str" = none := T.b _ (T.f 42 rfl)
theorem Tx.b_sum (T : Tx K mg) : mg "sum" = none := T.b _ (T.f 43 rfl)
theorem Tx.b_list (T : Tx K mg) : mg "list" = none := T.b _ (T.f 44 rfl)
theorem Tx.b_sorted (T : Tx K mg) : mg "sorted" = none := T.b _ (T.f 45 rfl)
theorem Tx.b_min (T : Tx K mg) : mg "min" = none := T.b _ (T.f 46 rfl)
theorem Tx.i_MOST_HOUSES (T : Tx K mg) : ∃ t, mg "MOST_HOUSES" = some (.int 64 t) := T.i _ _ (T.f 47 rfl)
theorem Tx.i_MOST_NAME (T : Tx K mg) : ∃ t, mg "MOST_NAME" = some (.int 1000000000000 t) := T.i _ _ (T.f 48 rfl)
theorem Tx.i_MOST_LABEL (T : Tx K mg) : ∃ t, mg "MOST_LABEL" = some (.int 99 t) := T.i _ _ (T.f 49 rfl)
theorem Tx.c_RoundHouse (T : Tx K mg) : Cls K (He.ga K "RoundHouse") := He.cls_ok (T.f 50 rfl)
theorem Tx.mk_RoundHouse (T : Tx K mg) : Mk K (He.ga K "RoundHouse") (He.ma K (He.ga K "RoundHouse") "__init__") := He.mkr_ok (T.f 51 rfl)
theorem Tx.n_RoundHouse_own (T : Tx K mg) : NoAttr K (He.ga K "RoundHouse") "own" := He.noat_ok (T.f 52 rfl)
theorem Tx.n_RoundHouse_many (T : Tx K mg) : NoAttr K (He.ga K "RoundHouse") "many" := He.noat_ok (T.f 53 rfl)
theorem Tx.n_RoundHouse_awake (T : Tx K mg) : NoAttr K (He.ga K "RoundHouse") "awake" := He.noat_ok (T.f 54 rfl)
theorem Tx.n_RoundHouse_touched (T : Tx K mg) : NoAttr K (He.ga K "RoundHouse") "touched" := He.noat_ok (T.f 55 rfl)
theorem Tx.n_RoundHouse_chief_name (T : Tx K mg) : NoAttr K (He.ga K "RoundHouse") "chief_name" := He.noat_ok (T.f 56 rfl)
theorem Tx.n_RoundHouse_was_first (T : Tx K mg) : NoAttr K (He.ga K "RoundHouse") "was_first" := He.noat_ok (T.f 57 rfl)
theorem Tx.m_RoundHouse_start (T : Tx K mg) : Meth K (He.ga K "RoundHouse") "start" (He.ma K (He.ga K "RingHouse") "start") := T.inhd (T.f 58 rfl) 0 rfl
theorem Tx.m_RoundHouse_first_told (T : Tx K mg) : Meth K (He.ga K "RoundHouse") "first_told" (He.ma K (He.ga K "RoundHouse") "first_told") := He.meth_ok (T.f 59 rfl)
theorem Tx.m_RoundHouse_hear_one (T : Tx K mg) : Meth K (He.ga K "RoundHouse") "hear_one" (He.ma K (He.ga K "RingHouse") "hear_one") := T.inhd (T.f 60 rfl) 1 rfl
theorem Tx.m_RoundHouse_relayed (T : Tx K mg) : Meth K (He.ga K "RoundHouse") "relayed" (He.ma K (He.ga K "RingHouse") "relayed") := T.inhd (T.f 61 rfl) 2 rfl
theorem Tx.m_RoundHouse_heard_awake (T : Tx K mg) : Meth K (He.ga K "RoundHouse") "heard_awake" (He.ma K (He.ga K "RoundHouse") "heard_awake") := He.meth_ok (T.f 62 rfl)
theorem Tx.m_RoundHouse_heard_chief (T : Tx K mg) : Meth K (He.ga K "RoundHouse") "heard_chief" (He.ma K (He.ga K "RingHouse") "heard_chief") := T.inhd (T.f 63 rfl) 3 rfl
theorem Tx.m_RoundHouse_crowned (T : Tx K mg) : Meth K (He.ga K "RoundHouse") "crowned" (He.ma K (He.ga K "RingHouse") "crowned") := T.inhd (T.f 64 rfl) 4 rfl
theorem Tx.c_HalveHouse (T : Tx K mg) : Cls K (He.ga K "HalveHouse") := He.cls_ok (T.f 65 rfl)
theorem Tx.mk_HalveHouse (T : Tx K mg) : Mk K (He.ga K "HalveHouse") (He.ma K (He.ga K "HalveHouse") "__init__") := He.mkr_ok (T.f 66 rfl)
theorem Tx.n_HalveHouse_own (T : Tx K mg) : NoAttr K (He.ga K "HalveHouse") "own" := He.noat_ok (T.f 67 rfl)
theorem Tx.n_HalveHouse_many (T : Tx K mg) : NoAttr K (He.ga K "HalveHouse") "many" := He.noat_ok (T.f 68 rfl)
theorem Tx.n_HalveHouse_awake (T : Tx K mg) : NoAttr K (He.ga K "HalveHouse") "awake" := He.noat_ok (T.f 69 rfl)
theorem Tx.n_HalveHouse_touched (T : Tx K mg) : NoAttr K (He.ga K "HalveHouse") "touched" := He.noat_ok (T.f 70 rfl)
theorem Tx.n_HalveHouse_chief_name (T : Tx K mg) : NoAttr K (He.ga K "HalveHouse") "chief_name" := He.noat_ok (T.f 71 rfl)
theorem Tx.n_HalveHouse_was_first (T : Tx K mg) : NoAttr K (He.ga K "HalveHouse") "was_first" := He.noat_ok (T.f 72 rfl)
theorem Tx.n_HalveHouse_held (T : Tx K mg) : NoAttr K (He.ga K "HalveHouse") "held" := He.noat_ok (T.f 73 rfl)
theorem Tx.n_HalveHouse_near_name (T : Tx K mg) : NoAttr K (He.ga K "HalveHouse") "near_name" := He.noat_ok (T.f 74 rfl)
theorem Tx.n_HalveHouse_at_work (T : Tx K mg) : NoAttr K (He.ga K "HalveHouse") "at_work" := He.noat_ok (T.f 75 rfl)
theorem Tx.m_HalveHouse_start (T : Tx K mg) : Meth K (He.ga K "HalveHouse") "start" (He.ma K (He.ga K "RingHouse") "start") := T.inhd (T.f 76 rfl) 5 rfl
theorem Tx.m_HalveHouse_first_told (T : Tx K mg) : Meth K (He.ga K "HalveHouse") "first_told" (He.ma K (He.ga K "HalveHouse") "first_told") := He.meth_ok (T.f 77 rfl)
theorem Tx.m_HalveHouse_hear_one (T : Tx K mg) : Meth K (He.ga K "HalveHouse") "hear_one" (He.ma K (He.ga K "RingHouse") "hear_one") := T.inhd (T.f 78 rfl) 6 rfl
theorem Tx.m_HalveHouse_relayed (T : Tx K mg) : Meth K (He.ga K "HalveHouse") "relayed" (He.ma K (He.ga K "RingHouse") "relayed") := T.inhd (T.f 79 rfl) 7 rfl
theorem Tx.m_HalveHouse_heard_awake (T : Tx K mg) : Meth K (He.ga K "HalveHouse") "heard_awake" (He.ma K (He.ga K "HalveHouse") "heard_awake") := He.meth_ok (T.f 80 rfl)
theorem Tx.m_HalveHouse_heard_chief (T : Tx K mg) : Meth K (He.ga K "HalveHouse") "heard_chief" (He.ma K (He.ga K "RingHouse") "heard_chief") := T.inhd (T.f 81 rfl) 8 rfl
theorem Tx.m_HalveHouse_crowned (T : Tx K mg) : Meth K (He.ga K "HalveHouse") "crowned" (He.ma K (He.ga K "RingHouse") "crowned") := T.inhd (T.f 82 rfl) 9 rfl
theorem Tx.m_HalveHouse_heard_second (T : Tx K mg) : Meth K (He.ga K "HalveHouse") "heard_second" (He.ma K (He.ga K "HalveHouse") "heard_second") := He.meth_ok (T.f 83 rfl)
theorem Tx.c_ReachHouse (T : Tx K mg) : Cls K (He.ga K "ReachHouse") := He.cls_ok (T.f 84 rfl)
theorem Tx.mk_ReachHouse (T : Tx K mg) : Mk K (He.ga K "ReachHouse") (He.ma K (He.ga K "ReachHouse") "__init__") := He.mkr_ok (T.f 85 rfl)
theorem Tx.n_ReachHouse_own (T : Tx K mg) : NoAttr K (He.ga K "ReachHouse") "own" := He.noat_ok (T.f 86 rfl)
theorem Tx.n_ReachHouse_many (T : Tx K mg) : NoAttr K (He.ga K "ReachHouse") "many" := He.noat_ok (T.f 87 rfl)
theorem Tx.n_ReachHouse_awake (T : Tx K mg) : NoAttr K (He.ga K "ReachHouse") "awake" := He.noat_ok (T.f 88 rfl)
theorem Tx.n_ReachHouse_touched (T : Tx K mg) : NoAttr K (He.ga K "ReachHouse") "touched" := He.noat_ok (T.f 89 rfl)
theorem Tx.n_ReachHouse_chief_name (T : Tx K mg) : NoAttr K (He.ga K "ReachHouse") "chief_name" := He.noat_ok (T.f 90 rfl)
theorem Tx.n_ReachHouse_was_first (T : Tx K mg) : NoAttr K (He.ga K "ReachHouse") "was_first" := He.noat_ok (T.f 91 rfl)
theorem Tx.n_ReachHouse_far (T : Tx K mg) : NoAttr K (He.ga K "ReachHouse") "far" := He.noat_ok (T.f 92 rfl)
theorem Tx.n_ReachHouse_backs (T : Tx K mg) : NoAttr K (He.ga K "ReachHouse") "backs" := He.noat_ok (T.f 93 rfl)
theorem Tx.m_ReachHouse_start (T : Tx K mg) : Meth K (He.ga K "ReachHouse") "start" (He.ma K (He.ga K "RingHouse") "start") := T.inhd (T.f 94 rfl) 10 rfl
theorem Tx.m_ReachHouse_first_told (T : Tx K mg) : Meth K (He.ga K "ReachHouse") "first_told" (He.ma K (He.ga K "ReachHouse") "first_told") := He.meth_ok (T.f 95 rfl)
theorem Tx.m_ReachHouse_hear_one (T : Tx K mg) : Meth K (He.ga K "ReachHouse") "hear_one" (He.ma K (He.ga K "RingHouse") "hear_one") := T.inhd (T.f 96 rfl) 11 rfl
theorem Tx.m_ReachHouse_relayed (T : Tx K mg) : Meth K (He.ga K "ReachHouse") "relayed" (He.ma K (He.ga K "ReachHouse") "relayed") := He.meth_ok (T.f 97 rfl)
theorem Tx.m_ReachHouse_heard_awake (T : Tx K mg) : Meth K (He.ga K "ReachHouse") "heard_awake" (He.ma K (He.ga K "ReachHouse") "heard_awake") := He.meth_ok (T.f 98 rfl)
theorem Tx.m_ReachHouse_heard_chief (T : Tx K mg) : Meth K (He.ga K "ReachHouse") "heard_chief" (He.ma K (He.ga K "RingHouse") "heard_chief") := T.inhd (T.f 99 rfl) 12 rfl
theorem Tx.m_ReachHouse_crowned (T : Tx K mg) : Meth K (He.ga K "ReachHouse") "crowned" (He.ma K (He.ga K "RingHouse") "crowned") := T.inhd (T.f 100 rfl) 13 rfl
theorem Tx.m_ReachHouse_came_back (T : Tx K mg) : Meth K (He.ga K "ReachHouse") "came_back" (He.ma K (He.ga K "ReachHouse") "came_back") := He.meth_ok (T.f 101 rfl)
theorem Tx.c_WholeHouse (T : Tx K mg) : Cls K (He.ga K "WholeHouse") := He.cls_ok (T.f 102 rfl)
theorem Tx.mk_WholeHouse (T : Tx K mg) : Mk K (He.ga K "WholeHouse") (He.ma K (He.ga K "WholeHouse") "__init__") := He.mkr_ok (T.f 103 rfl)
theorem Tx.n_WholeHouse_own (T : Tx K mg) : NoAttr K (He.ga K "WholeHouse") "own" := He.noat_ok (T.f 104 rfl)
theorem Tx.n_WholeHouse_many (T : Tx K mg) : NoAttr K (He.ga K "WholeHouse") "many" := He.noat_ok (T.f 105 rfl)
theorem Tx.n_WholeHouse_awake (T : Tx K mg) : NoAttr K (He.ga K "WholeHouse") "awake" := He.noat_ok (T.f 106 rfl)
theorem Tx.n_WholeHouse_touched (T : Tx K mg) : NoAttr K (He.ga K "WholeHouse") "touched" := He.noat_ok (T.f 107 rfl)
theorem Tx.n_WholeHouse_chief_name (T : Tx K mg) : NoAttr K (He.ga K "WholeHouse") "chief_name" := He.noat_ok (T.f 108 rfl)
theorem Tx.n_WholeHouse_was_first (T : Tx K mg) : NoAttr K (He.ga K "WholeHouse") "was_first" := He.noat_ok (T.f 109 rfl)
theorem Tx.n_WholeHouse_labels (T : Tx K mg) : NoAttr K (He.ga K "WholeHouse") "labels" := He.noat_ok (T.f 110 rfl)
theorem Tx.m_WholeHouse_start (T : Tx K mg) : Meth K (He.ga K "WholeHouse") "start" (He.ma K (He.ga K "RingHouse") "start") := T.inhd (T.f 111 rfl) 14 rfl
theorem Tx.m_WholeHouse_first_told (T : Tx K mg) : Meth K (He.ga K "WholeHouse") "first_told" (He.ma K (He.ga K "WholeHouse") "first_told") := He.meth_ok (T.f 112 rfl)
theorem Tx.m_WholeHouse_hear_one (T : Tx K mg) : Meth K (He.ga K "WholeHouse") "hear_one" (He.ma K (He.ga K "WholeHouse") "hear_one") := He.meth_ok (T.f 113 rfl)
theorem Tx.m_WholeHouse_heard_awake (T : Tx K mg) : Meth K (He.ga K "WholeHouse") "heard_awake" (He.ma K (He.ga K "WholeHouse") "heard_awake") := He.meth_ok (T.f 114 rfl)
theorem Tx.m_WholeHouse_greatest_reading (T : Tx K mg) : Meth K (He.ga K "WholeHouse") "greatest_reading" (He.ma K (He.ga K "WholeHouse") "greatest_reading") := He.meth_ok (T.f 115 rfl)
theorem Tx.c_Road (T : Tx K mg) : Cls K (He.ga K "Road") := He.cls_ok (T.f 116 rfl)
theorem Tx.mk_Road (T : Tx K mg) : Mk K (He.ga K "Road") (He.ma K (He.ga K "Road") "__init__") := He.mkr_ok (T.f 117 rfl)
theorem Tx.n_Road_letters (T : Tx K mg) : NoAttr K (He.ga K "Road") "letters" := He.noat_ok (T.f 118 rfl)
theorem Tx.n_Road_heard (T : Tx K mg) : NoAttr K (He.ga K "Road") "heard" := He.noat_ok (T.f 119 rfl)
theorem Tx.m_Road_put_on (T : Tx K mg) : Meth K (He.ga K "Road") "put_on" (He.ma K (He.ga K "Road") "put_on") := He.meth_ok (T.f 120 rfl)
theorem Tx.m_Road_is_clear (T : Tx K mg) : Meth K (He.ga K "Road") "is_clear" (He.ma K (He.ga K "Road") "is_clear") := He.meth_ok (T.f 121 rfl)
theorem Tx.m_Road_take_eldest (T : Tx K mg) : Meth K (He.ga K "Road") "take_eldest" (He.ma K (He.ga K "Road") "take_eldest") := He.meth_ok (T.f 122 rfl)
theorem Tx.c_Run (T : Tx K mg) : Cls K (He.ga K "Run") := He.cls_ok (T.f 123 rfl)
theorem Tx.mk_Run (T : Tx K mg) : Mk K (He.ga K "Run") (He.ma K (He.ga K "Run") "__init__") := He.mkr_ok (T.f 124 rfl)
theorem Tx.n_Run_homes (T : Tx K mg) : NoAttr K (He.ga K "Run") "homes" := He.noat_ok (T.f 125 rfl)
theorem Tx.n_Run_roads (T : Tx K mg) : NoAttr K (He.ga K "Run") "roads" := He.noat_ok (T.f 126 rfl)
theorem Tx.m_Run_need_house (T : Tx K mg) : Meth K (He.ga K "Run") "need_house" (He.ma K (He.ga K "Run") "need_house") := He.meth_ok (T.f 127 rfl)
theorem Tx.m_Run_road_at (T : Tx K mg) : Meth K (He.ga K "Run") "road_at" (He.ma K (He.ga K "Run") "road_at") := He.meth_ok (T.f 128 rfl)
theorem Tx.m_Run_tell_all (T : Tx K mg) : Meth K (He.ga K "Run") "tell_all" (He.ma K (He.ga K "Run") "tell_all") := He.meth_ok (T.f 129 rfl)
theorem Tx.m_Run_begin (T : Tx K mg) : Meth K (He.ga K "Run") "begin" (He.ma K (He.ga K "Run") "begin") := He.meth_ok (T.f 130 rfl)
theorem Tx.m_Run_come (T : Tx K mg) : Meth K (He.ga K "Run") "come" (He.ma K (He.ga K "Run") "come") := He.meth_ok (T.f 131 rfl)
theorem Tx.m_Run_begun (T : Tx K mg) : Meth K (He.ga K "Run") "begun" (He.ma K (He.ga K "Run") "begun") := He.meth_ok (T.f 132 rfl)
theorem Tx.m_Run_waiting (T : Tx K mg) : Meth K (He.ga K "Run") "waiting" (He.ma K (He.ga K "Run") "waiting") := He.meth_ok (T.f 133 rfl)
theorem Tx.m_Run_carried (T : Tx K mg) : Meth K (He.ga K "Run") "carried" (He.ma K (He.ga K "Run") "carried") := He.meth_ok (T.f 134 rfl)
theorem Tx.m_Run_is_still (T : Tx K mg) : Meth K (He.ga K "Run") "is_still" (He.ma K (He.ga K "Run") "is_still") := He.meth_ok (T.f 135 rfl)
theorem Tx.m_Run_knows (T : Tx K mg) : Meth K (He.ga K "Run") "knows" (He.ma K (He.ga K "Run") "knows") := He.meth_ok (T.f 136 rfl)
theorem Tx.m_Run_sent (T : Tx K mg) : Meth K (He.ga K "Run") "sent" (He.ma K (He.ga K "Run") "sent") := He.meth_ok (T.f 137 rfl)
theorem Tx.mkO (T : Tx K mg) : Mk K (He.ga K "RoundHouse") (He.ma K (He.ga K "RingHouse") "__init__") := by
  have e := of_decide_eq_true (List.all_eq_true.mp T.s.ex4 ("RoundHouse", "__init__") (List.mem_of_getElem? (i := 15) rfl))
  have z := T.mk_RoundHouse
  rw [e] at z
  exact z
end
end RC
namespace RC
open PySem PySem.Spec PyProof.Rows L2
def loose1 : List PySem.Str := ["RingError", "NoRing", "NoHouse", "Began", "TooLate", "NoLetter", "RingHouse", "HalveHouse", "ReachHouse", "MOST_HOUSES", "MOST_NAME", "MOST_LABEL", "is_number", "are_numbers", "is_ring", "is_word", "RoundHouse", "read_from", "greatest_from", "WholeHouse", "WAYS", "SIDES", "is_whole", "goes_by", "house_by", "Road", "Run"]
def loose2 : List PySem.Str := ["_law_mixed", "_law_pot", "_law_draw", "_law_ring", "_law_word", "_law_reading", "_law_rows", "_law_stop", "_law_total", "_law_done", "_law_onward", "_law_key", "_law_is_right"]
def loose : List PySem.Str := loose1 ++ loose2
abbrev qv : Program := PySem.W.view R.prog [50]
theorem run (w : World) : HandSHeadRun.RunEq R qv hk ob 6000 loose w := by
  intro os
  kernel_rfl
end RC
namespace RC
open PySem PySem.Spec PyProof.Rows L2
/-! ### defs that keep a promise -/
def Okd (P : Program) (w : World) (K : PySem.W.Frag) (mg : PySem.Str → Option Value) (base : Heap) (k : Nat) (f : Addr) (ps : List PySem.Str) (sp : Sp) : Prop :=
  ∃ fd, FnOk P w K mg base CX0 k f fd ps sp ∧ Binds K fd ps []
section
variable {P : Program} {w : World} {K : PySem.W.Frag} {mg : PySem.Str → Option Value} {base : Heap}
theorem okd (T : Tx K mg) (i : Nat) (d : He.DefD) (hd : fn[i]? = some d) (h0 : d.dfl = []) {N ps : List PySem.Str} {k : Nat} {sp : Sp} (S : FnScope N ps d.scope)
    (hb : ∀ (kV doc pm : Value) (an : Option Addr) (cdv ct : Value) (us : List Value), us.length = ps.length → bindArgs (PySem.W.fnOf d.name d.qual d.params d.body d.scope .none kV doc pm an cdv ct) ⟨us, []⟩ = pure (ps.zip us))
    (len : ∀ vs H Q E, sp vs H Q E → vs.length = ps.length)
    (body : ∀ (cdv : Value) (A : Around) (outer : List Env) (s : Shared) (H : Hp) (vs : List V) (Q : VK) (E : XK), Room k (A.deeper (envOfC d.qual d.scope s.heap.objs.size (He.fAd K d.at_) cdv)) → sp vs H Q E →
      ∃ t, PSs (cxOf CX0 P w K mg base N d.qual d.scope (He.fAd K d.at_) cdv A outer s H E).nox d.body t ∧ t { nx := fun _ H' => Q .non H', rt := Q } (start N vs) H) :
    Okd P w K mg base (k + 1) (He.fAd K d.at_) ps sp := by
  obtain ⟨fd, F⟩ := T.s.c.def_ i hd
  have e : d.dvs K = [] := by
    unfold He.DefD.dvs
    rw [h0]
    rfl
  rw [e] at F
  refine ⟨fd, F.ok S len (fun cdv A outer s H vs Q E hr h => ?_), F.bindsN hb⟩
  obtain ⟨t, h1, h2⟩ := body cdv A outer s H vs Q E hr h
  exact ⟨t, h1.nox, h2⟩
theorem Okd.mono {j k : Nat} {f : Addr} {ps : List PySem.Str} {sp : Sp} (h : Okd P w K mg base j f ps sp) (le : j ≤ k) : Okd P w K mg base k f ps sp :=
  let ⟨fd, F, b⟩ := h
  ⟨fd, F.mono le, b⟩
theorem Okd.imp {k : Nat} {f : Addr} {ps : List PySem.Str} {sp sp' : Sp} (h : Okd P w K mg base k f ps sp) (le : ∀ vs H Q E, sp' vs H Q E → sp vs H Q E) : Okd P w K mg base k f ps sp' :=
  let ⟨fd, F, b⟩ := h
  ⟨fd, F.imp le, b⟩
/-- the same def by another promise, where either serves -/
theorem FnOk.or' {CX : CXT} {k : Nat} {f : Addr} {fd : FuncData} {ps : List PySem.Str} {sp sp' : Sp} (F : FnOk P w K mg base CX k f fd ps sp) (G : FnOk P w K mg base CX k f fd ps sp') :
    FnOk P w K mg base CX k f fd ps (fun vs H Q E => sp vs H Q E ∨ sp' vs H Q E) :=
  ⟨fun vs H Q E h => h.elim (F.len vs H Q E) (G.len vs H Q E), fun A outer s H args us vs Q E hr he hb hv h => h.elim (F.run A outer s H args us vs Q E hr he hb hv) (G.run A outer s H args us vs Q E hr he hb hv)⟩
end
theorem Tx.kp {K : PySem.W.Frag} {mg : PySem.Str → Option Value} (T : Tx K mg) (i : Nat) {d : He.DefD} (hd : fn[i]? = some d) : PySem.W.keepIn K (.ref (He.fAd K d.at_)) = true :=
  let ⟨_, F⟩ := T.s.c.def_ i hd
  F.kp
/-! ### C.m(e, ..), m a plain def of the class C -/
def tClsf (C : Addr) (sp : Sp) (E : XK) (to : TE) (t : TA) : TE := fun σ H Q => to σ H fun x H1 => x = .ref C ∧ t σ H1 fun vs H2 => sp vs H2 Q E
section
variable {X : Cx} {CX : CXT} {k : Nat} {f C : Addr} {fd : FuncData} {ps : List PySem.Str} {sp : Sp} {E : XK} {m : PySem.Str} {pos apos : Pos} {e o : Expr} {es : List Expr} {to : TE} {t : TA}
theorem pe_clsf {pl : Sem Bool} (he : PE X o to) (rd : ClX.CRead X.K C (.type "type")) (at_ : PySem.W.findCls X.K (.ref C) (.type "type") m = some (.val (.ref f))) (hk : PySem.W.keepIn X.K (.ref f) = true)
    (F : FnOk X.prog X.w X.K X.mg X.base CX k f fd ps sp) (hr : Room k X.A) (hb : Binds X.K fd ps []) (hx : Passes CX X E) (ha : PA X (e :: es) t)
    (hst : starEach (e :: es) X.env = (false, eval e X.env) :: starEach es X.env := by rfl) (hpl : (backTo pos (starEach es X.env)).any (·.1) = false := by rfl)
    (ht : eval (.Call (.Attribute o m apos) (e :: es) [] pos) X.env = (do
      let ov ← eval o X.env
      standAt apos.atName
      let (f, first) ← holding [ov] (getMethod ov m pl)
      callWith pos f first (backTo pos (starEach (e :: es) X.env)) (backToKw pos (keywordEach [] X.env))) := by rfl) :
    PE X (.Call (.Attribute o m apos) (e :: es) [] pos) (tClsf C sp E to t) := by
  constructor
  intro pins s σ H Q I h
  refine PySem.W.methodCall_KW (pl := pl) (thn (he.run pins s σ H _ I h) ?_) ht
  rintro u s1 ⟨x, H1, I1, rx, ex, q⟩
  subst ex
  obtain rfl : u = Value.ref C := rx
  refine PySem.W.method_cls I1.kIn rd.ga (ClX.getcval_ok (v := .ref f) I1 rd ⟨at_, rfl⟩ fun s2 I2 => ?_)
  refine PySem.W.callWith_K (first := []) (h₀ := X.base) I.ok.mod.kin hk (thn (ha.run pos pins s2 σ H1 _ I2 q) ?_) hst hpl
  rintro us s3 ⟨vs, H3, I3, r, q3⟩
  refine ⟨I3.kIn, run_fn (us := us) (vs := vs) (dvs := []) (ds := []) F hr hb .nil hx I3 r ?_⟩
  rw [List.append_nil]
  exact q3
end
end RC
namespace RC
open PySem PySem.Spec PyProof.Rows L2
theorem sz (k : Nat) (h : k ≤ 1000 := by decide) : k ≤ sizeLine := Nat.le_trans h (by decide)
/-! ### letters, what is told, houses: how they lie in the heap -/
def Lt.items : Lt → List V
  | .name v => [.str "name", .int v]
  | .chief v => [.str "chief", .int v]
  | .first v => [.str "first", .int v]
  | .second v => [.str "second", .int v]
  | .label v => [.str "label", .int v]
  | .probe v r s => [.str "probe", .int v, .int r, .int s]
  | .back v r => [.str "back", .int v, .int r]
def LtAt (H : Hp) (v : V) (l : Lt) : Prop := ∃ a, v = .ref a ∧ H a = some (.tup l.items)
def PairAt (H : Hp) (d : V) (p : Int × Lt) : Prop := ∃ a lv, d = .ref a ∧ H a = some (.tup [.int p.1, lv]) ∧ LtAt H lv p.2
def ToldAt (H : Hp) (t : Addr) (told : Told) : Prop := ∃ ds, H t = some (.lst ds) ∧ Paired (PairAt H) ds told
/-- tuples stay -/
def TupS (H H' : Hp) : Prop := ∀ b xs, H b = some (.tup xs) → H' b = some (.tup xs)
/-- all but what stands at p and q stays -/
def But (p q : Addr) (H H' : Hp) : Prop := ∀ b o, H b = some o → b ≠ p → b ≠ q → H' b = some o
theorem tupsS {H H' : Hp} (s : Same H H') : TupS H H' := fun b xs e => s b _ e
theorem TupS.refl (H : Hp) : TupS H H := fun _ _ h => h
theorem TupS.trans {H H1 H2 : Hp} (a : TupS H H1) (b : TupS H1 H2) : TupS H H2 := fun c xs h => b c xs (a c xs h)
theorem LtAt.keep {H H' : Hp} (k : TupS H H') {v : V} {l : Lt} (x : LtAt H v l) : LtAt H' v l := let ⟨a, e, h⟩ := x; ⟨a, e, k _ _ h⟩
theorem PairAt.keep {H H' : Hp} (k : TupS H H') {v : V} {l : Int × Lt} (x : PairAt H v l) : PairAt H' v l := let ⟨a, lv, e, h, z⟩ := x; ⟨a, lv, e, k _ _ h, z.keep k⟩
theorem But.refl (p q : Addr) (H : Hp) : But p q H H := fun _ _ h _ _ => h
theorem But.trans {p q : Addr} {H H1 H2 : Hp} (a : But p q H H1) (b : But p q H1 H2) : But p q H H2 := fun c o h n1 n2 => b c o (a c o h n1 n2) n1 n2
theorem But.same {p q : Addr} {H H1 H2 : Hp} (a : But p q H H1) (b : Same H1 H2) : But p q H H2 := fun c o h n1 n2 => b c o (a c o h n1 n2)
theorem butS {p q : Addr} {H H1 : Hp} (a : Same H H1) : But p q H H1 := fun c o h _ _ => a c o h
theorem But.upd {p q : Addr} {H : Hp} {o : HO} : But p q H (upd H p o) := fun b u h n1 _ => by rw [upd_ne n1]; exact h
theorem newS {H : Hp} {a : Addr} {o : HO} (n : H a = none) : Same H (upd H a o) := fun b u h => by rw [upd_ne (ne_of_none h n)]; exact h
theorem updN {H : Hp} {a b : Addr} {o : HO} (h : upd H a o b = none) : H b = none := by
  by_cases e : b = a
  · rw [e, upd_same] at h
    cases h
  · rw [upd_ne e] at h
    exact h
/-- a value of None or an int -/
def oiV : Option Int → V
  | none => .non
  | some v => .int v
/-- the fields of every house -/
def baseF (ho : Ho) (n : Nat) (cv : V) : List (PySem.Str × V) := [("own", .int ho.own), ("many", .int n), ("awake", .bl ho.awake), ("touched", .bl ho.touched), ("chief_name", cv), ("was_first", .bl ho.crown)]
def moreF (y : Wy) (ho : Ho) (la : Addr) : List (PySem.Str × V) := match y with
  | .round => []
  | .halves => [("held", .int ho.held), ("near_name", oiV ho.near), ("at_work", .bl ho.work)]
  | .reach => [("far", .int ho.far), ("backs", .int ho.backs)]
  | .whole => [("labels", .ref la)]
def houF (y : Wy) (ho : Ho) (n : Nat) (cv : V) (la : Addr) : List (PySem.Str × V) := baseF ho n cv ++ moreF y ho la
theorem houF_len (y : Wy) (ho : Ho) (n : Nat) (cv : V) (la : Addr) : (houF y ho n cv la).length < 1000 := by
  cases y <;> simp [houF, baseF, moreF]
/-- the greatest of all turns of w, () where it is there twice -/
def rots (w : List Int) : List (List Int) := (List.range w.length).map (rot w)
def lexLe (a b : List Int) : Prop := HT.lexLt b a = false
def GR (w r : List Int) : Prop := ∃ g, g ∈ rots w ∧ (∀ x ∈ rots w, lexLe x g) ∧ r = if 1 < (rots w).count g then [] else g
/-- what a house knows, as a value -/
inductive ChV (y : Wy) (H : Hp) : V → Option (List Int) → Prop
  | no : ChV y H .non none
  | nm (m : Int) (h : y ≠ .whole) : ChV y H (.int m) (some [m])
  | rd (a : Addr) (r w : List Int) (h : y = .whole) (e : H a = some (.tup (r.map V.int))) (g : GR w r) : ChV y H (.ref a) (some w)
theorem ChV.keep {y : Wy} {H H' : Hp} (k : TupS H H') {v : V} {c : Option (List Int)} (x : ChV y H v c) : ChV y H' v c := by
  cases x with
  | no => exact .no
  | nm m h => exact .nm m h
  | rd a r w h e g => exact .rd a r w h (k _ _ e) g
def clsS : Wy → PySem.Str
  | .round => "RoundHouse"
  | .halves => "HalveHouse"
  | .reach => "ReachHouse"
  | .whole => "WholeHouse"
/-- the class of the houses of a way -/
abbrev HoC (K : PySem.W.Frag) (y : Wy) : Addr := He.ga K (clsS y)
/-- a house stands at p (its labels' list at la, by whole) -/
structure HouAt (K : PySem.W.Frag) (y : Wy) (n : Nat) (H : Hp) (p la : Addr) (ho : Ho) : Prop where
  ob : ∃ dx cv, H p = some (.ins (HoC K y) dx (houF y ho n cv la)) ∧ ChV y H cv ho.chief
  lab : y = .whole → H la = some (.lst (ho.labels.map V.int))

theorem Tx.hn_own {K : PySem.W.Frag} {mg : PySem.Str → Option Value} (T : Tx K mg) (y : Wy) : NoAttr K (HoC K y) "own" := match y with
  | .round => T.n_RoundHouse_own
  | .halves => T.n_HalveHouse_own
  | .reach => T.n_ReachHouse_own
  | .whole => T.n_WholeHouse_own
theorem Tx.hn_many {K : PySem.W.Frag} {mg : PySem.Str → Option Value} (T : Tx K mg) (y : Wy) : NoAttr K (HoC K y) "many" := match y with
  | .round => T.n_RoundHouse_many
  | .halves => T.n_HalveHouse_many
  | .reach => T.n_ReachHouse_many
  | .whole => T.n_WholeHouse_many
theorem Tx.hn_awake {K : PySem.W.Frag} {mg : PySem.Str → Option Value} (T : Tx K mg) (y : Wy) : NoAttr K (HoC K y) "awake" := match y with
  | .round => T.n_RoundHouse_awake
  | .halves => T.n_HalveHouse_awake
  | .reach => T.n_ReachHouse_awake
  | .whole => T.n_WholeHouse_awake
theorem Tx.hn_touched {K : PySem.W.Frag} {mg : PySem.Str → Option Value} (T : Tx K mg) (y : Wy) : NoAttr K (HoC K y) "touched" := match y with
  | .round => T.n_RoundHouse_touched
  | .halves => T.n_HalveHouse_touched
  | .reach => T.n_ReachHouse_touched
  | .whole => T.n_WholeHouse_touched
theorem Tx.hn_chief_name {K : PySem.W.Frag} {mg : PySem.Str → Option Value} (T : Tx K mg) (y : Wy) : NoAttr K (HoC K y) "chief_name" := match y with
  | .round => T.n_RoundHouse_chief_name
  | .halves => T.n_HalveHouse_chief_name
  | .reach => T.n_ReachHouse_chief_name
  | .whole => T.n_WholeHouse_chief_name
theorem Tx.hn_was_first {K : PySem.W.Frag} {mg : PySem.Str → Option Value} (T : Tx K mg) (y : Wy) : NoAttr K (HoC K y) "was_first" := match y with
  | .round => T.n_RoundHouse_was_first
  | .halves => T.n_HalveHouse_was_first
  | .reach => T.n_ReachHouse_was_first
  | .whole => T.n_WholeHouse_was_first
theorem Tx.hc {K : PySem.W.Frag} {mg : PySem.Str → Option Value} (T : Tx K mg) (y : Wy) : Cls K (HoC K y) := match y with
  | .round => T.c_RoundHouse
  | .halves => T.c_HalveHouse
  | .reach => T.c_ReachHouse
  | .whole => T.c_WholeHouse
section
variable {K : PySem.W.Frag} {y : Wy} {n : Nat} {H H' : Hp} {p la : Addr} {ho ho' : Ho}
theorem HouAt.same (h : HouAt K y n H p la ho) (s : Same H H') : HouAt K y n H' p la ho :=
  ⟨let ⟨dx, cv, e, c⟩ := h.ob; ⟨dx, cv, s _ _ e, c.keep (tupsS s)⟩, fun q => s _ _ (h.lab q)⟩
/-- the house is written -/
theorem HouAt.set {C dx : Addr} {fs0 fs : List (PySem.Str × V)} {cv : V} (hp : H p = some (.ins C dx fs0)) (lab : y = .whole → H la = some (.lst (ho'.labels.map V.int))) (e : fs = houF y ho' n cv la) (c : ChV y H cv ho'.chief) :
    HouAt K y n (upd H p (.ins (HoC K y) dx fs)) p la ho' := by
  subst e
  have k : TupS H (upd H p (.ins (HoC K y) dx (houF y ho' n cv la))) := fun b xs q => by
    rw [upd_ne (ne_of q hp (by intro z; cases z))]
    exact q
  refine ⟨⟨dx, cv, upd_same, c.keep k⟩, fun q => ?_⟩
  have z := lab q
  rw [upd_ne (ne_of z hp (by intro x; cases x))]
  exact z
theorem HouAt.la_ne (h : HouAt K y n H p la ho) (q : y = .whole) : la ≠ p := by
  obtain ⟨dx, cv, e, _⟩ := h.ob
  exact ne_of (h.lab q) e (by intro z; cases z)
theorem But.tups (h : HouAt K y n H p la ho) (q : la = p ∨ y = .whole) (b : But p la H H') : TupS H H' := fun c xs e => by
  obtain ⟨dx, cv, e1, _⟩ := h.ob
  have n1 : c ≠ p := ne_of e e1 (by intro z; cases z)
  refine b c _ e n1 ?_
  rcases q with q | q
  · rw [q]; exact n1
  · exact ne_of e (h.lab q) (by intro z; cases z)
end
/-! ### lists of what is told -/
section
variable {H : Hp} {t a b : Addr} {s : Int} {l : Lt} {lv : V}
theorem told0 : ToldAt (upd H t (.lst [])) t [] := ⟨[], upd_same, .nil⟩
/-- one letter that stood already -/
theorem told1 (hl : LtAt H lv l) (hb : H b = none) (ht : upd H b (.tup [.int s, lv]) t = none) :
    ToldAt (upd (upd H b (.tup [.int s, lv])) t (.lst [.ref b])) t [(s, l)] ∧ Same H (upd (upd H b (.tup [.int s, lv])) t (.lst [.ref b])) := by
  have s1 : Same H (upd H b (.tup [.int s, lv])) := newS hb
  have s2 : Same (upd H b (.tup [.int s, lv])) (upd (upd H b (.tup [.int s, lv])) t (.lst [.ref b])) := newS ht
  exact ⟨⟨_, upd_same, .cons ⟨b, lv, rfl, s2 _ _ upd_same, (hl.keep (tupsS s1)).keep (tupsS s2)⟩ .nil⟩, s1.trans s2⟩
/-- a new letter -/
theorem told1n (ha : H a = none) (hb : upd H a (.tup l.items) b = none) (ht : upd (upd H a (.tup l.items)) b (.tup [.int s, .ref a]) t = none) :
    ToldAt (upd (upd (upd H a (.tup l.items)) b (.tup [.int s, .ref a])) t (.lst [.ref b])) t [(s, l)] ∧ Same H (upd (upd (upd H a (.tup l.items)) b (.tup [.int s, .ref a])) t (.lst [.ref b])) := by
  have s1 : Same H (upd H a (.tup l.items)) := newS ha
  obtain ⟨h1, h2⟩ := told1 (H := upd H a (.tup l.items)) (lv := .ref a) (l := l) ⟨a, rfl, upd_same⟩ hb ht
  exact ⟨h1, s1.trans h2⟩
end
/-! ### promises -/
def outH (K : PySem.W.Frag) (y : Wy) (n : Nat) (p la : Addr) (H : Hp) (Q : VK) (r : Ho × Told) : Prop := ∀ H' t, HouAt K y n H' p la r.1 → ToldAt H' t r.2 → But p la H H' → H t = none → Q (.ref t) H'
def spFirst (K : PySem.W.Frag) (y : Wy) : Sp := fun vs H Q _ => ∃ (n : Nat) (p la : Addr) (ho : Ho), vs = [.ref p] ∧ (n ≤ 64 ∧ ho.labels.length ≤ 60) ∧ HouAt K y n H p la ho ∧ outH K y n p la H Q (firstTold y n ho)
def spStart (K : PySem.W.Frag) (y : Wy) : Sp := fun vs H Q _ => ∃ (n : Nat) (p la : Addr) (ho : Ho), vs = [.ref p] ∧ (n ≤ 64 ∧ ho.labels.length ≤ 60) ∧ HouAt K y n H p la ho ∧ outH K y n p la H Q (startH y n ho)
def spCrown (K : PySem.W.Frag) (y : Wy) : Sp := fun vs H Q _ => ∃ (n : Nat) (p la : Addr) (ho : Ho) (m : Int), vs = [.ref p, .int m] ∧ y ≠ .whole ∧ HouAt K y n H p la ho ∧ outH K y n p la H Q (crowned ho m)
def spChief (K : PySem.W.Frag) (y : Wy) : Sp := fun vs H Q _ => ∃ (n : Nat) (p la : Addr) (ho : Ho) (m : Int) (lv : V), vs = [.ref p, lv] ∧ y ≠ .whole ∧ HouAt K y n H p la ho ∧ LtAt H lv (.chief m) ∧ outH K y n p la H Q (heardChief ho m)
def spRelay (y : Wy) : Sp := fun vs H Q _ => ∃ (p : V) (s : Int) (l : Lt) (lv : V), vs = [p, .int s, lv] ∧ LtAt H lv l ∧ ∀ H' t, ToldAt H' t (relayed y s l) → Same H H' → H t = none → Q (.ref t) H'
def spAwake (K : PySem.W.Frag) (y : Wy) : Sp := fun vs H Q _ => ∃ (n : Nat) (p la : Addr) (ho : Ho) (s : Int) (l : Lt) (lv : V) (r : Ho × Told), vs = [.ref p, .int s, lv] ∧ n ≤ 64 ∧ HouAt K y n H p la ho ∧ LtAt H lv l ∧ ho.labels.length ≤ 60 ∧ heardAwake y n ho s l = some r ∧ outH K y n p la H Q r
def spHear (K : PySem.W.Frag) (y : Wy) : Sp := fun vs H Q _ => ∃ (n : Nat) (p la : Addr) (ho : Ho) (s : Int) (l : Lt) (lv : V) (r : Ho × Told), vs = [.ref p, .int s, lv] ∧ n ≤ 64 ∧ HouAt K y n H p la ho ∧ LtAt H lv l ∧ ho.labels.length ≤ 60 ∧ hear y n ho s l = some r ∧ outH K y n p la H Q r
/-! ### the defs of RingHouse -/
section
variable {P : Program} {w : World} {K : PySem.W.Frag} {mg : PySem.Str → Option Value} {base : Heap}
abbrev RhF (K : PySem.W.Frag) (m : PySem.Str) : Addr := He.fAd K ("RingHouse", some m)
theorem ok_Rh_start (T : Tx K mg) (y : Wy) {k : Nat} {f : Addr} (M : Meth K (HoC K y) "first_told" f) (G : Okd P w K mg base k f ["self"] (spFirst K y)) : Okd P w K mg base (k + 1) (RhF K "start") P_Rh_start (spStart K y) := by
  obtain ⟨fdF, GF, bF⟩ := G
  refine okd T 1 d_Rh_start rfl rfl (N := N_Rh_start) sc_Rh_start (fun _ _ _ _ _ _ us hl => match us, hl with | [_], _ => rfl) (fun vs H Q E h => ?_) (fun cdv A outer s H vs Q E hr h => ?_)
  · obtain ⟨n, p, la, ho, rfl, _⟩ := h
    rfl
  · obtain ⟨n, p, la, ho, rfl, hn, hh, out⟩ := h
    obtain ⟨dx, cv, hp, hc⟩ := hh.ob
    refine ⟨_, pss_cons (ps_fld (pv 0) pe_bl rfl) (pss_one (ps_ret (pe_meth0 (pv 0) (T.hc y) M GF hr bF .nil pass0))), ?_⟩
    refine ⟨_, rfl, p, _, dx, _, rfl, hp, T.hc y, T.hn_awake y, houF_len .., ?_⟩
    refine ⟨_, rfl, p, dx, _, rfl, upd_same, (by cases y <;> kernel_rfl), n, p, la, { ho with awake := true }, rfl, hn, HouAt.set hp hh.lab (by kernel_rfl) hc, fun H' t h1 h2 h3 h4 => ?_⟩
    exact out H' t h1 h2 (But.upd.trans h3) (updN h4)
end
end RC
namespace RC
open PySem PySem.Spec PyProof.Rows L2
section
variable {P : Program} {w : World} {K : PySem.W.Frag} {mg : PySem.Str → Option Value} {base : Heap}
theorem ok_Rh_crown (T : Tx K mg) (y : Wy) : Okd P w K mg base 1 (RhF K "crowned") P_Rh_crown (spCrown K y) := by
  refine okd T 5 d_Rh_crown rfl rfl (N := N_Rh_crown) sc_Rh_crown (fun _ _ _ _ _ _ us hl => match us, hl with | [_, _], _ => rfl) (fun vs H Q E h => ?_) (fun cdv A outer s H vs Q E hr h => ?_)
  · obtain ⟨n, p, la, ho, m, rfl, _⟩ := h
    rfl
  · obtain ⟨n, p, la, ho, m, rfl, hy, hh, out⟩ := h
    obtain ⟨dx, cv, hp, hc⟩ := hh.ob
    refine ⟨_, pss_cons (ps_fld (pv 0) (pv 1) rfl) (pss_cons (ps_fld (pv 0) pe_bl rfl)
      (pss_one (ps_ret (pe_lst (pa_cons (pe_tup (pa_cons pe_int (pa_cons (pe_tup (pa_cons pe_str (pa_cons (pv 1) pa_nil))) pa_nil))) pa_nil))))), ?_⟩
    refine ⟨_, rfl, _, rfl, p, _, dx, _, rfl, hp, T.hc y, T.hn_chief_name y, houF_len .., ?_⟩
    have e1 : putF "chief_name" (V.int m) (houF y ho n cv la) = houF y { ho with chief := some [m] } n (.int m) la := by kernel_rfl
    rw [e1]
    have h1 : HouAt K y n (upd H p (.ins (HoC K y) dx (houF y { ho with chief := some [m] } n (.int m) la))) p la { ho with chief := some [m] } := HouAt.set hp hh.lab rfl (.nm m hy)
    refine ⟨_, rfl, p, _, dx, _, rfl, upd_same, T.hc y, T.hn_was_first y, houF_len .., ?_⟩
    have h2 := HouAt.set (K := K) (n := n) (ho' := { ho with chief := some [m], crown := true }) (fs := putF "was_first" (.bl true) (houF y { ho with chief := some [m] } n (.int m) la)) (dx := dx) (upd_same (H := H) (a := p) (o := .ins (HoC K y) dx (houF y { ho with chief := some [m] } n (.int m) la))) h1.lab (by kernel_rfl) (.nm m hy)
    refine ⟨_, rfl, sz 2, fun a ha => ⟨sz 2, fun b hb => ⟨sz 1, fun t ht => ?_⟩⟩⟩
    obtain ⟨t1, t2⟩ := told1n (s := 1) (l := .chief m) ha hb ht
    exact out _ t (h2.same t2) t1 ((But.upd.trans But.upd).same t2) (by first | exact ht | exact updN ht | exact updN (updN ht) | exact updN (updN (updN ht)) | exact updN (updN (updN (updN ht))) | exact updN (updN (updN (updN (updN ht)))))
theorem ok_Rh_chief (T : Tx K mg) (y : Wy) : Okd P w K mg base 1 (RhF K "heard_chief") P_Rh_chief (spChief K y) := by
  refine okd T 4 d_Rh_chief rfl rfl (N := N_Rh_chief) sc_Rh_chief (fun _ _ _ _ _ _ us hl => match us, hl with | [_, _], _ => rfl) (fun vs H Q E h => ?_) (fun cdv A outer s H vs Q E hr h => ?_)
  · obtain ⟨n, p, la, ho, m, lv, rfl, _⟩ := h
    rfl
  · obtain ⟨n, p, la, ho, m, lv, rfl, hy, hh, hl, out⟩ := h
    obtain ⟨dx, cv, hp, hc⟩ := hh.ob
    obtain ⟨a, rfl, ha⟩ := id hl
    refine ⟨_, pss_cons (ps_fld (pv 0) (pe_ix ix_tup (pv 1) pe_int (fun _ _ => rfl)) rfl) (pss_cons (ps_if (pt_val (pe_fld (pv 0) rfl)) (pss_one (ps_ret (pe_lst pa_nil))) pss_nil)
      (pss_one (ps_ret (pe_lst (pa_cons (pe_tup (pa_cons pe_int (pa_cons (pv 1) pa_nil))) pa_nil))))), ?_⟩
    refine ⟨_, rfl, a, _, _, .int m, rfl, rfl, SqT.of ha, rfl, _, rfl, p, _, dx, _, rfl, hp, T.hc y, T.hn_chief_name y, houF_len .., ?_⟩
    have h1 : HouAt K y n (upd H p (.ins (HoC K y) dx (putF "chief_name" (V.int m) (houF y ho n cv la)))) p la { ho with chief := some [m] } := HouAt.set hp hh.lab (by kernel_rfl) (.nm m hy)
    refine ⟨_, rfl, p, _, dx, _, _, rfl, upd_same, T.hc y, T.hn_was_first y, (show _ = some (V.bl ho.crown) by kernel_rfl), _, rfl, ?_⟩
    cases hcr : ho.crown with
    | true =>
      refine iteT ⟨sz 0, fun t ht => ?_⟩
      refine out _ t ?_ ?_ (But.upd.same (newS ht)) (by first | exact ht | exact updN ht | exact updN (updN ht) | exact updN (updN (updN ht)) | exact updN (updN (updN (updN ht))) | exact updN (updN (updN (updN (updN ht)))))
      · exact h1.same (newS ht)
      · unfold heardChief
        rw [hcr]
        exact told0
    | false =>
      refine iteF ⟨_, rfl, sz 2, fun b hb => ⟨sz 1, fun t ht => ?_⟩⟩
      have na : a ≠ p := ne_of ha hp (by intro z; cases z)
      obtain ⟨t1, t2⟩ := told1 (s := 1) (l := .chief m) (lv := .ref a) ⟨a, rfl, by rw [upd_ne na]; exact ha⟩ hb ht
      refine out _ t (h1.same t2) ?_ (But.upd.same t2) (by first | exact ht | exact updN ht | exact updN (updN ht) | exact updN (updN (updN ht)) | exact updN (updN (updN (updN ht))) | exact updN (updN (updN (updN (updN ht)))))
      unfold heardChief
      rw [hcr]
      exact t1
theorem ok_Rh_relay (T : Tx K mg) (y : Wy) (hy : y ≠ .reach) : Okd P w K mg base 1 (RhF K "relayed") P_Rh_relay (spRelay y) := by
  refine okd T 3 d_Rh_relay rfl rfl (N := N_Rh_relay) sc_Rh_relay (fun _ _ _ _ _ _ us hl => match us, hl with | [_, _, _], _ => rfl) (fun vs H Q E h => ?_) (fun cdv A outer s H vs Q E hr h => ?_)
  · obtain ⟨p, s, l, lv, rfl, _⟩ := h
    rfl
  · obtain ⟨p, s, l, lv, rfl, hl, out⟩ := h
    refine ⟨_, pss_one (ps_ret (pe_lst (pa_cons (pe_tup (pa_cons (pe_un un_neg (pv 1)) (pa_cons (pv 2) pa_nil))) pa_nil))), ?_⟩
    refine ⟨_, rfl, s, rfl, _, rfl, sz 2, fun b hb => ⟨sz 1, fun t ht => ?_⟩⟩
    obtain ⟨t1, t2⟩ := told1 (s := -s) (l := l) hl hb ht
    refine out _ t ?_ t2 (by first | exact ht | exact updN ht | exact updN (updN ht) | exact updN (updN (updN ht)) | exact updN (updN (updN (updN ht))) | exact updN (updN (updN (updN (updN ht)))))
    cases y with
    | reach => exact absurd rfl hy
    | _ => exact t1
theorem items_tag (l : Lt) : ∃ x, l.items[0]? = some (.str x) := by cases l <;> exact ⟨_, rfl⟩
/-- hear_one of round, halves, reach -/
theorem ok_Rh_hear (T : Tx K mg) (y : Wy) (hy : y ≠ .whole) {k : Nat} {fC fA fR : Addr} (MC : Meth K (HoC K y) "heard_chief" fC) (GC : Okd P w K mg base k fC ["self", "letter"] (spChief K y))
    (MA : Meth K (HoC K y) "heard_awake" fA) (GA : Okd P w K mg base k fA ["self", "side", "letter"] (spAwake K y)) (MR : Meth K (HoC K y) "relayed" fR) (GR : Okd P w K mg base k fR ["self", "side", "letter"] (spRelay y)) :
    Okd P w K mg base (k + 1) (RhF K "hear_one") P_Rh_hear (spHear K y) := by
  obtain ⟨fdC, GC, bC⟩ := GC
  obtain ⟨fdA, GA, bA⟩ := GA
  obtain ⟨fdR, GR, bR⟩ := GR
  refine okd T 2 d_Rh_hear rfl rfl (N := N_Rh_hear) sc_Rh_hear (fun _ _ _ _ _ _ us hl => match us, hl with | [_, _, _], _ => rfl) (fun vs H Q E h => ?_) (fun cdv A outer s H vs Q E hr h => ?_)
  · obtain ⟨n, p, la, ho, s, l, lv, r, rfl, _⟩ := h
    rfl
  · obtain ⟨n, p, la, ho, s, l, lv, r, rfl, hn, hh, hl, hlen, hr1, out⟩ := h
    obtain ⟨dx, cv, hp, hc⟩ := hh.ob
    obtain ⟨a, rfl, ha⟩ := id hl
    refine ⟨_, pss_cons (ps_fld (pv 0) pe_bl rfl) (pss_cons (ps_if (pt_cmpR op_eq (pe_ix ix_tup (pv 2) pe_int (fun _ _ => rfl)) pe_str (nomark _)) (pss_one (ps_ret (pe_meth (pv 0) (T.hc y) MC GC hr bC .nil pass0 (pa_cons (pv 2) pa_nil)))) pss_nil)
      (pss_cons (ps_if (pt_val (pe_fld (pv 0) rfl)) (pss_one (ps_ret (pe_meth (pv 0) (T.hc y) MA GA hr bA .nil pass0 (pa_cons (pv 1) (pa_cons (pv 2) pa_nil))))) pss_nil)
      (pss_one (ps_ret (pe_meth (pv 0) (T.hc y) MR GR hr bR .nil pass0 (pa_cons (pv 1) (pa_cons (pv 2) pa_nil))))))), ?_⟩
    have na : a ≠ p := ne_of ha hp (by intro z; cases z)
    refine ⟨_, rfl, p, _, dx, _, rfl, hp, T.hc y, T.hn_touched y, houF_len .., ?_⟩
    have e1 : putF "touched" (V.bl true) (houF y ho n cv la) = houF y { ho with touched := true } n cv la := by kernel_rfl
    rw [e1]
    have h1 : HouAt K y n (upd H p (.ins (HoC K y) dx (houF y { ho with touched := true } n cv la))) p la { ho with touched := true } := HouAt.set hp hh.lab rfl hc
    have ha1 : upd H p (.ins (HoC K y) dx (houF y { ho with touched := true } n cv la)) a = some (.tup l.items) := by rw [upd_ne na]; exact ha
    obtain ⟨x, hx⟩ := items_tag l
    have fin : ∀ {r' : Ho × Told}, r' = r → outH K y n p la (upd H p (.ins (HoC K y) dx (houF y { ho with touched := true } n cv la))) Q r' := fun e H' t z1 z2 z3 z4 => by
      subst e
      exact out H' t z1 z2 (But.upd.trans z3) (updN z4)
    refine ⟨_, rfl, a, _, 0, .str x, rfl, rfl, SqT.of ha1, atI_nat (j := 0) hx, rfl, _, rfl, ?_⟩
    have hfit : fits y l = true := by
      unfold hear at hr1
      split at hr1
      · assumption
      · cases hr1
    have split : (x = "chief" ∧ ∃ m, l = .chief m ∧ r = heardChief { ho with touched := true } m) ∨
        (¬ x = "chief" ∧ (if ho.awake = true then heardAwake y n { ho with touched := true } s l else some ({ ho with touched := true }, relayed y s l)) = some r) := by
      unfold hear at hr1
      rw [if_pos hfit] at hr1
      cases l with
      | chief m =>
        refine .inl ⟨?_, m, rfl, ?_⟩
        · have q := Option.some.inj hx
          exact (V.str.inj q).symm
        · cases y with
          | whole => exact absurd rfl hy
          | _ => exact (Option.some.inj hr1).symm
      | _ =>
        refine .inr ⟨?_, ?_⟩
        · have q := V.str.inj (Option.some.inj hx)
          rw [← q]
          decide +kernel
        · cases y with
          | whole => exact absurd rfl hy
          | _ => exact hr1
    rcases split with ⟨ex, m, el, er⟩ | ⟨nx, er⟩
    · rw [ex]
      refine iteT ?_
      refine ⟨_, rfl, p, dx, _, rfl, upd_same, (by cases y <;> kernel_rfl), _, rfl, n, p, la, _, m, _, rfl, hy, h1, ⟨a, rfl, by rw [← el]; exact ha1⟩, fin er.symm⟩
    · have q : decide (V.str x = V.str "chief") = false := decide_eq_false fun e => nx (V.str.inj e)
      rw [q]
      refine iteF ?_
      refine ⟨_, rfl, p, _, dx, _, _, rfl, upd_same, T.hc y, T.hn_awake y, (show _ = some (V.bl ho.awake) by kernel_rfl), _, rfl, ?_⟩
      refine ite2 (fun haw => ?_) (fun haw => ?_)
      · rw [if_pos haw] at er
        refine ⟨_, rfl, p, dx, _, rfl, upd_same, (by cases y <;> kernel_rfl), _, rfl, _, rfl, n, p, la, _, s, l, _, r, rfl, hn, h1, ⟨a, rfl, ha1⟩, hlen, er, fin rfl⟩
      · rw [if_neg haw] at er
        refine ⟨_, rfl, p, dx, _, rfl, upd_same, (by cases y <;> kernel_rfl), _, rfl, _, rfl, _, s, l, _, rfl, ⟨a, rfl, ha1⟩, fun H' t z1 z2 z3 => ?_⟩
        exact fin (Option.some.inj er) H' t (h1.same z2) z1 (butS z2) z3
end
end RC
namespace RC
open PySem PySem.Spec PyProof.Rows L2
section
variable {P : Program} {w : World} {K : PySem.W.Frag} {mg : PySem.Str → Option Value} {base : Heap}
/-! ### RoundHouse -/
theorem ok_Oh_first (T : Tx K mg) : Okd P w K mg base 1 (He.fAd K ("RoundHouse", some "first_told")) P_Oh_first (spFirst K .round) := by
  refine okd T 19 d_Oh_first rfl rfl (N := N_Oh_first) sc_Oh_first (fun _ _ _ _ _ _ us hl => match us, hl with | [_], _ => rfl) (fun vs H Q E h => ?_) (fun cdv A outer s H vs Q E hr h => ?_)
  · obtain ⟨n, p, la, ho, rfl, _⟩ := h
    rfl
  · obtain ⟨n, p, la, ho, rfl, hn, hh, out⟩ := h
    obtain ⟨dx, cv, hp, hc⟩ := hh.ob
    refine ⟨_, pss_one (ps_ret (pe_lst (pa_cons (pe_tup (pa_cons pe_int (pa_cons (pe_tup (pa_cons pe_str (pa_cons (pe_fld (pv 0) rfl) pa_nil))) pa_nil))) pa_nil))), ?_⟩
    refine ⟨_, rfl, p, _, dx, _, _, rfl, hp, T.hc .round, T.hn_own .round, rfl, sz 2, fun a ha => ⟨sz 2, fun b hb => ⟨sz 1, fun t ht => ?_⟩⟩⟩
    obtain ⟨t1, t2⟩ := told1n (s := 1) (l := .name ho.own) ha hb ht
    exact out _ t (hh.same t2) t1 (butS t2) (by first | exact ht | exact updN ht | exact updN (updN ht) | exact updN (updN (updN ht)) | exact updN (updN (updN (updN ht))) | exact updN (updN (updN (updN (updN ht)))))
theorem int_dec {a b : Int} : decide (V.int a = V.int b) = decide (a = b) := by
  by_cases h : a = b
  · rw [h]; simp
  · rw [decide_eq_false h, decide_eq_false fun e => h (V.int.inj e)]
theorem str_dec {a b : PySem.Str} : decide (V.str a = V.str b) = decide (a = b) := by
  by_cases h : a = b
  · rw [h]; simp
  · rw [decide_eq_false h, decide_eq_false fun e => h (V.str.inj e)]
theorem ok_Oh_awake (T : Tx K mg) : Okd P w K mg base 2 (He.fAd K ("RoundHouse", some "heard_awake")) P_Oh_awake (spAwake K .round) := by
  obtain ⟨fdC, GC, bC⟩ := ok_Rh_crown (P := P) (w := w) (base := base) T .round
  refine okd T 20 d_Oh_awake rfl rfl (N := N_Oh_awake) sc_Oh_awake (fun _ _ _ _ _ _ us hl => match us, hl with | [_, _, _], _ => rfl) (fun vs H Q E h => ?_) (fun cdv A outer s H vs Q E hr h => ?_)
  · obtain ⟨n, p, la, ho, s, l, lv, r, rfl, _⟩ := h
    rfl
  · obtain ⟨n, p, la, ho, s, l, lv, r, rfl, hn, hh, hl, hlen, hr1, out⟩ := h
    obtain ⟨dx, cv, hp, hc⟩ := hh.ob
    obtain ⟨a, rfl, ha⟩ := id hl
    obtain ⟨v, rfl⟩ : ∃ v, l = .name v := by
      cases l with
      | name v => exact ⟨v, rfl⟩
      | _ => cases hr1
    have er := (Option.some.inj hr1).symm
    refine ⟨_, pss_cons (ps_set (i := 3) sc_Oh_awake.nd rfl (.inl rfl) (pe_ix ix_tup (pv 2) pe_int (fun _ _ => rfl)))
      (pss_cons (ps_if (pt_cmpR op_eq (pv 3) (pe_fld (pv 0) rfl) (nomark _)) (pss_one (ps_ret (pe_meth (pv 0) T.c_RoundHouse T.m_RoundHouse_crowned GC hr bC .nil pass0 (pa_cons (pv 3) pa_nil)))) pss_nil)
      (pss_cons (ps_if (pt_cmpR op_gt (pv 3) (pe_fld (pv 0) rfl) (nomark _)) (pss_one (ps_ret (pe_lst (pa_cons (pe_tup (pa_cons pe_int (pa_cons (pv 2) pa_nil))) pa_nil)))) pss_nil)
      (pss_one (ps_ret (pe_lst pa_nil))))), ?_⟩
    refine ⟨_, rfl, a, _, 1, .int v, rfl, rfl, SqT.of ha, rfl, ?_⟩
    refine ⟨_, rfl, _, rfl, p, _, dx, _, .int ho.own, rfl, hp, T.hc .round, T.hn_own .round, rfl, rfl, _, rfl, ?_⟩
    rw [int_dec]
    by_cases h1 : v = ho.own
    · rw [decide_eq_true h1]
      refine iteT ⟨_, rfl, p, dx, _, rfl, hp, (by kernel_rfl), _, rfl, n, p, la, ho, v, rfl, (by decide), hh, ?_⟩
      rw [if_pos h1] at er
      rw [← er]
      exact out
    · rw [decide_eq_false h1]
      refine iteF ⟨_, rfl, _, rfl, p, _, dx, _, .int ho.own, rfl, hp, T.hc .round, T.hn_own .round, rfl, _, _, rfl, rfl, _, rfl, ?_⟩
      rw [if_neg h1] at er
      by_cases h2 : ho.own < v
      · rw [decide_eq_true h2]
        refine iteT ⟨_, rfl, sz 2, fun b hb => ⟨sz 1, fun t ht => ?_⟩⟩
        rw [if_pos h2] at er
        subst er
        obtain ⟨t1, t2⟩ := told1 (s := 1) hl hb ht
        exact out _ t (hh.same t2) t1 (butS t2) (by first | exact ht | exact updN ht | exact updN (updN ht) | exact updN (updN (updN ht)) | exact updN (updN (updN (updN ht))) | exact updN (updN (updN (updN (updN ht)))))
      · rw [decide_eq_false h2]
        refine iteF ⟨sz 0, fun t ht => ?_⟩
        rw [if_neg h2] at er
        subst er
        exact out _ t (hh.same (newS ht)) told0 (butS (newS ht)) (by first | exact ht | exact updN ht | exact updN (updN ht) | exact updN (updN (updN ht)) | exact updN (updN (updN (updN ht))) | exact updN (updN (updN (updN (updN ht)))))
end
end RC
namespace RC
open PySem PySem.Spec PyProof.Rows L2
theorem Tx.rd {K : PySem.W.Frag} {mg : PySem.Str → Option Value} (T : Tx K mg) : ClX.CRead K (He.ga K "RingHouse") (.type "type") := ⟨T.s.ex1, T.s.ex2⟩
section
variable {P : Program} {w : World} {K : PySem.W.Frag} {mg : PySem.Str → Option Value} {base : Heap}
/-! ### the makings -/
def spRhInit (K : PySem.W.Frag) (y : Wy) : Sp := fun vs H Q _ => ∃ (p dx : Addr) (own : Int) (n : Nat), vs = [.ref p, .int own, .int n] ∧ H p = some (.ins (HoC K y) dx []) ∧
  ∀ H', H' p = some (.ins (HoC K y) dx (baseF (newHo own) n .non)) → (∀ b o, H b = some o → b ≠ p → H' b = some o) → Q .non H'
theorem ok_Rh_init (T : Tx K mg) (y : Wy) : Okd P w K mg base 1 (RhF K "__init__") P_Rh_init (spRhInit K y) := by
  refine okd T 0 d_Rh_init rfl rfl (N := N_Rh_init) sc_Rh_init (fun _ _ _ _ _ _ us hl => match us, hl with | [_, _, _], _ => rfl) (fun vs H Q E h => ?_) (fun cdv A outer s H vs Q E hr h => ?_)
  · obtain ⟨p, dx, own, n, rfl, _⟩ := h
    rfl
  · obtain ⟨p, dx, own, n, rfl, hp, out⟩ := h
    refine ⟨_, pss_cons (ps_fld (pv 0) (pv 1) rfl) (pss_cons (ps_fld (pv 0) (pv 2) rfl) (pss_cons (ps_fld (pv 0) pe_bl rfl) (pss_cons (ps_fld (pv 0) pe_bl rfl) (pss_cons (ps_fld (pv 0) pe_non rfl) (pss_one (ps_fld (pv 0) pe_bl rfl)))))), ?_⟩
    refine ⟨_, rfl, _, rfl, p, _, dx, _, rfl, hp, T.hc y, T.hn_own y, (by show 0 < 1000; decide), ?_⟩
    refine ⟨_, rfl, _, rfl, p, _, dx, _, rfl, upd_same, T.hc y, T.hn_many y, (by show 1 < 1000; decide), ?_⟩
    refine ⟨_, rfl, p, _, dx, _, rfl, upd_same, T.hc y, T.hn_awake y, (by show 2 < 1000; decide), ?_⟩
    refine ⟨_, rfl, p, _, dx, _, rfl, upd_same, T.hc y, T.hn_touched y, (by show 3 < 1000; decide), ?_⟩
    refine ⟨_, rfl, p, _, dx, _, rfl, upd_same, T.hc y, T.hn_chief_name y, (by show 4 < 1000; decide), ?_⟩
    refine ⟨_, rfl, p, _, dx, _, rfl, upd_same, T.hc y, T.hn_was_first y, (by show 5 < 1000; decide), ?_⟩
    refine out _ ?_ fun b o e hb => by rw [upd_ne hb, upd_ne hb, upd_ne hb, upd_ne hb, upd_ne hb, upd_ne hb]; exact e
    rw [upd_same]
    kernel_rfl
def spHoInit (K : PySem.W.Frag) (y : Wy) : Sp := fun vs H Q _ => ∃ (p dx : Addr) (own : Int) (n : Nat), vs = [.ref p, .int own, .int n] ∧ H p = some (.ins (HoC K y) dx []) ∧
  ∀ H' la, HouAt K y n H' p la (newHo own) → (if y = .whole then H la = none else la = p) → (∀ b o, H b = some o → b ≠ p → H' b = some o) → Q .non H'
theorem ok_Oh_init (T : Tx K mg) : Okd P w K mg base 1 (RhF K "__init__") P_Rh_init (spHoInit K .round) := by
  refine (ok_Rh_init (P := P) (w := w) (base := base) T .round).imp fun vs H Q E h => ?_
  obtain ⟨p, dx, own, n, rfl, hp, out⟩ := h
  exact ⟨p, dx, own, n, rfl, hp, fun H' h1 h2 => out H' p ⟨⟨dx, .non, h1, .no⟩, fun q => nomatch q⟩ rfl h2⟩
theorem ok_Hh_init (T : Tx K mg) : Okd P w K mg base 2 (He.fAd K ("HalveHouse", some "__init__")) P_Hh_init (spHoInit K .halves) := by
  obtain ⟨fdI, GI, bI⟩ := ok_Rh_init (P := P) (w := w) (base := base) T .halves
  refine okd T 6 d_Hh_init rfl rfl (N := N_Hh_init) sc_Hh_init (fun _ _ _ _ _ _ us hl => match us, hl with | [_, _, _], _ => rfl) (fun vs H Q E h => ?_) (fun cdv A outer s H vs Q E hr h => ?_)
  · obtain ⟨p, dx, own, n, rfl, _⟩ := h
    rfl
  · obtain ⟨p, dx, own, n, rfl, hp, out⟩ := h
    refine ⟨_, pss_cons (ps_expr (pe_clsf (pe_glob (v := .ref (He.ga K "RingHouse")) rfl T.g_RingHouse rfl) T.rd T.s.ex3 (T.kp 0 (d := d_Rh_init) rfl) GI hr bI pass0 (pa_cons (pv 0) (pa_cons (pv 1) (pa_cons (pv 2) pa_nil)))))
      (pss_cons (ps_fld (pv 0) (pv 1) rfl) (pss_cons (ps_fld (pv 0) pe_non rfl) (pss_one (ps_fld (pv 0) pe_bl rfl)))), ?_⟩
    refine ⟨rfl, _, rfl, _, rfl, _, rfl, p, dx, own, n, rfl, hp, fun H1 h1 k1 => ?_⟩
    refine ⟨_, rfl, _, rfl, p, _, dx, _, rfl, h1, T.hc .halves, T.n_HalveHouse_held, (by show 6 < 1000; decide), ?_⟩
    refine ⟨_, rfl, p, _, dx, _, rfl, upd_same, T.hc .halves, T.n_HalveHouse_near_name, (by show 7 < 1000; decide), ?_⟩
    refine ⟨_, rfl, p, _, dx, _, rfl, upd_same, T.hc .halves, T.n_HalveHouse_at_work, (by show 8 < 1000; decide), ?_⟩
    refine out _ p ⟨⟨dx, .non, ?_, .no⟩, fun q => nomatch q⟩ rfl fun b o e hb => by rw [upd_ne hb, upd_ne hb, upd_ne hb]; exact k1 b o e hb
    rw [upd_same]
    kernel_rfl
/-! ### HalveHouse -/
theorem second_of {ho : Ho} {k v : Int} (e : ho.near = some k) : heardSecond ho v = if ho.held < k ∧ v < k then some (firstTold .halves 0 { ho with held := k }) else some ({ ho with work := false }, []) := by
  cases ho
  simp only at e
  subst e
  rfl
theorem awake_first {ho : Ho} {n : Nat} {s v : Int} (e : ho.work = true) : heardAwake .halves n ho s (.first v) = if v = ho.held then some (crowned ho v) else some ({ ho with near := some v }, [(1, .second v)]) := by
  cases ho
  simp only at e
  subst e
  rfl
theorem awake_second {ho : Ho} {n : Nat} {s v : Int} (e : ho.work = true) : heardAwake .halves n ho s (.second v) = heardSecond ho v := by
  cases ho
  simp only at e
  subst e
  rfl
theorem ok_Hh_first (T : Tx K mg) : Okd P w K mg base 1 (He.fAd K ("HalveHouse", some "first_told")) P_Hh_first (spFirst K .halves) := by
  refine okd T 7 d_Hh_first rfl rfl (N := N_Hh_first) sc_Hh_first (fun _ _ _ _ _ _ us hl => match us, hl with | [_], _ => rfl) (fun vs H Q E h => ?_) (fun cdv A outer s H vs Q E hr h => ?_)
  · obtain ⟨n, p, la, ho, rfl, _⟩ := h
    rfl
  · obtain ⟨n, p, la, ho, rfl, hn, hh, out⟩ := h
    obtain ⟨dx, cv, hp, hc⟩ := hh.ob
    refine ⟨_, pss_one (ps_ret (pe_lst (pa_cons (pe_tup (pa_cons pe_int (pa_cons (pe_tup (pa_cons pe_str (pa_cons (pe_fld (pv 0) rfl) pa_nil))) pa_nil))) pa_nil))), ?_⟩
    refine ⟨_, rfl, p, _, dx, _, _, rfl, hp, T.hc .halves, T.n_HalveHouse_held, rfl, sz 2, fun a ha => ⟨sz 2, fun b hb => ⟨sz 1, fun t ht => ?_⟩⟩⟩
    obtain ⟨t1, t2⟩ := told1n (s := 1) (l := .first ho.held) ha hb ht
    exact out _ t (hh.same t2) t1 (butS t2) (by first | exact ht | exact updN ht | exact updN (updN ht) | exact updN (updN (updN ht)) | exact updN (updN (updN (updN ht))) | exact updN (updN (updN (updN (updN ht)))))
def spSecond (K : PySem.W.Frag) : Sp := fun vs H Q _ => ∃ (n : Nat) (p la : Addr) (ho : Ho) (v : Int) (r : Ho × Told), vs = [.ref p, .int v] ∧ (n ≤ 64 ∧ ho.labels.length ≤ 60) ∧ HouAt K .halves n H p la ho ∧ heardSecond ho v = some r ∧ outH K .halves n p la H Q r
theorem ok_Hh_second (T : Tx K mg) : Okd P w K mg base 2 (He.fAd K ("HalveHouse", some "heard_second")) P_Hh_second (spSecond K) := by
  obtain ⟨fdF, GF, bF⟩ := ok_Hh_first (P := P) (w := w) (base := base) T
  refine okd T 9 d_Hh_second rfl rfl (N := N_Hh_second) sc_Hh_second (fun _ _ _ _ _ _ us hl => match us, hl with | [_, _], _ => rfl) (fun vs H Q E h => ?_) (fun cdv A outer s H vs Q E hr h => ?_)
  · obtain ⟨n, p, la, ho, v, r, rfl, _⟩ := h
    rfl
  · obtain ⟨n, p, la, ho, v, r, rfl, hn, hh, er, out⟩ := h
    obtain ⟨dx, cv, hp, hc⟩ := hh.ob
    obtain ⟨k, ek⟩ : ∃ k, ho.near = some k := by
      unfold heardSecond at er
      cases q : ho.near with
      | none => rw [q] at er; cases er
      | some k => exact ⟨k, rfl⟩
    refine ⟨_, pss_cons (ps_if (PW.pt (pw_and (pt_cmpR op_gt (pe_fld (pv 0) rfl) (pe_fld (pv 0) rfl) (nomark _)) (pw_and1 (pt_cmpR op_gt (pe_fld (pv 0) rfl) (pv 1) (nomark _)))))
        (pss_cons (ps_fld (pv 0) (pe_fld (pv 0) rfl) rfl) (pss_one (ps_ret (pe_meth0 (pv 0) T.c_HalveHouse T.m_HalveHouse_first_told GF hr bF .nil pass0)))) pss_nil)
      (pss_cons (ps_fld (pv 0) pe_bl rfl) (pss_one (ps_ret (pe_lst pa_nil)))), ?_⟩
    have lk : (houF .halves ho n cv la).lookup ("near_name" : PySem.Str) = some (.int k) := by
      have e : (houF .halves ho n cv la).lookup ("near_name" : PySem.Str) = some (oiV ho.near) := by kernel_rfl
      rw [e, ek]
      rfl
    rw [second_of ek] at er
    have no : ¬ (ho.held < k ∧ v < k) → tSeq (sFld K (tVar 0) (tC (.bl false)) "at_work") (tRet (tLst tNil)) { nx := fun _ H' => Q .non H', rt := Q } (start N_Hh_second [.ref p, .int v]) H := fun c => by
      have er2 := er
      rw [if_neg c] at er2
      have e2 := Option.some.inj er2
      subst e2
      refine ⟨_, rfl, p, _, dx, _, rfl, hp, T.hc .halves, T.n_HalveHouse_at_work, houF_len .., sz 0, fun t ht => ?_⟩
      have h1 := HouAt.set (K := K) (n := n) (y := .halves) (ho' := { ho with work := false }) (fs := putF "at_work" (.bl false) (houF .halves ho n cv la)) (cv := cv) hp hh.lab (by kernel_rfl) hc
      exact out _ t (h1.same (newS ht)) told0 (But.upd.same (newS ht)) (by first | exact ht | exact updN ht | exact updN (updN ht) | exact updN (updN (updN ht)) | exact updN (updN (updN (updN ht))) | exact updN (updN (updN (updN (updN ht)))))
    refine ⟨_, rfl, p, _, dx, _, _, rfl, hp, T.hc .halves, T.n_HalveHouse_near_name, lk, _, rfl, p, _, dx, _, _, rfl, hp, T.hc .halves, T.n_HalveHouse_held, rfl, _, _, rfl, rfl, _, rfl, ?_⟩
    refine ite2 (fun c1 => ?_) (fun c1 => ?_)
    · refine ⟨_, rfl, p, _, dx, _, _, rfl, hp, T.hc .halves, T.n_HalveHouse_near_name, lk, _, rfl, _, _, rfl, rfl, _, rfl, ?_⟩
      refine ite2 (fun c2 => ?_) (fun c2 => ?_)
      · have c : ho.held < k ∧ v < k := ⟨of_decide_eq_true c1, of_decide_eq_true c2⟩
        rw [if_pos c] at er
        have e2 := Option.some.inj er
        subst e2
        refine ⟨_, rfl, p, _, dx, _, _, rfl, hp, T.hc .halves, T.n_HalveHouse_near_name, lk, _, rfl, p, _, dx, _, rfl, hp, T.hc .halves, T.n_HalveHouse_held, houF_len .., ?_⟩
        have h1 := HouAt.set (K := K) (n := n) (y := .halves) (ho' := { ho with held := k }) (fs := putF "held" (.int k) (houF .halves ho n cv la)) (cv := cv) hp hh.lab (by kernel_rfl) hc
        refine ⟨_, rfl, p, dx, _, rfl, upd_same, (by kernel_rfl), n, p, la, { ho with held := k }, rfl, hn, h1, fun H' t z1 z2 z3 z4 => out H' t z1 z2 (But.upd.trans z3) (by first | exact z4 | exact updN z4 | exact updN (updN z4) | exact updN (updN (updN z4)) | exact updN (updN (updN (updN z4))) | exact updN (updN (updN (updN (updN z4)))))⟩
      · exact no fun z => c2 (decide_eq_true z.2)
    · exact no fun z => c1 (decide_eq_true z.1)
theorem ok_Hh_awake (T : Tx K mg) : Okd P w K mg base 3 (He.fAd K ("HalveHouse", some "heard_awake")) P_Hh_awake (spAwake K .halves) := by
  obtain ⟨fdC, GC, bC⟩ := (ok_Rh_crown (P := P) (w := w) (base := base) T .halves).mono (k := 2) (by decide)
  obtain ⟨fdS, GS, bS⟩ := ok_Hh_second (P := P) (w := w) (base := base) T
  refine okd T 8 d_Hh_awake rfl rfl (N := N_Hh_awake) sc_Hh_awake (fun _ _ _ _ _ _ us hl => match us, hl with | [_, _, _], _ => rfl) (fun vs H Q E h => ?_) (fun cdv A outer s H vs Q E hr h => ?_)
  · obtain ⟨n, p, la, ho, s, l, lv, r, rfl, _⟩ := h
    rfl
  · obtain ⟨n, p, la, ho, s, l, lv, r, rfl, hn, hh, hl, hlen, hr1, out⟩ := h
    obtain ⟨dx, cv, hp, hc⟩ := hh.ob
    obtain ⟨a, rfl, ha⟩ := id hl
    obtain ⟨x, v, hit, hx⟩ : ∃ (x : PySem.Str) (v : Int), l.items = [.str x, .int v] ∧ ((x = "first" ∧ l = .first v) ∨ (x = "second" ∧ l = .second v)) := by
      cases l with
      | first v => exact ⟨_, v, rfl, .inl ⟨rfl, rfl⟩⟩
      | second v => exact ⟨_, v, rfl, .inr ⟨rfl, rfl⟩⟩
      | _ => cases hr1
    refine ⟨_, pss_cons (ps_asg (pv 2) (pg_tup rfl (pgs_cons (pg_name (i := 3) sc_Hh_awake.nd rfl (.inl rfl)) (pgs_cons (pg_name (i := 4) sc_Hh_awake.nd rfl (.inl rfl)) pgs_nil))))
      (pss_cons (ps_if (pt_not (pt_val (pe_fld (pv 0) rfl))) (pss_one (ps_ret (pe_lst (pa_cons (pe_tup (pa_cons (pe_un un_neg (pv 1)) (pa_cons (pv 2) pa_nil))) pa_nil)))) pss_nil)
      (pss_cons (ps_if (pt_cmpR op_eq (pv 3) pe_str (nomark _)) (pss_one (ps_ret (pe_meth (pv 0) T.c_HalveHouse T.m_HalveHouse_heard_second GS hr bS .nil pass0 (pa_cons (pv 4) pa_nil)))) pss_nil)
      (pss_cons (ps_if (pt_cmpR op_eq (pv 4) (pe_fld (pv 0) rfl) (nomark _)) (pss_one (ps_ret (pe_meth (pv 0) T.c_HalveHouse T.m_HalveHouse_crowned GC hr bC .nil pass0 (pa_cons (pv 4) pa_nil)))) pss_nil)
      (pss_cons (ps_fld (pv 0) (pv 4) rfl) (pss_one (ps_ret (pe_lst (pa_cons (pe_tup (pa_cons pe_int (pa_cons (pe_tup (pa_cons pe_str (pa_cons (pv 4) pa_nil))) pa_nil))) pa_nil)))))))), ?_⟩
    refine ⟨_, rfl, a, _, rfl, SqT.of (ha.trans (by rw [hit])), rfl, _, _, rfl, _, _, rfl, rfl, ?_⟩
    refine ⟨_, rfl, p, _, dx, _, .bl ho.work, rfl, hp, T.hc .halves, T.n_HalveHouse_at_work, (by kernel_rfl), _, rfl, ?_⟩
    cases hw : ho.work with
    | false =>
      refine iteT ⟨_, rfl, s, rfl, _, rfl, sz 2, fun b hb => ⟨sz 1, fun t ht => ?_⟩⟩
      obtain ⟨t1, t2⟩ := told1 (s := -s) (l := l) hl hb ht
      have er : r = (ho, [(-s, l)]) := by
        rcases hx with ⟨_, rfl⟩ | ⟨_, rfl⟩
        · unfold heardAwake at hr1
          simp only [hw] at hr1
          exact (Option.some.inj hr1).symm
        · unfold heardAwake at hr1
          simp only [hw] at hr1
          exact (Option.some.inj hr1).symm
      subst er
      exact out _ t (hh.same t2) t1 (butS t2) (by first | exact ht | exact updN ht | exact updN (updN ht) | exact updN (updN (updN ht)) | exact updN (updN (updN (updN ht))) | exact updN (updN (updN (updN (updN ht)))))
    | true =>
      refine iteF ⟨_, rfl, rfl, _, rfl, ?_⟩
      rcases hx with ⟨rfl, rfl⟩ | ⟨rfl, rfl⟩
      · have e1 : decide (V.str "first" = V.str "second") = false := by decide +kernel
        rw [e1]
        refine iteF ⟨_, rfl, _, rfl, p, _, dx, _, .int ho.held, rfl, hp, T.hc .halves, T.n_HalveHouse_held, (by kernel_rfl), rfl, _, rfl, ?_⟩
        rw [awake_first hw] at hr1
        rw [int_dec]
        by_cases h1 : v = ho.held
        · rw [decide_eq_true h1]
          rw [if_pos h1] at hr1
          have e2 := Option.some.inj hr1
          subst e2
          exact iteT ⟨_, rfl, p, dx, _, rfl, hp, (by kernel_rfl), _, rfl, n, p, la, ho, v, rfl, (by decide), hh, out⟩
        · rw [decide_eq_false h1]
          rw [if_neg h1] at hr1
          have e2 := Option.some.inj hr1
          subst e2
          refine iteF ⟨_, rfl, _, rfl, p, _, dx, _, rfl, hp, T.hc .halves, T.n_HalveHouse_near_name, houF_len .., ?_⟩
          have h2 := HouAt.set (K := K) (n := n) (y := .halves) (ho' := { ho with near := some v }) (fs := putF "near_name" (.int v) (houF .halves ho n cv la)) (cv := cv) hp hh.lab (by kernel_rfl) hc
          refine ⟨_, rfl, sz 2, fun b hb => ⟨sz 2, fun c hcc => ⟨sz 1, fun t ht => ?_⟩⟩⟩
          obtain ⟨t1, t2⟩ := told1n (s := 1) (l := .second v) hb hcc ht
          exact out _ t (h2.same t2) t1 (But.upd.same t2) (by first | exact ht | exact updN ht | exact updN (updN ht) | exact updN (updN (updN ht)) | exact updN (updN (updN (updN ht))) | exact updN (updN (updN (updN (updN ht)))))
      · refine iteT ⟨_, rfl, p, dx, _, rfl, hp, (by kernel_rfl), _, rfl, n, p, la, ho, v, r, rfl, ⟨hn, hlen⟩, hh, ?_, out⟩
        rw [awake_second hw] at hr1
        exact hr1
end
end RC
namespace RC
open PySem PySem.Spec PyProof.Rows L2
section
variable {P : Program} {w : World} {K : PySem.W.Frag} {mg : PySem.Str → Option Value} {base : Heap}
/-! ### ReachHouse -/
theorem ok_Ah_init (T : Tx K mg) : Okd P w K mg base 2 (He.fAd K ("ReachHouse", some "__init__")) P_Ah_init (spHoInit K .reach) := by
  obtain ⟨fdI, GI, bI⟩ := ok_Rh_init (P := P) (w := w) (base := base) T .reach
  refine okd T 10 d_Ah_init rfl rfl (N := N_Ah_init) sc_Ah_init (fun _ _ _ _ _ _ us hl => match us, hl with | [_, _, _], _ => rfl) (fun vs H Q E h => ?_) (fun cdv A outer s H vs Q E hr h => ?_)
  · obtain ⟨p, dx, own, n, rfl, _⟩ := h
    rfl
  · obtain ⟨p, dx, own, n, rfl, hp, out⟩ := h
    refine ⟨_, pss_cons (ps_expr (pe_clsf (pe_glob (v := .ref (He.ga K "RingHouse")) rfl T.g_RingHouse rfl) T.rd T.s.ex3 (T.kp 0 (d := d_Rh_init) rfl) GI hr bI pass0 (pa_cons (pv 0) (pa_cons (pv 1) (pa_cons (pv 2) pa_nil)))))
      (pss_cons (ps_fld (pv 0) pe_int rfl) (pss_one (ps_fld (pv 0) pe_int rfl))), ?_⟩
    refine ⟨rfl, _, rfl, _, rfl, _, rfl, p, dx, own, n, rfl, hp, fun H1 h1 k1 => ?_⟩
    refine ⟨_, rfl, p, _, dx, _, rfl, h1, T.hc .reach, T.n_ReachHouse_far, (by show 6 < 1000; decide), ?_⟩
    refine ⟨_, rfl, p, _, dx, _, rfl, upd_same, T.hc .reach, T.n_ReachHouse_backs, (by show 7 < 1000; decide), ?_⟩
    refine out _ p ⟨⟨dx, .non, ?_, .no⟩, fun q => nomatch q⟩ rfl fun b o e hb => by rw [upd_ne hb, upd_ne hb]; exact k1 b o e hb
    rw [upd_same]
    kernel_rfl
/-- a letter told to both sides -/
theorem told2n {H : Hp} {a b c t : Addr} {s s' : Int} {l : Lt} (ha : H a = none) (hb : upd H a (.tup l.items) b = none) (hc : upd (upd H a (.tup l.items)) b (.tup [.int s, .ref a]) c = none)
    (ht : upd (upd (upd H a (.tup l.items)) b (.tup [.int s, .ref a])) c (.tup [.int s', .ref a]) t = none) :
    ToldAt (upd (upd (upd (upd H a (.tup l.items)) b (.tup [.int s, .ref a])) c (.tup [.int s', .ref a])) t (.lst [.ref b, .ref c])) t [(s, l), (s', l)] ∧
      Same H (upd (upd (upd (upd H a (.tup l.items)) b (.tup [.int s, .ref a])) c (.tup [.int s', .ref a])) t (.lst [.ref b, .ref c])) := by
  have s1 : Same H (upd H a (.tup l.items)) := newS ha
  have s2 : Same (upd H a (.tup l.items)) (upd (upd H a (.tup l.items)) b (.tup [.int s, .ref a])) := newS hb
  have s3 : Same (upd (upd H a (.tup l.items)) b (.tup [.int s, .ref a])) (upd (upd (upd H a (.tup l.items)) b (.tup [.int s, .ref a])) c (.tup [.int s', .ref a])) := newS hc
  have s4 : Same (upd (upd (upd H a (.tup l.items)) b (.tup [.int s, .ref a])) c (.tup [.int s', .ref a])) (upd (upd (upd (upd H a (.tup l.items)) b (.tup [.int s, .ref a])) c (.tup [.int s', .ref a])) t (.lst [.ref b, .ref c])) := newS ht
  have hl : LtAt (upd (upd (upd (upd H a (.tup l.items)) b (.tup [.int s, .ref a])) c (.tup [.int s', .ref a])) t (.lst [.ref b, .ref c])) (.ref a) l := ⟨a, rfl, s4 _ _ (s3 _ _ (s2 _ _ upd_same))⟩
  exact ⟨⟨_, upd_same, .cons ⟨b, _, rfl, s4 _ _ (s3 _ _ upd_same), hl⟩ (.cons ⟨c, _, rfl, s4 _ _ upd_same, hl⟩ .nil)⟩, ((s1.trans s2).trans s3).trans s4⟩
theorem ok_Ah_first (T : Tx K mg) : Okd P w K mg base 1 (He.fAd K ("ReachHouse", some "first_told")) P_Ah_first (spFirst K .reach) := by
  refine okd T 11 d_Ah_first rfl rfl (N := N_Ah_first) sc_Ah_first (fun _ _ _ _ _ _ us hl => match us, hl with | [_], _ => rfl) (fun vs H Q E h => ?_) (fun cdv A outer s H vs Q E hr h => ?_)
  · obtain ⟨n, p, la, ho, rfl, _⟩ := h
    rfl
  · obtain ⟨n, p, la, ho, rfl, hn, hh, out⟩ := h
    obtain ⟨dx, cv, hp, hc⟩ := hh.ob
    refine ⟨_, pss_cons (ps_set (i := 1) sc_Ah_first.nd rfl (.inl rfl) (pe_tup (pa_cons pe_str (pa_cons (pe_fld (pv 0) rfl) (pa_cons (pe_fld (pv 0) rfl) (pa_cons pe_int pa_nil))))))
      (pss_one (ps_ret (pe_lst (pa_cons (pe_tup (pa_cons (pe_un un_neg pe_int) (pa_cons (pv 1) pa_nil))) (pa_cons (pe_tup (pa_cons pe_int (pa_cons (pv 1) pa_nil))) pa_nil))))), ?_⟩
    refine ⟨_, rfl, p, _, dx, _, _, rfl, hp, T.hc .reach, T.hn_own .reach, rfl, _, rfl, p, _, dx, _, _, rfl, hp, T.hc .reach, T.n_ReachHouse_far, rfl, sz 4, fun a ha => ?_⟩
    refine ⟨1, rfl, _, rfl, sz 2, fun b hb => ⟨_, rfl, sz 2, fun c hcc => ⟨sz 2, fun t ht => ?_⟩⟩⟩
    obtain ⟨t1, t2⟩ := told2n (s := -1) (s' := 1) (l := .probe ho.own ho.far 1) ha hb hcc ht
    exact out _ t (hh.same t2) t1 (butS t2) (by first | exact ht | exact updN ht | exact updN (updN ht) | exact updN (updN (updN ht)) | exact updN (updN (updN (updN ht))) | exact updN (updN (updN (updN (updN ht)))))
theorem str_ne {x : PySem.Str} {y : PySem.Str} (h : ¬ x = y) : decide (V.str x = V.str y) = false := decide_eq_false fun e => h (V.str.inj e)
theorem ok_Ah_relay (T : Tx K mg) : Okd P w K mg base 1 (He.fAd K ("ReachHouse", some "relayed")) P_Ah_relay (spRelay .reach) := by
  refine okd T 13 d_Ah_relay rfl rfl (N := N_Ah_relay) sc_Ah_relay (fun _ _ _ _ _ _ us hl => match us, hl with | [_, _, _], _ => rfl) (fun vs H Q E h => ?_) (fun cdv A outer s H vs Q E hr h => ?_)
  · obtain ⟨p, s, l, lv, rfl, _⟩ := h
    rfl
  · obtain ⟨p, s, l, lv, rfl, hl, out⟩ := h
    obtain ⟨a, rfl, ha⟩ := id hl
    refine ⟨_, pss_cons (ps_if (pt_cmpR op_ne (pe_ix ix_tup (pv 2) pe_int (fun _ _ => rfl)) pe_str (nomark _)) (pss_one (ps_ret (pe_lst (pa_cons (pe_tup (pa_cons (pe_un un_neg (pv 1)) (pa_cons (pv 2) pa_nil))) pa_nil)))) pss_nil)
      (pss_cons (ps_asg (pv 2) (pg_tup rfl (pgs_cons (pg_name (i := 3) sc_Ah_relay.nd rfl (.inl rfl)) (pgs_cons (pg_name (i := 4) sc_Ah_relay.nd rfl (.inl rfl)) (pgs_cons (pg_name (i := 5) sc_Ah_relay.nd rfl (.inl rfl)) (pgs_cons (pg_name (i := 6) sc_Ah_relay.nd rfl (.inl rfl)) pgs_nil))))))
      (pss_cons (ps_if (pt_cmpR op_lt (pv 6) (pv 5) (nomark _)) (pss_one (ps_ret (pe_lst (pa_cons (pe_tup (pa_cons (pe_un un_neg (pv 1)) (pa_cons (pe_tup (pa_cons (pv 3) (pa_cons (pv 4) (pa_cons (pv 5) (pa_cons (pe_op op_add (pv 6) pe_int) pa_nil))))) pa_nil))) pa_nil)))) pss_nil)
      (pss_one (ps_ret (pe_lst (pa_cons (pe_tup (pa_cons (pv 1) (pa_cons (pe_tup (pa_cons pe_str (pa_cons (pv 4) (pa_cons (pv 5) pa_nil)))) pa_nil))) pa_nil)))))), ?_⟩
    obtain ⟨x, hx⟩ := items_tag l
    refine ⟨_, rfl, a, _, 0, .str x, rfl, rfl, SqT.of ha, atI_nat (j := 0) hx, rfl, _, rfl, ?_⟩
    by_cases hpr : ∃ v r t, l = .probe v r t
    · obtain ⟨v, r, t, rfl⟩ := hpr
      have ex : x = "probe" := (V.str.inj (Option.some.inj hx)).symm
      subst ex
      refine iteF ?_
      refine ⟨_, rfl, a, _, rfl, SqT.of ha, rfl, _, _, rfl, _, _, rfl, _, _, rfl, _, _, rfl, rfl, ?_⟩
      refine ⟨_, rfl, _, rfl, _, _, rfl, rfl, _, rfl, ?_⟩
      by_cases h1 : t < r
      · rw [decide_eq_true h1]
        refine iteT ⟨_, rfl, s, rfl, _, rfl, _, rfl, _, rfl, _, rfl, _, _, rfl, rfl, sz 4, fun b hb => ⟨sz 2, fun c hc => ⟨sz 1, fun u hu => ?_⟩⟩⟩
        obtain ⟨t1, t2⟩ := told1n (s := -s) (l := .probe v r (t + 1)) hb hc hu
        refine out _ u ?_ t2 (by first | exact hu | exact updN hu | exact updN (updN hu) | exact updN (updN (updN hu)) | exact updN (updN (updN (updN hu))) | exact updN (updN (updN (updN (updN hu)))))
        have e9 : relayed .reach s (.probe v r t) = [(-s, .probe v r (t + 1))] := if_pos h1
        rw [e9]
        exact t1
      · rw [decide_eq_false h1]
        refine iteF ⟨_, rfl, _, rfl, _, rfl, sz 3, fun b hb => ⟨sz 2, fun c hc => ⟨sz 1, fun u hu => ?_⟩⟩⟩
        obtain ⟨t1, t2⟩ := told1n (s := s) (l := .back v r) hb hc hu
        refine out _ u ?_ t2 (by first | exact hu | exact updN hu | exact updN (updN hu) | exact updN (updN (updN hu)) | exact updN (updN (updN (updN hu))) | exact updN (updN (updN (updN (updN hu)))))
        have e9 : relayed .reach s (.probe v r t) = [(s, .back v r)] := if_neg h1
        rw [e9]
        exact t1
    · have nx : ¬ x = "probe" := by
        cases l with
        | probe v r t => exact absurd ⟨v, r, t, rfl⟩ hpr
        | _ =>
          have q := V.str.inj (Option.some.inj hx)
          rw [← q]
          decide +kernel
      rw [str_ne nx]
      refine iteT ⟨_, rfl, s, rfl, _, rfl, sz 2, fun b hb => ⟨sz 1, fun t ht => ?_⟩⟩
      obtain ⟨t1, t2⟩ := told1 (s := -s) (l := l) hl hb ht
      refine out _ t ?_ t2 (by first | exact ht | exact updN ht | exact updN (updN ht) | exact updN (updN (updN ht)) | exact updN (updN (updN (updN ht))) | exact updN (updN (updN (updN (updN ht)))))
      cases l with
      | probe v r t => exact absurd ⟨v, r, t, rfl⟩ hpr
      | _ => exact t1
def spBack (K : PySem.W.Frag) : Sp := fun vs H Q _ => ∃ (n : Nat) (p la : Addr) (ho : Ho), vs = [.ref p] ∧ (n ≤ 64 ∧ ho.labels.length ≤ 60) ∧ HouAt K .reach n H p la ho ∧ outH K .reach n p la H Q (cameBack ho)
theorem ok_Ah_back (T : Tx K mg) : Okd P w K mg base 2 (He.fAd K ("ReachHouse", some "came_back")) P_Ah_back (spBack K) := by
  obtain ⟨fdF, GF, bF⟩ := ok_Ah_first (P := P) (w := w) (base := base) T
  refine okd T 14 d_Ah_back rfl rfl (N := N_Ah_back) sc_Ah_back (fun _ _ _ _ _ _ us hl => match us, hl with | [_], _ => rfl) (fun vs H Q E h => ?_) (fun cdv A outer s H vs Q E hr h => ?_)
  · obtain ⟨n, p, la, ho, rfl, _⟩ := h
    rfl
  · obtain ⟨n, p, la, ho, rfl, hn, hh, out⟩ := h
    obtain ⟨dx, cv, hp, hc⟩ := hh.ob
    refine ⟨_, pss_cons (ps_fldaug (pv 0) pe_int in_add) (pss_cons (ps_if (pt_cmpR op_lt (pe_fld (pv 0) rfl) pe_int (nomark _)) (pss_one (ps_ret (pe_lst pa_nil))) pss_nil)
      (pss_cons (ps_fld (pv 0) pe_int rfl) (pss_cons (ps_fld (pv 0) (pe_op op_mul pe_int (pe_fld (pv 0) rfl)) rfl) (pss_one (ps_ret (pe_meth0 (pv 0) T.c_ReachHouse T.m_ReachHouse_first_told GF hr bF .nil pass0)))))), ?_⟩
    refine ⟨_, rfl, p, _, dx, _, _, rfl, hp, T.hc .reach, T.n_ReachHouse_backs, rfl, _, _, rfl, rfl, dx, _, hp, houF_len .., ?_⟩
    have e1 : putF "backs" (V.int (ho.backs + 1)) (houF .reach ho n cv la) = houF .reach { ho with backs := ho.backs + 1 } n cv la := by kernel_rfl
    rw [e1]
    have h1 := HouAt.set (K := K) (n := n) (y := .reach) (ho' := { ho with backs := ho.backs + 1 }) (fs := houF .reach { ho with backs := ho.backs + 1 } n cv la) (cv := cv) hp hh.lab rfl hc
    refine ⟨_, rfl, p, _, dx, _, .int (ho.backs + 1), rfl, upd_same, T.hc .reach, T.n_ReachHouse_backs, (by kernel_rfl), _, _, rfl, rfl, _, rfl, ?_⟩
    unfold cameBack at out
    by_cases c : ho.backs + 1 < 2
    · rw [decide_eq_true c]
      rw [if_pos c] at out
      exact iteT ⟨sz 0, fun t ht => out _ t (h1.same (newS ht)) told0 (But.upd.same (newS ht)) (by first | exact ht | exact updN ht | exact updN (updN ht) | exact updN (updN (updN ht)) | exact updN (updN (updN (updN ht))) | exact updN (updN (updN (updN (updN ht)))))⟩
    · rw [decide_eq_false c]
      rw [if_neg c] at out
      refine iteF ⟨_, rfl, p, _, dx, _, rfl, upd_same, T.hc .reach, T.n_ReachHouse_backs, houF_len .., ?_⟩
      have e2 : putF "backs" (V.int 0) (houF .reach { ho with backs := ho.backs + 1 } n cv la) = houF .reach { ho with backs := 0 } n cv la := by kernel_rfl
      rw [e2, upd_upd]
      have h2 := HouAt.set (K := K) (n := n) (y := .reach) (ho' := { ho with backs := 0 }) (fs := houF .reach { ho with backs := 0 } n cv la) (cv := cv) hp hh.lab rfl hc
      refine ⟨_, rfl, p, _, dx, _, .int ho.far, rfl, upd_same, T.hc .reach, T.n_ReachHouse_far, (by kernel_rfl), _, _, rfl, rfl, .inl ⟨by decide, by decide⟩, _, rfl, p, _, dx, _, rfl, upd_same, T.hc .reach, T.n_ReachHouse_far, houF_len .., ?_⟩
      have e3 : putF "far" (V.int (2 * ho.far)) (houF .reach { ho with backs := 0 } n cv la) = houF .reach { ho with backs := 0, far := 2 * ho.far } n cv la := by kernel_rfl
      rw [e3, upd_upd]
      have h3 := HouAt.set (K := K) (n := n) (y := .reach) (ho' := { ho with backs := 0, far := 2 * ho.far }) (fs := houF .reach { ho with backs := 0, far := 2 * ho.far } n cv la) (cv := cv) hp hh.lab rfl hc
      refine ⟨_, rfl, p, dx, _, rfl, upd_same, (by kernel_rfl), n, p, la, { ho with backs := 0, far := 2 * ho.far }, rfl, hn, h3, fun H' t z1 z2 z3 z4 => out H' t z1 z2 (But.upd.trans z3) (by first | exact z4 | exact updN z4 | exact updN (updN z4) | exact updN (updN (updN z4)) | exact updN (updN (updN (updN z4))) | exact updN (updN (updN (updN (updN z4)))))⟩
theorem ok_Ah_awake (T : Tx K mg) : Okd P w K mg base 3 (He.fAd K ("ReachHouse", some "heard_awake")) P_Ah_awake (spAwake K .reach) := by
  obtain ⟨fdC, GC, bC⟩ := (ok_Rh_crown (P := P) (w := w) (base := base) T .reach).mono (k := 2) (by decide)
  obtain ⟨fdB, GB, bB⟩ := ok_Ah_back (P := P) (w := w) (base := base) T
  obtain ⟨fdR, GR, bR⟩ := (ok_Ah_relay (P := P) (w := w) (base := base) T).mono (k := 2) (by decide)
  refine okd T 12 d_Ah_awake rfl rfl (N := N_Ah_awake) sc_Ah_awake (fun _ _ _ _ _ _ us hl => match us, hl with | [_, _, _], _ => rfl) (fun vs H Q E h => ?_) (fun cdv A outer s H vs Q E hr h => ?_)
  · obtain ⟨n, p, la, ho, s, l, lv, r, rfl, _⟩ := h
    rfl
  · obtain ⟨n, p, la, ho, s, l, lv, r, rfl, hn, hh, hl, hlen, hr1, out⟩ := h
    obtain ⟨dx, cv, hp, hc⟩ := hh.ob
    obtain ⟨a, rfl, ha⟩ := id hl
    refine ⟨_, pss_cons (ps_set (i := 3) sc_Ah_awake.nd rfl (.inl rfl) (pe_ix ix_tup (pv 2) pe_int (fun _ _ => rfl)))
      (pss_cons (ps_if (pt_cmpR op_ne (pv 3) (pe_fld (pv 0) rfl) (nomark _))
        (pss_cons (ps_if (PW.pt (pw_and (pt_cmpR op_eq (pe_ix ix_tup (pv 2) pe_int (fun _ _ => rfl)) pe_str (nomark _)) (pw_and1 (pt_cmpR op_lt (pv 3) (pe_fld (pv 0) rfl) (nomark _))))) (pss_one (ps_ret (pe_lst pa_nil))) pss_nil)
          (pss_one (ps_ret (pe_meth (pv 0) T.c_ReachHouse T.m_ReachHouse_relayed GR hr bR .nil pass0 (pa_cons (pv 1) (pa_cons (pv 2) pa_nil)))))) pss_nil)
      (pss_cons (ps_if (pt_cmpR op_eq (pe_ix ix_tup (pv 2) pe_int (fun _ _ => rfl)) pe_str (nomark _)) (pss_one (ps_ret (pe_meth0 (pv 0) T.c_ReachHouse T.m_ReachHouse_came_back GB hr bB .nil pass0))) pss_nil)
      (pss_cons (ps_if (pt_val (pe_fld (pv 0) rfl)) (pss_one (ps_ret (pe_lst pa_nil))) pss_nil)
      (pss_one (ps_ret (pe_meth (pv 0) T.c_ReachHouse T.m_ReachHouse_crowned GC hr bC .nil pass0 (pa_cons (pv 3) pa_nil))))))), ?_⟩
    obtain ⟨x, v, h0, h1, hx⟩ : ∃ (x : PySem.Str) (v : Int), l.items[0]? = some (.str x) ∧ l.items[1]? = some (.int v) ∧
        ((x = "probe" ∧ ∃ rr t, l = .probe v rr t) ∨ (x = "back" ∧ ∃ rr, l = .back v rr)) := by
      cases l with
      | probe v rr t => exact ⟨_, v, rfl, rfl, .inl ⟨rfl, rr, t, rfl⟩⟩
      | back v rr => exact ⟨_, v, rfl, rfl, .inr ⟨rfl, rr, rfl⟩⟩
      | _ => cases hr1
    refine ⟨_, rfl, a, _, 1, .int v, rfl, rfl, SqT.of ha, atI_nat (j := 1) h1, ?_⟩
    refine ⟨_, rfl, _, rfl, p, _, dx, _, .int ho.own, rfl, hp, T.hc .reach, T.hn_own .reach, rfl, rfl, _, rfl, ?_⟩
    rw [int_dec]
    by_cases c : v = ho.own
    · rw [decide_eq_true c]
      refine iteF ⟨_, rfl, a, _, 0, .str x, rfl, rfl, SqT.of ha, atI_nat (j := 0) h0, rfl, _, rfl, ?_⟩
      rcases hx with ⟨rfl, rr, t, rfl⟩ | ⟨rfl, rr, rfl⟩
      · have e1 : decide (V.str "probe" = V.str "back") = false := by decide +kernel
        rw [e1]
        refine iteF ⟨_, rfl, p, _, dx, _, .bl ho.crown, rfl, hp, T.hc .reach, T.hn_was_first .reach, (by kernel_rfl), _, rfl, ?_⟩
        have er : r = if ho.crown = true then (ho, []) else crowned ho v := by
          have q := hr1
          unfold heardAwake at q
          simp only [if_pos c] at q
          exact (Option.some.inj q).symm
        refine ite2 (fun z => ?_) (fun z => ?_)
        · rw [if_pos z] at er
          subst er
          exact ⟨sz 0, fun t ht => out _ t (hh.same (newS ht)) told0 (butS (newS ht)) (by first | exact ht | exact updN ht | exact updN (updN ht) | exact updN (updN (updN ht)) | exact updN (updN (updN (updN ht))) | exact updN (updN (updN (updN (updN ht)))))⟩
        · rw [if_neg z] at er
          subst er
          exact ⟨_, rfl, p, dx, _, rfl, hp, (by kernel_rfl), _, rfl, n, p, la, ho, v, rfl, (by decide), hh, out⟩
      · have er : r = cameBack ho := by
          have q := hr1
          unfold heardAwake at q
          simp only [if_pos c] at q
          exact (Option.some.inj q).symm
        subst er
        exact iteT ⟨_, rfl, p, dx, _, rfl, hp, (by kernel_rfl), n, p, la, ho, rfl, ⟨hn, hlen⟩, hh, out⟩
    · rw [decide_eq_false c]
      refine iteT ⟨_, rfl, a, _, 0, .str x, rfl, rfl, SqT.of ha, atI_nat (j := 0) h0, rfl, _, rfl, ?_⟩
      have rel : ∀ {r' : Told}, r = (ho, r') → relayed .reach s l = r' → tRet (tMeth (He.ga K "ReachHouse") "relayed" (spRelay .reach) [] E0 (tVar 0) (tCons (tVar 1) (tCons (tVar 2) tNil))) { nx := fun _ H' => Q .non H', rt := Q } [some (.ref p), some (.int s), some (.ref a), some (.int v)] H := fun e1 e2 => by
        subst e1 e2
        exact ⟨_, rfl, p, dx, _, rfl, hp, (by kernel_rfl), _, rfl, _, rfl, _, s, l, _, rfl, hl, fun H' t z1 z2 z3 => out H' t (hh.same z2) z1 (butS z2) z3⟩
      rcases hx with ⟨rfl, rr, t, rfl⟩ | ⟨rfl, rr, rfl⟩
      · have e1 : decide (V.str "probe" = V.str "probe") = true := by decide +kernel
        rw [e1]
        refine iteT ⟨_, rfl, _, rfl, p, _, dx, _, .int ho.own, rfl, hp, T.hc .reach, T.hn_own .reach, (by kernel_rfl), _, _, rfl, rfl, _, rfl, ?_⟩
        have er : some r = if v < ho.own then some (ho, []) else some (ho, relayed .reach s (.probe v rr t)) := by
          have q := hr1
          unfold heardAwake at q
          simp only [if_neg c] at q
          exact q.symm
        by_cases c2 : v < ho.own
        · rw [decide_eq_true c2]
          rw [if_pos c2] at er
          have e2 := Option.some.inj er
          subst e2
          exact iteT ⟨sz 0, fun t ht => out _ t (hh.same (newS ht)) told0 (butS (newS ht)) (by first | exact ht | exact updN ht | exact updN (updN ht) | exact updN (updN (updN ht)) | exact updN (updN (updN (updN ht))) | exact updN (updN (updN (updN (updN ht)))))⟩
        · rw [decide_eq_false c2]
          rw [if_neg c2] at er
          exact iteF (rel (Option.some.inj er) rfl)
      · have e1 : decide (V.str "back" = V.str "probe") = false := by decide +kernel
        rw [e1]
        have er : some r = some (ho, [(-s, .back v rr)]) := by
          have q := hr1
          unfold heardAwake at q
          simp only [if_neg c] at q
          exact q.symm
        exact iteF (rel (Option.some.inj er) rfl)
end
end RC
namespace RC
open PySem PySem.Spec PyProof.Rows L2
/-! ### max of a list of tuples of ints -/
theorem listLt_eq : ∀ xs ys : List Int, PySem.W.listLt xs ys = HT.lexLt xs ys
  | [], [] => rfl
  | [], _ :: _ => rfl
  | _ :: _, [] => rfl
  | x :: xs, y :: ys => by
    show (if x = y then PySem.W.listLt xs ys else decide (x < y)) = (if x = y then HT.lexLt xs ys else decide (x < y))
    rw [listLt_eq xs ys]
theorem lex_irr : ∀ xs : List Int, HT.lexLt xs xs = false
  | [] => rfl
  | x :: xs => by
    show (if x = x then HT.lexLt xs xs else decide (x < x)) = false
    rw [if_pos rfl]
    exact lex_irr xs
theorem lexLe_refl (a : List Int) : lexLe a a := lex_irr a
theorem lex_tr : ∀ {a b c : List Int}, HT.lexLt b a = false → HT.lexLt c b = false → HT.lexLt c a = false
  | [], b, c, _, _ => by cases c <;> rfl
  | x :: a, [], c, h, _ => by cases (show true = false from h)
  | x :: a, y :: b, [], _, h => by cases (show true = false from h)
  | x :: a, y :: b, z :: c, h1, h2 => by
    have h1 : (if y = x then HT.lexLt b a else decide (y < x)) = false := h1
    have h2 : (if z = y then HT.lexLt c b else decide (z < y)) = false := h2
    show (if z = x then HT.lexLt c a else decide (z < x)) = false
    by_cases e1 : y = x
    · rw [if_pos e1] at h1
      by_cases e2 : z = y
      · rw [if_pos e2] at h2
        rw [if_pos (e2.trans e1)]
        exact lex_tr h1 h2
      · rw [if_neg e2] at h2
        rw [if_neg (fun e => e2 (e.trans e1.symm))]
        have := of_decide_eq_false h2
        exact decide_eq_false (by omega)
    · rw [if_neg e1] at h1
      have q1 := of_decide_eq_false h1
      by_cases e2 : z = y
      · rw [if_neg (fun e => e1 (e2.symm.trans e))]
        exact decide_eq_false (by omega)
      · rw [if_neg e2] at h2
        have q2 := of_decide_eq_false h2
        rw [if_neg (by omega)]
        exact decide_eq_false (by omega)
theorem lex_anti : ∀ {a b : List Int}, HT.lexLt a b = false → HT.lexLt b a = false → a = b
  | [], [], _, _ => rfl
  | [], y :: b, h, _ => by cases (show true = false from h)
  | x :: a, [], _, h => by cases (show true = false from h)
  | x :: a, y :: b, h1, h2 => by
    have h1 : (if x = y then HT.lexLt a b else decide (x < y)) = false := h1
    have h2 : (if y = x then HT.lexLt b a else decide (y < x)) = false := h2
    by_cases e : x = y
    · rw [if_pos e] at h1
      rw [if_pos e.symm] at h2
      rw [e, lex_anti h1 h2]
    · rw [if_neg e] at h1
      rw [if_neg fun q => e q.symm] at h2
      have q1 := of_decide_eq_false h1
      have q2 := of_decide_eq_false h2
      exact absurd (by omega) e
theorem lex_asym {a b : List Int} (h : HT.lexLt a b = true) : HT.lexLt b a = false := by
  cases e : HT.lexLt b a with
  | false => rfl
  | true =>
    exfalso
    induction a generalizing b with
    | nil => cases b with
      | nil => cases h
      | cons y b => cases e
    | cons x a ih => cases b with
      | nil => cases h
      | cons y b =>
        have h : (if x = y then HT.lexLt a b else decide (x < y)) = true := h
        have e : (if y = x then HT.lexLt b a else decide (y < x)) = true := e
        by_cases q : x = y
        · rw [if_pos q] at h
          rw [if_pos q.symm] at e
          exact ih h e
        · rw [if_neg q] at h
          rw [if_neg fun z => q z.symm] at e
          have q1 := of_decide_eq_true h
          have q2 := of_decide_eq_true e
          omega
open PySem.W in
theorem maxOf_spec : ∀ (xs : List (Tup Int)) (x : Tup Int), maxOf x xs ∈ x :: xs ∧ ∀ u ∈ x :: xs, HT.lexLt (maxOf x xs).items u.items = false
  | [], x => ⟨List.mem_cons_self, fun u hu => by
      rcases List.mem_cons.mp hu with e | e
      · rw [e]; exact lex_irr _
      · cases e⟩
  | y :: ys, x => by
    have e : maxOf x (y :: ys) = maxOf (if DatumOrd.lt x y = true then y else x) ys := rfl
    have el : DatumOrd.lt x y = HT.lexLt x.items y.items := listLt_eq _ _
    rw [e, el]
    by_cases c : HT.lexLt x.items y.items = true
    · rw [if_pos c]
      obtain ⟨h1, h2⟩ := maxOf_spec ys y
      refine ⟨List.mem_cons_of_mem _ h1, fun u hu => ?_⟩
      rcases List.mem_cons.mp hu with q | q
      · rw [q]
        exact lex_tr (lex_asym c) (h2 y List.mem_cons_self)
      · exact h2 u q
    · rw [if_neg c]
      obtain ⟨h1, h2⟩ := maxOf_spec ys x
      have cf : HT.lexLt x.items y.items = false := by
        cases z : HT.lexLt x.items y.items with
        | true => exact absurd z c
        | false => rfl
      refine ⟨?_, fun u hu => ?_⟩
      · rcases List.mem_cons.mp h1 with q | q
        · rw [q]; exact List.mem_cons_self
        · exact List.mem_cons_of_mem _ (List.mem_cons_of_mem _ q)
      · rcases List.mem_cons.mp hu with q | q
        · rw [q]; exact h2 x List.mem_cons_self
        · rcases List.mem_cons.mp q with q | q
          · rw [q]
            exact lex_tr cf (h2 x List.mem_cons_self)
          · exact h2 u (List.mem_cons_of_mem _ q)
section
variable {X : Cx}
theorem readsI {h : Heap} : ∀ {us : List Value} {ns : List Int}, Vals (ns.map V.int) us → ReadsAll h us (ns.map PyData.int) []
  | _, [], r => by cases r; exact .nil
  | _, n :: ns, r => by
    cases r with
    | cons r t =>
      obtain ⟨k, rfl⟩ := r
      exact ReadsAll.cons (as := []) (bs := []) (.int n k) (readsI t)
theorem holdsT {pins : List (Addr × Obj)} {σ : L2.St} {H : Hp} {s : Shared} (I : Inv X pins σ H s) {x : V} {u : Value} {ns : List Int} (h : TupI X.K H x ns) (r : RelV x u) : PySem.W.Holds s.heap u (PySem.W.Tup.mk ns) := by
  obtain ⟨t, rfl, ht⟩ := h
  obtain rfl : u = Value.ref t := r
  obtain ⟨its, rv, ⟨o, ho, hc, n, hd⟩, _⟩ := I.tuple ht
  have e0 : ns.map (PySem.W.Datum.toD (α := Int)) = ns.map PyData.int := rfl
  exact ⟨[], Reads.tuple ho hc hd (by rw [e0]; simpa using readsI rv)⟩
theorem holdAllT {pins : List (Addr × Obj)} {σ : L2.St} {H : Hp} {s : Shared} (I : Inv X pins σ H s) : ∀ {xs : List V} {us : List Value} {ws : List (List Int)}, Paired (TupI X.K H) xs ws → Vals xs us → PySem.W.HoldAll s.heap us (ws.map PySem.W.Tup.mk)
  | _, _, _, .nil, .nil => .nil
  | _, _, _, .cons h t, .cons r t' => .cons (holdsT I h r) (holdAllT I t t')
/-- max(xs), xs a list of tuples of ints: one of its items, none is greater -/
def rMaxT (K : PySem.W.Frag) : List V → Hp → VK → Prop := fun vs H Q => ∃ (a : Addr) (xs : List V) (ws : List (List Int)), vs = [V.ref a] ∧ SqL K H a xs ∧ Paired (TupI K H) xs ws ∧ ws ≠ [] ∧
  ∀ x g, TupI K H x g → g ∈ ws → (∀ u ∈ ws, lexLe u g) → Q x H
theorem cr_maxT (hc : X.calm = true) (hu : X.A.units + 64 < cLine) : CallR X (.builtin "max") (rMaxT X.K) := by
  intro pins s σ H vs us Q I r h
  obtain ⟨a, xs, ws, rfl, hs, hp, hne, q⟩ := h
  obtain ⟨its, rv, hl, _⟩ := I.list hs
  rw [Vals.ref1 r]
  cases ws with
  | nil => exact absurd rfl hne
  | cons w0 ws =>
    have HA : PySem.W.HoldAll s.heap its.toArray.toList (PySem.W.Tup.mk w0 :: ws.map PySem.W.Tup.mk) := by
      have z := holdAllT I hp rv
      simpa using z
    refine PySem.W.max_list_datum (I.ok.hd hc) hl.isList HA (by show X.A.units + 1 + (0 + 1) < cLine; omega) fun i v h' tk hv H2 hk => ?_
    have hv' : its[i]? = some v := by simpa using hv
    obtain ⟨y, hy, H3⟩ := HA.at (i := i) (v := v) (by simpa using hv)
    obtain ⟨m1, m2⟩ := maxOf_spec (ws.map PySem.W.Tup.mk) (PySem.W.Tup.mk w0)
    have ey : y = PySem.W.maxOf (PySem.W.Tup.mk w0) (ws.map PySem.W.Tup.mk) := by
      obtain ⟨as, r1⟩ := H2
      obtain ⟨bs, r2⟩ := H3.keeps hk
      have e := (PySem.Reads.unique r1 _ _ r2).1
      have e2 : PyData.eqv (PySem.W.Datum.toD y) (PySem.W.Datum.toD (PySem.W.maxOf (PySem.W.Tup.mk w0) (ws.map PySem.W.Tup.mk))) = true := by
        rw [e, PySem.W.Datum.eqv]
        exact decide_eq_true rfl
      rw [PySem.W.Datum.eqv] at e2
      exact of_decide_eq_true e2
    have hws : (w0 :: ws)[i]? = some y.items := by
      have z : ((w0 :: ws).map PySem.W.Tup.mk)[i]? = some y := hy
      rw [List.getElem?_map] at z
      obtain ⟨u, hu1, hu2⟩ := Option.map_eq_some_iff.mp z
      rw [hu1, ← hu2]
    obtain ⟨x, hx, hT, hxv⟩ : ∃ x, xs[i]? = some x ∧ TupI X.K H x y.items ∧ RelV x v := by
      cases hxi : xs[i]? with
      | none =>
        have l1 := Paired.length rv
        have l2 : xs.length ≤ i := List.getElem?_eq_none_iff.mp hxi
        have l3 := (List.getElem?_eq_some_iff.mp hv').1
        omega
      | some x =>
        obtain ⟨u, hu1, hu2⟩ := paired_get hp hxi
        rw [hws] at hu1
        cases hu1
        obtain ⟨u2, hu3, hu4⟩ := paired_get rv hxi
        rw [hv'] at hu3
        cases hu3
        exact ⟨x, rfl, hu2, hu4⟩
    refine ⟨x, H, I.kept hk, hxv, q x y.items hT (List.mem_of_getElem? hws) fun u hu => ?_⟩
    have z := m2 (PySem.W.Tup.mk u) (by
      rcases List.mem_cons.mp hu with e | e
      · rw [e]; exact List.mem_cons_self
      · exact List.mem_cons_of_mem _ (List.mem_map.mpr ⟨u, e, rfl⟩))
    rw [← ey] at z
    exact z
/-- == and != of tuples of ints -/
def rEqT (K : PySem.W.Frag) : R2 := fun x y H Q => ∃ ns ms, TupI K H x ns ∧ TupI K H y ms ∧ Q (.bl (decide (ns = ms))) H
theorem op_eqT (hu : X.A.units + 64 < cLine) : OpR X (compareOp .Eq) (rEqT X.K) := by
  intro pins s σ H x y v u Q I rx ry h
  obtain ⟨ns, ms, hx, hy, q⟩ := h
  refine PySem.W.eq_datum (holdsT I hx rx) (holdsT I hy ry) (by show X.A.units + (0 + 1) < cLine; omega) ⟨.bl (decide (ns = ms)), H, I, ?_, q⟩
  show Value.bool _ = Value.bool _
  congr 1
  exact decide_eq_decide.mpr ⟨fun e => congrArg PySem.W.Tup.items e, fun e => by rw [e]⟩
end
/-! ### words -/
def TrI (H : Hp) (x : V) (ns : List Int) : Prop := ∃ t, x = .ref t ∧ H t = some (.tup (ns.map V.int))
theorem TrI.tupI {K : PySem.W.Frag} {H : Hp} {x : V} {ns : List Int} (h : TrI H x ns) : TupI K H x ns := let ⟨t, e, q⟩ := h; ⟨t, e, SqT.of q⟩
theorem TrI.keep {H H' : Hp} (k : TupS H H') {x : V} {ns : List Int} (h : TrI H x ns) : TrI H' x ns := let ⟨t, e, q⟩ := h; ⟨t, e, k _ _ q⟩
theorem cut_from (ns : List Int) (k : Nat) (hk : k ≤ ns.length) : cutV (ns.map V.int) (some (k : Int)) none = (ns.drop k).map V.int := by
  unfold cutV
  rw [HT.sIx_nat, HT.sIx_none, List.length_map, Nat.min_eq_left hk, List.map_drop]
  exact List.take_of_length_le (by simp)
theorem cut_to (ns : List Int) (k : Nat) (hk : k ≤ ns.length) : cutV (ns.map V.int) none (some (k : Int)) = (ns.take k).map V.int := by
  unfold cutV
  rw [HT.sIx_nat, HT.sIx_none, List.length_map, Nat.min_eq_left hk, List.map_take]
  simp
section
variable {P : Program} {w : World} {K : PySem.W.Frag} {mg : PySem.Str → Option Value} {base : Heap}
def spRead : Sp := fun vs H Q _ => ∃ (x : V) (ns : List Int) (k : Nat), vs = [x, .int k] ∧ TrI H x ns ∧ k ≤ ns.length ∧ ns.length ≤ 64 ∧ ∀ t H', TrI H' t (rot ns k) → Same H H' → Q t H'
theorem rSlA_from {H : Hp} {Q : VK} {a : Addr} {ns : List Int} {k : Nat} (ha : H a = some (.tup (ns.map V.int))) (hk : k ≤ ns.length) (q : ∀ t H', TrI H' t (ns.drop k) → Same H H' → Q t H') : rSlA K (.ref a) (some (k : Int)) none H Q := by
  refine ⟨a, _, rfl, SqT.of ha, fun c => ?_, fun _ p hp => ?_⟩
  · rw [HT.sIx_nat, List.length_map, Nat.min_eq_left hk] at c
    refine q _ H ⟨a, rfl, ?_⟩ (Same.refl H)
    rw [c.1]
    exact ha
  · refine q _ _ ⟨p, rfl, ?_⟩ (newS hp)
    rw [upd_same, cut_from ns k hk]
theorem rSlA_to {H : Hp} {Q : VK} {a : Addr} {ns : List Int} {k : Nat} (ha : H a = some (.tup (ns.map V.int))) (hk : k ≤ ns.length) (q : ∀ t H', TrI H' t (ns.take k) → Same H H' → Q t H') : rSlA K (.ref a) none (some (k : Int)) H Q := by
  refine ⟨a, _, rfl, SqT.of ha, fun c => ?_, fun _ p hp => ?_⟩
  · rw [HT.sIx_nat, List.length_map, Nat.min_eq_left hk] at c
    refine q _ H ⟨a, rfl, ?_⟩ (Same.refl H)
    rw [c.2, List.take_length]
    exact ha
  · refine q _ _ ⟨p, rfl, ?_⟩ (newS hp)
    rw [upd_same, cut_to ns k hk]
/-- t + u of tuples of ints -/
theorem rCatA_ints {H : Hp} {Q : VK} {x y : V} {ns ms : List Int} (hx : TrI H x ns) (hy : TrI H y ms) (hz : ns.length + ms.length ≤ 1000) (q : ∀ t H', TrI H' t (ns ++ ms) → Same H H' → Q t H') : rCatA K x y H Q := by
  obtain ⟨a, rfl, ha⟩ := hx
  obtain ⟨b, rfl, hb⟩ := hy
  refine ⟨a, b, _, _, rfl, rfl, SqT.of ha, SqT.of hb, by rw [List.length_map, List.length_map]; exact sz _ hz, fun e => ?_, fun _ e => ?_, fun _ _ p hp => ?_⟩
  · have e2 : ns = [] := List.map_eq_nil_iff.mp e
    exact q _ H ⟨b, rfl, by rw [e2]; exact hb⟩ (Same.refl H)
  · have e2 : ms = [] := List.map_eq_nil_iff.mp e
    exact q _ H ⟨a, rfl, by rw [e2, List.append_nil]; exact ha⟩ (Same.refl H)
  · refine q _ _ ⟨p, rfl, ?_⟩ (newS hp)
    rw [upd_same, List.map_append]
theorem sqT_same {K : PySem.W.Frag} {H H' : Hp} {a : Addr} {xs : List V} (s : Same H H') (h : SqT K H a xs) : SqT K H' a xs := by
  rcases h with (h | ⟨o, h⟩) | h
  · exact .inl (.inl (s _ _ h))
  · exact .inl (.inr ⟨o, s _ _ h⟩)
  · exact .inr h
theorem tupI_same {K : PySem.W.Frag} {H H' : Hp} {x : V} {ns : List Int} (s : Same H H') (h : TupI K H x ns) : TupI K H' x ns := let ⟨t, e, q⟩ := h; ⟨t, e, sqT_same s q⟩
theorem filter_range_succ (p : Nat → Bool) (i : Nat) : (List.range (i + 1)).filter p = (List.range i).filter p ++ (if p i = true then [i] else []) := by
  rw [List.range_succ, List.filter_append, List.filter_cons, List.filter_nil]
theorem yes {σ : L2.St} {H : Hp} {F G : Hp → Prop} (h : F H) : tYes σ H (fun b H3 => if b = true then F H3 else G H3) := by
  show if true = true then F H else G H
  rw [if_pos rfl]
  exact h
theorem nop {σ : L2.St} {H : Hp} {Q : Option Int → Hp → Prop} (h : Q none H) : tNoPart σ H Q := h
theorem ok_read_from (T : Tx K mg) : Okd P w K mg base 1 (He.fAd K ("read_from", none)) P_read_from spRead := by
  refine okd T 21 d_read_from rfl rfl (N := N_read_from) sc_read_from (fun _ _ _ _ _ _ us hl => match us, hl with | [_, _], _ => rfl) (fun vs H Q E h => ?_) (fun cdv A outer s H vs Q E hr h => ?_)
  · obtain ⟨x, ns, k, rfl, _⟩ := h
    rfl
  · obtain ⟨x, ns, k, rfl, ⟨a, rfl, ha⟩, hk, hn, out⟩ := h
    refine ⟨_, pss_one (ps_ret (pe_op op_catA (pe_slice sl_tupA (pv 0) (po_some (pv 1)) po_none) (pe_slice sl_tupA (pv 0) po_none (po_some (pv 1))))), ?_⟩
    refine ⟨_, rfl, _, rfl, k, rfl, nop (rSlA_from ha hk fun t H1 h1 s1 => ?_)⟩
    refine ⟨_, rfl, nop ⟨_, rfl, k, rfl, rSlA_to (s1 _ _ ha) hk fun u H2 h2 s2 => ?_⟩⟩
    refine rCatA_ints (h1.keep (tupsS s2)) h2 ?_ fun v H3 h3 s3 => out v H3 h3 ((s1.trans s2).trans s3)
    rw [List.length_drop, List.length_take]
    omega
def idxs (ws g : List Int) : List Nat := (List.range ws.length).filter fun i => decide (rot ws i = g)
def spGreat (K : PySem.W.Frag) : Sp := fun vs H Q _ => ∃ (x : V) (ns : List Int), vs = [x] ∧ TrI H x ns ∧ 1 ≤ ns.length ∧ ns.length ≤ 64 ∧
  ∀ g, g ∈ rots ns → (∀ u ∈ rots ns, lexLe u g) → ∀ t H', TrI H' t ((idxs ns g).map fun i : Nat => (i : Int)) → Same H H' → Q t H'
theorem rots_len (ns : List Int) : (rots ns).length = ns.length := by unfold rots; rw [List.length_map, List.length_range]
theorem rots_at {ns : List Int} {i : Nat} (h : i < ns.length) : (rots ns)[i]? = some (rot ns i) := by
  unfold rots
  rw [List.getElem?_map, List.getElem?_range h]
  rfl
/-- the first i readings -/
theorem rots_take {ns : List Int} {i : Nat} (h : i < ns.length) : (rots ns).take (i + 1) = (rots ns).take i ++ [rot ns i] := by
  rw [List.take_add_one, rots_at h]
  rfl
theorem paired_snoc {α β : Type} {R : α → β → Prop} : ∀ {xs : List α} {ys : List β} {x : α} {y : β}, Paired R xs ys → R x y → Paired R (xs ++ [x]) (ys ++ [y])
  | _, _, _, _, .nil, r => .cons r .nil
  | _, _, _, _, .cons h t, r => .cons h (paired_snoc t r)
theorem ok_greatest_from (T : Tx K mg) : Okd P w K mg base 2 (He.fAd K ("greatest_from", none)) P_greatest_from (spGreat K) := by
  obtain ⟨fdR, GR, bR⟩ := ok_read_from (P := P) (w := w) (base := base) T
  refine okd T 22 d_greatest_from rfl rfl (N := N_greatest_from) sc_greatest_from (fun _ _ _ _ _ _ us hl => match us, hl with | [_], _ => rfl) (fun vs H Q E h => ?_) (fun cdv A outer s H vs Q E hr h => ?_)
  · obtain ⟨x, ns, rfl, _⟩ := h
    rfl
  · obtain ⟨x, ns, rfl, ⟨a, rfl, ha⟩, hn1, hn, out⟩ := h
    refine ⟨_, pss_cons (ps_setLc (i := 1) (own := [("house", 3)]) (g := gName 3) (tt := tYes) rfl sc_greatest_from.nd rfl rfl (sw_true rfl rfl rfl (by decide +kernel))
        (pi_range1 rfl T.b_range (pa_cons (pe_callB call_len_seq (by rfl) T.b_len PySem.boot_len (pa_cons (pv 0) pa_nil)) pa_nil))
        (blkOk_by (own := [("house", 3)]) (N := N_greatest_from) (sc := defScope s_greatest_from) (by decide +kernel)) (fun _ _ _ _ _ => pg_name (i := 3) sc_greatest_from.nd rfl (Or.inl rfl)) (fun _ _ _ _ _ => pts_nil)
        (fun _ _ _ _ _ => pe_call GR hr rfl T.g_read_from (T.kp 21 (d := d_read_from) rfl) bR .nil pass0 (pa_cons (pv 0) (pa_cons (pv 3) pa_nil))))
      (pss_cons (ps_set (i := 2) sc_greatest_from.nd rfl (.inr rfl) (pe_callB (cr_maxT rfl hr.units) (by rfl) T.b_max (by decide +kernel) (pa_cons (pv 1) pa_nil)))
      (pss_one (ps_ret (pe_callTy call_tuple_of (by rfl) T.b_tuple (by decide +kernel) (pa_cons
        (pe_lc (own := [("house", 3), ("reading", 4)]) (g := gTup K 2 (gCons (gName 3) (gCons (gName 4) gNil))) (tt := tTest (tOp (rEqT K) (tVar 4) (tVar 2))) (te := tVar 3) rfl sc_greatest_from.nd (pi_enum rfl T.b_enumerate (pa_cons (pv 1) pa_nil))
          (blkOk_by (own := [("house", 3), ("reading", 4)]) (N := N_greatest_from) (sc := defScope s_greatest_from) (by decide +kernel))
          (fun _ _ _ _ _ => by exact pg_tup rfl (pgs_cons (pg_name (i := 3) sc_greatest_from.nd rfl (Or.inl rfl)) (pgs_cons (pg_name (i := 4) sc_greatest_from.nd rfl (Or.inl rfl)) pgs_nil)))
          (fun _ _ _ _ _ => by exact pts_one (pt_cmpR (op_eqT hr.units) (pv 4) (pv 2) (nomark _))) (fun _ _ _ _ _ => pv 3)) pa_nil))))), ?_⟩
    refine ⟨_, rfl, a, _, rfl, .inr (SqT.of ha), (ns.length : Int), ?_, by omega, by omega, fun D hD => ?_⟩
    · rw [List.length_map]
    refine lc_it (walk_range (lo := 0) (n := ns.length)) (fun i H1 => Same H H1 ∧ ∃ xs, H1 D = some (.lst xs) ∧ Paired (TrI H1) xs ((rots ns).take i)) ?_ (fun _ _ _ _ => trivial) ?_ ?_
    · exact ⟨newS hD, [], upd_same, by rw [List.take_zero]; exact .nil⟩
    · rintro i x H1 H2 hi ⟨s1, xs, hx, px⟩ ⟨rfl, rfl⟩
      refine ⟨rfl, ?_⟩
      refine yes ⟨_, rfl, _, rfl, .ref a, ns, i, ?_, ⟨a, rfl, s1 _ _ ha⟩, Nat.le_of_lt hi, hn, fun t H3 h3 s3 => ?_⟩
      · show [V.ref a, V.int (0 + (i : Int))] = [V.ref a, V.int (i : Int)]
        rw [Int.zero_add]
      · refine ⟨xs, s3 _ _ hx, ?_, ?_⟩
        · have l1 := px.length
          rw [List.length_take, rots_len] at l1
          exact small1000 (by omega)
        · have k4 : TupS H3 (upd H3 D (.lst (xs ++ [t]))) := fun b ys e => by rw [upd_ne (ne_of e (s3 _ _ hx) (by intro z; cases z))]; exact e
          refine ⟨fun b o e => ?_, _, upd_same, ?_⟩
          · rw [upd_ne (ne_of_none e hD)]
            exact s3 _ _ (s1 _ _ e)
          · rw [rots_take hi]
            exact paired_snoc (Paired.mapP px fun _ _ z => (z.keep (tupsS s3)).keep k4) (h3.keep k4)
    · rintro H1 ⟨s1, xs, hx, px⟩
      rw [List.take_of_length_le (by rw [rots_len]; exact Nat.le_refl _)] at px
      refine ⟨_, rfl, D, xs, rots ns, rfl, SqL.of hx, Paired.mapP px fun _ _ z => z.tupI, ?_, fun g gl hg hgm hgt => ?_⟩
      · intro e
        have e2 : ns.length = 0 := by rw [← rots_len, e]; rfl
        omega
      refine ⟨_, rfl, D, xs, rfl, SqL.of hx, fun D2 hD2 => ?_⟩
      have n12 : D ≠ D2 := ne_of_none hx hD2
      have lx : xs.length = ns.length := by rw [← rots_len ns]; exact px.length
      refine lc_it (walk_enum (xs := xs)) (fun i H2 => Same H1 H2 ∧ H2 D2 = some (.lst (((List.range i).filter fun j => decide (rot ns j = gl)).map fun j : Nat => V.int (j : Int)))) ?_ (fun i H2 _ p => SqL.of (p.1 _ _ hx)) ?_ ?_
      · exact ⟨newS hD2, upd_same⟩
      · rintro i x H2 H3 hi ⟨s2, h2⟩ ⟨Tp, z1, z2, rfl, hT, rfl, e1, e2⟩
        cases e1
        rw [lx] at hi
        obtain ⟨rt, hr1, hr2⟩ := paired_get px e2
        rw [rots_at hi] at hr1
        cases hr1
        have s3 : Same H2 (upd H2 Tp (.tup [.int (i : Int), z2])) := newS hT
        refine ⟨Tp, _, rfl, SqT.of upd_same, rfl, _, _, rfl, _, _, rfl, rfl, rfl, _, rfl, _, rfl, rot ns i, gl, ((hr2.keep (tupsS s2)).keep (tupsS s3)).tupI, ?_, _, rfl, ?_⟩
        · exact tupI_same (s2.trans s3) hg
        · have nD2 : D2 ≠ Tp := ne_of_none h2 hT
          have h2' : upd H2 Tp (.tup [.int (i : Int), z2]) D2 = some (.lst (((List.range i).filter fun j => decide (rot ns j = gl)).map fun j : Nat => V.int (j : Int))) := s3 _ _ h2
          have keep : ∀ o, Same H1 (upd (upd H2 Tp (.tup [.int (i : Int), z2])) D2 o) := fun o b u e => by
            rw [upd_ne (ne_of_none e hD2)]
            exact s3 _ _ (s2 _ _ e)
          refine ite2 (fun c => ?_) (fun c => ?_)
          · refine ⟨_, rfl, _, h2', ?_, keep _, ?_⟩
            · rw [List.length_map]
              exact small1000 (Nat.le_trans (Nat.le_trans (List.length_filter_le _ _) (by rw [List.length_range]; exact Nat.le_refl _)) (by omega))
            · rw [upd_same, filter_range_succ, if_pos c, List.map_append]
              rfl
          · refine ⟨s2.trans s3, ?_⟩
            rw [h2', filter_range_succ, if_neg c, List.append_nil]
      · rintro H2 ⟨s2, h2⟩
        refine ⟨D2, _, rfl, .inl ⟨SqL.of h2, fun t ht => ?_⟩⟩
        refine out gl hgm hgt _ _ ⟨t, rfl, ?_⟩ ((s1.trans s2).trans (newS ht))
        rw [upd_same, lx, List.map_map]
        rfl
end
end RC
namespace RC
open PySem PySem.Spec PyProof.Rows L2
theorem idxs_len (w g : List Int) : (idxs w g).length = (rots w).count g := by
  have h : ∀ (l : List Nat), (l.filter fun i => decide (rot w i = g)).length = (l.map (rot w)).count g := fun l => by
    induction l with
    | nil => rfl
    | cons i l ih =>
      rw [List.filter_cons, List.map_cons, List.count_cons]
      by_cases c : rot w i = g
      · rw [if_pos (decide_eq_true c), List.length_cons, ih, if_pos (by simp [c])]
      · rw [if_neg (by simp [c]), ih, if_neg (by simp [c])]
        rfl
  exact h _
theorem idxs_mem {w g : List Int} {i : Nat} (h : i ∈ idxs w g) : i < w.length ∧ rot w i = g := by
  obtain ⟨h1, h2⟩ := List.mem_filter.mp h
  exact ⟨List.mem_range.mp h1, of_decide_eq_true h2⟩
theorem count_pos {w g : List Int} (h : g ∈ rots w) : 0 < (rots w).count g := List.count_pos_iff.mpr h
section
variable {P : Program} {w : World} {K : PySem.W.Frag} {mg : PySem.Str → Option Value} {base : Heap}
theorem ok_Wh_init (T : Tx K mg) : Okd P w K mg base 2 (He.fAd K ("WholeHouse", some "__init__")) P_Wh_init (spHoInit K .whole) := by
  obtain ⟨fdI, GI, bI⟩ := ok_Rh_init (P := P) (w := w) (base := base) T .whole
  refine okd T 23 d_Wh_init rfl rfl (N := N_Wh_init) sc_Wh_init (fun _ _ _ _ _ _ us hl => match us, hl with | [_, _, _], _ => rfl) (fun vs H Q E h => ?_) (fun cdv A outer s H vs Q E hr h => ?_)
  · obtain ⟨p, dx, own, n, rfl, _⟩ := h
    rfl
  · obtain ⟨p, dx, own, n, rfl, hp, out⟩ := h
    refine ⟨_, pss_cons (ps_expr (pe_clsf (pe_glob (v := .ref (He.ga K "RingHouse")) rfl T.g_RingHouse rfl) T.rd T.s.ex3 (T.kp 0 (d := d_Rh_init) rfl) GI hr bI pass0 (pa_cons (pv 0) (pa_cons (pv 1) (pa_cons (pv 2) pa_nil)))))
      (pss_one (ps_fld (pv 0) (pe_lst pa_nil) rfl)), ?_⟩
    refine ⟨rfl, _, rfl, _, rfl, _, rfl, p, dx, own, n, rfl, hp, fun H1 h1 k1 => ?_⟩
    refine ⟨sz 0, fun la hl => ?_⟩
    have ne : p ≠ la := ne_of_none h1 hl
    refine ⟨_, rfl, p, _, dx, _, rfl, (by rw [upd_ne ne]; exact h1), T.hc .whole, T.n_WholeHouse_labels, (by show 6 < 1000; decide), ?_⟩
    have hl0 : H la = none := by
      cases q : H la with
      | none => rfl
      | some o =>
        have := k1 la o q ne.symm
        rw [hl] at this
        cases this
    refine out _ la ⟨⟨dx, .non, ?_, .no⟩, fun _ => ?_⟩ hl0 fun b o e hb => by rw [upd_ne hb, upd_ne (ne_of_none (k1 b o e hb) hl)]; exact k1 b o e hb
    · rw [upd_same]
      kernel_rfl
    · rw [upd_ne ne.symm, upd_same]
      rfl
def spGr (K : PySem.W.Frag) : Sp := fun vs H Q _ => ∃ (n : Nat) (p la : Addr) (ho : Ho), vs = [.ref p] ∧ HouAt K .whole n H p la ho ∧ ho.labels.length ≤ 63 ∧ ∀ t H' r, TrI H' t r → GR (ho.own :: ho.labels.reverse) r → Same H H' → Q t H'
theorem ok_Wh_great (T : Tx K mg) : Okd P w K mg base 3 (He.fAd K ("WholeHouse", some "greatest_reading")) P_Wh_great (spGr K) := by
  obtain ⟨fdR, GR', bR⟩ := (ok_read_from (P := P) (w := w) (base := base) T).mono (k := 2) (by decide)
  obtain ⟨fdG, GG, bG⟩ := ok_greatest_from (P := P) (w := w) (base := base) T
  refine okd T 27 d_Wh_great rfl rfl (N := N_Wh_great) sc_Wh_great (fun _ _ _ _ _ _ us hl => match us, hl with | [_], _ => rfl) (fun vs H Q E h => ?_) (fun cdv A outer s H vs Q E hr h => ?_)
  · obtain ⟨n, p, la, ho, rfl, _⟩ := h
    rfl
  · obtain ⟨n, p, la, ho, rfl, hh, hlen, out⟩ := h
    obtain ⟨dx, cv, hp, hc⟩ := hh.ob
    have hla := hh.lab rfl
    refine ⟨_, pss_cons (ps_set (i := 1) sc_Wh_great.nd rfl (.inl rfl) (pe_op op_catA (pe_tup (pa_cons (pe_fld (pv 0) rfl) pa_nil)) (pe_callTy call_tuple_of (by rfl) T.b_tuple (by decide +kernel) (pa_cons (pe_revL (pe_fld (pv 0) rfl)) pa_nil))))
      (pss_cons (ps_set (i := 2) sc_Wh_great.nd rfl (.inl rfl) (pe_call GG hr rfl T.g_greatest_from (T.kp 22 (d := d_greatest_from) rfl) bG .nil pass0 (pa_cons (pv 1) pa_nil)))
      (pss_cons (ps_if (pt_cmpR op_gt (pe_callB call_len_seq (by rfl) T.b_len PySem.boot_len (pa_cons (pv 2) pa_nil)) pe_int (nomark _)) (pss_one (ps_ret (pe_tup pa_nil))) pss_nil)
      (pss_one (ps_ret (pe_call GR' hr rfl T.g_read_from (T.kp 21 (d := d_read_from) rfl) bR .nil pass0 (pa_cons (pv 1) (pa_cons (pe_ix ix_tup (pv 2) pe_int (fun _ _ => rfl)) pa_nil))))))), ?_⟩
    refine ⟨_, rfl, p, _, dx, _, _, rfl, hp, T.hc .whole, T.hn_own .whole, rfl, sz 1, fun a ha => ?_⟩
    have s1 : Same H (upd H a (.tup [.int ho.own])) := newS ha
    refine ⟨_, rfl, p, _, dx, _, _, rfl, s1 _ _ hp, T.hc .whole, T.n_WholeHouse_labels, rfl, la, _, rfl, SqL.of (s1 _ _ hla), fun b hb => ?_⟩
    have s2 : Same (upd H a (.tup [.int ho.own])) (upd (upd H a (.tup [.int ho.own])) b (.lst (ho.labels.map V.int).reverse)) := newS hb
    refine ⟨b, _, rfl, .inl ⟨SqL.of upd_same, fun c hcc => ?_⟩⟩
    have s3 : Same (upd (upd H a (.tup [.int ho.own])) b (.lst (ho.labels.map V.int).reverse)) (upd (upd (upd H a (.tup [.int ho.own])) b (.lst (ho.labels.map V.int).reverse)) c (.tup (ho.labels.map V.int).reverse)) := newS hcc
    refine rCatA_ints (ns := [ho.own]) (ms := ho.labels.reverse) ⟨a, rfl, s3 _ _ (s2 _ _ upd_same)⟩ ⟨c, rfl, by rw [upd_same, List.map_reverse]⟩ (by rw [List.length_reverse]; show 1 + _ ≤ 1000; omega) fun t H1 h1 s4 => ?_
    have sH1 : Same H H1 := ((s1.trans s2).trans s3).trans s4
    have h1 : TrI H1 t (ho.own :: ho.labels.reverse) := h1
    have lw : (ho.own :: ho.labels.reverse).length = ho.labels.length + 1 := by rw [List.length_cons, List.length_reverse]
    refine ⟨_, rfl, t, _, rfl, h1, by omega, by omega, fun g gm gt u H2 h2 s5 => ?_⟩
    obtain ⟨ua, rfl, hu⟩ := id h2
    refine ⟨_, rfl, ua, _, rfl, .inr (SqT.of hu), _, _, rfl, rfl, _, rfl, ?_⟩
    have el : (((idxs (ho.own :: ho.labels.reverse) g).map fun i : Nat => (i : Int)).map V.int).length = (rots (ho.own :: ho.labels.reverse)).count g := by
      rw [List.length_map, List.length_map, idxs_len]
    rw [el]
    by_cases c : 1 < (rots (ho.own :: ho.labels.reverse)).count g
    · rw [decide_eq_true (show (1 : Int) < (((rots (ho.own :: ho.labels.reverse)).count g : Nat) : Int) by omega)]
      refine iteT ⟨sz 0, fun z hz => out _ _ [] ⟨z, rfl, upd_same⟩ ⟨g, gm, gt, ?_⟩ ((sH1.trans s5).trans (newS hz))⟩
      rw [if_pos c]
    · rw [decide_eq_false (show ¬ (1 : Int) < (((rots (ho.own :: ho.labels.reverse)).count g : Nat) : Int) by omega)]
      have c0 := count_pos gm
      obtain ⟨i, hi⟩ : ∃ i, (idxs (ho.own :: ho.labels.reverse) g)[0]? = some i := by
        have : 0 < (idxs (ho.own :: ho.labels.reverse) g).length := by rw [idxs_len]; exact c0
        exact ⟨_, List.getElem?_eq_getElem this⟩
      obtain ⟨i1, i2⟩ := idxs_mem (List.mem_of_getElem? hi)
      refine iteF ⟨_, rfl, _, rfl, ua, _, 0, .int (i : Int), rfl, rfl, SqT.of hu, ?_, t, _, i, rfl, h1.keep (tupsS s5), Nat.le_of_lt i1, by omega, fun z H3 h3 s6 => ?_⟩
      · exact atI_nat (j := 0) (by rw [List.getElem?_map, List.getElem?_map, hi]; rfl)
      · refine out z H3 g (by rw [i2] at h3; exact h3) ⟨g, gm, gt, by rw [if_neg c]⟩ ((sH1.trans s5).trans s6)
theorem HouAt.chief {K : PySem.W.Frag} {n : Nat} {H1 : Hp} {p la : Addr} {ho : Ho} {t : V} {r : List Int} {dx : Addr} {cv : V} (h : HouAt K .whole n H1 p la ho) (hp : H1 p = some (.ins (HoC K .whole) dx (houF .whole ho n cv la)))
    (ht : TrI H1 t r) (g : GR (ho.own :: ho.labels.reverse) r) : HouAt K .whole n (upd H1 p (.ins (HoC K .whole) dx (putF "chief_name" t (houF .whole ho n cv la)))) p la { ho with chief := some (ho.own :: ho.labels.reverse) } := by
  obtain ⟨a, rfl, ha⟩ := ht
  exact HouAt.set hp h.lab (by kernel_rfl) (.rd a r _ rfl ha g)
theorem ok_Wh_first (T : Tx K mg) : Okd P w K mg base 4 (He.fAd K ("WholeHouse", some "first_told")) P_Wh_first (spFirst K .whole) := by
  obtain ⟨fdG, GG, bG⟩ := ok_Wh_great (P := P) (w := w) (base := base) T
  refine okd T 24 d_Wh_first rfl rfl (N := N_Wh_first) sc_Wh_first (fun _ _ _ _ _ _ us hl => match us, hl with | [_], _ => rfl) (fun vs H Q E h => ?_) (fun cdv A outer s H vs Q E hr h => ?_)
  · obtain ⟨n, p, la, ho, rfl, _⟩ := h
    rfl
  · obtain ⟨n, p, la, ho, rfl, ⟨hn, hlen⟩, hh, out⟩ := h
    obtain ⟨dx, cv, hp, hc⟩ := hh.ob
    refine ⟨_, pss_cons (ps_if (pt_cmpR op_eq (pe_fld (pv 0) rfl) pe_int (nomark _))
        (pss_cons (ps_fld (pv 0) (pe_meth0 (pv 0) T.c_WholeHouse T.m_WholeHouse_greatest_reading GG hr bG .nil pass0) rfl) (pss_one (ps_ret (pe_lst pa_nil)))) pss_nil)
      (pss_one (ps_ret (pe_lst (pa_cons (pe_tup (pa_cons pe_int (pa_cons (pe_tup (pa_cons pe_str (pa_cons (pe_fld (pv 0) rfl) pa_nil))) pa_nil))) pa_nil)))), ?_⟩
    refine ⟨_, rfl, p, _, dx, _, .int n, rfl, hp, T.hc .whole, T.hn_many .whole, (by kernel_rfl), rfl, _, rfl, ?_⟩
    rw [int_dec]
    by_cases c : n = 1
    · rw [decide_eq_true (show (n : Int) = 1 by omega)]
      have e0 : firstTold .whole n ho = ({ ho with chief := some (ho.own :: ho.labels.reverse) }, []) := if_pos c
      rw [e0] at out
      refine iteT ⟨_, rfl, p, dx, _, rfl, hp, (by kernel_rfl), n, p, la, ho, rfl, hh, by omega, fun t H1 r h1 g s1 => ?_⟩
      refine ⟨_, rfl, p, _, dx, _, rfl, s1 _ _ hp, T.hc .whole, T.hn_chief_name .whole, houF_len .., sz 0, fun u hu => ?_⟩
      have h2 := HouAt.chief (hh.same s1) (s1 _ _ hp) h1 g
      exact out _ u (h2.same (newS hu)) told0 ((butS s1).trans (But.upd.same (newS hu))) (s1.free (updN hu))
    · rw [decide_eq_false (show ¬ (n : Int) = 1 by omega)]
      have e0 : firstTold .whole n ho = (ho, [(1, .label ho.own)]) := if_neg c
      rw [e0] at out
      refine iteF ⟨_, rfl, p, _, dx, _, _, rfl, hp, T.hc .whole, T.hn_own .whole, rfl, sz 2, fun a ha => ⟨sz 2, fun b hb => ⟨sz 1, fun t ht => ?_⟩⟩⟩
      obtain ⟨t1, t2⟩ := told1n (s := 1) (l := .label ho.own) ha hb ht
      exact out _ t (hh.same t2) t1 (butS t2) (updN (updN ht))
theorem ok_Wh_awake (T : Tx K mg) : Okd P w K mg base 4 (He.fAd K ("WholeHouse", some "heard_awake")) P_Wh_awake (spAwake K .whole) := by
  obtain ⟨fdG, GG, bG⟩ := ok_Wh_great (P := P) (w := w) (base := base) T
  refine okd T 26 d_Wh_awake rfl rfl (N := N_Wh_awake) sc_Wh_awake (fun _ _ _ _ _ _ us hl => match us, hl with | [_, _, _], _ => rfl) (fun vs H Q E h => ?_) (fun cdv A outer s H vs Q E hr h => ?_)
  · obtain ⟨n, p, la, ho, s, l, lv, r, rfl, _⟩ := h
    rfl
  · obtain ⟨n, p, la, ho, s, l, lv, r, rfl, hn, hh, hl, hlen, hr1, out⟩ := h
    obtain ⟨dx, cv, hp, hc⟩ := hh.ob
    obtain ⟨a, rfl, ha⟩ := id hl
    obtain ⟨v, rfl⟩ : ∃ v, l = .label v := by
      cases l with
      | label v => exact ⟨v, rfl⟩
      | _ => cases hr1
    have hla := hh.lab rfl
    have nlp : la ≠ p := hh.la_ne rfl
    refine ⟨_, pss_cons (ps_expr (pe_bm PySem.F.plainAttrs_list PySem.F.slot_list_append PySem.F.type_list_append mt_append (pe_fld (pv 0) rfl) (pa_cons (pe_ix ix_tup (pv 2) pe_int (fun _ _ => rfl)) pa_nil)))
      (pss_cons (ps_if (pt_cmpR op_lt (pe_callB call_len_seq (by rfl) T.b_len PySem.boot_len (pa_cons (pe_fld (pv 0) rfl) pa_nil)) (pe_op op_sub (pe_fld (pv 0) rfl) pe_int) (nomark _)) (pss_one (ps_ret (pe_lst (pa_cons (pe_tup (pa_cons (pe_un un_neg (pv 1)) (pa_cons (pv 2) pa_nil))) pa_nil)))) pss_nil)
      (pss_cons (ps_fld (pv 0) (pe_meth0 (pv 0) T.c_WholeHouse T.m_WholeHouse_greatest_reading GG hr bG .nil pass0) rfl) (pss_one (ps_ret (pe_lst pa_nil))))), ?_⟩
    refine ⟨_, rfl, p, _, dx, _, _, rfl, hp, T.hc .whole, T.n_WholeHouse_labels, rfl, .inl ⟨rfl, _, SqL.of hla⟩, _, rfl, a, _, 1, .int v, rfl, rfl, SqT.of ha, rfl, la, _, _, rfl, rfl, hla, small1000 (by rw [List.length_map]; omega), ?_⟩
    have e1 : ho.labels.map V.int ++ [V.int v] = (ho.labels ++ [v]).map V.int := by rw [List.map_append]; rfl
    rw [e1]
    have h1 : HouAt K .whole n (upd H la (.lst ((ho.labels ++ [v]).map V.int))) p la { ho with labels := ho.labels ++ [v] } := by
      have k : TupS H (upd H la (.lst ((ho.labels ++ [v]).map V.int))) := fun b ys e => by rw [upd_ne (ne_of e hla (by intro z; cases z))]; exact e
      refine ⟨⟨dx, cv, ?_, hc.keep k⟩, fun _ => upd_same⟩
      rw [upd_ne nlp.symm]
      exact hp
    have hp1 : upd H la (.lst ((ho.labels ++ [v]).map V.int)) p = some (.ins (HoC K .whole) dx (houF .whole { ho with labels := ho.labels ++ [v] } n cv la)) := by
      rw [upd_ne nlp.symm]
      exact hp
    have but1 : But p la H (upd H la (.lst ((ho.labels ++ [v]).map V.int))) := fun b o e n1 n2 => by rw [upd_ne n2]; exact e
    have ll : (((ho.labels ++ [v]).map V.int).length : Int) = ((ho.labels ++ [v]).length : Int) := by rw [List.length_map]
    refine ⟨_, rfl, p, _, dx, _, _, rfl, hp1, T.hc .whole, T.n_WholeHouse_labels, rfl, la, _, rfl, .inl (SqL.of upd_same), _, rfl, p, _, dx, _, .int n, rfl, hp1, T.hc .whole, T.hn_many .whole, rfl, _, _, rfl, rfl, _, _, rfl, rfl, _, rfl, ?_⟩
    rw [ll]
    have er : some r = if ((ho.labels ++ [v]).length : Int) < (n : Int) - 1 then some ({ ho with labels := ho.labels ++ [v] }, [(-s, .label v)]) else some ({ ho with labels := ho.labels ++ [v], chief := some (ho.own :: (ho.labels ++ [v]).reverse) }, []) := hr1.symm
    by_cases c : ((ho.labels ++ [v]).length : Int) < (n : Int) - 1
    · rw [decide_eq_true c]
      rw [if_pos c] at er
      have e2 := Option.some.inj er
      subst e2
      refine iteT ⟨_, rfl, s, rfl, _, rfl, sz 2, fun b hb => ⟨sz 1, fun t ht => ?_⟩⟩
      have na : a ≠ la := ne_of ha hla (by intro z; cases z)
      obtain ⟨t1, t2⟩ := told1 (s := -s) (l := .label v) (lv := .ref a) ⟨a, rfl, by rw [upd_ne na]; exact ha⟩ hb ht
      exact out _ t (h1.same t2) t1 (but1.same t2) (updN (updN ht))
    · rw [decide_eq_false c]
      rw [if_neg c] at er
      have e2 := Option.some.inj er
      subst e2
      have hl2 : (ho.labels ++ [v]).length ≤ 63 := by rw [List.length_append, List.length_singleton]; omega
      refine iteF ⟨_, rfl, p, dx, _, rfl, hp1, (by kernel_rfl), n, p, la, _, rfl, h1, hl2, fun t H1 r h2 g s1 => ?_⟩
      refine ⟨_, rfl, p, _, dx, _, rfl, s1 _ _ hp1, T.hc .whole, T.hn_chief_name .whole, houF_len .., sz 0, fun u hu => ?_⟩
      have h3 := HouAt.chief (h1.same s1) (s1 _ _ hp1) h2 g
      exact out _ u (h3.same (newS hu)) told0 ((but1.same s1).trans (But.upd.same (newS hu))) (updN (s1.free (updN hu)))
theorem paired_app {α β : Type} {R : α → β → Prop} : ∀ {xs xs' : List α} {ys ys' : List β}, Paired R xs ys → Paired R xs' ys' → Paired R (xs ++ xs') (ys ++ ys')
  | _, _, _, _, .nil, r => r
  | _, _, _, _, .cons h t, r => .cons h (paired_app t r)
theorem start_whole (n : Nat) (ho : Ho) : (startH .whole n ho).1.labels = ho.labels ∧ (startH .whole n ho).2.length ≤ 1 := by
  by_cases c : n = 1
  · have e : startH .whole n ho = ({ ho with awake := true, chief := some (ho.own :: ho.labels.reverse) }, []) := if_pos c
    rw [e]
    exact ⟨rfl, Nat.zero_le _⟩
  · have e : startH .whole n ho = ({ ho with awake := true }, [(1, .label ho.own)]) := if_neg c
    rw [e]
    exact ⟨rfl, Nat.le_refl _⟩
theorem awake_whole {n : Nat} {ho : Ho} {s : Int} {l : Lt} {z : Ho × Told} (h : heardAwake .whole n ho s l = some z) : z.2.length ≤ 1 := by
  cases l with
  | label v =>
    have e : some z = if ((ho.labels ++ [v]).length : Int) < (n : Int) - 1 then some ({ ho with labels := ho.labels ++ [v] }, [(-s, .label v)]) else some ({ ho with labels := ho.labels ++ [v], chief := some (ho.own :: (ho.labels ++ [v]).reverse) }, []) := h.symm
    by_cases c : ((ho.labels ++ [v]).length : Int) < (n : Int) - 1
    · rw [if_pos c] at e
      rw [Option.some.inj e]
      exact Nat.le_refl _
    · rw [if_neg c] at e
      rw [Option.some.inj e]
      exact Nat.zero_le _
  | _ => cases h
theorem ok_Wh_hear (T : Tx K mg) : Okd P w K mg base 6 (He.fAd K ("WholeHouse", some "hear_one")) P_Wh_hear (spHear K .whole) := by
  obtain ⟨fdS, GS, bS⟩ := ok_Rh_start (P := P) (w := w) (base := base) T .whole T.m_WholeHouse_first_told (ok_Wh_first T)
  obtain ⟨fdA, GA, bA⟩ := (ok_Wh_awake (P := P) (w := w) (base := base) T).mono (k := 5) (by decide)
  refine okd T 25 d_Wh_hear rfl rfl (N := N_Wh_hear) sc_Wh_hear (fun _ _ _ _ _ _ us hl => match us, hl with | [_, _, _], _ => rfl) (fun vs H Q E h => ?_) (fun cdv A outer s H vs Q E hr h => ?_)
  · obtain ⟨n, p, la, ho, s, l, lv, r, rfl, _⟩ := h
    rfl
  · obtain ⟨n, p, la, ho, s, l, lv, r, rfl, hn, hh, hl, hlen, hr1, out⟩ := h
    obtain ⟨dx, cv, hp, hc⟩ := hh.ob
    refine ⟨_, pss_cons (ps_set (i := 3) sc_Wh_hear.nd rfl (.inl rfl) (pe_lst pa_nil))
      (pss_cons (ps_if (pt_not (pt_val (pe_fld (pv 0) rfl))) (pss_one (ps_set (i := 3) sc_Wh_hear.nd rfl (.inl rfl) (pe_meth0 (pv 0) T.c_WholeHouse T.m_WholeHouse_start GS hr bS .nil pass0))) pss_nil)
      (pss_one (ps_ret (pe_op op_cat (pv 3) (pe_meth (pv 0) T.c_WholeHouse T.m_WholeHouse_heard_awake GA hr bA .nil pass0 (pa_cons (pv 1) (pa_cons (pv 2) pa_nil))))))), ?_⟩
    have hfit : fits .whole l = true := by
      unfold hear at hr1
      split at hr1
      · assumption
      · cases hr1
    have er : (heardAwake .whole n (if ho.awake then (ho, []) else startH .whole n ho).1 s l).map (fun q => (q.1, (if ho.awake then (ho, ([] : Told)) else startH .whole n ho).2 ++ q.2)) = some r := by
      unfold hear at hr1
      rw [if_pos hfit] at hr1
      exact hr1
    refine ⟨sz 0, fun t0 ht0 => ?_⟩
    have s0 : Same H (upd H t0 (.lst [])) := newS ht0
    refine ⟨_, rfl, p, _, dx, _, .bl ho.awake, rfl, s0 _ _ hp, T.hc .whole, T.hn_awake .whole, (by kernel_rfl), _, rfl, ?_⟩
    -- what follows, from the house h1 and what was told so far
    have rest : ∀ (H1 : Hp) (t1 : Addr) (q : Ho × Told), HouAt K .whole n H1 p la q.1 → ToldAt H1 t1 q.2 → But p la H H1 → q.1.labels.length ≤ 60 →
        H t1 = none → q.2.length ≤ 1 → (heardAwake .whole n q.1 s l).map (fun z => (z.1, q.2 ++ z.2)) = some r →
        tRet (tOp rCat (tVar 3) (tMeth (He.ga K "WholeHouse") "heard_awake" (spAwake K .whole) [] E0 (tVar 0) (tCons (tVar 1) (tCons (tVar 2) tNil)))) { nx := fun _ H' => Q .non H', rt := Q } [some (.ref p), some (.int s), some lv, some (.ref t1)] H1 := by
      intro H1 t1 q h1 ht1 b1 hl1 fr lq e1
      obtain ⟨z, ez, ez2⟩ := Option.map_eq_some_iff.mp e1
      subst ez2
      have lz := awake_whole ez
      obtain ⟨dx1, cv1, hp1, hc1⟩ := h1.ob
      refine ⟨_, rfl, _, rfl, p, dx1, _, rfl, hp1, (by kernel_rfl), _, rfl, _, rfl, n, p, la, q.1, s, l, lv, z, rfl, hn, h1, hl.keep (b1.tups hh (.inr rfl)), hl1, ez, fun H2 t2 h2 ht2 b2 _ => ?_⟩
      have k2 : TupS H1 H2 := b2.tups h1 (.inr rfl)
      obtain ⟨ds1, hd1, pd1⟩ := ht1
      obtain ⟨ds2, hd2, pd2⟩ := ht2
      have n1 : t1 ≠ p := ne_of hd1 hp1 (by intro x; cases x)
      have n2 : t1 ≠ la := fun e => by
        have := hh.lab rfl
        rw [← e, fr] at this
        cases this
      refine ⟨t1, t2, ds1, ds2, rfl, rfl, b2 _ _ hd1 n1 n2, hd2, ?_, fun u hu => ?_⟩
      · have l1 := pd1.length
        have l2 := pd2.length
        exact sz _ (by omega)
      · have s3 : Same H2 (upd H2 u (.lst (ds1 ++ ds2))) := newS hu
        refine out _ u (h2.same s3) ⟨_, upd_same, paired_app (Paired.mapP pd1 fun _ _ x => (x.keep k2).keep (tupsS s3)) (Paired.mapP pd2 fun _ _ x => x.keep (tupsS s3))⟩ ((b1.trans b2).same s3) ?_
        cases e : H u with
        | none => rfl
        | some o =>
          obtain ⟨dx2, cv2, hp2, _⟩ := h2.ob
          have q1 := (b1.trans b2) u o e (fun z => by rw [z, hp2] at hu; cases hu) (fun z => by rw [z, h2.lab rfl] at hu; cases hu)
          rw [hu] at q1
          cases q1
    cases haw : ho.awake with
    | true =>
      rw [haw] at er
      refine iteF (rest _ t0 (ho, []) (hh.same s0) told0 (butS s0) hlen ht0 (Nat.zero_le _) er)
    | false =>
      rw [haw] at er
      refine iteT ⟨_, rfl, p, dx, _, rfl, s0 _ _ hp, (by kernel_rfl), n, p, la, ho, rfl, ⟨hn, hlen⟩, hh.same s0, fun H1 t1 h1 ht1 b1 fr => ?_⟩
      refine rest H1 t1 (startH .whole n ho) h1 ht1 ((butS s0).trans b1) ?_ (updN fr) (start_whole n ho).2 er
      rw [(start_whole n ho).1]
      exact hlen
end
end RC
namespace RC
open PySem PySem.Spec PyProof.Rows L2
theorem nodup_le : ∀ {l m : List Int}, l.Nodup → (∀ x ∈ l, x ∈ m) → l.length ≤ m.length
  | [], _, _, _ => Nat.zero_le _
  | x :: l, m, hn, hs => by
    obtain ⟨h1, h2⟩ := List.nodup_cons.mp hn
    have hx : x ∈ m := hs x List.mem_cons_self
    have ih := nodup_le (l := l) (m := m.erase x) h2 fun z hz => by
      have ne : z ≠ x := fun e => h1 (by rw [← e]; exact hz)
      exact (List.mem_erase_of_ne ne).mpr (hs z (List.mem_cons_of_mem _ hz))
    rw [List.length_erase_of_mem hx] at ih
    have := List.length_pos_of_mem hx
    rw [List.length_cons]
    omega
section
variable {X : Cx}
/-- len(set(t)), t a tuple of distinct ints -/
def tLenSetT (K : PySem.W.Frag) (ta : TE) : TE := fun σ H Q => ta σ H fun x H1 => ∃ (l : Addr) (ns : List Int), x = V.ref l ∧ SqT K H1 l (ns.map V.int) ∧ ns.length ≤ 64 ∧ ns.Nodup ∧ Q (.int ns.length) H1
theorem pe_lenSetT {a : Expr} {ta : TE} {p p2 q pos : Pos} (hc : X.calm = true) (hg : Gl X "len") (hm : X.mg "len" = none) (hg2 : Gl X "set") (hm2 : X.mg "set" = none) (ha : PE X a ta)
    (na : starEach [a] X.env = (false, eval a X.env) :: starEach [] X.env := by rfl) : PE X (.Call (.Name "len" p) [.Call (.Name "set" p2) [a] [] q] [] pos) (tLenSetT X.K ta) := by
  constructor
  intro pins s σ H Q I h
  refine Call_ (ld_blt I hg hm PySem.boot_len (PyProof.Rows.callWith_builtin1 (PyProof.Rows.args_cons ?_ rfl) rfl rfl))
  refine Call_ (ld_blt I hg2 hm2 PyProof.Rows.boot_set (PyProof.Rows.callWith_type1 (PyProof.Rows.args_cons (thn (ha.run pins s σ H _ I h) ?_) na) na rfl))
  rintro v s1 ⟨x, H1, I1, r1, l, ns, rfl, hq, h1, hnd, q1⟩
  refine PyProof.Rows.args_nil ?_
  cases r1
  obtain ⟨its, rv, pt, hz⟩ := I1.tuple hq
  refine call_set_tupI ns (I1.ok.hd hc) (show s1.heap.IsTuple l its.toArray from pt) (by simpa using intsAre_of rv) (by unfold scanBound; omega) fun h' tk c R1 hcn k => ?_
  obtain ⟨o, es, ep, t, ho, hex, hdt, g, nd, hm3, hb, hf, hn, hr, hl2⟩ := R1
  have e1 : es.size = ns.length := by
    have z := nodup_le hnd (m := es.toList.map keyOf) fun x hx => (hm3 x).mp (decide_eq_true hx)
    have z2 : (es.toList.map keyOf).length = es.size := by rw [List.length_map]; exact Array.length_toList
    omega
  refine PyProof.Rows.args_nil ?_
  have I2 : Inv X pins σ H1 { s1 with heap := h', toks := tk } := I1.kept k
  refine call_len_set ho hex hdt hf (by omega) ⟨.int ns.length, H1, I2.tok _, ⟨_, by rw [e1]⟩, q1⟩
end
section
variable {P : Program} {w : World} {K : PySem.W.Frag} {mg : PySem.Str → Option Value} {base : Heap}
def spNum : Sp := fun vs H Q _ => ∃ i m : Int, vs = [.int i, .int m] ∧ 0 ≤ i ∧ i ≤ m ∧ Q (.bl true) H
theorem ok_is_number (T : Tx K mg) : Okd P w K mg base 1 (He.fAd K ("is_number", none)) P_is_number spNum := by
  refine okd T 15 d_is_number rfl rfl (N := N_is_number) sc_is_number (fun _ _ _ _ _ _ us hl => match us, hl with | [_, _], _ => rfl) (fun vs H Q E h => ?_) (fun cdv A outer s H vs Q E hr h => ?_)
  · obtain ⟨i, m, rfl, _⟩ := h
    rfl
  · obtain ⟨i, m, rfl, h0, h1, out⟩ := h
    refine ⟨_, pss_one (ps_ret (pe_and (pe_callB call_isi (by rfl) T.b_isinstance (by decide +kernel) (pa_cons (pv 0) (pa_cons (pe_bltn (v := .ty "int") (by rfl) T.b_int (by decide +kernel) rfl) pa_nil)))
      (pe_and (pe_not (pe_callB call_isi (by rfl) T.b_isinstance (by decide +kernel) (pa_cons (pv 0) (pa_cons (pe_bltn (v := .ty "bool") (by rfl) T.b_bool (by decide +kernel) rfl) pa_nil))))
      (pe_one (pe_chain op_le op_le pe_int (pv 0) (pv 1)))))), ?_⟩
    refine ⟨_, rfl, _, _, _, _, true, rfl, .ty "int", .base (.int i), kit_ty (by decide +kernel), true, rfl, iteT ?_⟩
    refine ⟨_, rfl, _, _, _, _, false, rfl, .ty "bool", .base (.int i), kit_ty (by decide +kernel), false, rfl, true, rfl, iteT ?_⟩
    refine ⟨_, rfl, _, _, rfl, rfl, _, rfl, ?_⟩
    rw [decide_eq_true h0]
    refine iteT ⟨_, rfl, _, _, rfl, rfl, ?_⟩
    show Q (.bl (decide (i ≤ m))) H
    rw [decide_eq_true h1]
    exact out
def spNums (K : PySem.W.Frag) : Sp := fun vs H Q _ => ∃ (a : Addr) (ns : List Int) (m : Int), vs = [.ref a, .int m] ∧ H a = some (.tup (ns.map V.int)) ∧ 1 ≤ ns.length ∧ ns.length ≤ 64 ∧ (∀ x ∈ ns, 0 ≤ x ∧ x ≤ m) ∧ ∀ H', Same H H' → Q (.bl true) H'
theorem ok_are_numbers (T : Tx K mg) : Okd P w K mg base 2 (He.fAd K ("are_numbers", none)) P_are_numbers (spNums K) := by
  obtain ⟨fdN, GN, bN⟩ := ok_is_number (P := P) (w := w) (base := base) T
  obtain ⟨tk, hM⟩ := T.i_MOST_HOUSES
  refine okd T 16 d_are_numbers rfl rfl (N := N_are_numbers) sc_are_numbers (fun _ _ _ _ _ _ us hl => match us, hl with | [_, _], _ => rfl) (fun vs H Q E h => ?_) (fun cdv A outer s H vs Q E hr h => ?_)
  · obtain ⟨a, ns, m, rfl, _⟩ := h
    rfl
  · obtain ⟨a, ns, m, rfl, ha, hn1, hn, hb, out⟩ := h
    refine ⟨_, pss_cons (ps_if (PW.pt (pw_or (pt_not (pt_val (pe_callB call_isi (by rfl) T.b_isinstance (by decide +kernel) (pa_cons (pv 0) (pa_cons (pe_bltn (v := .ty "tuple") (by rfl) T.b_tuple (by decide +kernel) rfl) pa_nil)))))
        (pw_or1 (pt_not (pt_chain op_le op_le pe_int (pe_callB call_len_seq (by rfl) T.b_len PySem.boot_len (pa_cons (pv 0) pa_nil)) (pe_glob (v := .int 64) rfl hM ⟨_, rfl⟩)))))) (pss_one (ps_ret pe_bl)) pss_nil)
      (pss_one (ps_ret (pe_callB (cr_all rfl) (by rfl) T.b_all (by decide +kernel) (pa_cons
        (pe_lc (own := [("one", 2)]) (g := gName 2) (tt := tYes) (te := tCall spNum [] E0 (tCons (tVar 2) (tCons (tVar 1) tNil))) rfl sc_are_numbers.nd (pi_tup (pv 0))
          (blkOk_by (own := [("one", 2)]) (N := N_are_numbers) (sc := defScope s_are_numbers) (by decide +kernel)) (fun _ _ _ _ _ => by exact pg_name (i := 2) sc_are_numbers.nd rfl (Or.inl rfl)) (fun _ _ _ _ _ => pts_nil)
          (fun _ _ _ _ _ => by exact pe_call GN hr rfl T.g_is_number (T.kp 15 (d := d_is_number) rfl) bN .nil pass0 (pa_cons (pv 2) (pa_cons (pv 1) pa_nil)))) pa_nil)))), ?_⟩
    refine ⟨_, rfl, _, _, _, _, true, rfl, .ty "tuple", .base (.tup ha), kit_ty (by decide +kernel), true, rfl, iteF ?_⟩
    refine ⟨_, rfl, a, _, rfl, .inr (SqT.of ha), _, _, rfl, rfl, _, rfl, ?_⟩
    rw [List.length_map, decide_eq_true (show (1 : Int) ≤ (ns.length : Int) by omega)]
    refine iteT ⟨_, _, rfl, rfl, _, rfl, ?_⟩
    rw [decide_eq_true (show (ns.length : Int) ≤ 64 by omega)]
    refine iteF ?_
    refine ⟨_, rfl, a, rfl, ⟨_, SqT.of ha⟩, fun D hD => ?_⟩
    refine lc_it (walk_tup (xs := ns.map V.int)) (fun i H1 => Same H H1 ∧ H1 D = some (.lst ((List.replicate i true).map V.bl))) ?_ (fun i H1 _ p => SqT.of (p.1 _ _ ha)) ?_ ?_
    · exact ⟨newS hD, upd_same⟩
    · rintro i x H1 H2 hi ⟨s1, h1⟩ ⟨rfl, hx⟩
      rw [List.getElem?_map] at hx
      obtain ⟨v, hv, rfl⟩ := Option.map_eq_some_iff.mp hx
      obtain ⟨b0, b1⟩ := hb v (List.mem_of_getElem? hv)
      refine ⟨rfl, yes ⟨_, rfl, _, rfl, v, m, rfl, b0, b1, _, h1, ?_, ?_, ?_⟩⟩
      · rw [List.length_map, List.length_replicate]
        rw [List.length_map] at hi
        exact small1000 (by omega)
      · exact fun b o e => by rw [upd_ne (ne_of_none e hD)]; exact s1 _ _ e
      · rw [upd_same, List.replicate_succ', List.map_append]
        rfl
    · rintro H1 ⟨s1, h1⟩
      refine ⟨D, _, rfl, SqL.of h1, ?_⟩
      have e : (List.replicate (ns.map V.int).length true).all id = true := by simp
      rw [e]
      exact out H1 s1
def spIsRing (m : Int) (d : Bool) : Sp := fun vs H Q _ => ∃ (a : Addr) (ns : List Int), vs = [.ref a] ∧ H a = some (.tup (ns.map V.int)) ∧ 1 ≤ ns.length ∧ ns.length ≤ 64 ∧ (∀ x ∈ ns, 0 ≤ x ∧ x ≤ m) ∧ (d = true → ns.Nodup) ∧ ∀ H', Same H H' → Q (.bl true) H'
theorem ok_is_word (T : Tx K mg) : Okd P w K mg base 3 (He.fAd K ("is_word", none)) P_is_word (spIsRing 99 false) := by
  obtain ⟨fdN, GN, bN⟩ := ok_are_numbers (P := P) (w := w) (base := base) T
  obtain ⟨tk, hM⟩ := T.i_MOST_LABEL
  refine okd T 18 d_is_word rfl rfl (N := N_is_word) sc_is_word (fun _ _ _ _ _ _ us hl => match us, hl with | [_], _ => rfl) (fun vs H Q E h => ?_) (fun cdv A outer s H vs Q E hr h => ?_)
  · obtain ⟨a, ns, rfl, _⟩ := h
    rfl
  · obtain ⟨a, ns, rfl, ha, hn1, hn, hb, _, out⟩ := h
    refine ⟨_, pss_one (ps_ret (pe_call GN hr rfl T.g_are_numbers (T.kp 16 (d := d_are_numbers) rfl) bN .nil pass0 (pa_cons (pv 0) (pa_cons (pe_glob (v := .int 99) rfl hM ⟨_, rfl⟩) pa_nil)))), ?_⟩
    exact ⟨_, rfl, a, ns, 99, rfl, ha, hn1, hn, hb, out⟩
theorem ok_is_ring (T : Tx K mg) : Okd P w K mg base 3 (He.fAd K ("is_ring", none)) P_is_ring (spIsRing 1000000000000 true) := by
  obtain ⟨fdN, GN, bN⟩ := ok_are_numbers (P := P) (w := w) (base := base) T
  obtain ⟨tk, hM⟩ := T.i_MOST_NAME
  refine okd T 17 d_is_ring rfl rfl (N := N_is_ring) sc_is_ring (fun _ _ _ _ _ _ us hl => match us, hl with | [_], _ => rfl) (fun vs H Q E h => ?_) (fun cdv A outer s H vs Q E hr h => ?_)
  · obtain ⟨a, ns, rfl, _⟩ := h
    rfl
  · obtain ⟨a, ns, rfl, ha, hn1, hn, hb, hd, out⟩ := h
    refine ⟨_, pss_one (ps_ret (pe_and (pe_call GN hr rfl T.g_are_numbers (T.kp 16 (d := d_are_numbers) rfl) bN .nil pass0 (pa_cons (pv 0) (pa_cons (pe_glob (v := .int 1000000000000) rfl hM ⟨_, rfl⟩) pa_nil)))
      (pe_one (pe_cmpR op_eq (pe_lenSetT rfl rfl T.b_len rfl T.b_set (pv 0)) (pe_callB call_len_seq (by rfl) T.b_len PySem.boot_len (pa_cons (pv 0) pa_nil)) (nomark _))))), ?_⟩
    refine ⟨_, rfl, a, ns, _, rfl, ha, hn1, hn, hb, fun H1 s1 => ⟨true, rfl, iteT ?_⟩⟩
    refine ⟨_, rfl, a, ns, rfl, SqT.of (s1 _ _ ha), hn, hd rfl, _, rfl, a, _, rfl, .inr (SqT.of (s1 _ _ ha)), rfl, ?_⟩
    rw [List.length_map, decide_eq_true rfl]
    exact out H1 s1
def spIsW : Sp := fun vs H Q _ => ∃ i : Int, vs = [.int i] ∧ Q (.bl true) H
theorem ok_is_whole (T : Tx K mg) : Okd P w K mg base 1 (He.fAd K ("is_whole", none)) P_is_whole spIsW := by
  refine okd T 28 d_is_whole rfl rfl (N := N_is_whole) sc_is_whole (fun _ _ _ _ _ _ us hl => match us, hl with | [_], _ => rfl) (fun vs H Q E h => ?_) (fun cdv A outer s H vs Q E hr h => ?_)
  · obtain ⟨i, rfl, _⟩ := h
    rfl
  · obtain ⟨i, rfl, out⟩ := h
    refine ⟨_, pss_one (ps_ret (pe_and (pe_callB call_isi (by rfl) T.b_isinstance (by decide +kernel) (pa_cons (pv 0) (pa_cons (pe_bltn (v := .ty "int") (by rfl) T.b_int (by decide +kernel) rfl) pa_nil)))
      (pe_one (pe_not (pe_callB call_isi (by rfl) T.b_isinstance (by decide +kernel) (pa_cons (pv 0) (pa_cons (pe_bltn (v := .ty "bool") (by rfl) T.b_bool (by decide +kernel) rfl) pa_nil))))))), ?_⟩
    refine ⟨_, rfl, _, _, _, _, true, rfl, .ty "int", .base (.int i), kit_ty (by decide +kernel), true, rfl, iteT ?_⟩
    exact ⟨_, rfl, _, _, _, _, false, rfl, .ty "bool", .base (.int i), kit_ty (by decide +kernel), false, rfl, out⟩
def wyS : Wy → PySem.Str
  | .round => "round"
  | .halves => "halves"
  | .reach => "reach"
  | .whole => "whole"
/-- a ring for a way -/
def RingOk (y : Wy) (ns : List Int) : Prop := 1 ≤ ns.length ∧ ns.length ≤ 64 ∧ (∀ x ∈ ns, 0 ≤ x ∧ x ≤ (if y = .whole then 99 else 1000000000000)) ∧ (y ≠ .whole → ns.Nodup)
def spGoes (y : Wy) : Sp := fun vs H Q _ => ∃ (a : Addr) (ns : List Int), vs = [.str (wyS y), .ref a] ∧ H a = some (.tup (ns.map V.int)) ∧ RingOk y ns ∧ ∀ H', Same H H' → Q (.bl true) H'
theorem ok_goes_by (T : Tx K mg) (y : Wy) : Okd P w K mg base 4 (He.fAd K ("goes_by", none)) P_goes_by (spGoes y) := by
  obtain ⟨fdR, GR, bR⟩ := ok_is_ring (P := P) (w := w) (base := base) T
  obtain ⟨fdW, GW, bW⟩ := ok_is_word (P := P) (w := w) (base := base) T
  refine okd T 29 d_goes_by rfl rfl (N := N_goes_by) sc_goes_by (fun _ _ _ _ _ _ us hl => match us, hl with | [_, _], _ => rfl) (fun vs H Q E h => ?_) (fun cdv A outer s H vs Q E hr h => ?_)
  · obtain ⟨a, ns, rfl, _⟩ := h
    rfl
  · obtain ⟨a, ns, rfl, ha, ⟨hn1, hn, hb, hd⟩, out⟩ := h
    refine ⟨_, pss_cons (ps_if (pt_not (pt_val (pe_callB call_isi (by rfl) T.b_isinstance (by decide +kernel) (pa_cons (pv 0) (pa_cons (pe_bltn (v := .ty "str") (by rfl) T.b_str (by decide +kernel) rfl) pa_nil))))) (pss_one (ps_ret pe_bl)) pss_nil)
      (pss_cons (ps_if (pt_cmpR op_eq (pv 0) pe_str (nomark _)) (pss_one (ps_ret (pe_call GW hr rfl T.g_is_word (T.kp 18 (d := d_is_word) rfl) bW .nil pass0 (pa_cons (pv 1) pa_nil)))) pss_nil)
      (pss_one (ps_ret (pe_and (pe_cmpR op_in_seq (pv 0) (pe_glob (v := .ref (He.ga K "WAYS")) rfl T.g_WAYS rfl) (by rfl)) (pe_one (pe_call GR hr rfl T.g_is_ring (T.kp 17 (d := d_is_ring) rfl) bR .nil pass0 (pa_cons (pv 1) pa_nil))))))), ?_⟩
    refine ⟨_, rfl, _, _, _, _, true, rfl, .ty "str", .base (.str _), kit_ty (by decide +kernel), true, rfl, iteF ?_⟩
    refine ⟨_, rfl, rfl, _, rfl, ?_⟩
    by_cases c : y = .whole
    · subst c
      exact iteT ⟨_, rfl, a, ns, rfl, ha, hn1, hn, hb, (fun q => nomatch q), out⟩
    · rw [if_neg c] at hb
      have e1 : decide (V.str (wyS y) = V.str "whole") = false := by
        cases y with
        | whole => exact absurd rfl c
        | _ => decide +kernel
      rw [e1]
      have e2 : inV (.str (wyS y)) [.str "round", .str "halves", .str "reach"] = true := by
        cases y with
        | whole => exact absurd rfl c
        | _ => decide +kernel
      refine iteF ⟨_, rfl, _, _, rfl, .inr (T.s.ways H), rfl, rfl, true, by rw [e2]; rfl, iteT ?_⟩
      exact ⟨_, rfl, a, ns, rfl, ha, hn1, hn, hb, (fun _ => hd c), out⟩
end
end RC
namespace RC
open PySem PySem.Spec PyProof.Rows L2
/-! ### a road -/
def roF (la : Addr) (n : Nat) : List (PySem.Str × V) := [("letters", .ref la), ("heard", .int n)]
section
variable {P : Program} {w : World} {K : PySem.W.Frag} {mg : PySem.Str → Option Value} {base : Heap}
abbrev RoC (K : PySem.W.Frag) : Addr := He.ga K "Road"
def spRoInit (C : Addr) : Sp := fun vs H Q _ => ∃ (p dx : Addr), vs = [.ref p] ∧ H p = some (.ins C dx []) ∧
  ∀ la H', H la = none → H' la = some (.lst []) → H' p = some (.ins C dx (roF la 0)) → (∀ b o, H b = some o → b ≠ p → H' b = some o) → Q .non H'
theorem ok_Ro_init (T : Tx K mg) : Okd P w K mg base 1 (He.fAd K ("Road", some "__init__")) P_Ro_init (spRoInit (RoC K)) := by
  refine okd T 31 d_Ro_init rfl rfl (N := N_Ro_init) sc_Ro_init (fun _ _ _ _ _ _ us hl => match us, hl with | [_], _ => rfl) (fun vs H Q E h => ?_) (fun cdv A outer s H vs Q E hr h => ?_)
  · obtain ⟨p, dx, rfl, _⟩ := h
    rfl
  · obtain ⟨p, dx, rfl, hp, k⟩ := h
    refine ⟨_, pss_cons (ps_fld (pv 0) (pe_lst pa_nil) rfl) (pss_one (ps_fld (pv 0) pe_int rfl)), ?_⟩
    refine ⟨by decide, fun la hl => ?_⟩
    have ne : p ≠ la := ne_of_none hp hl
    refine ⟨_, rfl, p, _, dx, [], rfl, (by rw [upd_ne ne]; exact hp), T.c_Road, T.n_Road_letters, by decide, ?_⟩
    refine ⟨_, rfl, p, _, dx, _, rfl, upd_same, T.c_Road, T.n_Road_heard, (by show 1 < 1000; decide), ?_⟩
    refine k la _ hl (by rw [upd_ne ne.symm, upd_ne ne.symm, upd_same]) ?_ fun b o e hb => by rw [upd_ne hb, upd_ne hb, upd_ne (ne_of_none e hl)]; exact e
    rw [upd_same]
    kernel_rfl
def spRoPut (C : Addr) : Sp := fun vs H Q _ => ∃ (p dx la : Addr) (n : Nat) (v : V) (xs : List V), vs = [.ref p, v] ∧ H p = some (.ins C dx (roF la n)) ∧ H la = some (.lst xs) ∧ xs.length < 1000000 ∧
  Q .non (upd H la (.lst (xs ++ [v])))
theorem ok_Ro_put (T : Tx K mg) : Okd P w K mg base 1 (He.fAd K ("Road", some "put_on")) P_Ro_put (spRoPut (RoC K)) := by
  refine okd T 32 d_Ro_put rfl rfl (N := N_Ro_put) sc_Ro_put (fun _ _ _ _ _ _ us hl => match us, hl with | [_, _], _ => rfl) (fun vs H Q E h => ?_) (fun cdv A outer s H vs Q E hr h => ?_)
  · obtain ⟨p, dx, la, n, v, xs, rfl, _⟩ := h
    rfl
  · obtain ⟨p, dx, la, n, v, xs, rfl, hp, hl, hx, k⟩ := h
    refine ⟨_, pss_one (ps_expr (pe_bm PySem.F.plainAttrs_list PySem.F.slot_list_append PySem.F.type_list_append mt_append (pe_fld (pv 0) rfl) (pa_cons (pv 1) pa_nil))), ?_⟩
    refine ⟨_, rfl, p, _, dx, _, _, rfl, hp, T.c_Road, T.n_Road_letters, rfl, .inl ⟨rfl, _, SqL.of hl⟩, _, rfl, la, xs, v, rfl, rfl, hl, Nat.lt_trans hx (by decide), k⟩
def spRoClear (C : Addr) : Sp := fun vs H Q _ => ∃ (p dx la : Addr) (n : Nat) (xs : List V), vs = [.ref p] ∧ H p = some (.ins C dx (roF la n)) ∧ H la = some (.lst xs) ∧ Q (.bl (decide (n = xs.length))) H
theorem dec_nat {a b : Nat} : decide (V.int (a : Int) = V.int (b : Int)) = decide (a = b) := by
  by_cases h : a = b
  · rw [h]; simp
  · have h2 : ¬ V.int (a : Int) = V.int (b : Int) := fun e => h (by have := V.int.inj e; omega)
    rw [decide_eq_false h, decide_eq_false h2]
theorem ok_Ro_clear (T : Tx K mg) : Okd P w K mg base 1 (He.fAd K ("Road", some "is_clear")) P_Ro_clear (spRoClear (RoC K)) := by
  refine okd T 33 d_Ro_clear rfl rfl (N := N_Ro_clear) sc_Ro_clear (fun _ _ _ _ _ _ us hl => match us, hl with | [_], _ => rfl) (fun vs H Q E h => ?_) (fun cdv A outer s H vs Q E hr h => ?_)
  · obtain ⟨p, dx, la, n, xs, rfl, _⟩ := h
    rfl
  · obtain ⟨p, dx, la, n, xs, rfl, hp, hl, k⟩ := h
    refine ⟨_, pss_one (ps_ret (pe_cmpR op_eq (pe_fld (pv 0) rfl) (pe_callB call_len_seq (by rfl) T.b_len PySem.boot_len (pa_cons (pe_fld (pv 0) rfl) pa_nil)) (nomark _))), ?_⟩
    refine ⟨_, rfl, p, _, dx, _, _, rfl, hp, T.c_Road, T.n_Road_heard, rfl, _, rfl, p, _, dx, _, _, rfl, hp, T.c_Road, T.n_Road_letters, rfl, la, xs, rfl, .inl (SqL.of hl), rfl, ?_⟩
    show Q (.bl (decide (V.int (n : Int) = V.int (xs.length : Int)))) H
    rw [dec_nat]
    exact k
def spRoTake (C : Addr) : Sp := fun vs H Q _ => ∃ (p dx la : Addr) (n : Nat) (xs : List V) (v : V), vs = [.ref p] ∧ H p = some (.ins C dx (roF la n)) ∧ H la = some (.lst xs) ∧ xs[n]? = some v ∧
  Q v (upd H p (.ins C dx (roF la (n + 1))))
theorem ok_Ro_take (T : Tx K mg) : Okd P w K mg base 2 (He.fAd K ("Road", some "take_eldest")) P_Ro_take (spRoTake (RoC K)) := by
  obtain ⟨fdC, GC, bC⟩ := ok_Ro_clear (P := P) (w := w) (base := base) T
  refine okd T 34 d_Ro_take rfl rfl (N := N_Ro_take) sc_Ro_take (fun _ _ _ _ _ _ us hl => match us, hl with | [_], _ => rfl) (fun vs H Q E h => ?_) (fun cdv A outer s H vs Q E hr h => ?_)
  · obtain ⟨p, dx, la, n, xs, v, rfl, _⟩ := h
    rfl
  · obtain ⟨p, dx, la, n, xs, v, rfl, hp, hl, hv, k⟩ := h
    refine ⟨_, pss_cons (ps_if (pt_val (pe_meth0 (pv 0) T.c_Road T.m_Road_is_clear GC hr bC .nil pass0)) (pss_one ps_never) pss_nil)
      (pss_cons (ps_fldaug (pv 0) pe_int in_add)
      (pss_one (ps_ret (pe_ix ix_list (pe_fld (pv 0) rfl) (pe_op op_sub (pe_fld (pv 0) rfl) pe_int) (fun _ _ => rfl))))), ?_⟩
    have hn : n < xs.length := (List.getElem?_eq_some_iff.mp hv).1
    refine ⟨_, rfl, p, dx, _, rfl, hp, (by kernel_rfl), p, dx, la, n, xs, rfl, hp, hl, _, rfl, ?_⟩
    rw [decide_eq_false (by omega : ¬ n = xs.length)]
    refine iteF ?_
    refine ⟨_, rfl, p, _, dx, _, _, rfl, hp, T.c_Road, T.n_Road_heard, rfl, _, _, rfl, rfl, dx, _, hp, (by show 2 < 1000; decide), ?_⟩
    have e1 : putF "heard" (V.int ((n : Int) + 1)) (roF la n) = roF la (n + 1) := by kernel_rfl
    have h2 : upd H p (.ins (RoC K) dx (putF "heard" (V.int ((n : Int) + 1)) (roF la n))) p = some (.ins (RoC K) dx (roF la (n + 1))) := by rw [upd_same, e1]
    have nlp : la ≠ p := ne_of hl hp (by intro z; cases z)
    refine ⟨_, rfl, p, _, dx, _, _, rfl, h2, T.c_Road, T.n_Road_letters, rfl, _, rfl, p, _, dx, _, _, rfl, h2, T.c_Road, T.n_Road_heard, rfl, _, _, rfl, rfl, la, xs, _, v, rfl, rfl, SqL.of ((upd_ne nlp).trans hl), ?_, ?_⟩
    · have e3 : ((n + 1 : Nat) : Int) - 1 = ((n : Nat) : Int) := by omega
      rw [e3]
      exact atI_nat hv
    · rw [e1]
      exact k
end
end RC
namespace RC
open PySem PySem.Spec PyProof.Rows L2
/-! ### for v in d.values(), d a locked dict with tuple keys -/
section
variable {X : Cx} {pins : List (Addr × Obj)} {σ : L2.St} {H : Hp} {s : Shared} {d : Addr} {o : Obj}
theorem frzT_vals {kvs : List (List Key × V)} (I : Inv X pins σ H s) (h : H d = some (.frz o (.dT kvs))) :
    (d == sysModules) = false ∧ s.heap.get? d = some o ∧ o.ExactDict ∧ ∃ (es : Array DictEntry) (ep : Nat), o.data = .dict es ep ∧ es.size = kvs.length ∧
      ∀ (i : Nat) (p : List Key × V), kvs[i]? = some p → ∃ en : DictEntry, es[i]? = some en ∧ RelV p.2 en.val := by
  obtain ⟨hd, z, hs, xs, pr, o', es, ep, ho, hx, hdt, he, _⟩ := I.hok d _ h
  rw [hd] at ho
  cases ho
  refine ⟨hs, hd, hx, es, ep, hdt, ?_, fun i p e => ?_⟩
  · have l1 : es.size = xs.length := size_of_entries he
    exact l1.trans (Paired.length pr).symm
  · obtain ⟨b, hb, e1, e2, e3⟩ := paired_get pr e
    have q := entry_at he i
    rw [hb] at q
    exact ⟨_, q, e3⟩
end
def ItdT (d : Addr) (o : Obj) (kvs : List (List Key × V)) : It :=
  ⟨fun i H => H d = some (.frz o (.dT kvs)) ∧ i < kvs.length, fun i H x H' => H' = H ∧ ∃ k, kvs[i]? = some (k, x), fun i H => H d = some (.frz o (.dT kvs)) ∧ kvs.length ≤ i⟩
theorem walk_valuesT {d : Addr} {o : Obj} {kvs : List (List Key × V)} : Walk (ItdT d o kvs) kvs.length (fun H => H d = some (.frz o (.dT kvs))) (fun i H x H' => H' = H ∧ ∃ k, kvs[i]? = some (k, x)) :=
  ⟨fun _ _ hi q => ⟨q, hi⟩, fun _ q => ⟨q, Nat.le_refl _⟩, fun _ _ _ _ _ _ y => y⟩
theorem turn_valsT {P : Program} {w : World} {K : PySem.W.Frag} {tg : Expr} {d : Addr} {o : Obj} {es : Array DictEntry} {ep : Nat} {kvs : List (List Key × V)} (it : Addr) (hod : o.data = .dict es ep) :
    Turn P w K tg (ItdT d o kvs) [it] it (fun i h => h.IsValIter it d i es.size ep) where
  mem := List.mem_singleton.mpr rfl
  obj := fun i h st b hb => by
    obtain rfl : b = it := List.mem_singleton.mp hb
    obtain ⟨oi, e, c, dd⟩ := st
    refine ⟨oi, e, fun v z => ?_⟩
    rw [dd] at z
    cases z
  keep := fun i h h' st k => st.at fun oi e => k it (List.mem_singleton.mpr rfl) oi e
  item := by
    intro X hP hw hK hc i pins s σ H E I hf st hg
    subst hP hw hK
    obtain ⟨hd, hi⟩ := hg
    obtain ⟨f0, f1, f2, f3, f4, f5⟩ := hf it (List.mem_singleton.mpr rfl)
    obtain ⟨hs, hgd, hx, es', ep', hdt, hsz, ent⟩ := frzT_vals I hd
    obtain ⟨rfl, rfl⟩ := dict_ep hod hdt
    obtain ⟨p, hp⟩ : ∃ p, kvs[i]? = some p := ⟨kvs[i], List.getElem?_eq_getElem hi⟩
    obtain ⟨en, hen, ru⟩ := ent i p hp
    have hi2 : i < es'.size := by rw [hsz]; exact hi
    have hee : es'[i] = en := by
      have z := hen
      rw [Array.getElem?_eq_getElem hi2] at z
      exact Option.some.inj z
    refine wpAny_pyNext_values_item_raw st ⟨o, hgd, hx, hdt⟩ hi2 fun h' st2 sb => ?_
    have I1 : Inv X pins σ H { s with heap := h' } := I.turned (t' := s.toks) (fun b ob hb e => (sb.2 b hb).trans e) f0 f1 f3 f4 f5
    obtain ⟨oi, e, c, dd⟩ := id st2
    rw [hee]
    exact ⟨_, rfl, go_of (s := { s with heap := h' }) e c dd (by decide) ⟨p.2, H, I1, ru, ⟨rfl, p.1, hp⟩, st2, fun b hb => (hf b hb).1⟩⟩
  done := by
    intro X hP hw hK hc i pins s σ H E I hf st hg
    subst hP hw hK
    obtain ⟨hd, hi⟩ := hg
    obtain ⟨f0, f1, f2, f3, f4, f5⟩ := hf it (List.mem_singleton.mpr rfl)
    obtain ⟨hs, hgd, hx, es', ep', hdt, hsz, ent⟩ := frzT_vals I hd
    obtain ⟨rfl, rfl⟩ := dict_ep hod hdt
    exact wpAny_pyNext_values_end_raw (I.ok.hd hc) st ⟨o, hgd, hx, hdt⟩ (by omega) fun h' eb => ⟨rfl, I.turned (t' := s.toks) (fun b ob hb e => eb b ob hb e) f0 f1 f3 f4 f5⟩
  self := fun A i s Q E st h => wpAny_pyIter_valiter st h
def iValsT (td : TE) : TI := fun σ H R => td σ H fun x H1 => ∃ d o kvs, x = .ref d ∧ H1 d = some (.frz o (.dT kvs)) ∧ R (ItdT d o kvs) H1
theorem pi_valuesT {X : Cx} {tg e : Expr} {td : TE} {apos cpos : Pos} (he : PE X e td) (hbase : attributeBase e "values" X.env (eval e X.env) = eval e X.env := by rfl) (hline : (apos.endLine == cpos.line) = true := by rfl) :
    PI X tg (.Call (.Attribute e "values" apos) [] [] cpos) (iValsT td) := by
  constructor
  intro pins s σ H R I h
  refine wpAny_Call_method (T := "dict") (id := "dict.values") hbase rfl hline F.plainAttrs_dict F.slot_dict_values F.type_dict_values (thn (he.run pins s σ H _ I h) ?_)
  rintro u s1 ⟨x, H1, I1, rx, d, o, kvs, rfl, hd, q⟩
  obtain rfl : u = Value.ref d := rx
  obtain ⟨hs, hgd, hx, es, ep, hdt, hsz, ent⟩ := frzT_vals I1 hd
  have raw : s1.heap.DictRaw d es ep := ⟨o, hgd, hx, hdt⟩
  refine ⟨raw.typeIs, ?_, ?_⟩
  · intro a e
    cases e
    exact ⟨o, hgd, hx.2.1⟩
  have I2 : Inv X pins σ H1 { s1 with heap := s1.heap.push { cls := .type "dict_values", data := .fields #[.ref d] } } := I1.kept (t' := s1.toks) fun b ob q => Heap.get?_push_of_some _ q
  have fin : wpAny (model X.prog X.w) X.A (pyIter (.ref s1.heap.objs.size)) (PIE X pins σ tg R) X.xe { s1 with heap := s1.heap.push { cls := .type "dict_values", data := .fields #[.ref d] } } :=
    wpAny_pyIter_values_raw (d := d) ⟨_, Heap.get?_push_size _ rfl, rfl, rfl⟩ (raw.at fun _ e => Heap.get?_push_of_some _ e) (pi_one (tk := s1.toks) I2 _ (turn_valsT _ hdt) ⟨_, Heap.get?_push_size _ rfl, rfl, rfl⟩ q)
  show wpAny _ _ (callWith cpos (.builtin "dict.values") [.ref d] [] []) _ X.xe s1
  exact method_meetsIn F.slot_dict_values F.entry_dict_values rfl (PySem.evalArgs_none ⟨rfl, raw.typeIs, F.args_dict_values_1 _, _, meets_dict_values_raw d hs, ⟨es, ep, raw⟩, fin⟩)
end RC
namespace RC
open PySem PySem.Spec PyProof.Rows L2
section
variable {P : Program} {w : World} {K : PySem.W.Frag} {mg : PySem.Str → Option Value} {base : Heap}
/-! ### house_by -/
def spHouse (K : PySem.W.Frag) (y : Wy) : Sp := fun vs H Q _ => ∃ (own : Int) (n : Nat), vs = [.str (wyS y), .int own, .int n] ∧
  ∀ p la H', HouAt K y n H' p la (newHo own) → H p = none → (if y = .whole then H la = none ∧ la ≠ p else la = p) → Same H H' → Q (.ref p) H'
/-- what a making gives -/
theorem make_house {y : Wy} {H : Hp} {Q : VK} {own : Int} {n : Nat} (out : ∀ p la H', HouAt K y n H' p la (newHo own) → H p = none → (if y = .whole then H la = none ∧ la ≠ p else la = p) → Same H H' → Q (.ref p) H') :
    ∀ x dx, H x = none → H dx = none → dx ≠ x → spHoInit K y [.ref x, .int own, .int n] (upd (upd H dx (.own x)) x (.ins (HoC K y) dx [])) (fun v H2 => v = .non ∧ Q (.ref x) H2) E0 := by
  intro x dx hx hdx ne
  refine ⟨x, dx, own, n, rfl, upd_same, fun H' la h1 h2 h3 => ⟨rfl, out x la H' h1 hx ?_ (Same.made hx hdx h3)⟩⟩
  by_cases c : y = .whole
  · rw [if_pos c] at h2 ⊢
    refine ⟨updN (updN h2), fun e => ?_⟩
    rw [e, upd_same] at h2
    cases h2
  · rw [if_neg c] at h2 ⊢
    exact h2
theorem ok_house_by (T : Tx K mg) (y : Wy) : Okd P w K mg base 4 (He.fAd K ("house_by", none)) P_house_by (spHouse K y) := by
  obtain ⟨fdO, GO, bO⟩ := ok_Oh_init (P := P) (w := w) (base := base) T
  obtain ⟨fdH, GH, bH⟩ := ok_Hh_init (P := P) (w := w) (base := base) T
  obtain ⟨fdA, GA, bA⟩ := ok_Ah_init (P := P) (w := w) (base := base) T
  obtain ⟨fdW, GW, bW⟩ := ok_Wh_init (P := P) (w := w) (base := base) T
  refine okd T 30 d_house_by rfl rfl (N := N_house_by) sc_house_by (fun _ _ _ _ _ _ us hl => match us, hl with | [_, _, _], _ => rfl) (fun vs H Q E h => ?_) (fun cdv A outer s H vs Q E hr h => ?_)
  · obtain ⟨own, n, rfl, _⟩ := h
    rfl
  · obtain ⟨own, n, rfl, out⟩ := h
    refine ⟨_, pss_cons (ps_if (pt_cmpR op_eq (pv 0) pe_str (nomark _)) (pss_one (ps_ret (pe_make T.mkO GO (hr.mono (by decide)) rfl T.g_RoundHouse bO .nil pass0 (pa_cons (pv 1) (pa_cons (pv 2) pa_nil))))) pss_nil)
      (pss_cons (ps_if (pt_cmpR op_eq (pv 0) pe_str (nomark _)) (pss_one (ps_ret (pe_make T.mk_HalveHouse GH (hr.mono (by decide)) rfl T.g_HalveHouse bH .nil pass0 (pa_cons (pv 1) (pa_cons (pv 2) pa_nil))))) pss_nil)
      (pss_cons (ps_if (pt_cmpR op_eq (pv 0) pe_str (nomark _)) (pss_one (ps_ret (pe_make T.mk_ReachHouse GA (hr.mono (by decide)) rfl T.g_ReachHouse bA .nil pass0 (pa_cons (pv 1) (pa_cons (pv 2) pa_nil))))) pss_nil)
      (pss_one (ps_ret (pe_make T.mk_WholeHouse GW (hr.mono (by decide)) rfl T.g_WholeHouse bW .nil pass0 (pa_cons (pv 1) (pa_cons (pv 2) pa_nil))))))), ?_⟩
    refine ⟨_, rfl, rfl, _, rfl, ?_⟩
    cases y with
    | round => exact iteT ⟨_, rfl, _, rfl, make_house out⟩
    | halves =>
      refine iteF ⟨_, rfl, rfl, _, rfl, ?_⟩
      exact iteT ⟨_, rfl, _, rfl, make_house out⟩
    | reach =>
      refine iteF ⟨_, rfl, rfl, _, rfl, ?_⟩
      refine iteF ⟨_, rfl, rfl, _, rfl, ?_⟩
      exact iteT ⟨_, rfl, _, rfl, make_house out⟩
    | whole =>
      refine iteF ⟨_, rfl, rfl, _, rfl, ?_⟩
      refine iteF ⟨_, rfl, rfl, _, rfl, ?_⟩
      exact iteF ⟨_, rfl, _, rfl, make_house out⟩
end
/-! ### a run in the heap -/
inductive Tag | run | homes | roads | hou (i : Nat) | lab (i : Nat) | rod (j : Nat) | ltr (j : Nat)
deriving DecidableEq
def rkey (j : Nat) : List Key := [.inl ((j / 2 : Nat) : Int), .inl (if j % 2 = 1 then 1 else -1)]
def roadKvs (as : List Addr) : List (List Key × V) := as.zipIdx.map fun p => (rkey p.2, .ref p.1)
theorem rkey_inj {i j : Nat} (h : rkey i = rkey j) : i = j := by
  unfold rkey at h
  injection h with h1 h2
  injection h2 with h2 _
  have e1 := Sum.inl.inj h1
  have e2 := Sum.inl.inj h2
  by_cases a : i % 2 = 1 <;> by_cases b : j % 2 = 1
  · rw [if_pos a, if_pos b] at e2; omega
  · rw [if_pos a, if_neg b] at e2; omega
  · rw [if_neg a, if_pos b] at e2; omega
  · rw [if_neg a, if_neg b] at e2; omega
theorem roadKvs_snoc (as : List Addr) (a : Addr) : roadKvs (as ++ [a]) = roadKvs as ++ [(rkey as.length, .ref a)] := by
  unfold roadKvs
  rw [List.zipIdx_append, List.map_append]
  simp
theorem roadKvs_len (as : List Addr) : (roadKvs as).length = as.length := by unfold roadKvs; simp
theorem roadKvs_off : ∀ (as : List Addr) (k j : Nat), valV ((as.zipIdx k).map fun p => (rkey p.2, V.ref p.1)) (rkey j) = if k ≤ j then (as[j - k]?).map V.ref else none
  | [], k, j => by
    split <;> rfl
  | a :: as, k, j => by
    rw [List.zipIdx_cons, List.map_cons]
    by_cases e : k = j
    · subst e
      rw [valV_pos (by rfl), if_pos (Nat.le_refl _), Nat.sub_self]
      rfl
    · rw [valV_neg (fun z => e (rkey_inj z)), roadKvs_off as (k + 1) j]
      by_cases c : k ≤ j
      · rw [if_pos c, if_pos (by omega)]
        obtain ⟨d, hd⟩ : ∃ d, j - k = d + 1 := ⟨j - k - 1, by omega⟩
        have hd2 : j - (k + 1) = d := by omega
        rw [hd, hd2]
        rfl
      · rw [if_neg c, if_neg (by omega)]
theorem roadKvs_val (as : List Addr) (j : Nat) : valV (roadKvs as) (rkey j) = (as[j]?).map V.ref := by
  have h := roadKvs_off as 0 j
  rw [if_pos (Nat.zero_le _), Nat.sub_zero] at h
  exact h
def runF (hl rd : Addr) : List (PySem.Str × V) := [("homes", .ref hl), ("roads", .ref rd)]
abbrev RuC (K : PySem.W.Frag) : Addr := He.ga K "Run"
/-- how a run lies in the heap: tg tells whose a changing object is -/
structure RunS (K : PySem.W.Frag) (y : Wy) (H0 H : Hp) (p : Addr) (st : Sta) (tg : Addr → Option Tag) (hl rd : Addr) (has ras : List (Addr × Addr)) : Prop where
  same : Same H0 H
  fresh : ∀ b, tg b ≠ none → H0 b = none
  alive : ∀ b, tg b ≠ none → ∃ o, H b = some o
  ob : ∃ dx, H p = some (.ins (RuC K) dx (runF hl rd))
  tp : tg p = some .run
  hob : H hl = some (.lst (has.map fun q => V.ref q.1))
  th : tg hl = some .homes
  rob : H rd = some (.dT (roadKvs (ras.map (·.1))))
  tr : tg rd = some .roads
  lh : has.length = st.homes.length
  lr : ras.length = st.roads.length
  l2 : st.roads.length = 2 * st.homes.length
  n0 : 1 ≤ st.homes.length
  n64 : st.homes.length ≤ 64
  hou : ∀ i q ho, has[i]? = some q → st.homes[i]? = some ho → HouAt K y st.n H q.1 q.2 ho ∧ tg q.1 = some (.hou i) ∧ (if y = .whole then tg q.2 = some (.lab i) else q.2 = q.1)
  rod : ∀ j q r, ras[j]? = some q → st.roads[j]? = some r → (∃ dx, H q.1 = some (.ins (RoC K) dx (roF q.2 r.heard))) ∧ tg q.1 = some (.rod j) ∧ tg q.2 = some (.ltr j) ∧ ∃ vs, H q.2 = some (.lst vs) ∧ Paired (LtAt H) vs r.ls
def RunAt (K : PySem.W.Frag) (y : Wy) (H0 H : Hp) (p : Addr) (st : Sta) : Prop := ∃ tg hl rd has ras, RunS K y H0 H p st tg hl rd has ras
section
variable {K : PySem.W.Frag} {y : Wy} {H0 H H' : Hp} {p : Addr} {st : Sta} {tg : Addr → Option Tag} {hl rd : Addr} {has ras : List (Addr × Addr)}
theorem RunS.mono (R : RunS K y H0 H p st tg hl rd has ras) (s : Same H H') : RunS K y H0 H' p st tg hl rd has ras where
  same := R.same.trans s
  fresh := R.fresh
  alive := fun b q => let ⟨o, e⟩ := R.alive b q; ⟨o, s _ _ e⟩
  ob := let ⟨dx, e⟩ := R.ob; ⟨dx, s _ _ e⟩
  tp := R.tp
  hob := s _ _ R.hob
  th := R.th
  rob := s _ _ R.rob
  tr := R.tr
  lh := R.lh
  lr := R.lr
  l2 := R.l2
  n0 := R.n0
  n64 := R.n64
  hou := fun i q ho h1 h2 => let ⟨a, b, c⟩ := R.hou i q ho h1 h2; ⟨a.same s, b, c⟩
  rod := fun j q r h1 h2 => let ⟨⟨dx, a⟩, b, c, vs, d, e⟩ := R.rod j q r h1 h2; ⟨⟨dx, s _ _ a⟩, b, c, vs, s _ _ d, Paired.mapP e fun _ _ x => x.keep (tupsS s)⟩
theorem RunAt.mono (R : RunAt K y H0 H p st) (s : Same H H') : RunAt K y H0 H' p st := let ⟨tg, hl, rd, has, ras, r⟩ := R; ⟨tg, hl, rd, has, ras, r.mono s⟩
/-- the i-th house has changed -/
theorem RunS.setHou (R : RunS K y H0 H p st tg hl rd has ras) {i : Nat} {q : Addr × Addr} {ho ho' : Ho} (hq : has[i]? = some q) (hho : st.homes[i]? = some ho) (b : But q.1 q.2 H H') (h : HouAt K y st.n H' q.1 q.2 ho') :
    RunS K y H0 H' p { st with homes := st.homes.set i ho' } tg hl rd has ras := by
  obtain ⟨h0, t1, t2⟩ := R.hou i q ho hq hho
  have la : q.2 = q.1 ∨ y = .whole := by
    by_cases c : y = .whole
    · exact .inr c
    · rw [if_neg c] at t2
      exact .inl t2
  have k : TupS H H' := b.tups h0 la
  have n2 : tg q.2 = some (.lab i) ∨ tg q.2 = some (.hou i) := by
    by_cases c : y = .whole
    · rw [if_pos c] at t2
      exact .inl t2
    · rw [if_neg c] at t2
      rw [t2]
      exact .inr t1
  -- what bears another tag stays
  have st' : ∀ {b' o}, H b' = some o → tg b' ≠ some (.hou i) → tg b' ≠ some (.lab i) → H' b' = some o := fun {b' o} e x1 x2 => by
    refine b _ _ e (fun z => x1 (by rw [z]; exact t1)) fun z => ?_
    rcases n2 with w | w
    · exact x2 (by rw [z]; exact w)
    · exact x1 (by rw [z]; exact w)
  have stn : ∀ {b' o x}, H b' = some o → tg b' = x → x ≠ some (.hou i) → x ≠ some (.lab i) → H' b' = some o := fun e x1 x2 x3 => st' e (by rw [x1]; exact x2) (by rw [x1]; exact x3)
  have len : (st.homes.set i ho').length = st.homes.length := List.length_set
  refine ⟨fun b' o e => ?_, R.fresh, fun b' qq => ?_, let ⟨dx, e⟩ := R.ob; ⟨dx, stn e R.tp (by simp) (by simp)⟩, R.tp, stn R.hob R.th (by simp) (by simp), R.th, stn R.rob R.tr (by simp) (by simp), R.tr, by rw [len]; exact R.lh, R.lr, by rw [len]; exact R.l2, by rw [len]; exact R.n0, by rw [len]; exact R.n64, ?_, ?_⟩
  · have tn : tg b' = none := by
      cases c : tg b' with
      | none => rfl
      | some z =>
        have := R.fresh b' (by rw [c]; simp)
        rw [e] at this
        cases this
    exact stn (R.same _ _ e) tn (by simp) (by simp)
  · by_cases c1 : b' = q.1
    · obtain ⟨dx, cv, e, _⟩ := h.ob
      exact ⟨_, by rw [c1]; exact e⟩
    · by_cases c2 : b' = q.2
      · rcases la with w | w
        · exact absurd (c2.trans w) c1
        · exact ⟨_, by rw [c2]; exact h.lab w⟩
      · obtain ⟨o, e⟩ := R.alive b' qq
        exact ⟨o, b _ _ e c1 c2⟩
  · intro j q' ho2 h1 h2
    have en : Sta.n { st with homes := st.homes.set i ho' } = st.n := len
    rw [en]
    by_cases c : j = i
    · subst c
      rw [hq] at h1
      cases h1
      have h2 : (st.homes.set j ho')[j]? = some ho2 := h2
      rw [List.getElem?_set_self (List.getElem?_eq_some_iff.mp hho).1] at h2
      cases h2
      exact ⟨h, t1, t2⟩
    · have h2 : (st.homes.set i ho')[j]? = some ho2 := h2
      rw [List.getElem?_set_ne fun z => c z.symm] at h2
      obtain ⟨a, u, v⟩ := R.hou j q' ho2 h1 h2
      have neh : (some (Tag.hou j) : Option Tag) ≠ some (.hou i) := by simp [c]
      have nel : (some (Tag.lab j) : Option Tag) ≠ some (.lab i) := by simp [c]
      refine ⟨⟨?_, fun z => ?_⟩, u, v⟩
      · obtain ⟨dx, cv, e, x⟩ := a.ob
        exact ⟨dx, cv, stn e u neh (by simp), x.keep k⟩
      · rw [if_pos z] at v
        exact stn (a.lab z) v (by simp) nel
  · intro j q' r h1 h2
    obtain ⟨⟨dx, a⟩, u, v, vs, e, f⟩ := R.rod j q' r h1 h2
    exact ⟨⟨dx, stn a u (by simp) (by simp)⟩, u, v, vs, stn e v (by simp) (by simp), Paired.mapP f fun _ _ x => x.keep k⟩
/-- the j-th road has changed -/
theorem RunS.setRod (R : RunS K y H0 H p st tg hl rd has ras) {j : Nat} {q : Addr × Addr} {r r' : Rod} (hq : ras[j]? = some q) (hr : st.roads[j]? = some r) (b : But q.1 q.2 H H') (h1 : ∃ dx, H' q.1 = some (.ins (RoC K) dx (roF q.2 r'.heard)))
    (h2 : ∃ vs, H' q.2 = some (.lst vs) ∧ Paired (LtAt H') vs r'.ls) : RunS K y H0 H' p { st with roads := st.roads.set j r' } tg hl rd has ras := by
  obtain ⟨⟨dx0, o1⟩, t1, t2, vs0, o2, _⟩ := R.rod j q r hq hr
  have k : TupS H H' := fun c xs e => b _ _ e (ne_of e o1 (by intro z; cases z)) (ne_of e o2 (by intro z; cases z))
  have stn : ∀ {b' o x}, H b' = some o → tg b' = x → x ≠ some (.rod j) → x ≠ some (.ltr j) → H' b' = some o := fun {b' o x} e x1 x2 x3 =>
    b _ _ e (fun z => x2 (by rw [← x1, z]; exact t1)) fun z => x3 (by rw [← x1, z]; exact t2)
  have len : (st.roads.set j r').length = st.roads.length := List.length_set
  refine ⟨fun b' o e => ?_, R.fresh, fun b' qq => ?_, let ⟨dx, e⟩ := R.ob; ⟨dx, stn e R.tp (by simp) (by simp)⟩, R.tp, stn R.hob R.th (by simp) (by simp), R.th, stn R.rob R.tr (by simp) (by simp), R.tr, R.lh, by rw [len]; exact R.lr, by rw [len]; exact R.l2, R.n0, R.n64, ?_, ?_⟩
  · have tn : tg b' = none := by
      cases c : tg b' with
      | none => rfl
      | some z =>
        have := R.fresh b' (by rw [c]; simp)
        rw [e] at this
        cases this
    exact stn (R.same _ _ e) tn (by simp) (by simp)
  · by_cases c1 : b' = q.1
    · obtain ⟨dx, e⟩ := h1
      exact ⟨_, by rw [c1]; exact e⟩
    · by_cases c2 : b' = q.2
      · obtain ⟨vs, e, _⟩ := h2
        exact ⟨_, by rw [c2]; exact e⟩
      · obtain ⟨o, e⟩ := R.alive b' qq
        exact ⟨o, b _ _ e c1 c2⟩
  · intro i q' ho z1 z2
    obtain ⟨a, u, v⟩ := R.hou i q' ho z1 z2
    refine ⟨⟨?_, fun z => ?_⟩, u, v⟩
    · obtain ⟨dx, cv, e, x⟩ := a.ob
      exact ⟨dx, cv, stn e u (by simp) (by simp), x.keep k⟩
    · rw [if_pos z] at v
      exact stn (a.lab z) v (by simp) (by simp)
  · intro i q' r2 z1 z2
    by_cases c : i = j
    · subst c
      rw [hq] at z1
      cases z1
      have z2 : (st.roads.set i r')[i]? = some r2 := z2
      rw [List.getElem?_set_self (List.getElem?_eq_some_iff.mp hr).1] at z2
      cases z2
      exact ⟨h1, t1, t2, h2⟩
    · have z2 : (st.roads.set j r')[i]? = some r2 := z2
      rw [List.getElem?_set_ne fun z => c z.symm] at z2
      obtain ⟨⟨dx, a⟩, u, v, vs, e, f⟩ := R.rod i q' r2 z1 z2
      have ner : (some (Tag.rod i) : Option Tag) ≠ some (.rod j) := by simp [c]
      have nel : (some (Tag.ltr i) : Option Tag) ≠ some (.ltr j) := by simp [c]
      exact ⟨⟨dx, stn a u ner (by simp)⟩, u, v, vs, stn e v (by simp) nel, Paired.mapP f fun _ _ x => x.keep k⟩
end
end RC
namespace RC
open PySem PySem.Spec PyProof.Rows L2
/-! ### sides -/
def Sd (t : Told) : Prop := ∀ x ∈ t, x.1 = 1 ∨ x.1 = -1
theorem sd_nil : Sd [] ∧ ([] : Told).length ≤ 2 := ⟨fun x hx => (by cases hx), Nat.zero_le _⟩
theorem sd_one {s : Int} (l : Lt) (h : s = 1 ∨ s = -1) : Sd [(s, l)] ∧ ([(s, l)] : Told).length ≤ 2 := ⟨fun x hx => by rw [List.mem_singleton.mp hx]; exact h, (by show 1 ≤ 2; decide)⟩
theorem sd_firstTold (y : Wy) (n : Nat) (h : Ho) : Sd (firstTold y n h).2 ∧ (firstTold y n h).2.length ≤ 2 := by
  cases y with
  | whole =>
    by_cases c : n = 1
    · have e : firstTold .whole n h = ({ h with chief := some (h.own :: h.labels.reverse) }, []) := if_pos c
      rw [e]
      exact sd_nil
    · have e : firstTold .whole n h = (h, [(1, .label h.own)]) := if_neg c
      rw [e]
      exact ⟨fun x hx => by rw [List.mem_singleton.mp hx]; exact .inl rfl, (by show 1 ≤ 2; decide)⟩
  | reach =>
    refine ⟨fun x hx => ?_, (by show 2 ≤ 2; decide)⟩
    rcases List.mem_cons.mp hx with e | hx
    · rw [e]; exact .inr rfl
    · rw [List.mem_singleton.mp hx]; exact .inl rfl
  | round => exact ⟨fun x hx => by rw [List.mem_singleton.mp hx]; exact .inl rfl, (by show 1 ≤ 2; decide)⟩
  | halves => exact ⟨fun x hx => by rw [List.mem_singleton.mp hx]; exact .inl rfl, (by show 1 ≤ 2; decide)⟩
theorem sd_neg {s : Int} (h : s = 1 ∨ s = -1) : -s = 1 ∨ -s = -1 := by omega
theorem sd_relayed (y : Wy) {s : Int} (l : Lt) (h : s = 1 ∨ s = -1) : Sd (relayed y s l) ∧ (relayed y s l).length ≤ 2 := by
  have hn := sd_neg h
  cases y with
  | reach =>
    cases l with
    | probe v r t =>
      by_cases c : t < r
      · have e : relayed .reach s (.probe v r t) = [(-s, .probe v r (t + 1))] := if_pos c
        rw [e]
        exact sd_one _ hn
      · have e : relayed .reach s (.probe v r t) = [(s, .back v r)] := if_neg c
        rw [e]
        exact sd_one _ h
    | _ => exact sd_one _ hn
  | _ => exact sd_one _ hn
theorem sd_crowned (h : Ho) (v : Int) : Sd (crowned h v).2 ∧ (crowned h v).2.length ≤ 2 := sd_one _ (.inl rfl)
theorem sd_chief (h : Ho) (v : Int) : Sd (heardChief h v).2 ∧ (heardChief h v).2.length ≤ 2 := by
  unfold heardChief
  cases h.crown with
  | true => exact sd_nil
  | false => exact sd_one _ (.inl rfl)
theorem sd_awake {y : Wy} {n : Nat} {h : Ho} {s : Int} {l : Lt} {r : Ho × Told} (hs : s = 1 ∨ s = -1) (e : heardAwake y n h s l = some r) : Sd r.2 ∧ r.2.length ≤ (if y = .whole then 1 else 2) := by
  have hn := sd_neg hs
  cases y with
  | whole =>
    refine ⟨?_, awake_whole e⟩
    cases l with
    | label v =>
      have e2 : some r = if ((h.labels ++ [v]).length : Int) < (n : Int) - 1 then some ({ h with labels := h.labels ++ [v] }, [(-s, .label v)]) else some ({ h with labels := h.labels ++ [v], chief := some (h.own :: (h.labels ++ [v]).reverse) }, []) := e.symm
      split at e2
      · rw [Option.some.inj e2]; exact (sd_one _ hn).1
      · rw [Option.some.inj e2]; exact sd_nil.1
    | _ => cases e
  | round =>
    cases l with
    | name v =>
      have e2 : r = if v = h.own then crowned h v else if h.own < v then (h, [(1, .name v)]) else (h, []) := (Option.some.inj e).symm
      split at e2
      · rw [e2]; exact sd_crowned _ _
      · split at e2
        · rw [e2]; exact sd_one _ (.inl rfl)
        · rw [e2]; exact sd_nil
    | _ => cases e
  | halves =>
    cases hw : h.work with
    | false =>
      have e2 : r = (h, [(-s, l)]) := by
        cases l with
        | first v =>
          unfold heardAwake at e
          simp only [hw] at e
          exact (Option.some.inj e).symm
        | second v =>
          unfold heardAwake at e
          simp only [hw] at e
          exact (Option.some.inj e).symm
        | _ => cases e
      rw [e2]
      exact sd_one _ hn
    | true =>
      cases l with
      | first v =>
        rw [awake_first hw] at e
        split at e
        · rw [← Option.some.inj e]; exact sd_crowned _ _
        · rw [← Option.some.inj e]; exact sd_one _ (.inl rfl)
      | second v =>
        rw [awake_second hw] at e
        cases hk : h.near with
        | none =>
          unfold heardSecond at e
          rw [hk] at e
          cases e
        | some k =>
          rw [second_of hk] at e
          split at e
          · rw [← Option.some.inj e]; exact sd_firstTold _ _ _
          · rw [← Option.some.inj e]; exact sd_nil
      | _ => cases e
  | reach =>
    cases l with
    | probe v rr t =>
      have e2 : some r = if v = h.own then some (if h.crown then (h, []) else crowned h v) else if v < h.own then some (h, []) else some (h, relayed .reach s (.probe v rr t)) := e.symm
      split at e2
      · rw [Option.some.inj e2]
        cases h.crown with
        | true => exact sd_nil
        | false => exact sd_crowned _ _
      · split at e2
        · rw [Option.some.inj e2]; exact sd_nil
        · rw [Option.some.inj e2]; exact sd_relayed .reach (.probe v rr t) hs
    | back v rr =>
      have e2 : some r = if v = h.own then some (cameBack h) else some (h, [(-s, .back v rr)]) := e.symm
      split at e2
      · rw [Option.some.inj e2]
        unfold cameBack
        split
        · exact sd_nil
        · exact sd_firstTold _ _ _
      · rw [Option.some.inj e2]; exact sd_one _ hn
    | _ => cases e
theorem sd_hear {y : Wy} {n : Nat} {h : Ho} {s : Int} {l : Lt} {r : Ho × Told} (hs : s = 1 ∨ s = -1) (e : hear y n h s l = some r) : Sd r.2 ∧ r.2.length ≤ 2 := by
  unfold hear at e
  split at e
  · cases y with
    | whole =>
      have e : (heardAwake .whole n (if h.awake then (h, []) else startH .whole n h).1 s l).map (fun q => (q.1, (if h.awake then (h, ([] : Told)) else startH .whole n h).2 ++ q.2)) = some r := e
      obtain ⟨z, e1, e2⟩ := Option.map_eq_some_iff.mp e
      subst e2
      obtain ⟨z1, z2⟩ := sd_awake hs e1
      have z2 : z.2.length ≤ 1 := z2
      have f : Sd (if h.awake then (h, ([] : Told)) else startH .whole n h).2 ∧ (if h.awake then (h, ([] : Told)) else startH .whole n h).2.length ≤ 1 := by
        split
        · exact ⟨sd_nil.1, Nat.zero_le _⟩
        · exact ⟨(sd_firstTold .whole n _).1, (start_whole n h).2⟩
      refine ⟨fun x hx => ?_, ?_⟩
      · rcases List.mem_append.mp hx with q | q
        · exact f.1 x q
        · exact z1 x q
      · have := f.2
        show ((if h.awake then (h, ([] : Told)) else startH .whole n h).2 ++ z.2).length ≤ 2
        rw [List.length_append]
        omega
    | round =>
      cases l with
      | chief v => rw [← Option.some.inj e]; exact sd_chief _ _
      | name v =>
        have e3 : (if h.awake = true then heardAwake .round n { h with touched := true } s (.name v) else some ({ h with touched := true }, relayed .round s (.name v))) = some r := e
        split at e3
        · exact sd_awake hs e3
        · rw [← Option.some.inj e3]; exact sd_relayed .round (.name v) hs
      | first v =>
        have e3 : (if h.awake = true then heardAwake .round n { h with touched := true } s (.first v) else some ({ h with touched := true }, relayed .round s (.first v))) = some r := e
        split at e3
        · exact sd_awake hs e3
        · rw [← Option.some.inj e3]; exact sd_relayed .round (.first v) hs
      | second v =>
        have e3 : (if h.awake = true then heardAwake .round n { h with touched := true } s (.second v) else some ({ h with touched := true }, relayed .round s (.second v))) = some r := e
        split at e3
        · exact sd_awake hs e3
        · rw [← Option.some.inj e3]; exact sd_relayed .round (.second v) hs
      | label v =>
        have e3 : (if h.awake = true then heardAwake .round n { h with touched := true } s (.label v) else some ({ h with touched := true }, relayed .round s (.label v))) = some r := e
        split at e3
        · exact sd_awake hs e3
        · rw [← Option.some.inj e3]; exact sd_relayed .round (.label v) hs
      | probe v r' t =>
        have e3 : (if h.awake = true then heardAwake .round n { h with touched := true } s (.probe v r' t) else some ({ h with touched := true }, relayed .round s (.probe v r' t))) = some r := e
        split at e3
        · exact sd_awake hs e3
        · rw [← Option.some.inj e3]; exact sd_relayed .round (.probe v r' t) hs
      | back v r' =>
        have e3 : (if h.awake = true then heardAwake .round n { h with touched := true } s (.back v r') else some ({ h with touched := true }, relayed .round s (.back v r'))) = some r := e
        split at e3
        · exact sd_awake hs e3
        · rw [← Option.some.inj e3]; exact sd_relayed .round (.back v r') hs
    | halves =>
      cases l with
      | chief v => rw [← Option.some.inj e]; exact sd_chief _ _
      | name v =>
        have e3 : (if h.awake = true then heardAwake .halves n { h with touched := true } s (.name v) else some ({ h with touched := true }, relayed .halves s (.name v))) = some r := e
        split at e3
        · exact sd_awake hs e3
        · rw [← Option.some.inj e3]; exact sd_relayed .halves (.name v) hs
      | first v =>
        have e3 : (if h.awake = true then heardAwake .halves n { h with touched := true } s (.first v) else some ({ h with touched := true }, relayed .halves s (.first v))) = some r := e
        split at e3
        · exact sd_awake hs e3
        · rw [← Option.some.inj e3]; exact sd_relayed .halves (.first v) hs
      | second v =>
        have e3 : (if h.awake = true then heardAwake .halves n { h with touched := true } s (.second v) else some ({ h with touched := true }, relayed .halves s (.second v))) = some r := e
        split at e3
        · exact sd_awake hs e3
        · rw [← Option.some.inj e3]; exact sd_relayed .halves (.second v) hs
      | label v =>
        have e3 : (if h.awake = true then heardAwake .halves n { h with touched := true } s (.label v) else some ({ h with touched := true }, relayed .halves s (.label v))) = some r := e
        split at e3
        · exact sd_awake hs e3
        · rw [← Option.some.inj e3]; exact sd_relayed .halves (.label v) hs
      | probe v r' t =>
        have e3 : (if h.awake = true then heardAwake .halves n { h with touched := true } s (.probe v r' t) else some ({ h with touched := true }, relayed .halves s (.probe v r' t))) = some r := e
        split at e3
        · exact sd_awake hs e3
        · rw [← Option.some.inj e3]; exact sd_relayed .halves (.probe v r' t) hs
      | back v r' =>
        have e3 : (if h.awake = true then heardAwake .halves n { h with touched := true } s (.back v r') else some ({ h with touched := true }, relayed .halves s (.back v r'))) = some r := e
        split at e3
        · exact sd_awake hs e3
        · rw [← Option.some.inj e3]; exact sd_relayed .halves (.back v r') hs
    | reach =>
      cases l with
      | chief v => rw [← Option.some.inj e]; exact sd_chief _ _
      | name v =>
        have e3 : (if h.awake = true then heardAwake .reach n { h with touched := true } s (.name v) else some ({ h with touched := true }, relayed .reach s (.name v))) = some r := e
        split at e3
        · exact sd_awake hs e3
        · rw [← Option.some.inj e3]; exact sd_relayed .reach (.name v) hs
      | first v =>
        have e3 : (if h.awake = true then heardAwake .reach n { h with touched := true } s (.first v) else some ({ h with touched := true }, relayed .reach s (.first v))) = some r := e
        split at e3
        · exact sd_awake hs e3
        · rw [← Option.some.inj e3]; exact sd_relayed .reach (.first v) hs
      | second v =>
        have e3 : (if h.awake = true then heardAwake .reach n { h with touched := true } s (.second v) else some ({ h with touched := true }, relayed .reach s (.second v))) = some r := e
        split at e3
        · exact sd_awake hs e3
        · rw [← Option.some.inj e3]; exact sd_relayed .reach (.second v) hs
      | label v =>
        have e3 : (if h.awake = true then heardAwake .reach n { h with touched := true } s (.label v) else some ({ h with touched := true }, relayed .reach s (.label v))) = some r := e
        split at e3
        · exact sd_awake hs e3
        · rw [← Option.some.inj e3]; exact sd_relayed .reach (.label v) hs
      | probe v r' t =>
        have e3 : (if h.awake = true then heardAwake .reach n { h with touched := true } s (.probe v r' t) else some ({ h with touched := true }, relayed .reach s (.probe v r' t))) = some r := e
        split at e3
        · exact sd_awake hs e3
        · rw [← Option.some.inj e3]; exact sd_relayed .reach (.probe v r' t) hs
      | back v r' =>
        have e3 : (if h.awake = true then heardAwake .reach n { h with touched := true } s (.back v r') else some ({ h with touched := true }, relayed .reach s (.back v r'))) = some r := e
        split at e3
        · exact sd_awake hs e3
        · rw [← Option.some.inj e3]; exact sd_relayed .reach (.back v r') hs
  · cases e
end RC
namespace RC
open PySem PySem.Spec PyProof.Rows L2
theorem rkey_idx (h : Nat) (r : Bool) : (rkey (idx h r)).map kV = [.int (h : Int), .int (sideOf r)] := by
  have e1 : idx h r / 2 = h := by
    unfold idx
    cases r <;> simp <;> omega
  unfold rkey
  rw [e1]
  cases r with
  | true =>
    have e2 : idx h true % 2 = 1 := by unfold idx; simp
    rw [if_pos e2]
    rfl
  | false =>
    have e2 : ¬ idx h false % 2 = 1 := by unfold idx; simp
    rw [if_neg e2]
    rfl
theorem rkey_idxI (h : Nat) {s : Int} (hs : s = 1 ∨ s = -1) : (rkey (idxI h s)).map kV = [.int (h : Int), .int s] := by
  rcases hs with rfl | rfl
  · exact rkey_idx h true
  · exact rkey_idx h false
section
variable {P : Program} {w : World} {K : PySem.W.Frag} {mg : PySem.Str → Option Value} {base : Heap}
abbrev RuF (K : PySem.W.Frag) (m : PySem.Str) : Addr := He.fAd K ("Run", some m)
def spNeed (K : PySem.W.Frag) (y : Wy) : Sp := fun vs H Q _ => ∃ (H0 : Hp) (p : Addr) (st : Sta) (h : Nat), vs = [.ref p, .int h] ∧ RunAt K y H0 H p st ∧ h < st.n ∧ Q .non H
theorem ok_Ru_need (T : Tx K mg) (y : Wy) : Okd P w K mg base 2 (RuF K "need_house") P_Ru_need (spNeed K y) := by
  obtain ⟨fdW, GW, bW⟩ := ok_is_whole (P := P) (w := w) (base := base) T
  refine okd T 36 d_Ru_need rfl rfl (N := N_Ru_need) sc_Ru_need (fun _ _ _ _ _ _ us hl => match us, hl with | [_, _], _ => rfl) (fun vs H Q E h => ?_) (fun cdv A outer s H vs Q E hr h => ?_)
  · obtain ⟨H0, p, st, h, rfl, _⟩ := h
    rfl
  · obtain ⟨H0, p, st, h, rfl, ⟨tg, hl, rd, has, ras, R⟩, hh, out⟩ := h
    obtain ⟨dx, hp⟩ := R.ob
    refine ⟨_, pss_one (ps_if (PW.pt (pw_or (pt_not (pt_val (pe_call GW hr rfl T.g_is_whole (T.kp 28 (d := d_is_whole) rfl) bW .nil pass0 (pa_cons (pv 1) pa_nil))))
      (pw_or1 (pt_not (pt_chain op_le op_lt pe_int (pv 1) (pe_callB call_len_seq (by rfl) T.b_len PySem.boot_len (pa_cons (pe_fld (pv 0) rfl) pa_nil))))))) (pss_one ps_never) pss_nil), ?_⟩
    refine ⟨_, rfl, _, rfl, true, rfl, iteF ⟨_, rfl, _, _, rfl, rfl, _, rfl, ?_⟩⟩
    rw [decide_eq_true (show (0 : Int) ≤ (h : Int) by omega)]
    refine iteT ⟨_, rfl, p, _, dx, _, _, rfl, hp, T.c_Run, T.n_Run_homes, rfl, hl, _, rfl, .inl (SqL.of R.hob), _, _, rfl, rfl, _, rfl, ?_⟩
    rw [List.length_map, R.lh, decide_eq_true (show (h : Int) < ((st.homes.length : Nat) : Int) by unfold Sta.n at hh; omega)]
    exact iteF out
def spRoad (K : PySem.W.Frag) (y : Wy) : Sp := fun vs H Q _ => ∃ (H0 : Hp) (p : Addr) (st : Sta) (tg : Addr → Option Tag) (hl rd : Addr) (has ras : List (Addr × Addr)) (h : Nat) (r : Bool) (q : Addr × Addr),
  vs = [.ref p, .int h, .int (sideOf r)] ∧ RunS K y H0 H p st tg hl rd has ras ∧ h < st.n ∧ ras[idx h r]? = some q ∧ ∀ H', Same H H' → Q (.ref q.1) H'
theorem ok_Ru_road (T : Tx K mg) (y : Wy) : Okd P w K mg base 3 (RuF K "road_at") P_Ru_road (spRoad K y) := by
  obtain ⟨fdW, GW, bW⟩ := (ok_is_whole (P := P) (w := w) (base := base) T).mono (k := 2) (by decide)
  obtain ⟨fdN, GN, bN⟩ := ok_Ru_need (P := P) (w := w) (base := base) T y
  refine okd T 37 d_Ru_road rfl rfl (N := N_Ru_road) sc_Ru_road (fun _ _ _ _ _ _ us hl => match us, hl with | [_, _, _], _ => rfl) (fun vs H Q E h => ?_) (fun cdv A outer s H vs Q E hr h => ?_)
  · obtain ⟨H0, p, st, tg, hl, rd, has, ras, h, r, q, rfl, _⟩ := h
    rfl
  · obtain ⟨H0, p, st, tg, hl, rd, has, ras, h, r, q, rfl, R, hh, hq, out⟩ := h
    obtain ⟨dx, hp⟩ := R.ob
    refine ⟨_, pss_cons (ps_expr (pe_meth (pv 0) T.c_Run T.m_Run_need_house GN hr bN .nil pass0 (pa_cons (pv 1) pa_nil)))
      (pss_cons (ps_if (PW.pt (pw_or (pt_not (pt_val (pe_call GW hr rfl T.g_is_whole (T.kp 28 (d := d_is_whole) rfl) bW .nil pass0 (pa_cons (pv 2) pa_nil))))
        (pw_or1 (pt_cmpR op_notIn_seq (pv 2) (pe_glob (v := .ref (He.ga K "SIDES")) rfl T.g_SIDES rfl) (by rfl))))) (pss_one ps_never) pss_nil)
      (pss_one (ps_ret (pe_dget (hu_of hr) (pe_fld (pv 0) rfl) (pe_tup (pa_cons (pv 1) (pa_cons (pv 2) pa_nil))) (fun _ _ => rfl))))), ?_⟩
    refine ⟨_, rfl, p, dx, _, rfl, hp, (by kernel_rfl), _, rfl, H0, p, st, h, rfl, ⟨tg, hl, rd, has, ras, R⟩, hh, ?_⟩
    refine ⟨_, rfl, _, rfl, true, rfl, iteF ⟨_, rfl, _, _, rfl, .inr (T.s.sides H), rfl, rfl, ?_⟩⟩
    have e1 : inV (.int (sideOf r)) [.int (-1), .int 1] = true := by cases r <;> decide +kernel
    refine ⟨false, by rw [e1]; rfl, iteF ?_⟩
    refine ⟨_, rfl, p, _, dx, _, _, rfl, hp, T.c_Run, T.n_Run_roads, rfl, _, rfl, _, rfl, sz 2, fun k hk => ?_⟩
    have s1 : Same H (upd H k (.tup [.int (h : Int), .int (sideOf r)])) := newS hk
    have g := DGet.t (k := rkey (idx h r)) (s1 _ _ R.rob) (by rw [upd_same, rkey_idx])
    rw [roadKvs_val, List.getElem?_map, hq] at g
    exact ⟨rd, _, rfl, g, out _ s1⟩
/-- a letter told goes on the road that tell1 names -/
theorem tell1_eq {n h : Nat} {rs : List Rod} {x : Int × Lt} {r : Rod} (hr : rs[idxI ((((h : Int) + x.1) % (n : Int)).toNat) (-x.1)]? = some r) :
    tell1 n h rs x = rs.set (idxI ((((h : Int) + x.1) % (n : Int)).toNat) (-x.1)) { r with ls := r.ls ++ [x.2] } := by
  unfold tell1 putOn
  rw [hr]
theorem tell1_len (n h : Nat) (rs : List Rod) (x : Int × Lt) : (tell1 n h rs x).length = rs.length := by
  unfold tell1 putOn
  split
  · exact List.length_set
  · rfl
theorem tell_len (n h : Nat) : ∀ (t : Told) (rs : List Rod), (tell n h rs t).length = rs.length
  | [], _ => rfl
  | x :: t, rs => (tell_len n h t (tell1 n h rs x)).trans (tell1_len n h rs x)
theorem tell_snoc (n h : Nat) (rs : List Rod) (t : Told) (x : Int × Lt) : tell n h rs (t ++ [x]) = tell1 n h (tell n h rs t) x := by
  unfold tell
  rw [List.foldl_append]
  rfl
/-- roads grow by one letter at most -/
theorem tell1_small {n h : Nat} {rs : List Rod} {x : Int × Lt} {m : Nat} (hm : ∀ r ∈ rs, r.ls.length ≤ m) : ∀ r ∈ tell1 n h rs x, r.ls.length ≤ m + 1 := by
  intro r hr
  unfold tell1 putOn at hr
  split at hr
  · rename_i r0 e0
    rcases List.mem_or_eq_of_mem_set hr with q | q
    · exact Nat.le_succ_of_le (hm r q)
    · rw [q]
      show (r0.ls ++ [x.2]).length ≤ m + 1
      rw [List.length_append, List.length_singleton]
      have := hm r0 (List.mem_of_getElem? e0)
      omega
  · exact Nat.le_succ_of_le (hm r hr)
theorem tell_small {n h : Nat} : ∀ {t : Told} {rs : List Rod} {m : Nat}, (∀ r ∈ rs, r.ls.length ≤ m) → ∀ r ∈ tell n h rs t, r.ls.length ≤ m + t.length
  | [], _, _, hm => hm
  | x :: t, rs, m, hm => fun r hr => by
    have := tell_small (t := t) (tell1_small (n := n) (h := h) (x := x) hm) r hr
    rw [List.length_cons]
    omega
def spTell (K : PySem.W.Frag) (y : Wy) : Sp := fun vs H Q _ => ∃ (H0 : Hp) (p : Addr) (st : Sta) (tg : Addr → Option Tag) (hl rd : Addr) (has ras : List (Addr × Addr)) (h : Nat) (t : Addr) (told : Told),
  vs = [.ref p, .int h, .ref t] ∧ RunS K y H0 H p st tg hl rd has ras ∧ tg t = none ∧ ToldAt H t told ∧ Sd told ∧ told.length ≤ 2 ∧ (∀ r ∈ st.roads, r.ls.length ≤ 1000) ∧
  ∀ H', RunS K y H0 H' p { st with roads := tell st.n h st.roads told } tg hl rd has ras → Q .non H'
theorem ok_Ru_tell (T : Tx K mg) (y : Wy) : Okd P w K mg base 2 (RuF K "tell_all") P_Ru_tell (spTell K y) := by
  obtain ⟨fdP, GP, bP⟩ := ok_Ro_put (P := P) (w := w) (base := base) T
  refine okd T 38 d_Ru_tell rfl rfl (N := N_Ru_tell) sc_Ru_tell (fun _ _ _ _ _ _ us hl => match us, hl with | [_, _, _], _ => rfl) (fun vs H Q E h => ?_) (fun cdv A outer s H vs Q E hr h => ?_)
  · obtain ⟨H0, p, st, tg, hl, rd, has, ras, h, t, told, rfl, _⟩ := h
    rfl
  · obtain ⟨H0, p, st, tg, hl, rd, has, ras, h, t, told, rfl, R, ht, ⟨ds, hds, pds⟩, hsd, hlen, hsm, out⟩ := h
    refine ⟨_, pss_one (ps_for PassesOwn.never rfl (pi_list (pv 2)) (pg_tup rfl (pgs_cons (pg_name (i := 3) sc_Ru_tell.nd rfl (.inl rfl)) (pgs_cons (pg_name (i := 4) sc_Ru_tell.nd rfl (.inl rfl)) pgs_nil)))
      (pss_one (ps_expr (pe_meth (pe_dget (hu_of hr) (pe_fld (pv 0) rfl) (pe_tup (pa_cons (pe_op op_mod (pe_op op_add (pv 1) (pv 3)) (pe_callB call_len_seq (by rfl) T.b_len PySem.boot_len (pa_cons (pe_fld (pv 0) rfl) pa_nil))) (pa_cons (pe_un un_neg (pv 3)) pa_nil))) (fun _ _ => rfl))
        T.c_Road T.m_Road_put_on GP hr bP .nil pass0 (pa_cons (pv 4) pa_nil))))), ?_⟩
    have ld := pds.length
    refine ⟨_, rfl, t, rfl, ⟨_, SqL.of hds⟩, for_it (walk_list (xs := ds)) (fun i σ H1 => ∃ a b, σ = [some (.ref p), some (.int (h : Int)), some (.ref t), a, b] ∧ H1 t = some (.lst ds) ∧ Paired (PairAt H1) ds told ∧
      RunS K y H0 H1 p { st with roads := tell st.n h st.roads (told.take i) } tg hl rd has ras) ?_ (fun i σ H1 _ q => ?_) ?_ ?_⟩
    · exact ⟨none, none, rfl, hds, pds, by rw [List.take_zero]; exact R⟩
    · obtain ⟨a, b, _, q, _⟩ := q
      exact SqL.of q
    · rintro i x σ H1 H2 hi ⟨a, b, rfl, h1, p1, R1⟩ ⟨rfl, hx⟩
      obtain ⟨td, htd, ta, lv, rfl, hta, hlv⟩ := paired_get p1 hx
      obtain ⟨dx, hp⟩ := R1.ob
      have hs := hsd td (List.mem_of_getElem? htd)
      have hn := sd_neg hs
      have n0 : 0 < (st.n : Int) := by
        have := R.n0
        unfold Sta.n
        omega
      -- the road
      have m0 : 0 ≤ ((h : Int) + td.1) % (st.n : Int) := Int.emod_nonneg _ (by omega)
      have m1 : ((h : Int) + td.1) % (st.n : Int) < (st.n : Int) := Int.emod_lt_of_pos _ n0
      obtain ⟨h', hh'⟩ : ∃ h' : Nat, ((h : Int) + td.1) % (st.n : Int) = (h' : Int) := ⟨(((h : Int) + td.1) % (st.n : Int)).toNat, by omega⟩
      have hlt : h' < st.n := by omega
      have lro : (tell st.n h st.roads (told.take i)).length = 2 * st.n := by
        rw [tell_len]
        exact R.l2
      have hj : idxI h' (-td.1) < 2 * st.n := by
        unfold idxI
        split <;> omega
      obtain ⟨r, hr1⟩ : ∃ r, (tell st.n h st.roads (told.take i))[idxI h' (-td.1)]? = some r := ⟨_, List.getElem?_eq_getElem (by rw [lro]; exact hj)⟩
      have lra : ras.length = 2 * st.n := R1.lr.trans lro
      obtain ⟨q, hq⟩ : ∃ q, ras[idxI h' (-td.1)]? = some q := ⟨_, List.getElem?_eq_getElem (by rw [lra]; exact hj)⟩
      obtain ⟨⟨dr, o1⟩, t1, t2, vs, o2, pvs⟩ := R1.rod _ q r hq hr1
      have enat : (((h : Int) + td.1) % (st.n : Int)).toNat = h' := by omega
      refine ⟨ta, _, rfl, SqT.of hta, rfl, _, _, rfl, _, _, rfl, rfl, ?_⟩
      refine ⟨_, rfl, p, _, dx, _, _, rfl, hp, T.c_Run, T.n_Run_roads, rfl, _, rfl, _, rfl, _, _, rfl, rfl, _, rfl, p, _, dx, _, _, rfl, hp, T.c_Run, T.n_Run_homes, rfl, hl, _, rfl, .inl (SqL.of R1.hob), _, _, rfl, rfl, ?_, ?_⟩
      · rw [List.length_map, R1.lh]
        exact n0
      have e2 : (((has.map fun q => V.ref q.1).length : Nat) : Int) = (st.n : Int) := by
        rw [List.length_map, R1.lh]
        rfl
      rw [e2]
      refine ⟨_, rfl, td.1, rfl, sz 2, fun k hk => ?_⟩
      have hk' : H2 k = none := hk
      have s1 : Same H2 (upd H2 k (.tup [.int (((h : Int) + td.1) % (st.n : Int)), .int (-td.1)])) := newS hk
      have g := DGet.t (k := rkey (idxI h' (-td.1))) (s1 _ _ R1.rob) (by rw [upd_same, rkey_idxI h' hn, hh'])
      rw [roadKvs_val, List.getElem?_map, hq] at g
      refine ⟨rd, _, rfl, g, q.1, dr, _, rfl, s1 _ _ o1, (by kernel_rfl), _, rfl, q.1, dr, q.2, _, lv, vs, rfl, s1 _ _ o1, s1 _ _ o2, ?_, ?_⟩
      · have z1 := tell_small (n := st.n) (h := h) (t := told.take i) hsm r (List.mem_of_getElem? hr1)
        have z2 := pvs.length
        have z3 : (told.take i).length ≤ 2 := by rw [List.length_take]; omega
        omega
      · have nt : t ≠ q.2 := fun e => by rw [e, t2] at ht; cases ht
        have R2 := R1.mono s1
        have b2 : But q.1 q.2 (upd H2 k (.tup [.int (((h : Int) + td.1) % (st.n : Int)), .int (-td.1)])) (upd (upd H2 k (.tup [.int (((h : Int) + td.1) % (st.n : Int)), .int (-td.1)])) q.2 (.lst (vs ++ [lv]))) := fun c o e _ n2 => by
          rw [upd_ne n2]
          exact e
        have nq : q.1 ≠ q.2 := fun e => by
          rw [e, t2] at t1
          cases t1
        have k2 : TupS (upd H2 k (.tup [.int (((h : Int) + td.1) % (st.n : Int)), .int (-td.1)])) (upd (upd H2 k (.tup [.int (((h : Int) + td.1) % (st.n : Int)), .int (-td.1)])) q.2 (.lst (vs ++ [lv]))) := fun c xs e =>
          b2 _ _ e (ne_of e (s1 _ _ o1) (by intro z; cases z)) (ne_of e (s1 _ _ o2) (by intro z; cases z))
        refine ⟨_, _, rfl, ?_, ?_, ?_⟩
        · rw [upd_ne nt]
          exact s1 _ _ h1
        · exact Paired.mapP p1 fun _ _ x => (x.keep (tupsS s1)).keep k2
        · have R3 := R2.setRod (r' := { r with ls := r.ls ++ [td.2] }) hq hr1 b2 ⟨dr, by rw [upd_ne nq]; exact s1 _ _ o1⟩
            ⟨_, upd_same, paired_snoc (Paired.mapP pvs fun _ _ x => (x.keep (tupsS s1)).keep k2) ((hlv.keep (tupsS s1)).keep k2)⟩
          have e3 : told.take (i + 1) = told.take i ++ [td] := by
            rw [List.take_add_one, htd]
            rfl
          rw [e3, tell_snoc, tell1_eq (r := r) (by rw [enat]; exact hr1), enat]
          exact R3
    · rintro σ H1 ⟨a, b, rfl, h1, p1, R1⟩
      rw [ld, List.take_length] at R1
      exact out H1 R1
end
end RC
namespace RC
open PySem PySem.Spec PyProof.Rows L2
def SmallS (st : Sta) : Prop := (∀ r ∈ st.roads, r.ls.length ≤ 1000) ∧ ∀ ho ∈ st.homes, ho.labels.length ≤ 60
section
variable {P : Program} {w : World} {K : PySem.W.Frag} {mg : PySem.Str → Option Value} {base : Heap}
theorem starts (T : Tx K mg) (y : Wy) : Meth K (HoC K y) "start" (RhF K "start") ∧ Okd P w K mg base 6 (RhF K "start") P_Rh_start (spStart K y) := by
  cases y with
  | round => exact ⟨T.m_RoundHouse_start, (ok_Rh_start T .round T.m_RoundHouse_first_told (ok_Oh_first T)).mono (by decide)⟩
  | halves => exact ⟨T.m_HalveHouse_start, (ok_Rh_start T .halves T.m_HalveHouse_first_told (ok_Hh_first T)).mono (by decide)⟩
  | reach => exact ⟨T.m_ReachHouse_start, (ok_Rh_start T .reach T.m_ReachHouse_first_told (ok_Ah_first T)).mono (by decide)⟩
  | whole => exact ⟨T.m_WholeHouse_start, (ok_Rh_start T .whole T.m_WholeHouse_first_told (ok_Wh_first T)).mono (by decide)⟩
theorem hears (T : Tx K mg) (y : Wy) : ∃ f, Meth K (HoC K y) "hear_one" f ∧ Okd P w K mg base 6 f ["self", "side", "letter"] (spHear K y) := by
  cases y with
  | round => exact ⟨_, T.m_RoundHouse_hear_one, (ok_Rh_hear T .round (by decide) T.m_RoundHouse_heard_chief ((ok_Rh_chief T .round).mono (k := 3) (by decide)) T.m_RoundHouse_heard_awake ((ok_Oh_awake T).mono (by decide)) T.m_RoundHouse_relayed ((ok_Rh_relay T .round (by decide)).mono (by decide))).mono (by decide)⟩
  | halves => exact ⟨_, T.m_HalveHouse_hear_one, (ok_Rh_hear T .halves (by decide) T.m_HalveHouse_heard_chief ((ok_Rh_chief T .halves).mono (k := 3) (by decide)) T.m_HalveHouse_heard_awake (ok_Hh_awake T) T.m_HalveHouse_relayed ((ok_Rh_relay T .halves (by decide)).mono (by decide))).mono (by decide)⟩
  | reach => exact ⟨_, T.m_ReachHouse_hear_one, (ok_Rh_hear T .reach (by decide) T.m_ReachHouse_heard_chief ((ok_Rh_chief T .reach).mono (k := 3) (by decide)) T.m_ReachHouse_heard_awake (ok_Ah_awake T) T.m_ReachHouse_relayed ((ok_Ah_relay T).mono (by decide))).mono (by decide)⟩
  | whole => exact ⟨_, T.m_WholeHouse_hear_one, ok_Wh_hear T⟩
/-- no run's changing object is new -/
theorem RunS.new {y : Wy} {H0 H : Hp} {p : Addr} {st : Sta} {tg : Addr → Option Tag} {hl rd : Addr} {has ras : List (Addr × Addr)} (R : RunS K y H0 H p st tg hl rd has ras) {t : Addr} (h : H t = none) : tg t = none := by
  cases c : tg t with
  | none => rfl
  | some x =>
    obtain ⟨o, e⟩ := R.alive t (by rw [c]; simp)
    rw [h] at e
    cases e
def spBegin (K : PySem.W.Frag) (y : Wy) : Sp := fun vs H Q _ => ∃ (H0 : Hp) (p : Addr) (st st' : Sta) (h : Nat), vs = [.ref p, .int h] ∧ RunAt K y H0 H p st ∧ SmallS st ∧ step y st (.beg h) = some st' ∧ ∀ H', RunAt K y H0 H' p st' → Q .non H'
theorem ok_Ru_begin (T : Tx K mg) (y : Wy) : Okd P w K mg base 7 (RuF K "begin") P_Ru_begin (spBegin K y) := by
  obtain ⟨fdN, GN, bN⟩ := (ok_Ru_need (P := P) (w := w) (base := base) T y).mono (k := 6) (by decide)
  obtain ⟨fdT, GT, bT⟩ := (ok_Ru_tell (P := P) (w := w) (base := base) T y).mono (k := 6) (by decide)
  obtain ⟨MS, fdS, GS, bS⟩ := starts (P := P) (w := w) (base := base) T y
  refine okd T 39 d_Ru_begin rfl rfl (N := N_Ru_begin) sc_Ru_begin (fun _ _ _ _ _ _ us hl => match us, hl with | [_, _], _ => rfl) (fun vs H Q E h => ?_) (fun cdv A outer s H vs Q E hr h => ?_)
  · obtain ⟨H0, p, st, st', h, rfl, _⟩ := h
    rfl
  · obtain ⟨H0, p, st, st', h, rfl, ⟨tg, hl, rd, has, ras, R⟩, ⟨sm1, sm2⟩, hstep, out⟩ := h
    obtain ⟨dx, hp⟩ := R.ob
    obtain ⟨ho, hho, haw, hto, est⟩ : ∃ ho, st.homes[h]? = some ho ∧ ho.awake = false ∧ ho.touched = false ∧ st' = ⟨st.homes.set h (startH y st.n ho).1, tell st.n h st.roads (startH y st.n ho).2⟩ := by
      unfold step at hstep
      cases e : st.homes[h]? with
      | none =>
        simp only [e] at hstep
        cases hstep
      | some ho =>
        simp only [e] at hstep
        cases a : ho.awake with
        | true =>
          rw [a] at hstep
          cases hstep
        | false =>
          cases b : ho.touched with
          | true =>
            rw [a, b] at hstep
            cases hstep
          | false =>
            rw [a, b] at hstep
            exact ⟨ho, rfl, a, b, (Option.some.inj hstep).symm⟩
    subst est
    have hlt : h < st.homes.length := (List.getElem?_eq_some_iff.mp hho).1
    obtain ⟨q, hq⟩ : ∃ q, has[h]? = some q := ⟨_, List.getElem?_eq_getElem (by rw [R.lh]; exact hlt)⟩
    obtain ⟨hh, t1, t2⟩ := R.hou h q ho hq hho
    obtain ⟨dh, cv, hob, hch⟩ := hh.ob
    have hix : atI (has.map fun q => V.ref q.1) ((h : Nat) : Int) = some (V.ref q.1) := atI_nat (by rw [List.getElem?_map, hq]; rfl)
    refine ⟨_, pss_cons (ps_expr (pe_meth (pv 0) T.c_Run T.m_Run_need_house GN hr bN .nil pass0 (pa_cons (pv 1) pa_nil)))
      (pss_cons (ps_if (pt_val (pe_fld (pe_ix ix_list (pe_fld (pv 0) rfl) (pv 1) (fun _ _ => rfl)) rfl)) (pss_one ps_never) pss_nil)
      (pss_cons (ps_if (pt_val (pe_fld (pe_ix ix_list (pe_fld (pv 0) rfl) (pv 1) (fun _ _ => rfl)) rfl)) (pss_one ps_never) pss_nil)
      (pss_one (ps_expr (pe_meth (pv 0) T.c_Run T.m_Run_tell_all GT hr bT .nil pass0 (pa_cons (pv 1) (pa_cons (pe_meth0 (pe_ix ix_list (pe_fld (pv 0) rfl) (pv 1) (fun _ _ => rfl)) (T.hc y) MS GS hr bS .nil pass0) pa_nil))))))), ?_⟩
    refine ⟨_, rfl, p, dx, _, rfl, hp, (by kernel_rfl), _, rfl, H0, p, st, h, rfl, ⟨tg, hl, rd, has, ras, R⟩, hlt, ?_⟩
    refine ⟨_, rfl, p, _, dx, _, _, rfl, hp, T.c_Run, T.n_Run_homes, rfl, _, rfl, hl, _, _, _, rfl, rfl, SqL.of R.hob, hix, q.1, _, dh, _, .bl ho.awake, rfl, hob, T.hc y, T.hn_awake y, (by kernel_rfl), _, rfl, ?_⟩
    rw [haw]
    refine iteF ?_
    refine ⟨_, rfl, p, _, dx, _, _, rfl, hp, T.c_Run, T.n_Run_homes, rfl, _, rfl, hl, _, _, _, rfl, rfl, SqL.of R.hob, hix, q.1, _, dh, _, .bl ho.touched, rfl, hob, T.hc y, T.hn_touched y, (by kernel_rfl), _, rfl, ?_⟩
    rw [hto]
    refine iteF ?_
    refine ⟨_, rfl, p, dx, _, rfl, hp, (by kernel_rfl), _, rfl, ?_⟩
    refine ⟨_, rfl, p, _, dx, _, _, rfl, hp, T.c_Run, T.n_Run_homes, rfl, _, rfl, hl, _, _, _, rfl, rfl, SqL.of R.hob, hix, q.1, dh, _, rfl, hob, (by cases y <;> kernel_rfl), ?_⟩
    refine ⟨st.n, q.1, q.2, ho, rfl, ⟨R.n64, sm2 ho (List.mem_of_getElem? hho)⟩, hh, fun H1 t h1 ht1 b1 fr => ?_⟩
    have R1 := R.setHou hq hho b1 h1
    obtain ⟨sd, sl⟩ := sd_firstTold y st.n { ho with awake := true }
    have en : Sta.n { st with homes := st.homes.set h (startH y st.n ho).1 } = st.n := List.length_set
    refine ⟨H0, p, _, tg, hl, rd, has, ras, h, t, _, rfl, R1, R.new fr, ht1, sd, sl, sm1, fun H2 R2 => out H2 ⟨tg, hl, rd, has, ras, ?_⟩⟩
    rw [en] at R2
    exact R2
def spCome (K : PySem.W.Frag) (y : Wy) : Sp := fun vs H Q _ => ∃ (H0 : Hp) (p : Addr) (st st' : Sta) (h : Nat) (r : Bool), vs = [.ref p, .int h, .int (sideOf r)] ∧ RunAt K y H0 H p st ∧ SmallS st ∧ step y st (.come h r) = some st' ∧ ∀ H', RunAt K y H0 H' p st' → Q .non H'
theorem ok_Ru_come (T : Tx K mg) (y : Wy) : Okd P w K mg base 7 (RuF K "come") P_Ru_come (spCome K y) := by
  obtain ⟨fdD, GD, bD⟩ := (ok_Ru_road (P := P) (w := w) (base := base) T y).mono (k := 6) (by decide)
  obtain ⟨fdE, GE, bE⟩ := (ok_Ro_take (P := P) (w := w) (base := base) T).mono (k := 6) (by decide)
  obtain ⟨fdT, GT, bT⟩ := (ok_Ru_tell (P := P) (w := w) (base := base) T y).mono (k := 6) (by decide)
  obtain ⟨fH, MH, fdH, GH, bH⟩ := hears (P := P) (w := w) (base := base) T y
  refine okd T 40 d_Ru_come rfl rfl (N := N_Ru_come) sc_Ru_come (fun _ _ _ _ _ _ us hl => match us, hl with | [_, _, _], _ => rfl) (fun vs H Q E h => ?_) (fun cdv A outer s H vs Q E hr h => ?_)
  · obtain ⟨H0, p, st, st', h, r, rfl, _⟩ := h
    rfl
  · obtain ⟨H0, p, st, st', h, r, rfl, ⟨tg, hl, rd, has, ras, R⟩, ⟨sm1, sm2⟩, hstep, out⟩ := h
    obtain ⟨ho, rod, l, res, hho, hro, hl1, hres, est⟩ : ∃ ho rod l res, st.homes[h]? = some ho ∧ st.roads[idx h r]? = some rod ∧ rod.ls[rod.heard]? = some l ∧ hear y st.n ho (sideOf r) l = some res ∧
        st' = ⟨st.homes.set h res.1, tell st.n h (st.roads.set (idx h r) { rod with heard := rod.heard + 1 }) res.2⟩ := by
      unfold step at hstep
      cases e1 : st.homes[h]? with
      | none =>
        simp only [e1] at hstep
        cases hstep
      | some ho =>
        cases e2 : st.roads[idx h r]? with
        | none =>
          simp only [e1, e2] at hstep
          cases hstep
        | some rod =>
          cases e3 : rod.ls[rod.heard]? with
          | none =>
            simp only [e1, e2, e3] at hstep
            cases hstep
          | some l =>
            cases e4 : hear y st.n ho (sideOf r) l with
            | none =>
              simp only [e1, e2, e3, e4] at hstep
              cases hstep
            | some res =>
              simp only [e1, e2, e3, e4] at hstep
              exact ⟨ho, rod, l, res, rfl, rfl, e3, e4, (Option.some.inj hstep).symm⟩
    subst est
    have hlt : h < st.homes.length := (List.getElem?_eq_some_iff.mp hho).1
    obtain ⟨q, hq⟩ : ∃ q, has[h]? = some q := ⟨_, List.getElem?_eq_getElem (by rw [R.lh]; exact hlt)⟩
    obtain ⟨qr, hqr⟩ : ∃ qr, ras[idx h r]? = some qr := ⟨_, List.getElem?_eq_getElem (by rw [R.lr]; exact (List.getElem?_eq_some_iff.mp hro).1)⟩
    obtain ⟨⟨dr, o1⟩, t1, t2, vs, o2, pvs⟩ := R.rod _ qr rod hqr hro
    obtain ⟨lv, hlv, hlt2⟩ : ∃ lv, vs[rod.heard]? = some lv ∧ LtAt H lv l := by
      cases e : vs[rod.heard]? with
      | none =>
        have l1 := pvs.length
        have l2 := List.getElem?_eq_none_iff.mp e
        have l3 := (List.getElem?_eq_some_iff.mp hl1).1
        omega
      | some lv =>
        obtain ⟨u, hu1, hu2⟩ := paired_get pvs e
        rw [hl1] at hu1
        cases hu1
        exact ⟨lv, rfl, hu2⟩
    obtain ⟨dx, hp⟩ := R.ob
    refine ⟨_, pss_cons (ps_set (i := 3) sc_Ru_come.nd rfl (.inl rfl) (pe_meth0 (pe_meth (pv 0) T.c_Run T.m_Run_road_at GD hr bD .nil pass0 (pa_cons (pv 1) (pa_cons (pv 2) pa_nil))) T.c_Road T.m_Road_take_eldest GE hr bE .nil pass0))
      (pss_one (ps_expr (pe_meth (pv 0) T.c_Run T.m_Run_tell_all GT hr bT .nil pass0 (pa_cons (pv 1) (pa_cons (pe_meth (pe_ix ix_list (pe_fld (pv 0) rfl) (pv 1) (fun _ _ => rfl)) (T.hc y) MH GH hr bH .nil pass0 (pa_cons (pv 2) (pa_cons (pv 3) pa_nil))) pa_nil))))), ?_⟩
    refine ⟨_, rfl, p, dx, _, rfl, hp, (by kernel_rfl), _, rfl, _, rfl, H0, p, st, tg, hl, rd, has, ras, h, r, qr, rfl, R, hlt, hqr, fun H1 s1 => ?_⟩
    refine ⟨qr.1, dr, _, rfl, s1 _ _ o1, (by kernel_rfl), qr.1, dr, qr.2, rod.heard, vs, lv, rfl, s1 _ _ o1, s1 _ _ o2, hlv, ?_⟩
    have R1 := R.mono s1
    have nq : qr.2 ≠ qr.1 := fun e => by
      rw [e, t1] at t2
      cases t2
    have k2 : TupS H1 (upd H1 qr.1 (.ins (RoC K) dr (roF qr.2 (rod.heard + 1)))) := fun c xs e => by
      rw [upd_ne (ne_of e (s1 _ _ o1) (by intro z; cases z))]
      exact e
    have R2 := R1.setRod (r' := { rod with heard := rod.heard + 1 }) hqr hro (But.upd (o := .ins (RoC K) dr (roF qr.2 (rod.heard + 1)))) ⟨dr, upd_same⟩
      ⟨vs, by rw [upd_ne nq]; exact s1 _ _ o2, Paired.mapP pvs fun _ _ x => (x.keep (tupsS s1)).keep k2⟩
    obtain ⟨dx2, hp2⟩ := R2.ob
    obtain ⟨hh, t3, t4⟩ := R2.hou h q ho hq hho
    obtain ⟨dh, cv, hob, hch⟩ := hh.ob
    have hix : atI (has.map fun q => V.ref q.1) ((h : Nat) : Int) = some (V.ref q.1) := atI_nat (by rw [List.getElem?_map, hq]; rfl)
    refine ⟨_, rfl, p, dx2, _, rfl, hp2, (by kernel_rfl), _, rfl, ?_⟩
    refine ⟨_, rfl, p, _, dx2, _, _, rfl, hp2, T.c_Run, T.n_Run_homes, rfl, _, rfl, hl, _, _, _, rfl, rfl, SqL.of R2.hob, hix, q.1, dh, _, rfl, hob, (by cases y <;> kernel_rfl), _, rfl, _, rfl, ?_⟩
    refine ⟨_, q.1, q.2, ho, sideOf r, l, lv, res, rfl, R.n64, hh, (hlt2.keep (tupsS s1)).keep k2, sm2 ho (List.mem_of_getElem? hho), hres, fun H3 t h3 ht3 b3 fr => ?_⟩
    have R3 := R2.setHou hq hho b3 h3
    obtain ⟨sd, sl⟩ := sd_hear (s := sideOf r) (by cases r <;> simp [sideOf]) hres
    have en : Sta.n { homes := st.homes.set h res.1, roads := st.roads.set (idx h r) { rod with heard := rod.heard + 1 } } = st.n := List.length_set
    refine ⟨H0, p, _, tg, hl, rd, has, ras, h, t, _, rfl, R3, R2.new fr, ht3, sd, sl, ?_, fun H4 R4 => out H4 ⟨tg, hl, rd, has, ras, ?_⟩⟩
    · intro r2 hr2
      rcases List.mem_or_eq_of_mem_set hr2 with z | z
      · exact sm1 r2 z
      · rw [z]
        exact sm1 rod (List.mem_of_getElem? hro)
    · rw [en] at R4
      exact R4
end
end RC
namespace RC
open PySem PySem.Spec PyProof.Rows L2
section
variable {P : Program} {w : World} {K : PySem.W.Frag} {mg : PySem.Str → Option Value} {base : Heap}
/-- a tuple of letters -/
def LtsAt (H : Hp) (t : Addr) (ls : List Lt) : Prop := ∃ vs, H t = some (.tup vs) ∧ Paired (LtAt H) vs ls
theorem paired_drop {α β : Type} {R : α → β → Prop} : ∀ {xs : List α} {ys : List β} (n : Nat), Paired R xs ys → Paired R (xs.drop n) (ys.drop n)
  | _, _, 0, h => h
  | _, _, _ + 1, .nil => .nil
  | _, _, n + 1, .cons _ t => paired_drop n t
theorem on_at (st : Sta) {i : Nat} {ho : Ho} (h : st.homes[i]? = some ho) : isOn st i = ho.awake := by
  unfold isOn
  rw [h]
/-! ### begun -/
def spBegun (K : PySem.W.Frag) (y : Wy) : Sp := fun vs H Q _ => ∃ (H0 : Hp) (p : Addr) (st : Sta), vs = [.ref p] ∧ RunAt K y H0 H p st ∧ ∀ H' t, TrI H' t ((begun st).map fun i : Nat => (i : Int)) → Same H H' → Q t H'
theorem ok_Ru_begun (T : Tx K mg) (y : Wy) : Okd P w K mg base 1 (RuF K "begun") P_Ru_begun (spBegun K y) := by
  refine okd T 41 d_Ru_begun rfl rfl (N := N_Ru_begun) sc_Ru_begun (fun _ _ _ _ _ _ us hl => match us, hl with | [_], _ => rfl) (fun vs H Q E h => ?_) (fun cdv A outer s H vs Q E hr h => ?_)
  · obtain ⟨H0, p, st, rfl, _⟩ := h
    rfl
  · obtain ⟨H0, p, st, rfl, ⟨tg, hl, rd, has, ras, R⟩, out⟩ := h
    obtain ⟨dx, hp⟩ := R.ob
    refine ⟨_, pss_one (ps_ret (pe_callTy call_tuple_of (by rfl) T.b_tuple (by decide +kernel) (pa_cons
        (pe_lc (own := [("house", 1), ("home", 2)]) (g := gTup K 2 (gCons (gName 1) (gCons (gName 2) gNil))) (tt := tB (tFld K (tVar 2) "awake")) (te := tVar 1) rfl sc_Ru_begun.nd (pi_enum rfl T.b_enumerate (pa_cons (pe_fld (pv 0) rfl) pa_nil))
          (blkOk_by (own := [("house", 1), ("home", 2)]) (N := N_Ru_begun) (sc := defScope s_Ru_begun) (by decide +kernel))
          (fun _ _ _ _ _ => by exact pg_tup rfl (pgs_cons (pg_name (i := 1) sc_Ru_begun.nd rfl (Or.inl rfl)) (pgs_cons (pg_name (i := 2) sc_Ru_begun.nd rfl (Or.inl rfl)) pgs_nil)))
          (fun _ _ _ _ _ => by exact pts_one (pt_val (pe_fld (pv 2) rfl))) (fun _ _ _ _ _ => by exact pv 1)) pa_nil))), ?_⟩
    refine ⟨_, rfl, p, _, dx, _, _, rfl, hp, T.c_Run, T.n_Run_homes, rfl, hl, _, rfl, SqL.of R.hob, fun D hD => ?_⟩
    have nh : hl ≠ D := ne_of_none R.hob hD
    refine lc_it (walk_enum (xs := has.map fun q => V.ref q.1)) (fun i H2 => Same H H2 ∧ H2 D = some (.lst (((List.range i).filter (isOn st)).map fun j : Nat => V.int (j : Int)))) ?_ (fun i H2 _ q => SqL.of (q.1 _ _ R.hob)) ?_ ?_
    · exact ⟨newS hD, upd_same⟩
    · rintro i x H2 H3 hi ⟨s2, h2⟩ ⟨Tp, z1, z2, rfl, hT, rfl, e1, e2⟩
      cases e1
      rw [List.length_map] at hi
      have e2 : (has.map fun q => V.ref q.1)[i]? = some z2 := e2
      rw [List.getElem?_map] at e2
      obtain ⟨q, hq, rfl⟩ := Option.map_eq_some_iff.mp e2
      obtain ⟨ho, hho⟩ : ∃ ho, st.homes[i]? = some ho := ⟨_, List.getElem?_eq_getElem (by rw [← R.lh]; exact hi)⟩
      obtain ⟨hh, _, _⟩ := R.hou i q ho hq hho
      obtain ⟨dh, cv, hob, _⟩ := hh.ob
      have s3 : Same H2 (upd H2 Tp (.tup [.int (i : Int), .ref q.1])) := newS hT
      refine ⟨Tp, _, rfl, SqT.of upd_same, rfl, _, _, rfl, _, _, rfl, rfl, rfl, _, rfl, q.1, _, dh, _, .bl ho.awake, rfl, s3 _ _ (s2 _ _ hob), T.hc y, T.hn_awake y, (by kernel_rfl), _, rfl, ?_⟩
      have h2' := s3 _ _ h2
      have keep : ∀ o, Same H (upd (upd H2 Tp (.tup [.int (i : Int), .ref q.1])) D o) := fun o b u e => by
        rw [upd_ne (ne_of_none e hD)]
        exact s3 _ _ (s2 _ _ e)
      rw [← on_at st hho]
      refine ite2 (fun c => ?_) (fun c => ?_)
      · refine ⟨_, rfl, _, h2', ?_, keep _, ?_⟩
        · rw [List.length_map]
          have n64 := R.n64
          rw [R.lh] at hi
          exact small1000 (Nat.le_trans (Nat.le_trans (List.length_filter_le _ _) (by rw [List.length_range]; exact Nat.le_refl _)) (by omega))
        · rw [upd_same, filter_range_succ, if_pos c, List.map_append]
          rfl
      · refine ⟨s2.trans s3, ?_⟩
        rw [h2', filter_range_succ, if_neg c, List.append_nil]
    · rintro H2 ⟨s2, h2⟩
      refine ⟨D, _, rfl, .inl ⟨SqL.of h2, fun t ht => ?_⟩⟩
      refine out _ _ ⟨t, rfl, ?_⟩ (s2.trans (newS ht))
      rw [upd_same, List.length_map, R.lh, List.map_map]
      rfl
/-! ### waiting, carried, knows -/
theorem cut_fromV (xs : List V) (k : Nat) (hk : k ≤ xs.length) : cutV xs (some (k : Int)) none = xs.drop k := by
  unfold cutV
  rw [HT.sIx_nat, HT.sIx_none, Nat.min_eq_left hk]
  exact List.take_of_length_le (by simp)
def spWait (K : PySem.W.Frag) (y : Wy) : Sp := fun vs H Q _ => ∃ (H0 : Hp) (p : Addr) (st : Sta) (h : Nat) (r : Bool) (rod : Rod), vs = [.ref p, .int h, .int (sideOf r)] ∧ RunAt K y H0 H p st ∧ h < st.n ∧ st.roads[idx h r]? = some rod ∧ rod.heard ≤ rod.ls.length ∧
  ∀ H' t, LtsAt H' t (rod.ls.drop rod.heard) → Same H H' → Q (.ref t) H'
theorem ok_Ru_waiting (T : Tx K mg) (y : Wy) : Okd P w K mg base 4 (RuF K "waiting") P_Ru_waiting (spWait K y) := by
  obtain ⟨fdD, GD, bD⟩ := ok_Ru_road (P := P) (w := w) (base := base) T y
  refine okd T 42 d_Ru_waiting rfl rfl (N := N_Ru_waiting) sc_Ru_waiting (fun _ _ _ _ _ _ us hl => match us, hl with | [_, _, _], _ => rfl) (fun vs H Q E h => ?_) (fun cdv A outer s H vs Q E hr h => ?_)
  · obtain ⟨H0, p, st, h, r, rod, rfl, _⟩ := h
    rfl
  · obtain ⟨H0, p, st, h, r, rod, rfl, ⟨tg, hl, rd, has, ras, R⟩, hlt, hro, hle, out⟩ := h
    obtain ⟨dx, hp⟩ := R.ob
    obtain ⟨qr, hqr⟩ : ∃ qr, ras[idx h r]? = some qr := ⟨_, List.getElem?_eq_getElem (by rw [R.lr]; exact (List.getElem?_eq_some_iff.mp hro).1)⟩
    obtain ⟨⟨dr, o1⟩, t1, t2, vs, o2, pvs⟩ := R.rod _ qr rod hqr hro
    refine ⟨_, pss_cons (ps_set (i := 3) sc_Ru_waiting.nd rfl (.inl rfl) (pe_meth (pv 0) T.c_Run T.m_Run_road_at GD hr bD .nil pass0 (pa_cons (pv 1) (pa_cons (pv 2) pa_nil))))
      (pss_one (ps_ret (pe_callTy call_tuple_of (by rfl) T.b_tuple (by decide +kernel) (pa_cons (pe_slice sl_list (pe_fld (pv 3) rfl) (po_some (pe_fld (pv 3) rfl)) po_none) pa_nil)))), ?_⟩
    refine ⟨_, rfl, p, dx, _, rfl, hp, (by kernel_rfl), _, rfl, _, rfl, H0, p, st, tg, hl, rd, has, ras, h, r, qr, rfl, R, hlt, hqr, fun H1 s1 => ?_⟩
    refine ⟨_, rfl, qr.1, _, dr, _, _, rfl, s1 _ _ o1, T.c_Road, T.n_Road_letters, rfl, _, rfl, qr.1, _, dr, _, _, rfl, s1 _ _ o1, T.c_Road, T.n_Road_heard, rfl, _, rfl, nop ⟨qr.2, vs, rfl, SqL.of (s1 _ _ o2), fun l hll => ?_⟩⟩
    have s2 : Same H1 (upd H1 l (.lst (cutV vs (some (rod.heard : Int)) none))) := newS hll
    refine ⟨l, _, rfl, .inl ⟨SqL.of upd_same, fun t ht => ?_⟩⟩
    have s3 := newS (o := .tup (cutV vs (some (rod.heard : Int)) none)) ht
    have ec := cut_fromV vs rod.heard (by rw [pvs.length]; exact hle)
    exact out _ t ⟨vs.drop rod.heard, by rw [upd_same, ec], paired_drop _ (Paired.mapP pvs fun _ _ x => x.keep (tupsS ((s1.trans s2).trans s3)))⟩ ((s1.trans s2).trans s3)
def spCarr (K : PySem.W.Frag) (y : Wy) : Sp := fun vs H Q _ => ∃ (H0 : Hp) (p : Addr) (st : Sta) (h : Nat) (r : Bool) (rod : Rod), vs = [.ref p, .int h, .int (sideOf r)] ∧ RunAt K y H0 H p st ∧ h < st.n ∧ st.roads[idx h r]? = some rod ∧
  ∀ H' t, LtsAt H' t rod.ls → Same H H' → Q (.ref t) H'
theorem ok_Ru_carried (T : Tx K mg) (y : Wy) : Okd P w K mg base 4 (RuF K "carried") P_Ru_carried (spCarr K y) := by
  obtain ⟨fdD, GD, bD⟩ := ok_Ru_road (P := P) (w := w) (base := base) T y
  refine okd T 43 d_Ru_carried rfl rfl (N := N_Ru_carried) sc_Ru_carried (fun _ _ _ _ _ _ us hl => match us, hl with | [_, _, _], _ => rfl) (fun vs H Q E h => ?_) (fun cdv A outer s H vs Q E hr h => ?_)
  · obtain ⟨H0, p, st, h, r, rod, rfl, _⟩ := h
    rfl
  · obtain ⟨H0, p, st, h, r, rod, rfl, ⟨tg, hl, rd, has, ras, R⟩, hlt, hro, out⟩ := h
    obtain ⟨dx, hp⟩ := R.ob
    obtain ⟨qr, hqr⟩ : ∃ qr, ras[idx h r]? = some qr := ⟨_, List.getElem?_eq_getElem (by rw [R.lr]; exact (List.getElem?_eq_some_iff.mp hro).1)⟩
    obtain ⟨⟨dr, o1⟩, t1, t2, vs, o2, pvs⟩ := R.rod _ qr rod hqr hro
    refine ⟨_, pss_one (ps_ret (pe_callTy call_tuple_of (by rfl) T.b_tuple (by decide +kernel) (pa_cons (pe_fld (pe_meth (pv 0) T.c_Run T.m_Run_road_at GD hr bD .nil pass0 (pa_cons (pv 1) (pa_cons (pv 2) pa_nil))) rfl) pa_nil))), ?_⟩
    refine ⟨_, rfl, p, dx, _, rfl, hp, (by kernel_rfl), _, rfl, _, rfl, H0, p, st, tg, hl, rd, has, ras, h, r, qr, rfl, R, hlt, hqr, fun H1 s1 => ?_⟩
    refine ⟨qr.1, _, dr, _, _, rfl, s1 _ _ o1, T.c_Road, T.n_Road_letters, rfl, qr.2, vs, rfl, .inl ⟨SqL.of (s1 _ _ o2), fun t ht => ?_⟩⟩
    have s3 := newS (o := .tup vs) ht
    exact out _ t ⟨_, upd_same, Paired.mapP pvs fun _ _ x => x.keep (tupsS (s1.trans s3))⟩ (s1.trans s3)
def spKnows (K : PySem.W.Frag) (y : Wy) : Sp := fun vs H Q _ => ∃ (H0 : Hp) (p : Addr) (st : Sta) (h : Nat) (ho : Ho), vs = [.ref p, .int h] ∧ RunAt K y H0 H p st ∧ st.homes[h]? = some ho ∧ ∀ v, ChV y H v ho.chief → Q v H
theorem ok_Ru_knows (T : Tx K mg) (y : Wy) : Okd P w K mg base 3 (RuF K "knows") P_Ru_knows (spKnows K y) := by
  obtain ⟨fdN, GN, bN⟩ := ok_Ru_need (P := P) (w := w) (base := base) T y
  refine okd T 45 d_Ru_knows rfl rfl (N := N_Ru_knows) sc_Ru_knows (fun _ _ _ _ _ _ us hl => match us, hl with | [_, _], _ => rfl) (fun vs H Q E h => ?_) (fun cdv A outer s H vs Q E hr h => ?_)
  · obtain ⟨H0, p, st, h, ho, rfl, _⟩ := h
    rfl
  · obtain ⟨H0, p, st, h, ho, rfl, ⟨tg, hl, rd, has, ras, R⟩, hho, out⟩ := h
    obtain ⟨dx, hp⟩ := R.ob
    have hlt : h < st.homes.length := (List.getElem?_eq_some_iff.mp hho).1
    obtain ⟨q, hq⟩ : ∃ q, has[h]? = some q := ⟨_, List.getElem?_eq_getElem (by rw [R.lh]; exact hlt)⟩
    obtain ⟨hh, t1, t2⟩ := R.hou h q ho hq hho
    obtain ⟨dh, cv, hob, hch⟩ := hh.ob
    have hix : atI (has.map fun q => V.ref q.1) ((h : Nat) : Int) = some (V.ref q.1) := atI_nat (by rw [List.getElem?_map, hq]; rfl)
    refine ⟨_, pss_cons (ps_expr (pe_meth (pv 0) T.c_Run T.m_Run_need_house GN hr bN .nil pass0 (pa_cons (pv 1) pa_nil)))
      (pss_one (ps_ret (pe_fld (pe_ix ix_list (pe_fld (pv 0) rfl) (pv 1) (fun _ _ => rfl)) rfl))), ?_⟩
    refine ⟨_, rfl, p, dx, _, rfl, hp, (by kernel_rfl), _, rfl, H0, p, st, h, rfl, ⟨tg, hl, rd, has, ras, R⟩, hlt, ?_⟩
    exact ⟨_, rfl, p, _, dx, _, _, rfl, hp, T.c_Run, T.n_Run_homes, rfl, _, rfl, hl, _, _, _, rfl, rfl, SqL.of R.hob, hix, q.1, _, dh, _, cv, rfl, hob, T.hc y, T.hn_chief_name y, (by kernel_rfl), out cv hch⟩
/-! ### is_still, sent -/
theorem roadKvs_at (as : List Addr) (j : Nat) : (roadKvs as)[j]? = (as[j]?).map fun a => (rkey j, V.ref a) := by
  unfold roadKvs
  rw [List.getElem?_map, List.getElem?_zipIdx]
  cases as[j]? with
  | none => rfl
  | some a => simp
def clearB (r : Rod) : Bool := decide (r.heard = r.ls.length)
def spStill (K : PySem.W.Frag) (y : Wy) : Sp := fun vs H Q _ => ∃ (H0 : Hp) (p : Addr) (st : Sta), vs = [.ref p] ∧ RunAt K y H0 H p st ∧ ∀ H', Same H H' → Q (.bl (st.roads.all clearB)) H'
/-- the roads' dict unlocked again -/
theorem unlocked {H H1 : Hp} {rd : Addr} {o u : HO} (h : H rd = some o) (s : Same (upd H rd u) H1) : Same H (upd H1 rd o) := fun b x e => by
  by_cases c : b = rd
  · rw [c] at e ⊢
    rw [upd_same, ← h]
    exact e
  · rw [upd_ne c]
    exact s _ _ (by rw [upd_ne c]; exact e)
theorem take_succ_map {α β : Type} {l : List α} {i : Nat} {a : α} (f : α → β) (h : l[i]? = some a) : (l.take (i + 1)).map f = (l.take i).map f ++ [f a] := by
  rw [List.take_add_one, h, List.map_append]
  rfl
theorem ok_Ru_still (T : Tx K mg) (y : Wy) : Okd P w K mg base 2 (RuF K "is_still") P_Ru_still (spStill K y) := by
  obtain ⟨fdC, GC, bC⟩ := ok_Ro_clear (P := P) (w := w) (base := base) T
  refine okd T 44 d_Ru_still rfl rfl (N := N_Ru_still) sc_Ru_still (fun _ _ _ _ _ _ us hl => match us, hl with | [_], _ => rfl) (fun vs H Q E h => ?_) (fun cdv A outer s H vs Q E hr h => ?_)
  · obtain ⟨H0, p, st, rfl, _⟩ := h
    rfl
  · obtain ⟨H0, p, st, rfl, ⟨tg, hl, rd, has, ras, R⟩, out⟩ := h
    obtain ⟨dx, hp⟩ := R.ob
    refine ⟨_, pss_one (ps_ret (pe_callB (cr_all rfl) (by rfl) T.b_all (by decide +kernel) (pa_cons
        (pe_lock (pe_lc (own := [("road", 1)]) (g := gName 1) (tt := tYes) (te := tMeth (RoC K) "is_clear" (spRoClear (RoC K)) [] E0 (tVar 1) tNil) rfl sc_Ru_still.nd (pi_valuesT (pe_fld (pv 0) rfl))
          (blkOk_by (own := [("road", 1)]) (N := N_Ru_still) (sc := defScope s_Ru_still) (by decide +kernel)) (fun _ _ _ _ _ => by exact pg_name (i := 1) sc_Ru_still.nd rfl (Or.inl rfl)) (fun _ _ _ _ _ => pts_nil)
          (fun _ _ _ _ _ => by exact pe_meth0 (pv 1) T.c_Road T.m_Road_is_clear GC hr bC .nil pass0))) pa_nil))), ?_⟩
    refine ⟨rd, _, R.rob, trivial, fun od => ?_⟩
    have npr : p ≠ rd := ne_of hp R.rob (by intro z; cases z)
    refine ⟨_, rfl, p, _, dx, _, _, rfl, (by rw [upd_ne npr]; exact hp), T.c_Run, T.n_Run_roads, rfl, rd, od, _, rfl, upd_same, fun D hD => ?_⟩
    have lk : (roadKvs (ras.map (·.1))).length = st.roads.length := by rw [roadKvs_len, List.length_map, R.lr]
    have nD : rd ≠ D := ne_of_none (H := upd H rd (.frz od (.dT (roadKvs (ras.map (·.1)))))) upd_same hD
    refine lc_it walk_valuesT (fun i H2 => Same (upd H rd (.frz od (.dT (roadKvs (ras.map (·.1)))))) H2 ∧ H2 D = some (.lst (((st.roads.take i).map clearB).map V.bl))) ?_ (fun i H2 _ q => q.1 _ _ upd_same) ?_ ?_
    · exact ⟨newS hD, upd_same⟩
    · rintro i x H2 H3 hi ⟨s2, h2⟩ ⟨rfl, k, hk⟩
      rw [lk] at hi
      rw [roadKvs_at, List.getElem?_map] at hk
      obtain ⟨r, hr1⟩ : ∃ r, st.roads[i]? = some r := ⟨_, List.getElem?_eq_getElem hi⟩
      obtain ⟨q, hq⟩ : ∃ q, ras[i]? = some q := ⟨_, List.getElem?_eq_getElem (by rw [R.lr]; exact hi)⟩
      rw [hq] at hk
      cases hk
      obtain ⟨⟨dr, o1⟩, t1, t2, vs, o2, pvs⟩ := R.rod i q r hq hr1
      have n1 : q.1 ≠ rd := ne_of o1 R.rob (by intro z; cases z)
      have n2 : q.2 ≠ rd := ne_of o2 R.rob (by intro z; cases z)
      have o1' := s2 q.1 _ (by rw [upd_ne n1]; exact o1)
      have o2' := s2 q.2 _ (by rw [upd_ne n2]; exact o2)
      refine ⟨rfl, yes ⟨_, rfl, q.1, dr, _, rfl, o1', (by kernel_rfl), q.1, dr, q.2, r.heard, vs, rfl, o1', o2', _, h2, ?_, ?_, ?_⟩⟩
      · rw [List.length_map, List.length_map, List.length_take]
        have := R.l2
        have := R.n64
        exact small1000 (by omega)
      · exact fun b o e => by rw [upd_ne (ne_of_none e hD)]; exact s2 _ _ e
      · rw [upd_same, take_succ_map clearB hr1, List.map_append, pvs.length]
        rfl
    · rintro H2 ⟨s2, h2⟩
      rw [lk, List.take_length] at h2
      refine ⟨s2 _ _ upd_same, D, _, rfl, SqL.of (by rw [upd_ne nD.symm]; exact h2), ?_⟩
      have e : (st.roads.map clearB).all id = st.roads.all clearB := by rw [List.all_map]; rfl
      rw [e]
      exact out _ (unlocked R.rob s2)
def spSent (K : PySem.W.Frag) (y : Wy) : Sp := fun vs H Q _ => ∃ (H0 : Hp) (p : Addr) (st : Sta), vs = [.ref p] ∧ RunAt K y H0 H p st ∧ ∀ H', Same H H' → Q (.int (sent st)) H'
theorem sum_cast (l : List Nat) : (l.map fun n : Nat => (n : Int)).sum = ((l.sum : Nat) : Int) := by
  induction l with
  | nil => rfl
  | cons a l ih =>
    rw [List.map_cons, List.sum_cons, List.sum_cons, ih]
    omega
theorem ok_Ru_sent (T : Tx K mg) (y : Wy) : Okd P w K mg base 2 (RuF K "sent") P_Ru_sent (spSent K y) := by
  refine okd T 46 d_Ru_sent rfl rfl (N := N_Ru_sent) sc_Ru_sent (fun _ _ _ _ _ _ us hl => match us, hl with | [_], _ => rfl) (fun vs H Q E h => ?_) (fun cdv A outer s H vs Q E hr h => ?_)
  · obtain ⟨H0, p, st, rfl, _⟩ := h
    rfl
  · obtain ⟨H0, p, st, rfl, ⟨tg, hl, rd, has, ras, R⟩, out⟩ := h
    obtain ⟨dx, hp⟩ := R.ob
    refine ⟨_, pss_one (ps_ret (pe_callB (cr_sum rfl) (by rfl) T.b_sum (by decide +kernel) (pa_cons
        (pe_lock (pe_lc (own := [("road", 1)]) (g := gName 1) (tt := tYes) (te := tCB (fun xs H_1 Q => ∃ p ys, xs = [V.ref p] ∧ (SqL K H_1 p ys ∨ SqT K H_1 p ys) ∧ Q (V.int ys.length) H_1) (tCons (tFld K (tVar 1) "letters") tNil)) rfl sc_Ru_sent.nd (pi_valuesT (pe_fld (pv 0) rfl))
          (blkOk_by (own := [("road", 1)]) (N := N_Ru_sent) (sc := defScope s_Ru_sent) (by decide +kernel)) (fun _ _ _ _ _ => by exact pg_name (i := 1) sc_Ru_sent.nd rfl (Or.inl rfl)) (fun _ _ _ _ _ => pts_nil)
          (fun _ _ _ _ _ => by exact pe_callB call_len_seq (by rfl) T.b_len PySem.boot_len (pa_cons (pe_fld (pv 1) rfl) pa_nil)))) pa_nil))), ?_⟩
    refine ⟨rd, _, R.rob, trivial, fun od => ?_⟩
    have npr : p ≠ rd := ne_of hp R.rob (by intro z; cases z)
    refine ⟨_, rfl, p, _, dx, _, _, rfl, (by rw [upd_ne npr]; exact hp), T.c_Run, T.n_Run_roads, rfl, rd, od, _, rfl, upd_same, fun D hD => ?_⟩
    have lk : (roadKvs (ras.map (·.1))).length = st.roads.length := by rw [roadKvs_len, List.length_map, R.lr]
    have nD : rd ≠ D := ne_of_none (H := upd H rd (.frz od (.dT (roadKvs (ras.map (·.1)))))) upd_same hD
    refine lc_it walk_valuesT (fun i H2 => Same (upd H rd (.frz od (.dT (roadKvs (ras.map (·.1)))))) H2 ∧ H2 D = some (.lst (((st.roads.take i).map fun r => (r.ls.length : Int)).map V.int))) ?_ (fun i H2 _ q => q.1 _ _ upd_same) ?_ ?_
    · exact ⟨newS hD, upd_same⟩
    · rintro i x H2 H3 hi ⟨s2, h2⟩ ⟨rfl, k, hk⟩
      rw [lk] at hi
      rw [roadKvs_at, List.getElem?_map] at hk
      obtain ⟨r, hr1⟩ : ∃ r, st.roads[i]? = some r := ⟨_, List.getElem?_eq_getElem hi⟩
      obtain ⟨q, hq⟩ : ∃ q, ras[i]? = some q := ⟨_, List.getElem?_eq_getElem (by rw [R.lr]; exact hi)⟩
      rw [hq] at hk
      cases hk
      obtain ⟨⟨dr, o1⟩, t1, t2, vs, o2, pvs⟩ := R.rod i q r hq hr1
      have n1 : q.1 ≠ rd := ne_of o1 R.rob (by intro z; cases z)
      have n2 : q.2 ≠ rd := ne_of o2 R.rob (by intro z; cases z)
      have o1' := s2 q.1 _ (by rw [upd_ne n1]; exact o1)
      have o2' := s2 q.2 _ (by rw [upd_ne n2]; exact o2)
      refine ⟨rfl, yes ⟨_, rfl, q.1, _, dr, _, _, rfl, o1', T.c_Road, T.n_Road_letters, rfl, q.2, vs, rfl, .inl (SqL.of o2'), _, h2, ?_, ?_, ?_⟩⟩
      · rw [List.length_map, List.length_map, List.length_take]
        have := R.l2
        have := R.n64
        exact small1000 (by omega)
      · exact fun b o e => by rw [upd_ne (ne_of_none e hD)]; exact s2 _ _ e
      · rw [upd_same, take_succ_map (fun r => (r.ls.length : Int)) hr1, List.map_append, pvs.length]
        rfl
    · rintro H2 ⟨s2, h2⟩
      rw [lk, List.take_length] at h2
      refine ⟨s2 _ _ upd_same, D, _, rfl, SqL.of (by rw [upd_ne nD.symm]; exact h2), ?_⟩
      have e : (st.roads.map fun r => (r.ls.length : Int)).sum = (sent st : Int) := by
        unfold sent
        rw [← sum_cast, List.map_map]
        rfl
      rw [e]
      exact out _ (unlocked R.rob s2)
end
end RC
namespace RC
open PySem PySem.Spec PyProof.Rows L2
/-- a run half made: its houses, some of its roads -/
structure RunP (K : PySem.W.Frag) (y : Wy) (ns : List Int) (H0 H : Hp) (p : Addr) (tg : Addr → Option Tag) (hl rd : Addr) (has ras : List (Addr × Addr)) : Prop where
  same : Same H0 H
  fresh : ∀ b, tg b ≠ none → H0 b = none
  alive : ∀ b, tg b ≠ none → ∃ o, H b = some o
  ob : ∃ dx, H p = some (.ins (RuC K) dx (runF hl rd))
  tp : tg p = some .run
  hob : H hl = some (.lst (has.map fun q => V.ref q.1))
  th : tg hl = some .homes
  rob : H rd = some (.dT (roadKvs (ras.map (·.1))))
  tr : tg rd = some .roads
  lh : has.length = ns.length
  hou : ∀ (i : Nat) q v, has[i]? = some q → ns[i]? = some v → HouAt K y ns.length H q.1 q.2 (newHo v) ∧ tg q.1 = some (.hou i) ∧ (if y = .whole then tg q.2 = some (.lab i) else q.2 = q.1)
  rod : ∀ (j : Nat) q, ras[j]? = some q → (∃ dx, H q.1 = some (.ins (RoC K) dx (roF q.2 0))) ∧ tg q.1 = some (.rod j) ∧ tg q.2 = some (.ltr j) ∧ H q.2 = some (.lst [])
/-- all roads made -/
theorem RunP.done {K : PySem.W.Frag} {y : Wy} {ns : List Int} {H0 H : Hp} {p : Addr} {tg : Addr → Option Tag} {hl rd : Addr} {has ras : List (Addr × Addr)} (R : RunP K y ns H0 H p tg hl rd has ras) (hn : RingOk y ns) (hr : ras.length = 2 * ns.length) :
    RunAt K y H0 H p (init ns) := by
  obtain ⟨n1, n2, _⟩ := hn
  have lm : (ns.map newHo).length = ns.length := List.length_map ..
  refine ⟨tg, hl, rd, has, ras, ⟨R.same, R.fresh, R.alive, R.ob, R.tp, R.hob, R.th, R.rob, R.tr, ?_, ?_, ?_, ?_, ?_, ?_, ?_⟩⟩
  · show has.length = (ns.map newHo).length
    rw [lm, R.lh]
  · show ras.length = (List.replicate (2 * ns.length) (⟨[], 0⟩ : Rod)).length
    rw [List.length_replicate, hr]
  · show (List.replicate (2 * ns.length) (⟨[], 0⟩ : Rod)).length = 2 * (ns.map newHo).length
    rw [List.length_replicate, lm]
  · show 1 ≤ (ns.map newHo).length
    omega
  · show (ns.map newHo).length ≤ 64
    omega
  · intro i q ho h1 h2
    have h2 : (ns.map newHo)[i]? = some ho := h2
    rw [List.getElem?_map] at h2
    obtain ⟨v, hv, rfl⟩ := Option.map_eq_some_iff.mp h2
    have en : (init ns).n = ns.length := lm
    rw [en]
    exact R.hou i q v h1 hv
  · intro j q r h1 h2
    have h2 : (List.replicate (2 * ns.length) (⟨[], 0⟩ : Rod))[j]? = some r := h2
    obtain ⟨_, e⟩ := List.getElem?_eq_some_iff.mp h2
    rw [List.getElem_replicate] at e
    subst e
    obtain ⟨a, b, c, d⟩ := R.rod j q h1
    exact ⟨a, b, c, [], d, .nil⟩
section
variable {P : Program} {w : World} {K : PySem.W.Frag} {mg : PySem.Str → Option Value} {base : Heap}
/-- the houses made so far, the new list at D -/
structure HouP (K : PySem.W.Frag) (y : Wy) (ns : List Int) (H0 H : Hp) (p dx D : Addr) (tg : Addr → Option Tag) (has : List (Addr × Addr)) : Prop where
  same : Same H0 H
  fresh : ∀ b, tg b ≠ none → H0 b = none
  alive : ∀ b, tg b ≠ none → ∃ o, H b = some o
  ob : H p = some (.ins (RuC K) dx [])
  tp : tg p = some .run
  hob : H D = some (.lst (has.map fun q => V.ref q.1))
  th : tg D = some .homes
  hou : ∀ (i : Nat) q v, has[i]? = some q → ns[i]? = some v → HouAt K y ns.length H q.1 q.2 (newHo v) ∧ tg q.1 = some (.hou i) ∧ (if y = .whole then tg q.2 = some (.lab i) else q.2 = q.1)
theorem tag_new {H : Hp} {tg : Addr → Option Tag} (al : ∀ b, tg b ≠ none → ∃ o, H b = some o) {t : Addr} (h : H t = none) : tg t = none := by
  cases c : tg t with
  | none => rfl
  | some x =>
    obtain ⟨o, e⟩ := al t (by rw [c]; simp)
    rw [h] at e
    cases e
/-- one house more -/
theorem HouP.snoc {y : Wy} {ns : List Int} {H0 H H2 : Hp} {p dx D : Addr} {tg : Addr → Option Tag} {has : List (Addr × Addr)} (R : HouP K y ns H0 H p dx D tg has) {x la : Addr} {v : Int} (hv : ns[has.length]? = some v)
    (h : HouAt K y ns.length H2 x la (newHo v)) (hx : H x = none) (hl : if y = .whole then H la = none ∧ la ≠ x else la = x) (s : Same H H2) :
    HouP K y ns H0 (upd H2 D (.lst (has.map (fun q => V.ref q.1) ++ [.ref x]))) p dx D (fun b => if b = x then some (.hou has.length) else if b = la then some (.lab has.length) else tg b) (has ++ [(x, la)]) := by
  have hlx : la = x ∨ (y = .whole ∧ H la = none ∧ la ≠ x) := by
    by_cases c : y = .whole
    · rw [if_pos c] at hl
      exact .inr ⟨c, hl.1, hl.2⟩
    · rw [if_neg c] at hl
      exact .inl hl
  have laN : H la = none := by
    rcases hlx with e | e
    · rw [e]; exact hx
    · exact e.2.1
  have tx := tag_new R.alive hx
  have tl := tag_new R.alive laN
  have old : ∀ {b t}, tg b = some t → b ≠ x ∧ b ≠ la := fun {b t} e => ⟨fun z => (by rw [z, tx] at e; cases e), fun z => (by rw [z, tl] at e; cases e)⟩
  have tgo : ∀ {b t}, tg b = some t → (if b = x then some (Tag.hou has.length) else if b = la then some (.lab has.length) else tg b) = some t := fun {b t} e => by
    rw [if_neg (old e).1, if_neg (old e).2]
    exact e
  have nDx : D ≠ x := (old R.th).1
  have k2 : TupS H2 (upd H2 D (.lst (has.map (fun q => V.ref q.1) ++ [.ref x]))) := fun c xs e => by
    rw [upd_ne (ne_of e (s _ _ R.hob) (by intro z; cases z))]
    exact e
  have stn : ∀ {b o t}, H b = some o → tg b = t → t ≠ some .homes → upd H2 D (.lst (has.map (fun q => V.ref q.1) ++ [.ref x])) b = some o := fun {b o t} e e2 e3 => by
    have : b ≠ D := fun z => e3 (by rw [← e2, z]; exact R.th)
    rw [upd_ne this]
    exact s _ _ e
  refine ⟨fun b o e => ?_, fun b q => ?_, fun b q => ?_, stn R.ob R.tp (by simp), tgo R.tp, ?_, tgo R.th, ?_⟩
  · have tn : tg b = none := by
      cases c : tg b with
      | none => rfl
      | some z =>
        have := R.fresh b (by rw [c]; simp)
        rw [e] at this
        cases this
    exact stn (R.same _ _ e) tn (by simp)
  · by_cases c1 : b = x
    · rw [c1]; exact R.same.free hx
    · by_cases c2 : b = la
      · rw [c2]; exact R.same.free laN
      · refine R.fresh b fun z => q ?_
        show (if b = x then _ else if b = la then _ else tg b) = none
        rw [if_neg c1, if_neg c2]
        exact z
  · by_cases cD : b = D
    · rw [cD]
      exact ⟨_, upd_same⟩
    · rw [upd_ne cD]
      by_cases c1 : b = x
      · obtain ⟨dh, cv, e, _⟩ := h.ob
        exact ⟨_, by rw [c1]; exact e⟩
      · by_cases c2 : b = la
        · rcases hlx with e | e
          · exact absurd (c2.trans e) c1
          · exact ⟨_, by rw [c2]; exact h.lab e.1⟩
        · obtain ⟨o, e⟩ := R.alive b fun z => q (by
            show (if b = x then _ else if b = la then _ else tg b) = none
            rw [if_neg c1, if_neg c2]
            exact z)
          exact ⟨o, s _ _ e⟩
  · rw [upd_same, List.map_append]
    rfl
  · intro i q v' h1 h2
    by_cases c : i < has.length
    · rw [List.getElem?_append_left c] at h1
      obtain ⟨a, b, d⟩ := R.hou i q v' h1 h2
      refine ⟨⟨?_, fun z => ?_⟩, tgo b, ?_⟩
      · obtain ⟨dh, cv, e, u⟩ := a.ob
        exact ⟨dh, cv, stn e b (by simp), (u.keep (tupsS s)).keep k2⟩
      · rw [if_pos z] at d
        exact stn (a.lab z) d (by simp)
      · by_cases z : y = .whole
        · rw [if_pos z] at d ⊢
          exact tgo d
        · rw [if_neg z] at d ⊢
          exact d
    · have ei : i = has.length := by
        have l := (List.getElem?_eq_some_iff.mp h1).1
        rw [List.length_append, List.length_singleton] at l
        omega
      subst ei
      rw [List.getElem?_append_right (Nat.le_refl _), Nat.sub_self] at h1
      cases h1
      rw [hv] at h2
      cases h2
      have nlD : y = .whole → la ≠ D := fun _ z => (old R.th).2 z.symm
      refine ⟨⟨?_, fun z => ?_⟩, if_pos rfl, ?_⟩
      · obtain ⟨dh, cv, e, u⟩ := h.ob
        exact ⟨dh, cv, by rw [upd_ne nDx.symm]; exact e, u.keep k2⟩
      · rw [upd_ne (nlD z)]
        exact h.lab z
      · by_cases z : y = .whole
        · rw [if_pos z]
          rcases hlx with e | e
          · rw [if_pos z] at hl
            exact absurd e hl.2
          · show (if la = x then _ else if la = la then _ else tg la) = _
            rw [if_neg e.2.2, if_pos rfl]
        · rw [if_neg z] at hl ⊢
          exact hl
/-- one road more -/
theorem RunP.snoc {y : Wy} {ns : List Int} {H0 H H2 : Hp} {p : Addr} {tg : Addr → Option Tag} {hl rd : Addr} {has ras : List (Addr × Addr)} (R : RunP K y ns H0 H p tg hl rd has ras) {x la dx : Addr} (hx : H x = none) (hla : H la = none) (ne : la ≠ x)
    (s : Same H H2) (h1 : H2 x = some (.ins (RoC K) dx (roF la 0))) (h2 : H2 la = some (.lst [])) :
    RunP K y ns H0 (upd H2 rd (.dT (roadKvs ((ras ++ [(x, la)]).map (·.1))))) p (fun b => if b = x then some (.rod ras.length) else if b = la then some (.ltr ras.length) else tg b) hl rd has (ras ++ [(x, la)]) := by
  have tx := tag_new R.alive hx
  have tl := tag_new R.alive hla
  have old : ∀ {b t}, tg b = some t → b ≠ x ∧ b ≠ la := fun {b t} e => ⟨fun z => (by rw [z, tx] at e; cases e), fun z => (by rw [z, tl] at e; cases e)⟩
  have tgo : ∀ {b t}, tg b = some t → (if b = x then some (Tag.rod ras.length) else if b = la then some (.ltr ras.length) else tg b) = some t := fun {b t} e => by
    rw [if_neg (old e).1, if_neg (old e).2]
    exact e
  have nx := (old R.tr).1
  have nl := (old R.tr).2
  have k2 : TupS H2 (upd H2 rd (.dT (roadKvs ((ras ++ [(x, la)]).map (·.1))))) := fun c xs e => by
    rw [upd_ne (ne_of e (s _ _ R.rob) (by intro z; cases z))]
    exact e
  have stn : ∀ {b o t}, H b = some o → tg b = t → t ≠ some .roads → upd H2 rd (.dT (roadKvs ((ras ++ [(x, la)]).map (·.1)))) b = some o := fun {b o t} e e2 e3 => by
    have : b ≠ rd := fun z => e3 (by rw [← e2, z]; exact R.tr)
    rw [upd_ne this]
    exact s _ _ e
  refine ⟨fun b o e => ?_, fun b q => ?_, fun b q => ?_, let ⟨d, e⟩ := R.ob; ⟨d, stn e R.tp (by simp)⟩, tgo R.tp, stn R.hob R.th (by simp), tgo R.th, upd_same, tgo R.tr, R.lh, ?_, ?_⟩
  · have tn : tg b = none := by
      cases c : tg b with
      | none => rfl
      | some z =>
        have := R.fresh b (by rw [c]; simp)
        rw [e] at this
        cases this
    exact stn (R.same _ _ e) tn (by simp)
  · by_cases c1 : b = x
    · rw [c1]; exact R.same.free hx
    · by_cases c2 : b = la
      · rw [c2]; exact R.same.free hla
      · refine R.fresh b fun z => q ?_
        show (if b = x then _ else if b = la then _ else tg b) = none
        rw [if_neg c1, if_neg c2]
        exact z
  · by_cases cD : b = rd
    · rw [cD]
      exact ⟨_, upd_same⟩
    · rw [upd_ne cD]
      by_cases c1 : b = x
      · exact ⟨_, by rw [c1]; exact h1⟩
      · by_cases c2 : b = la
        · exact ⟨_, by rw [c2]; exact h2⟩
        · obtain ⟨o, e⟩ := R.alive b fun z => q (by
            show (if b = x then _ else if b = la then _ else tg b) = none
            rw [if_neg c1, if_neg c2]
            exact z)
          exact ⟨o, s _ _ e⟩
  · intro i q v z1 z2
    obtain ⟨a, b, d⟩ := R.hou i q v z1 z2
    refine ⟨⟨?_, fun z => ?_⟩, tgo b, ?_⟩
    · obtain ⟨dh, cv, e, u⟩ := a.ob
      exact ⟨dh, cv, stn e b (by simp), (u.keep (tupsS s)).keep k2⟩
    · rw [if_pos z] at d
      exact stn (a.lab z) d (by simp)
    · by_cases z : y = .whole
      · rw [if_pos z] at d ⊢
        exact tgo d
      · rw [if_neg z] at d ⊢
        exact d
  · intro j q z1
    by_cases c : j < ras.length
    · rw [List.getElem?_append_left c] at z1
      obtain ⟨⟨d, a⟩, b, e, f⟩ := R.rod j q z1
      exact ⟨⟨d, stn a b (by simp)⟩, tgo b, tgo e, stn f e (by simp)⟩
    · have ei : j = ras.length := by
        have l := (List.getElem?_eq_some_iff.mp z1).1
        rw [List.length_append, List.length_singleton] at l
        omega
      subst ei
      rw [List.getElem?_append_right (Nat.le_refl _), Nat.sub_self] at z1
      cases z1
      refine ⟨⟨dx, by rw [upd_ne nx.symm]; exact h1⟩, if_pos rfl, ?_, by rw [upd_ne nl.symm]; exact h2⟩
      show (if la = x then _ else if la = la then _ else tg la) = _
      rw [if_neg ne, if_pos rfl]
theorem RunP.mono {y : Wy} {ns : List Int} {H0 H H2 : Hp} {p : Addr} {tg : Addr → Option Tag} {hl rd : Addr} {has ras : List (Addr × Addr)} (R : RunP K y ns H0 H p tg hl rd has ras) (s : Same H H2) : RunP K y ns H0 H2 p tg hl rd has ras where
  same := R.same.trans s
  fresh := R.fresh
  alive := fun b q => let ⟨o, e⟩ := R.alive b q; ⟨o, s _ _ e⟩
  ob := let ⟨dx, e⟩ := R.ob; ⟨dx, s _ _ e⟩
  tp := R.tp
  hob := s _ _ R.hob
  th := R.th
  rob := s _ _ R.rob
  tr := R.tr
  lh := R.lh
  hou := fun i q ho h1 h2 => let ⟨a, b, c⟩ := R.hou i q ho h1 h2; ⟨a.same s, b, c⟩
  rod := fun j q h1 => let ⟨⟨dx, a⟩, b, c, d⟩ := R.rod j q h1; ⟨⟨dx, s _ _ a⟩, b, c, s _ _ d⟩
def spRuInit (K : PySem.W.Frag) (y : Wy) : Sp := fun vs H Q _ => ∃ (H0 : Hp) (p dx a : Addr) (ns : List Int), vs = [.ref p, .str (wyS y), .ref a] ∧ Same H0 H ∧ H0 p = none ∧ H p = some (.ins (RuC K) dx []) ∧ H0 a = some (.tup (ns.map V.int)) ∧ RingOk y ns ∧
  ∀ H', RunAt K y H0 H' p (init ns) → Q .non H'
theorem ok_Ru_init (T : Tx K mg) (y : Wy) : Okd P w K mg base 5 (RuF K "__init__") P_Ru_init (spRuInit K y) := by
  obtain ⟨fdG, GG, bG⟩ := ok_goes_by (P := P) (w := w) (base := base) T y
  obtain ⟨fdH, GH, bH⟩ := ok_house_by (P := P) (w := w) (base := base) T y
  obtain ⟨fdR, GR, bR⟩ := ok_Ro_init (P := P) (w := w) (base := base) T
  refine okd T 35 d_Ru_init rfl rfl (N := N_Ru_init) sc_Ru_init (fun _ _ _ _ _ _ us hl => match us, hl with | [_, _, _], _ => rfl) (fun vs H Q E h => ?_) (fun cdv A outer s H vs Q E hr h => ?_)
  · obtain ⟨H0, p, dx, a, ns, rfl, _⟩ := h
    rfl
  · obtain ⟨H0, p, dx, a, ns, rfl, s0, h0p, hp, h0a, hok, out⟩ := h
    refine ⟨_, pss_cons (ps_if (pt_not (pt_val (pe_call GG hr rfl T.g_goes_by (T.kp 29 (d := d_goes_by) rfl) bG .nil pass0 (pa_cons (pv 1) (pa_cons (pv 2) pa_nil))))) (pss_one ps_never) pss_nil)
      (pss_cons (ps_fld (pv 0) (pe_lc (own := [("own", 5)]) (g := gName 5) (tt := tYes) (te := tCall (spHouse K y) [] E0 (tCons (tVar 1) (tCons (tVar 5) (tCons (tCB (fun xs H_1 Q => ∃ p ys, xs = [V.ref p] ∧ (SqL K H_1 p ys ∨ SqT K H_1 p ys) ∧ Q (V.int ys.length) H_1) (tCons (tVar 2) tNil)) tNil)))) rfl sc_Ru_init.nd (pi_tup (pv 2))
          (blkOk_by (own := [("own", 5)]) (N := N_Ru_init) (sc := defScope s_Ru_init) (by decide +kernel)) (fun _ _ _ _ _ => by exact pg_name (i := 5) sc_Ru_init.nd rfl (Or.inl rfl)) (fun _ _ _ _ _ => pts_nil)
          (fun _ _ _ _ _ => by exact pe_call GH hr rfl T.g_house_by (T.kp 30 (d := d_house_by) rfl) bH .nil pass0 (pa_cons (pv 1) (pa_cons (pv 5) (pa_cons (pe_callB call_len_seq (by rfl) T.b_len PySem.boot_len (pa_cons (pv 2) pa_nil)) pa_nil))))) rfl)
      (pss_cons (ps_fld (pv 0) pe_dnewT rfl)
      (pss_one (ps_for PassesOwn.never rfl (pi_range1 rfl T.b_range (pa_cons (pe_callB call_len_seq (by rfl) T.b_len PySem.boot_len (pa_cons (pv 2) pa_nil)) pa_nil)) (pg_name (i := 3) sc_Ru_init.nd rfl (.inl rfl))
        (pss_one (ps_for PassesOwn.never rfl (pi_tup (pe_glob (v := .ref (He.ga K "SIDES")) rfl T.g_SIDES rfl)) (pg_name (i := 4) sc_Ru_init.nd rfl (.inl rfl))
          (pss_one (ps_dput (hu_of hr) (pe_fld (pv 0) rfl) (pe_tup (pa_cons (pv 3) (pa_cons (pv 4) pa_nil))) (pe_make0 T.mk_Road GR (hr.mono (by decide)) rfl T.g_Road bR .nil pass0) rfl)))))))), ?_⟩
    have ha := s0 _ _ h0a
    refine ⟨_, rfl, _, rfl, a, ns, rfl, ha, hok, fun H1 s1 => ⟨true, rfl, iteF ?_⟩⟩
    have hp1 := s1 _ _ hp
    have ha1 := s1 _ _ ha
    refine ⟨_, rfl, a, rfl, ⟨_, SqT.of ha1⟩, fun D hD => ?_⟩
    have npD : p ≠ D := ne_of_none hp1 hD
    refine lc_it (walk_tup (xs := ns.map V.int)) (fun i H2 => ∃ tg has, has.length = i ∧ HouP K y ns H0 H2 p dx D tg has) ?_ (fun i H2 _ q => ?_) ?_ ?_
    · refine ⟨fun b => if b = p then some .run else if b = D then some .homes else none, [], rfl, (s0.trans s1).trans (newS hD), fun b q => ?_, fun b q => ?_, by rw [upd_ne npD]; exact hp1, if_pos rfl, upd_same, ?_, fun i q v h => by cases h⟩
      · by_cases c : b = p
        · rw [c]; exact h0p
        · by_cases c2 : b = D
          · rw [c2]; exact (s0.trans s1).free hD
          · exfalso
            refine q ?_
            show (if b = p then _ else if b = D then _ else _) = _
            rw [if_neg c, if_neg c2]
      · by_cases c : b = p
        · exact ⟨_, by rw [c, upd_ne npD]; exact hp1⟩
        · by_cases c2 : b = D
          · exact ⟨_, by rw [c2]; exact upd_same⟩
          · exfalso
            refine q ?_
            show (if b = p then _ else if b = D then _ else _) = _
            rw [if_neg c, if_neg c2]
      · show (if D = p then _ else if D = D then _ else _) = _
        rw [if_neg npD.symm, if_pos rfl]
    · obtain ⟨tg, has, _, R⟩ := q
      exact SqT.of (R.same _ _ h0a)
    · rintro i x H2 H3 hi ⟨tg, has, rfl, R⟩ ⟨rfl, hx⟩
      rw [List.getElem?_map] at hx
      obtain ⟨v, hv, rfl⟩ := Option.map_eq_some_iff.mp hx
      refine ⟨rfl, yes ⟨_, rfl, _, rfl, _, rfl, a, _, rfl, .inr (SqT.of (R.same _ _ h0a)), v, ns.length, ?_, fun x la H4 h4 hx4 hl4 s4 => ?_⟩⟩
      · rw [List.length_map]
        rfl
      · refine ⟨_, s4 _ _ R.hob, ?_, ?_⟩
        · rw [List.length_map]
          rw [List.length_map] at hi
          have := hok.2.1
          exact small1000 (by omega)
        · exact ⟨_, has ++ [(x, la)], by rw [List.length_append, List.length_singleton], R.snoc hv h4 hx4 hl4 s4⟩
    · rintro H2 ⟨tg, has, hlen, R⟩
      rw [List.length_map] at hlen
      refine ⟨_, rfl, p, _, dx, _, rfl, R.ob, T.c_Run, T.n_Run_homes, (by show 0 < 1000; decide), ?_⟩
      have nDp : D ≠ p := npD.symm
      refine fun rd hrd => ⟨_, rfl, p, _, dx, putF "homes" (.ref D) [], rfl, ?_, T.c_Run, T.n_Run_roads, (by show 1 < 1000; decide), ?_⟩
      · rw [upd_ne (ne_of_none (H := upd H2 p (.ins (RuC K) dx (putF "homes" (.ref D) []))) upd_same hrd)]
        exact upd_same
      have npr : p ≠ rd := ne_of_none (H := upd H2 p (.ins (RuC K) dx (putF "homes" (.ref D) []))) upd_same hrd
      have hrd2 : H2 rd = none := updN hrd
      have trd := tag_new R.alive hrd2
      generalize hH3 : upd (upd (upd H2 p (.ins (RuC K) dx (putF "homes" (.ref D) []))) rd (.dT [])) p (.ins (RuC K) dx (putF "roads" (.ref rd) (putF "homes" (.ref D) []))) = H3
      have at_p : H3 p = some (.ins (RuC K) dx (runF D rd)) := by
        rw [← hH3, upd_same]
        kernel_rfl
      have at_rd : H3 rd = some (.dT []) := by rw [← hH3, upd_ne npr.symm, upd_same]
      have at_o : ∀ b o, H2 b = some o → b ≠ p → H3 b = some o := fun b o e n => by
        rw [← hH3, upd_ne n, upd_ne (ne_of_none e hrd2), upd_ne n]
        exact e
      have k3 : TupS H2 H3 := fun b xs e => at_o b _ e (ne_of e R.ob (by intro z; cases z))
      have R3 : RunP K y ns H0 H3 p (fun b => if b = rd then some .roads else tg b) D rd has [] := by
        have tgo : ∀ {b t}, tg b = some t → (if b = rd then some Tag.roads else tg b) = some t := fun {b t} e => by
          rw [if_neg (fun z => by rw [z, trd] at e; cases e)]
          exact e
        have np : ∀ {b t}, tg b = some t → t ≠ .run → b ≠ p := fun {b t} e n z => by
          rw [z, R.tp] at e
          exact n (Option.some.inj e).symm
        refine ⟨fun b o e => ?_, fun b q => ?_, fun b q => ?_, ⟨dx, at_p⟩, tgo R.tp, at_o _ _ R.hob nDp, tgo R.th, at_rd, if_pos rfl, hlen, fun i q v z1 z2 => ?_, fun j q z => by cases z⟩
        · refine at_o b o (R.same _ _ e) fun z => ?_
          rw [z, h0p] at e
          cases e
        · by_cases c : b = rd
          · rw [c]; exact R.same.free hrd2
          · refine R.fresh b fun z => q ?_
            show (if b = rd then _ else tg b) = none
            rw [if_neg c]
            exact z
        · by_cases c : b = rd
          · exact ⟨_, by rw [c]; exact at_rd⟩
          · by_cases c2 : b = p
            · exact ⟨_, by rw [c2]; exact at_p⟩
            · obtain ⟨o, e⟩ := R.alive b fun z => q (by
                show (if b = rd then _ else tg b) = none
                rw [if_neg c]
                exact z)
              exact ⟨o, at_o b o e c2⟩
        · obtain ⟨u, b, d⟩ := R.hou i q v z1 z2
          refine ⟨⟨?_, fun z => ?_⟩, tgo b, ?_⟩
          · obtain ⟨dh, cv, e, f⟩ := u.ob
            exact ⟨dh, cv, at_o _ _ e (np b (by simp)), f.keep k3⟩
          · rw [if_pos z] at d
            exact at_o _ _ (u.lab z) (np d (by simp))
          · by_cases z : y = .whole
            · rw [if_pos z] at d ⊢
              exact tgo d
            · rw [if_neg z] at d ⊢
              exact d
      have len : ((ns.map V.int).length : Int) = (ns.length : Int) := by rw [List.length_map]
      have l64 := hok.2.1
      refine ⟨_, rfl, a, _, rfl, .inr (SqT.of (R3.same _ _ h0a)), _, rfl, by rw [len]; omega, by rw [len]; omega, ?_⟩
      have ln : ((ns.map V.int).length : Int).toNat = ns.length := by rw [len]; omega
      rw [ln]
      refine for_it (walk_range (lo := 0) (n := ns.length)) (fun i σ H4 => ∃ u v tg ras, σ = [some (.ref p), some (.str (wyS y)), some (.ref a), u, v, none] ∧ ras.length = 2 * i ∧ RunP K y ns H0 H4 p tg D rd has ras) ⟨none, none, _, [], rfl, rfl, R3⟩ (fun _ _ _ _ _ => trivial) ?_ ?_
      · rintro i x σ H4 H5 hi ⟨u, v, tg4, ras, rfl, hra, R4⟩ ⟨rfl, rfl⟩
        refine ⟨He.ga K "SIDES", rfl, ⟨_, T.s.sides _⟩, ?_⟩
        refine for_it (walk_tup (K := K) (a := He.ga K "SIDES") (xs := [.int (-1), .int 1])) (fun k σ H6 => ∃ v tg ras, σ = [some (.ref p), some (.str (wyS y)), some (.ref a), some (.int (0 + (i : Int))), v, none] ∧ ras.length = 2 * i + k ∧ RunP K y ns H0 H6 p tg D rd has ras) ⟨v, tg4, ras, rfl, hra, R4⟩ (fun _ _ H6 _ _ => T.s.sides H6) ?_ ?_
        · rintro k x σ H6 H7 hk ⟨v2, tg6, ras6, rfl, hra6, R6⟩ ⟨rfl, hx⟩
          have hk2 : k < 2 := hk
          obtain ⟨sd, esd⟩ : ∃ sd : Int, x = .int sd ∧ (rkey (2 * i + k)).map kV = [.int (i : Int), .int sd] := by
            have hk3 : k = 0 ∨ k = 1 := by omega
            rcases hk3 with rfl | rfl
            · cases hx
              exact ⟨-1, rfl, rkey_idx i false⟩
            · cases hx
              exact ⟨1, rfl, rkey_idx i true⟩
          obtain ⟨rfl, ekey⟩ := esd
          refine fun x dxr hx' hdx nex => ⟨x, dxr, rfl, upd_same, fun la H8 hla h8l h8x k8 => ⟨rfl, ?_⟩⟩
          have s8 : Same H7 H8 := Same.made hx' hdx k8
          obtain ⟨dp, hp8⟩ := R6.ob
          refine ⟨_, rfl, p, _, dp, _, _, rfl, s8 _ _ hp8, T.c_Run, T.n_Run_roads, rfl, _, rfl, _, rfl, sz 2, fun kt hkt => ?_⟩
          have s9 : Same H8 (upd H8 kt (.tup [.int (0 + (i : Int)), .int sd])) := newS hkt
          have n1 : la ≠ x := fun e => by
            rw [e, upd_same] at hla
            cases hla
          have hla7 : H7 la = none := updN (updN hla)
          have hlen9 : (roadKvs (ras6.map (·.1))).length < sizeLine := by
            rw [roadKvs_len, List.length_map, hra6]
            exact small1000 (by omega)
          have g := DPut.t (k := rkey (2 * i + k)) (v := .ref x) (s9 _ _ (s8 _ _ R6.rob)) (by rw [upd_same, ekey, Int.zero_add]) hlen9
          refine ⟨rd, _, rfl, g, some (.int sd), (fun b => if b = x then some (.rod ras6.length) else if b = la then some (.ltr ras6.length) else tg6 b), ras6 ++ [(x, la)], rfl, by rw [List.length_append, List.length_singleton, hra6]; omega, ?_⟩
          have ep : putK (roadKvs (ras6.map (·.1))) (rkey (2 * i + k)) (.ref x) = roadKvs ((ras6 ++ [(x, la)]).map (·.1)) := by
            rw [putK_new _ (by
              rw [roadKvs_val, List.getElem?_map, List.getElem?_eq_none (by omega)]
              rfl), List.map_append]
            show _ = roadKvs (ras6.map (·.1) ++ [x])
            rw [roadKvs_snoc, List.length_map, hra6]
          rw [ep]
          exact R6.snoc hx' hla7 n1 (s8.trans s9) (s9 _ _ h8x) (s9 _ _ h8l)
        · rintro σ H6 ⟨v2, tg6, ras6, rfl, hra6, R6⟩
          exact ⟨_, v2, tg6, ras6, rfl, by rw [hra6]; show 2 * i + 2 = 2 * (i + 1); omega, R6⟩
      · rintro σ H4 ⟨u, v, tg4, ras, rfl, hra, R4⟩
        exact out H4 (R4.done hok hra)
end
end RC
namespace RC
open PySem PySem.Spec PyProof.Rows L2
theorem iteD {c A B : Prop} [Decidable c] (h1 : c → A) (h2 : ¬ c → B) : if decide c = true then A else B := by
  by_cases h : c
  · rw [decide_eq_true h]
    exact iteT (h1 h)
  · rw [decide_eq_false h]
    exact iteF (h2 h)
theorem iteI {a b : Int} {A B : Prop} (h1 : a = b → A) (h2 : a ≠ b → B) : if decide (V.int a = V.int b) = true then A else B := by
  rw [int_dec]
  exact iteD h1 h2
/-! ### the law's draws -/
def potKv (ca : Addr) (i d t : Int) : List (Key × V) := [(.inr "cells", .ref ca), (.inr "at", .int i), (.inr "digits", .int d), (.inr "turn", .int t)]
def PotAt (H : Hp) (p ca : Addr) (m : Nat) : Prop := ∃ (cells : List Int) (i d : Int), H p = some (.dK (potKv ca i d m)) ∧ H ca = some (.lst (cells.map V.int))
theorem PotAt.same {H H' : Hp} {p ca : Addr} {m : Nat} (h : PotAt H p ca m) (s : Same H H') : PotAt H' p ca m := let ⟨cells, i, d, a, b⟩ := h; ⟨cells, i, d, s _ _ a, s _ _ b⟩
section
variable {H : Hp} {p ca : Addr} {i d t z : Int}
theorem pg_cells (h : H p = some (.dK (potKv ca i d t))) : DGet H p (.str "cells") (some (.ref ca)) := by
  have g := DGet.k (k := .inr "cells") h
  have e : valV (potKv ca i d t) (.inr "cells") = some (.ref ca) := by kernel_rfl
  rw [e] at g
  exact g
theorem pg_at (h : H p = some (.dK (potKv ca i d t))) : DGet H p (.str "at") (some (.int i)) := by
  have g := DGet.k (k := .inr "at") h
  have e : valV (potKv ca i d t) (.inr "at") = some (.int i) := by kernel_rfl
  rw [e] at g
  exact g
theorem pg_digits (h : H p = some (.dK (potKv ca i d t))) : DGet H p (.str "digits") (some (.int d)) := by
  have g := DGet.k (k := .inr "digits") h
  have e : valV (potKv ca i d t) (.inr "digits") = some (.int d) := by kernel_rfl
  rw [e] at g
  exact g
theorem pg_turn (h : H p = some (.dK (potKv ca i d t))) : DGet H p (.str "turn") (some (.int t)) := by
  have g := DGet.k (k := .inr "turn") h
  have e : valV (potKv ca i d t) (.inr "turn") = some (.int t) := by kernel_rfl
  rw [e] at g
  exact g
theorem pp_at (h : H p = some (.dK (potKv ca i d t))) : DPut H p (.str "at") (.int z) (upd H p (.dK (potKv ca z d t))) := by
  have g := DPut.k (k := .inr "at") (v := .int z) h (by show 4 < sizeLine; exact small1000 (by decide))
  have e : putK (potKv ca i d t) (.inr "at") (.int z) = potKv ca z d t := by kernel_rfl
  rw [e] at g
  exact g
theorem pp_digits (h : H p = some (.dK (potKv ca i d t))) : DPut H p (.str "digits") (.int z) (upd H p (.dK (potKv ca i z t))) := by
  have g := DPut.k (k := .inr "digits") (v := .int z) h (by show 4 < sizeLine; exact small1000 (by decide))
  have e : putK (potKv ca i d t) (.inr "digits") (.int z) = potKv ca i z t := by kernel_rfl
  rw [e] at g
  exact g
theorem pp_turn (h : H p = some (.dK (potKv ca i d t))) : DPut H p (.str "turn") (.int z) (upd H p (.dK (potKv ca i d z))) := by
  have g := DPut.k (k := .inr "turn") (v := .int z) h (by show 4 < sizeLine; exact small1000 (by decide))
  have e : putK (potKv ca i d t) (.inr "turn") (.int z) = potKv ca i d z := by kernel_rfl
  rw [e] at g
  exact g
end
section
variable {P : Program} {w : World} {K : PySem.W.Frag} {mg : PySem.Str → Option Value} {base : Heap}
def spMixed : Sp := fun vs H Q _ => ∃ c t : Int, vs = [.int c, .int t] ∧ 0 ≤ t ∧ t < 1000000 ∧ ∀ r : Int, Q (.int r) H
theorem ok_mixed (T : Tx K mg) : Okd P w K mg base 1 (He.fAd K ("_law_mixed", none)) P_mixed spMixed := by
  refine okd T 47 d_mixed rfl rfl (N := N_mixed) sc_mixed (fun _ _ _ _ _ _ us hl => match us, hl with | [_, _], _ => rfl) (fun vs H Q E h => ?_) (fun cdv A outer s H vs Q E hr h => ?_)
  · obtain ⟨c, t, rfl, _⟩ := h
    rfl
  · obtain ⟨c, t, rfl, h0, h1, out⟩ := h
    refine ⟨_, pss_cons (ps_set (i := 2) sc_mixed.nd rfl (.inl rfl) (pe_op op_mod (pe_op op_mul (pe_op op_add (pe_op op_add (pe_op op_mod (pv 0) pe_int) (pe_op op_mul (pe_op op_mul (pv 1) (pv 1)) pe_int)) pe_int) pe_int) pe_int))
      (pss_one (ps_ret (pe_op op_fdivN (pe_op op_mod (pe_op op_mul (pe_op op_add (pe_op op_add (pe_op op_fdivN (pv 2) pe_int) (pe_op op_mul (pv 1) pe_int)) pe_int) pe_int) pe_int) pe_int))), ?_⟩
    refine ⟨_, rfl, ⟨_, _, rfl, rfl, (by show (0:Int) < 2147483647; decide), _, rfl, _, rfl, ⟨_, _, rfl, rfl, .inl ⟨by omega, by omega⟩, ⟨_, _, rfl, rfl, .inr (by decide), ⟨_, _, rfl, rfl, ⟨_, _, rfl, rfl, ⟨_, _, rfl, rfl, .inr (by decide), ⟨_, _, rfl, rfl, (by show (0:Int) < 2147483647; decide), ?_⟩⟩⟩⟩⟩⟩⟩⟩
    refine ⟨_, rfl, ⟨_, _, rfl, rfl, ⟨by decide, by decide⟩, _, rfl, ⟨_, _, rfl, rfl, .inr (by decide), ⟨_, _, rfl, rfl, ⟨_, _, rfl, rfl, ⟨_, _, rfl, rfl, .inr (by decide), ⟨_, _, rfl, rfl, (by show (0:Int) < 2147483629; decide), ⟨_, _, rfl, rfl, ⟨by decide, by decide⟩, ?_⟩⟩⟩⟩⟩⟩⟩⟩
    exact out _
def spDraw : Sp := fun vs H Q _ => ∃ (p ca : Addr) (m : Nat) (many : Int), vs = [.ref p, .int many] ∧ PotAt H p ca m ∧ m < 1000 ∧ 1 ≤ many ∧ many ≤ 1000 ∧
  ∀ (i : Int) H', 0 ≤ i → i < many → PotAt H' p ca (m + 1) → But p p H H' → Q (.int i) H'
theorem ok_draw (T : Tx K mg) : Okd P w K mg base 2 (He.fAd K ("_law_draw", none)) P_draw spDraw := by
  obtain ⟨fdM, GM, bM⟩ := ok_mixed (P := P) (w := w) (base := base) T
  refine okd T 49 d_draw rfl rfl (N := N_draw) sc_draw (fun _ _ _ _ _ _ us hl => match us, hl with | [_, _], _ => rfl) (fun vs H Q E h => ?_) (fun cdv A outer s H vs Q E hr h => ?_)
  · obtain ⟨p, ca, m, many, rfl, _⟩ := h
    rfl
  · obtain ⟨p, ca, m, many, rfl, ⟨cells, i, d, hp, hc⟩, hm, h1, h2, out⟩ := h
    have np : ca ≠ p := ne_of hc hp (by intro z; cases z)
    refine ⟨_, pss_cons (ps_dput (hu_of hr) (pv 0) pe_str (pe_op op_add (pe_dget (hu_of hr) (pv 0) pe_str (fun _ _ => rfl)) pe_int) rfl)
      (pss_cons (ps_if (pt_cmpR op_eq (pe_dget (hu_of hr) (pv 0) pe_str (fun _ _ => rfl)) pe_int (nomark _))
        (pss_cons (ps_set (i := 2) sc_draw.nd rfl (.inl rfl) pe_int)
        (pss_cons (ps_if (pt_cmpR op_gt (pe_callB call_len_seq (by rfl) T.b_len PySem.boot_len (pa_cons (pe_dget (hu_of hr) (pv 0) pe_str (fun _ _ => rfl)) pa_nil)) pe_int (nomark _))
          (pss_cons (ps_set (i := 2) sc_draw.nd rfl (.inl rfl) (pe_ix ix_list (pe_dget (hu_of hr) (pv 0) pe_str (fun _ _ => rfl)) (pe_op op_mod (pe_dget (hu_of hr) (pv 0) pe_str (fun _ _ => rfl)) (pe_callB call_len_seq (by rfl) T.b_len PySem.boot_len (pa_cons (pe_dget (hu_of hr) (pv 0) pe_str (fun _ _ => rfl)) pa_nil))) (fun _ _ => rfl)))
          (pss_one (ps_dput (hu_of hr) (pv 0) pe_str (pe_op op_add (pe_dget (hu_of hr) (pv 0) pe_str (fun _ _ => rfl)) pe_int) rfl))) pss_nil)
        (pss_cons (ps_if (pt_cmpR op_lt (pv 2) (pe_op op_pow pe_int pe_int) (nomark _))
          (pss_one (ps_ret (pe_op op_mod (pe_call GM hr rfl T.g__law_mixed (T.kp 47 (d := d_mixed) rfl) bM .nil pass0 (pa_cons (pv 2) (pa_cons (pe_dget (hu_of hr) (pv 0) pe_str (fun _ _ => rfl)) pa_nil))) (pv 1)))) pss_nil)
        (pss_one (ps_dput (hu_of hr) (pv 0) pe_str (pv 2) rfl))))) pss_nil)
      (pss_cons (ps_set (i := 3) sc_draw.nd rfl (.inl rfl) (pe_op op_mod (pe_dget (hu_of hr) (pv 0) pe_str (fun _ _ => rfl)) (pv 1)))
      (pss_cons (ps_dput (hu_of hr) (pv 0) pe_str (pe_op op_fdivN (pe_dget (hu_of hr) (pv 0) pe_str (fun _ _ => rfl)) (pv 1)) rfl)
      (pss_one (ps_ret (pv 3)))))), ?_⟩
    refine ⟨_, rfl, p, _, rfl, pg_turn hp, _, _, rfl, rfl, _, rfl, p, _, rfl, pp_turn hp, ?_⟩
    have k1 : But p p H (upd H p (.dK (potKv ca i d ((m : Int) + 1)))) := But.upd
    have p1 : upd H p (.dK (potKv ca i d ((m : Int) + 1))) p = some (.dK (potKv ca i d ((m : Int) + 1))) := upd_same
    generalize upd H p (.dK (potKv ca i d ((m : Int) + 1))) = H1 at k1 p1 ⊢
    have hc1 := k1 _ _ hc np np
    have fin : ∀ (H2 : Hp) (i2 d2 : Int), But p p H1 H2 → H2 p = some (.dK (potKv ca i2 d2 ((m : Int) + 1))) →
        Q (.int (d2 % many)) (upd H2 p (.dK (potKv ca i2 (d2.fdiv many) ((m : Int) + 1)))) := fun H2 i2 d2 k2 hp2 => by
      refine out _ _ (Int.emod_nonneg _ (by omega)) (Int.emod_lt_of_pos _ (by omega)) ⟨cells, _, _, upd_same, ?_⟩ ((k1.trans k2).trans But.upd)
      rw [upd_ne np]
      exact k2 _ _ hc1 np np
    refine ⟨_, rfl, p, _, rfl, pg_digits p1, rfl, _, rfl, ?_⟩
    refine iteI (fun c => ?_) (fun c => ?_)
    · -- the cell
      have go : ∀ (H2 : Hp) (i2 cl : Int), But p p H1 H2 → H2 p = some (.dK (potKv ca i2 d ((m : Int) + 1))) → ∀ r : Int, Q (.int (r % many)) H2 := fun H2 i2 cl k2 hp2 r =>
        out _ _ (Int.emod_nonneg _ (by omega)) (Int.emod_lt_of_pos _ (by omega)) ⟨cells, _, _, hp2, k2 _ _ hc1 np np⟩ (k1.trans k2)
      refine ⟨_, rfl, p, _, rfl, pg_cells p1, ca, _, rfl, .inl (SqL.of hc1), _, _, rfl, rfl, _, rfl, ?_⟩
      refine iteD (fun c2 => ?_) (fun c2 => ?_)
      · have lpos : (0 : Int) < ((cells.map V.int).length : Int) := c2
        obtain ⟨x, hx⟩ : ∃ x, atI (cells.map V.int) (i % ((cells.map V.int).length : Int)) = some (.int x) := by
          have e1 := Int.emod_nonneg i (by omega : ((cells.map V.int).length : Int) ≠ 0)
          have e2 := Int.emod_lt_of_pos i lpos
          obtain ⟨k, hk⟩ := Int.eq_ofNat_of_zero_le e1
          rw [hk] at e2 ⊢
          rw [List.length_map] at e2
          have e3 : k < cells.length := by omega
          exact ⟨cells[k], atI_nat (by rw [List.getElem?_map, List.getElem?_eq_getElem e3]; rfl)⟩
        refine ⟨_, rfl, p, _, rfl, pg_cells p1, _, rfl, p, _, rfl, pg_at p1, _, rfl, p, _, rfl, pg_cells p1, ca, _, rfl, .inl (SqL.of hc1), _, _, rfl, rfl, lpos, ca, _, _, _, rfl, rfl, SqL.of hc1, hx, ?_⟩
        refine ⟨_, rfl, p, _, rfl, pg_at p1, _, _, rfl, rfl, _, rfl, p, _, rfl, pp_at p1, ?_⟩
        have k2 : But p p H1 (upd H1 p (.dK (potKv ca (i + 1) d ((m : Int) + 1)))) := But.upd
        have p2 : upd H1 p (.dK (potKv ca (i + 1) d ((m : Int) + 1))) p = some (.dK (potKv ca (i + 1) d ((m : Int) + 1))) := upd_same
        generalize upd H1 p (.dK (potKv ca (i + 1) d ((m : Int) + 1))) = H2 at k2 p2 ⊢
        refine ⟨_, rfl, _, _, rfl, rfl, ⟨by decide, by decide, by decide⟩, _, _, rfl, rfl, _, rfl, ?_⟩
        refine iteD (fun c3 => ?_) (fun c3 => ?_)
        · refine ⟨_, rfl, _, rfl, p, _, rfl, pg_turn p2, x, _, rfl, by omega, by omega, fun r => ⟨_, rfl, r, many, rfl, rfl, by omega, go H2 _ x k2 p2 r⟩⟩
        · refine ⟨_, rfl, _, rfl, p, _, rfl, pp_digits p2, ?_⟩
          have k3 := k2.trans (But.upd (p := p) (q := p) (H := H2) (o := .dK (potKv ca (i + 1) x ((m : Int) + 1))))
          exact ⟨_, rfl, p, _, rfl, pg_digits upd_same, _, rfl, x, many, rfl, rfl, by omega, _, rfl, p, _, rfl, pg_digits upd_same, _, rfl, x, many, rfl, rfl, ⟨by omega, by omega⟩, _, rfl, p, _, rfl, pp_digits upd_same, _, rfl, fin _ _ x k3 upd_same⟩
      · refine ⟨_, rfl, _, _, rfl, rfl, ⟨by decide, by decide, by decide⟩, _, _, rfl, rfl, _, rfl, ?_⟩
        rw [decide_eq_true (show (0 : Int) < 10 ^ (18 : Int).toNat by decide)]
        refine iteT ⟨_, rfl, _, rfl, p, _, rfl, pg_turn p1, 0, _, rfl, by omega, by omega, fun r => ⟨_, rfl, r, many, rfl, rfl, by omega, go H1 _ 0 (But.refl _ _ _) p1 r⟩⟩
    · exact ⟨_, rfl, p, _, rfl, pg_digits p1, _, rfl, d, many, rfl, rfl, by omega, _, rfl, p, _, rfl, pg_digits p1, _, rfl, d, many, rfl, rfl, ⟨by omega, by omega⟩, _, rfl, p, _, rfl, pp_digits p1, _, rfl, fin _ _ d (But.refl _ _ _) p1⟩
end
end RC
namespace RC
open PySem PySem.Spec PyProof.Rows L2
/-! ### a cut between two statements -/
def tMid (t u : TS) : TS := fun D σ H => ∃ Mid : L2.St → Hp → Prop, t { D with nx := Mid } σ H ∧ ∀ σ' H', Mid σ' H' → u D σ' H'
theorem pss_mid {X : Cx} {st : Stmt} {rest : List Stmt} {t u : TS} (h1 : PS X st t) (h2 : PSs X rest u) : PSs X (st :: rest) (tMid t u) := by
  refine ⟨fun pins s σ H D I h => ?_⟩
  obtain ⟨Mid, hm, hu⟩ := h
  refine wpAny_execs_cons (thn (h1.run pins s σ H { D with nx := Mid } I hm) fun f s1 q => ?_)
  cases f with
  | next =>
    obtain ⟨σ', H', I', q⟩ := q
    exact h2.run pins s1 σ' H' D I' (hu σ' H' q)
  | ret v => exact q
  | brk => exact q
  | cont => exact q
/-! ### x == [], x != [], x != () -/
theorem eqv_lnil : ∀ ds : List PyData, PyData.eqv (.list ds) (.list []) = decide (ds = [])
  | [] => rfl
  | _ :: _ => rfl
theorem eqv_tnil : ∀ ds : List PyData, PyData.eqv (.tuple ds) (.tuple []) = decide (ds = [])
  | [] => rfl
  | _ :: _ => rfl
theorem sh_lnil : SeqAt.shaped (.list []) = true := by decide +kernel
theorem sh_tnil : SeqAt.shaped (.tuple []) = true := by decide +kernel
/-- data of depth at most 60 that can be laid -/
def Fine (d : PyData) : Prop := d.canLay0 = true ∧ PyData.depth d ≤ 60
def FineAll (ds : List PyData) : Prop := PyData.canLayAll0 ds = true ∧ PyData.depthAll ds ≤ 60
theorem FineAll.nil : FineAll [] := ⟨rfl, Nat.zero_le _⟩
theorem FineAll.cons {d : PyData} {ds : List PyData} (h : Fine d) (t : FineAll ds) : FineAll (d :: ds) := ⟨by show (d.canLay0 && PyData.canLayAll0 ds) = true; rw [h.1, t.1]; rfl, Nat.max_le.mpr ⟨h.2, t.2⟩⟩
theorem FineAll.lst {ds : List PyData} (h : FineAll ds) : SeqAt.shaped (.list ds) = true := by
  show (PyData.canLayAll0 ds && decide (PyData.depthAll ds + 1 ≤ 64)) = true
  rw [h.1, decide_eq_true (show PyData.depthAll ds + 1 ≤ 64 by have := h.2; omega)]
  rfl
theorem FineAll.tup {ds : List PyData} (h : FineAll ds) : SeqAt.shaped (.tuple ds) = true := h.lst
theorem dpAll_ints {K : PySem.W.Frag} {H : Hp} : ∀ ns : List Int, DpAll K H (ns.map V.int) (ns.map PyData.int)
  | [] => .nil
  | n :: ns => .cons (.int n) (dpAll_ints ns)
theorem fine_ints : ∀ ns : List Int, FineAll (ns.map PyData.int)
  | [] => FineAll.nil
  | n :: ns => FineAll.cons ⟨rfl, Nat.zero_le _⟩ (fine_ints ns)
section
variable {P : Program} {w : World} {K : PySem.W.Frag} {mg : PySem.Str → Option Value} {base : Heap}
/-! ### the pot -/
def spPot (K : PySem.W.Frag) : Sp := fun vs H Q _ => ∃ (a : Addr) (ns : List Int), vs = [.ref a] ∧ SqL K H a (ns.map V.int) ∧ ∀ H' p ca, PotAt H' p ca 0 → Same H H' → Q (.ref p) H'
theorem cut_to' (ns : List Int) (k : Int) : ∃ ms : List Int, cutV (ns.map V.int) none (some k) = ms.map V.int := by
  refine ⟨(ns.drop (HT.sIx ns.length 0 none)).take (HT.sIx ns.length ns.length (some k) - HT.sIx ns.length 0 none), ?_⟩
  unfold cutV
  rw [List.length_map, List.map_take, List.map_drop]
theorem sqL_same {K : PySem.W.Frag} {H H' : Hp} {a : Addr} {xs : List V} (s : Same H H') (h : SqL K H a xs) : SqL K H' a xs := by
  rcases h with (h | ⟨o, h⟩) | h
  · exact .inl (.inl (s _ _ h))
  · exact .inl (.inr ⟨o, s _ _ h⟩)
  · exact .inr h
theorem ok_pot (T : Tx K mg) : Okd P w K mg base 1 (He.fAd K ("_law_pot", none)) P_pot (spPot K) := by
  refine okd T 48 d_pot rfl rfl (N := N_pot) sc_pot (fun _ _ _ _ _ _ us hl => match us, hl with | [_], _ => rfl) (fun vs H Q E h => ?_) (fun cdv A outer s H vs Q E hr h => ?_)
  · obtain ⟨a, ns, rfl, _⟩ := h
    rfl
  · obtain ⟨a, ns, rfl, ha, out⟩ := h
    refine ⟨_, pss_one (ps_ret (pe_disp (pps_cons pe_str (pe_callTy call_list_of (by rfl) T.b_list (by decide +kernel) (pa_cons (pe_slice sl_list (pv 0) po_none (po_some pe_int)) pa_nil))
      (pps_cons pe_str pe_int (pps_cons pe_str pe_int (pps_cons pe_str pe_int pps_nil)))) rfl rfl (by intro e; cases e) (by decide))), ?_⟩
    intro p hp
    have s1 : Same H (upd H p (.dK [])) := newS hp
    refine ⟨_, rfl, nop ⟨63, rfl, a, _, rfl, sqL_same s1 ha, fun l hl => ?_⟩⟩
    have s2 : Same (upd H p (.dK [])) (upd (upd H p (.dK [])) l (.lst (cutV (ns.map V.int) none (some 63)))) := newS hl
    obtain ⟨ms, hms⟩ := cut_to' ns 63
    refine ⟨l, _, rfl, .inl (SqL.of upd_same), fun l2 hl2 => ?_⟩
    have s3 := newS (o := .lst (cutV (ns.map V.int) none (some 63))) hl2
    have e2 := s3 _ _ (s2 _ _ upd_same)
    have np : l2 ≠ p := fun z => by rw [z, s2 _ _ upd_same] at hl2; cases hl2
    refine ⟨e2, [(.inr "cells", .ref l2), (.inr "at", .int 0), (.inr "digits", .int 0), (.inr "turn", .int 0)], rfl, (by show 4 ≤ 15; decide), ?_⟩
    have em : mergeK [] [(.inr "cells", .ref l2), (.inr "at", .int 0), (.inr "digits", .int 0), (.inr "turn", .int 0)] = potKv l2 0 0 0 := by kernel_rfl
    rw [em]
    refine out _ _ l2 ⟨ms, 0, 0, upd_same, ?_⟩ fun b o e => ?_
    · rw [upd_ne np, upd_same, hms]
    · rw [upd_ne (ne_of_none e hp)]
      exact s3 _ _ (s2 _ _ (s1 _ _ e))
end
end RC
namespace RC
open PySem PySem.Spec PyProof.Rows L2
theorem But.free {p D : Addr} {H H1 : Hp} (b : But p p H H1) {o : HO} (hp : H1 p = some o) (hD : H1 D = none) : H D = none := by
  cases e : H D with
  | none => rfl
  | some u =>
    have n : D ≠ p := fun z => by rw [z, hp] at hD; cases hD
    have := b D u e n n
    rw [hD] at this
    cases this
theorem But.new {p D : Addr} {H H1 : Hp} (b : But p p H H1) (hD : H D = none) {o : HO} : But p p H (L2.upd H1 D o) := fun c u e n1 n2 => by
  rw [upd_ne (ne_of_none e hD)]
  exact b c u e n1 n2
theorem PotAt.at {H : Hp} {p ca : Addr} {m : Nat} (h : PotAt H p ca m) : ∃ o, H p = some o := let ⟨_, _, _, a, _⟩ := h; ⟨_, a⟩
/-- the pot does not stand at D -/
theorem PotAt.put {H : Hp} {p ca D : Addr} {m : Nat} {o : HO} (h : PotAt H p ca m) (n1 : p ≠ D) (n2 : ca ≠ D) : PotAt (L2.upd H D o) p ca m := by
  obtain ⟨cells, i, d, a, b⟩ := h
  exact ⟨cells, i, d, by rw [upd_ne n1]; exact a, by rw [upd_ne n2]; exact b⟩
/-- what a part of the law's draws leaves: the pot's dict alone is another -/
structure Drawn (H0 H : Hp) (p ca : Addr) (m : Nat) : Prop where
  but : But p p H0 H
  pot : PotAt H p ca m
  old : H0 ca ≠ none
theorem Drawn.free {H0 H : Hp} {p ca D : Addr} {m : Nat} (d : Drawn H0 H p ca m) (hD : H D = none) : H0 D = none := let ⟨_, e⟩ := d.pot.at; d.but.free e hD
theorem Drawn.put {H0 H : Hp} {p ca D : Addr} {m : Nat} {o : HO} (d : Drawn H0 H p ca m) (hD : H0 D = none) (n : p ≠ D) : Drawn H0 (L2.upd H D o) p ca m :=
  ⟨d.but.new hD, d.pot.put n fun e => d.old (by rw [e]; exact hD), d.old⟩
theorem Drawn.new {H0 H : Hp} {p ca D : Addr} {m : Nat} {o : HO} (d : Drawn H0 H p ca m) (hD : H D = none) : Drawn H0 (L2.upd H D o) p ca m :=
  let ⟨_, e⟩ := d.pot.at
  d.put (d.free hD) (ne_of_none e hD)
theorem Drawn.same {H0 H H1 : Hp} {p ca : Addr} {m : Nat} (d : Drawn H0 H p ca m) (s : Same H H1) : Drawn H0 H1 p ca m := ⟨d.but.same s, d.pot.same s, d.old⟩
theorem Drawn.draw {H0 H H1 : Hp} {p ca : Addr} {m k : Nat} (d : Drawn H0 H p ca m) (q : PotAt H1 p ca k) (b : But p p H H1) : Drawn H0 H1 p ca k := ⟨d.but.trans b, q, d.old⟩
theorem Drawn.one {H : Hp} {p ca : Addr} {m : Nat} (q : PotAt H p ca m) : Drawn H H p ca m := ⟨But.refl _ _ _, q, let ⟨_, _, _, _, b⟩ := q; by rw [b]; simp⟩
/-- a list of ints that is no part of the pot, after a draw -/
theorem lst_draw {H H1 : Hp} {p l : Addr} {xs : List V} (b : But p p H H1) (n : l ≠ p) (h : H l = some (.lst xs)) : H1 l = some (.lst xs) := b _ _ h n n
section
variable {P : Program} {w : World} {K : PySem.W.Frag} {mg : PySem.Str → Option Value} {base : Heap}
def spWord : Sp := fun vs H Q _ => ∃ (p ca : Addr) (m n : Nat), vs = [.ref p, .int n] ∧ PotAt H p ca m ∧ m ≤ 10 ∧ 1 ≤ n ∧ n ≤ 3 ∧
  ∀ (ns : List Int) t H', TrI H' t ns → ns.length = n → (∀ x ∈ ns, 0 ≤ x ∧ x ≤ 99) → But p p H H' → Q t H'
theorem ok_word (T : Tx K mg) : Okd P w K mg base 3 (He.fAd K ("_law_word", none)) P_word spWord := by
  obtain ⟨fdD, GD, bD⟩ := ok_draw (P := P) (w := w) (base := base) T
  refine okd T 51 d_word rfl rfl (N := N_word) sc_word (fun _ _ _ _ _ _ us hl => match us, hl with | [_, _], _ => rfl) (fun vs H Q E h => ?_) (fun cdv A outer s H vs Q E hr h => ?_)
  · obtain ⟨p, ca, m, n, rfl, _⟩ := h
    rfl
  · obtain ⟨p, ca, m, n, rfl, hpot, hm, h1, h3, out⟩ := h
    refine ⟨_, pss_cons (ps_set (i := 2) sc_word.nd rfl (.inl rfl) (pe_call GD hr rfl T.g__law_draw (T.kp 49 (d := d_draw) rfl) bD .nil pass0 (pa_cons (pv 0) (pa_cons pe_int pa_nil))))
      (pss_cons (ps_set (i := 3) sc_word.nd rfl (.inr rfl) (pe_ix ix_list (pe_lst (pa_cons pe_int (pa_cons pe_int (pa_cons pe_int (pa_cons pe_int (pa_cons pe_int pa_nil)))))) (pv 2) (fun _ _ => rfl)))
      (pss_cons (ps_setLc (i := 4) (own := [("_law_k", 6)]) (g := gName 6) (tt := tYes) (te := tCall spDraw [] E0 (tCons (tVar 0) (tCons (tVar 3) tNil))) rfl sc_word.nd rfl rfl (sw_true rfl rfl rfl (by decide +kernel))
        (pi_range1 rfl T.b_range (pa_cons (pv 1) pa_nil))
        (blkOk_by (own := [("_law_k", 6)]) (N := N_word) (sc := defScope s_word) (by decide +kernel)) (fun _ _ _ _ _ => by exact pg_name (i := 6) sc_word.nd rfl (Or.inl rfl)) (fun _ _ _ _ _ => pts_nil)
        (fun _ _ _ _ _ => by exact pe_call GD hr rfl T.g__law_draw (T.kp 49 (d := d_draw) rfl) bD .nil pass0 (pa_cons (pv 0) (pa_cons (pv 3) pa_nil))))
      (pss_mid (ps_if (pt_cmpR op_eq (pv 2) pe_int (nomark _))
        (pss_cons (ps_set (i := 5) sc_word.nd rfl (.inr rfl) (pe_slice sl_list (pv 4) po_none (po_some (pe_op op_add pe_int (pe_call GD hr rfl T.g__law_draw (T.kp 49 (d := d_draw) rfl) bD .nil pass0 (pa_cons (pv 0) (pa_cons (pv 1) pa_nil)))))))
        (pss_one (ps_setLc (i := 4) (own := [("_law_k", 6)]) (g := gName 6) (tt := tYes) (te := tOp (rIxL K) (tVar 5) (tOp (rI (fun _ j => 0 < j) fun i j => .int (i % j)) (tVar 6) (tCB (fun xs H_1 Q => ∃ p ys, xs = [V.ref p] ∧ (SqL K H_1 p ys ∨ SqT K H_1 p ys) ∧ Q (V.int ys.length) H_1) (tCons (tVar 5) tNil)))) rfl sc_word.nd rfl rfl (sw_true rfl rfl rfl (by decide +kernel))
          (pi_range1 rfl T.b_range (pa_cons (pv 1) pa_nil))
          (blkOk_by (own := [("_law_k", 6)]) (N := N_word) (sc := defScope s_word) (by decide +kernel)) (fun _ _ _ _ _ => by exact pg_name (i := 6) sc_word.nd rfl (Or.inl rfl)) (fun _ _ _ _ _ => pts_nil)
          (fun _ _ _ _ _ => by exact pe_ix ix_list (pv 5) (pe_op op_mod (pv 6) (pe_callB call_len_seq (by rfl) T.b_len PySem.boot_len (pa_cons (pv 5) pa_nil))) (fun _ _ => rfl))))) pss_nil)
      (pss_one (ps_ret (pe_callTy call_tuple_of (by rfl) T.b_tuple (by decide +kernel) (pa_cons (pv 4) pa_nil))))))), ?_⟩
    have d0 := Drawn.one hpot
    refine ⟨_, rfl, p, ca, m, 5, rfl, hpot, by omega, by decide, by decide, fun i H1 i0 i5 q1 b1 => ?_⟩
    have d1 := d0.draw q1 b1
    refine ⟨small1000 (by decide), fun L hL => ⟨_, rfl, ?_⟩⟩
    have d2 := d1.new (o := .lst [.int 1, .int 2, .int 3, .int 100, .int 2]) hL
    obtain ⟨top, htop, t1, t2⟩ : ∃ top : Int, atI [V.int 1, .int 2, .int 3, .int 100, .int 2] i = some (.int top) ∧ 1 ≤ top ∧ top ≤ 100 := by
      have : i = 0 ∨ i = 1 ∨ i = 2 ∨ i = 3 ∨ i = 4 := by omega
      rcases this with rfl | rfl | rfl | rfl | rfl
      · exact ⟨1, rfl, by decide, by decide⟩
      · exact ⟨2, rfl, by decide, by decide⟩
      · exact ⟨3, rfl, by decide, by decide⟩
      · exact ⟨100, rfl, by decide, by decide⟩
      · exact ⟨2, rfl, by decide, by decide⟩
    refine ⟨L, _, _, _, rfl, rfl, SqL.of upd_same, htop, ?_⟩
    refine ⟨_, rfl, (n : Int), rfl, by omega, by omega, fun D hD => ?_⟩
    have D0 : H D = none := d2.free hD
    have nDp : p ≠ D := let ⟨_, e⟩ := hpot.at; ne_of_none e D0
    refine lc_it (walk_range (lo := 0) (n := n)) (fun k H3 => ∃ ns : List Int, ns.length = k ∧ (∀ x ∈ ns, 0 ≤ x ∧ x ≤ 99) ∧ H3 D = some (.lst (ns.map V.int)) ∧ Drawn H H3 p ca (m + 1 + k)) ?_ (fun _ _ _ _ => trivial) ?_ ?_
    · exact ⟨[], rfl, (fun _ h => by cases h), upd_same, d2.new hD⟩
    · rintro k x H3 H4 hk ⟨ns, hl, hb, hx, d3⟩ ⟨rfl, rfl⟩
      refine ⟨rfl, yes ⟨_, rfl, _, rfl, p, ca, m + 1 + k, top, rfl, d3.pot, by omega, by omega, by omega, fun v H4 v0 v1 q4 b4 => ?_⟩⟩
      have d4 := d3.draw q4 b4
      refine ⟨_, lst_draw b4 nDp.symm hx, by rw [List.length_map, hl]; exact small1000 (by omega), ns ++ [v], by rw [List.length_append, hl]; rfl, fun x hx => ?_, by rw [upd_same, List.map_append]; rfl, d4.put D0 nDp⟩
      rcases List.mem_append.mp hx with hx | hx
      · exact hb x hx
      · rw [List.mem_singleton.mp hx]
        exact ⟨v0, by omega⟩
    · rintro H3 ⟨ns, hl, hb, hx, d3⟩
      refine ⟨fun σ' H' => ∃ (D : Addr) (ns : List Int), σ'[4]? = some (some (.ref D)) ∧ H' D = some (.lst (ns.map V.int)) ∧ ns.length = n ∧ (∀ x ∈ ns, 0 ≤ x ∧ x ≤ 99) ∧ But p p H H', ?_, ?_⟩
      · refine ⟨_, rfl, rfl, _, rfl, ?_⟩
        refine iteI (fun c => ?_) (fun c => ⟨D, ns, rfl, hx, hl, hb, d3.but⟩)
        refine ⟨_, rfl, nop ⟨_, rfl, _, rfl, p, ca, _, (n : Int), rfl, d3.pot, by omega, by omega, by omega, fun v H4 v0 v1 q4 b4 => ?_⟩⟩
        have d4 := d3.draw q4 b4
        refine ⟨1, v, rfl, rfl, 1 + v, rfl, D, _, rfl, SqL.of (lst_draw b4 nDp.symm hx), fun A hA => ?_⟩
        obtain ⟨k, hk⟩ : ∃ k : Nat, 1 + v = (k : Int) := ⟨(1 + v).toNat, by omega⟩
        have d5 := d4.new (o := .lst (cutV (ns.map V.int) none (some (1 + v)))) hA
        rw [hk, cut_to ns k (by omega)] at d5 ⊢
        have A0 := d4.free hA
        refine ⟨_, rfl, (n : Int), rfl, by omega, by omega, fun D2 hD2 => ?_⟩
        have D20 := d5.free hD2
        have nD2p : p ≠ D2 := let ⟨_, e⟩ := hpot.at; ne_of_none e D20
        have nAD : A ≠ D2 := ne_of_none upd_same hD2
        have lt : (ns.take k).length = k := by rw [List.length_take, hl]; omega
        refine lc_it (walk_range (lo := 0) (n := n)) (fun j H6 => ∃ ms : List Int, ms.length = j ∧ (∀ x ∈ ms, 0 ≤ x ∧ x ≤ 99) ∧ H6 D2 = some (.lst (ms.map V.int)) ∧ But p p H H6 ∧ H6 A = some (.lst ((ns.take k).map V.int))) ?_ (fun _ _ _ _ => trivial) ?_ ?_
        · exact ⟨[], rfl, (fun _ h => by cases h), upd_same, d5.but.new D20, by rw [upd_ne nAD, upd_same]⟩
        · rintro j x H6 H7 hj ⟨ms, hml, hmb, hmx, b6, a6⟩ ⟨rfl, rfl⟩
          have lpos : (0 : Int) < (((ns.take k).map V.int).length : Int) := by rw [List.length_map, lt]; omega
          obtain ⟨r, hr0⟩ : ∃ r : Nat, (0 + (j : Int)) % (((ns.take k).map V.int).length : Int) = (r : Int) := Int.eq_ofNat_of_zero_le (Int.emod_nonneg _ (by omega))
          have hr1 := Int.emod_lt_of_pos (0 + (j : Int)) lpos
          rw [hr0, List.length_map] at hr1
          have hr2 : r < (ns.take k).length := by omega
          have hix : atI ((ns.take k).map V.int) ((0 + (j : Int)) % (((ns.take k).map V.int).length : Int)) = some (.int (ns.take k)[r]) := by
            rw [hr0]
            exact atI_nat (by rw [List.getElem?_map, List.getElem?_eq_getElem hr2]; rfl)
          refine ⟨rfl, yes ⟨_, rfl, _, rfl, _, rfl, A, _, rfl, .inl (SqL.of a6), _, _, rfl, rfl, lpos, A, _, _, _, rfl, rfl, SqL.of a6, hix, _, hmx, by rw [List.length_map, hml]; exact small1000 (by omega), ms ++ [(ns.take k)[r]], by rw [List.length_append, hml]; rfl, fun x hx => ?_, by rw [upd_same, List.map_append]; rfl, b6.new D20, by rw [upd_ne nAD]; exact a6⟩⟩
          rcases List.mem_append.mp hx with hx | hx
          · exact hmb x hx
          · rw [List.mem_singleton.mp hx]
            exact hb _ (List.mem_of_mem_take (List.getElem_mem hr2))
        · rintro H6 ⟨ms, hml, hmb, hmx, b6, a6⟩
          exact ⟨D2, ms, rfl, hmx, hml, hmb, b6⟩
      · rintro σ' H' ⟨D', ms, e4, hx', hl', hb', b'⟩
        refine ⟨_, e4, D', _, rfl, .inl ⟨SqL.of hx', fun t ht => ?_⟩⟩
        exact out ms _ _ ⟨t, rfl, upd_same⟩ hl' hb' (b'.same (newS ht))
end
end RC
namespace RC
open PySem PySem.Spec PyProof.Rows L2
def Ord (n : Nat) (os : List Int) : Prop := os.Perm ((List.range n).map fun i : Nat => (i : Int))
theorem Ord.len {n : Nat} {os : List Int} (h : Ord n os) : os.length = n := by
  have := h.length_eq
  rw [List.length_map, List.length_range] at this
  exact this
theorem Ord.mem {n : Nat} {os : List Int} (h : Ord n os) {x : Int} (hx : x ∈ os) : 0 ≤ x ∧ x < n := by
  have := h.mem_iff.mp hx
  obtain ⟨i, hi, rfl⟩ := List.mem_map.mp this
  have := List.mem_range.mp hi
  omega
theorem Ord.nodup {n : Nat} {os : List Int} (h : Ord n os) : os.Nodup := by
  refine h.nodup_iff.mpr ?_
  refine List.Pairwise.map _ (fun a b (q : a ≠ b) => ?_) List.nodup_range
  intro e
  exact q (by omega)
theorem ord_rg (n : Nat) : rgV 0 (n : Int) = (((List.range n).map fun i : Nat => (i : Int)).map V.int) := by
  unfold rgV
  rw [List.map_map]
  have e : ((n : Int) - 0).toNat = n := by omega
  rw [e]
  refine List.map_congr_left fun i _ => ?_
  show V.int (0 + (i : Int)) = V.int (i : Int)
  rw [Int.zero_add]
/-- the names' four kinds -/
def farN (n k : Int) (f : Nat) : Int := match f with
  | 0 => k
  | 1 => 1000000000000 - n + 1 + k
  | 2 => k * k * 1009 + k + 5
  | _ => 31 * k + 900000000000
theorem farN_inj {n : Int} {f : Nat} {a b : Int} (ha : 0 ≤ a ∧ a < 3) (hb : 0 ≤ b ∧ b < 3) (h : farN n a f = farN n b f) : a = b := by
  match f with
  | 0 => exact h
  | 1 =>
    have h : 1000000000000 - n + 1 + a = 1000000000000 - n + 1 + b := h
    omega
  | 2 =>
    have h : a * a * 1009 + a + 5 = b * b * 1009 + b + 5 := h
    have ea : a = 0 ∨ a = 1 ∨ a = 2 := by omega
    have eb : b = 0 ∨ b = 1 ∨ b = 2 := by omega
    rcases ea with rfl | rfl | rfl <;> rcases eb with rfl | rfl | rfl <;> first | rfl | (exfalso; revert h; decide)
  | f + 3 =>
    have h : 31 * a + 900000000000 = 31 * b + 900000000000 := h
    omega
theorem farN_bd {n : Int} {f : Nat} {a : Int} (hn : 1 ≤ n ∧ n ≤ 3) (ha : 0 ≤ a ∧ a < n) : 0 ≤ farN n a f ∧ farN n a f ≤ 1000000000000 := by
  match f with
  | 0 =>
    show 0 ≤ a ∧ a ≤ _
    omega
  | 1 =>
    show 0 ≤ 1000000000000 - n + 1 + a ∧ 1000000000000 - n + 1 + a ≤ _
    omega
  | 2 =>
    have ea : a = 0 ∨ a = 1 ∨ a = 2 := by omega
    show 0 ≤ a * a * 1009 + a + 5 ∧ a * a * 1009 + a + 5 ≤ _
    rcases ea with rfl | rfl | rfl <;> exact ⟨by decide, by decide⟩
  | f + 3 =>
    show 0 ≤ 31 * a + 900000000000 ∧ 31 * a + 900000000000 ≤ _
    omega
theorem eraseIdx_mapV (l : List Int) (j : Nat) : (l.eraseIdx j).map V.int = (l.map V.int).eraseIdx j := by
  rw [List.eraseIdx_eq_take_drop_succ, List.eraseIdx_eq_take_drop_succ, List.map_append, List.map_take, List.map_drop]
theorem eraseIdx_perm {l : List Int} {j : Nat} (h : j < l.length) : (l[j] :: l.eraseIdx j).Perm l := by
  rw [List.eraseIdx_eq_take_drop_succ]
  have e : l = l.take j ++ l[j] :: l.drop (j + 1) := by
    rw [List.getElem_cons_drop, List.take_append_drop]
  have p := (List.perm_middle (a := l[j]) (l₁ := l.take j) (l₂ := l.drop (j + 1))).symm
  rw [← e] at p
  exact p
theorem ord_rot {n : Nat} {os : List Int} (h : Ord n os) (k : Nat) : Ord n (os.drop k ++ os.take k) := by
  refine List.Perm.trans ?_ h
  have := List.perm_append_comm (l₁ := os.drop k) (l₂ := os.take k)
  rw [List.take_append_drop] at this
  exact this
/-- the doubled places -/
def Dbl (n : Nat) (os : List Int) : Prop := os = [0] ∨ (os = [0, 1] ∧ 2 ≤ n) ∨ (os = [0, 2, 1, 3] ∧ n = 3)
theorem Dbl.next {n : Nat} {os : List Int} (h : Dbl n os) (hn : n ≤ 3) (lt : os.length < n) : Dbl n (os.map (fun k => 2 * k) ++ os.map fun k => 2 * k + 1) := by
  rcases h with rfl | ⟨rfl, _⟩ | ⟨rfl, rfl⟩
  · have lt : 1 < n := lt
    exact .inr (.inl ⟨by decide, lt⟩)
  · have lt : 2 < n := lt
    exact .inr (.inr ⟨by decide, by omega⟩)
  · exact absurd lt (by decide)
theorem Dbl.done {n : Nat} {os : List Int} (h : Dbl n os) (h1 : 1 ≤ n) (hn : n ≤ 3) (ge : ¬ os.length < n) : Ord n (os.filter fun k => decide (k < (n : Int))) := by
  have en : n = 1 ∨ n = 2 ∨ n = 3 := by omega
  rcases h with rfl | ⟨rfl, h2⟩ | ⟨rfl, h2⟩
  · have : n = 1 := by
      have : ¬ 1 < n := ge
      omega
    subst this
    unfold Ord
    decide
  · have : n = 2 := by
      have : ¬ 2 < n := ge
      omega
    subst this
    unfold Ord
    decide
  · subst h2
    unfold Ord
    decide
section
variable {P : Program} {w : World} {K : PySem.W.Frag} {mg : PySem.Str → Option Value} {base : Heap}
def spRing : Sp := fun vs H Q _ => ∃ (p ca : Addr) (m n : Nat), vs = [.ref p, .int n] ∧ PotAt H p ca m ∧ m ≤ 10 ∧ 1 ≤ n ∧ n ≤ 3 ∧
  ∀ (ns : List Int) t H', TrI H' t ns → ns.length = n → (∀ x ∈ ns, 0 ≤ x ∧ x ≤ 1000000000000) → ns.Nodup → But p p H H' → Q t H'
/-- the places so far in the list D -/
def RSt (H : Hp) (p ca : Addr) (n M : Nat) (wy : Int) : L2.St → Hp → Prop := fun σ H' => ∃ (D : Addr) (os : List Int) (l : Option V) (m : Nat), σ = [some (.ref p), some (.int n), some (.int wy), some (.ref D), none, l, none, none, none] ∧
  H' D = some (.lst (os.map V.int)) ∧ Ord n os ∧ H D = none ∧ D ≠ p ∧ Drawn H H' p ca m ∧ m ≤ M
theorem ok_ring (T : Tx K mg) : Okd P w K mg base 3 (He.fAd K ("_law_ring", none)) P_ring spRing := by
  obtain ⟨fdD, GD, bD⟩ := ok_draw (P := P) (w := w) (base := base) T
  refine okd T 50 d_ring rfl rfl (N := N_ring) sc_ring (fun _ _ _ _ _ _ us hl => match us, hl with | [_, _], _ => rfl) (fun vs H Q E h => ?_) (fun cdv A outer s H vs Q E hr h => ?_)
  · obtain ⟨p, ca, m, n, rfl, _⟩ := h
    rfl
  · obtain ⟨p, ca, m, n, rfl, hpot, hm, h1, h3, out⟩ := h
    refine ⟨_, pss_cons (ps_set (i := 2) sc_ring.nd rfl (.inl rfl) (pe_call GD hr rfl T.g__law_draw (T.kp 49 (d := d_draw) rfl) bD .nil pass0 (pa_cons (pv 0) (pa_cons pe_int pa_nil))))
      (pss_cons (ps_set (i := 3) sc_ring.nd rfl (.inl rfl) (pe_listRg rfl rfl T.b_list (prg_1 rfl T.b_range (pv 1))))
      (pss_mid (ps_if (pt_cmpR op_eq (pv 2) pe_int (nomark _)) (pss_one (ps_set (i := 3) sc_ring.nd rfl (.inl rfl) (pe_revL (pv 3)))) pss_nil)
      (pss_mid (ps_if (pt_cmpR op_eq (pv 2) pe_int (nomark _))
        (pss_cons (ps_set (i := 3) sc_ring.nd rfl (.inl rfl) (pe_lst (pa_cons pe_int pa_nil)))
        (pss_cons (ps_while PassesOwn.never (pt_cmpR op_lt (pe_callB call_len_seq (by rfl) T.b_len PySem.boot_len (pa_cons (pv 3) pa_nil)) (pv 1) (nomark _))
          (pss_one (ps_set (i := 3) sc_ring.nd rfl (.inl rfl) (pe_op op_cat
            (pe_lc (own := [("_law_k", 4)]) (g := gName 4) (tt := tYes) (te := tOp (rI CMul fun i j => .int (i * j)) (tC (.int 2)) (tVar 4)) rfl sc_ring.nd (pi_list (pv 3)) (blkOk_by (own := [("_law_k", 4)]) (N := N_ring) (sc := defScope s_ring) (by decide +kernel))
              (fun _ _ _ _ _ => by exact pg_name (i := 4) sc_ring.nd rfl (Or.inl rfl)) (fun _ _ _ _ _ => pts_nil) (fun _ _ _ _ _ => by exact pe_op op_mul pe_int (pv 4)))
            (pe_lc (own := [("_law_k", 4)]) (g := gName 4) (tt := tYes) (te := tOp (rI0 fun i j => .int (i + j)) (tOp (rI CMul fun i j => .int (i * j)) (tC (.int 2)) (tVar 4)) (tC (.int 1))) rfl sc_ring.nd (pi_list (pv 3)) (blkOk_by (own := [("_law_k", 4)]) (N := N_ring) (sc := defScope s_ring) (by decide +kernel))
              (fun _ _ _ _ _ => by exact pg_name (i := 4) sc_ring.nd rfl (Or.inl rfl)) (fun _ _ _ _ _ => pts_nil) (fun _ _ _ _ _ => by exact pe_op op_add (pe_op op_mul pe_int (pv 4)) pe_int))))))
        (pss_one (ps_setLc (i := 3) (own := [("_law_k", 4)]) (g := gName 4) (tt := tTest (tOp (rI0 fun i j => .bl (decide (i < j))) (tVar 4) (tVar 1))) (te := tVar 4) rfl sc_ring.nd rfl rfl (sw_true rfl rfl rfl (by decide +kernel))
          (pi_list (pv 3)) (blkOk_by (own := [("_law_k", 4)]) (N := N_ring) (sc := defScope s_ring) (by decide +kernel)) (fun _ _ _ _ _ => by exact pg_name (i := 4) sc_ring.nd rfl (Or.inl rfl))
          (fun _ _ _ _ _ => by exact pts_one (pt_cmpR op_lt (pv 4) (pv 1) (nomark _))) (fun _ _ _ _ _ => by exact pv 4))))) pss_nil)
      (pss_mid (ps_if (pt_cmpR op_gt (pv 2) pe_int (nomark _))
        (pss_cons (ps_par (i := 5) (j := 3) rfl sc_ring.nd rfl rfl (by decide) rfl rfl (pa_cons (pv 3) (pa_cons (pe_lst pa_nil) pa_nil)) rfl)
        (pss_one (ps_while PassesOwn.never (pt_cmpR (op_neD hr.units) (pv 5) (pe_lst pa_nil) (nomark _))
          (pss_one (ps_expr (pe_bm PySem.F.plainAttrs_list PySem.F.slot_list_append PySem.F.type_list_append mt_append (pv 3) (pa_cons
            (pe_bm PySem.F.plainAttrs_list PySem.F.slot_list_pop PySem.F.type_list_pop mt_popAt (pv 5) (pa_cons
              (pe_call GD hr rfl T.g__law_draw (T.kp 49 (d := d_draw) rfl) bD .nil pass0 (pa_cons (pv 0) (pa_cons (pe_callB call_len_seq (by rfl) T.b_len PySem.boot_len (pa_cons (pv 5) pa_nil)) pa_nil))) pa_nil)) pa_nil))))))) pss_nil)
      (pss_cons (ps_set (i := 6) sc_ring.nd rfl (.inl rfl) (pe_call GD hr rfl T.g__law_draw (T.kp 49 (d := d_draw) rfl) bD .nil pass0 (pa_cons (pv 0) (pa_cons (pv 1) pa_nil))))
      (pss_cons (ps_set (i := 3) sc_ring.nd rfl (.inl rfl) (pe_op op_cat (pe_slice sl_list (pv 3) (po_some (pv 6)) po_none) (pe_slice sl_list (pv 3) po_none (po_some (pv 6)))))
      (pss_cons (ps_set (i := 7) sc_ring.nd rfl (.inl rfl) (pe_call GD hr rfl T.g__law_draw (T.kp 49 (d := d_draw) rfl) bD .nil pass0 (pa_cons (pv 0) (pa_cons pe_int pa_nil))))
      (pss_cons (ps_set (i := 8) sc_ring.nd rfl (.inl rfl) (pe_lst pa_nil))
      (pss_cons (ps_for PassesOwn.never rfl (pi_list (pv 3)) (pg_name (i := 4) sc_ring.nd rfl (.inl rfl))
        (pss_one (ps_expr (pe_bm PySem.F.plainAttrs_list PySem.F.slot_list_append PySem.F.type_list_append mt_append (pv 8) (pa_cons
          (pe_ix ix_list (pe_lst (pa_cons (pv 4) (pa_cons (pe_op op_add (pe_op op_add (pe_op op_sub (pe_op op_pow pe_int pe_int) (pv 1)) pe_int) (pv 4))
            (pa_cons (pe_op op_add (pe_op op_add (pe_op op_mul (pe_op op_mul (pv 4) (pv 4)) pe_int) (pv 4)) pe_int) (pa_cons (pe_op op_add (pe_op op_mul pe_int (pv 4)) (pe_op op_mul pe_int (pe_op op_pow pe_int pe_int))) pa_nil))))) (pv 7) (fun _ _ => rfl)) pa_nil)))))
      (pss_one (ps_ret (pe_callTy call_tuple_of (by rfl) T.b_tuple (by decide +kernel) (pa_cons (pv 8) pa_nil))))))))))))), ?_⟩
    have d0 := Drawn.one hpot
    refine ⟨_, rfl, p, ca, m, 6, rfl, hpot, by omega, by decide, by decide, fun wy H1 w0 w6 q1 b1 => ?_⟩
    have d1 := d0.draw q1 b1
    refine ⟨_, rfl, (n : Int), rfl, RgOk.of_le (by omega) (by omega) (by omega) (by omega), fun D hD => ?_⟩
    have d2 := d1.new (o := .lst (rgV 0 (n : Int))) hD
    have D0 := d1.free hD
    have nDp : D ≠ p := (let ⟨_, e⟩ := hpot.at; ne_of_none e D0 : p ≠ D).symm
    refine ⟨RSt H p ca n 11 wy, ?_, ?_⟩
    · refine ⟨_, rfl, rfl, _, rfl, iteI (fun c => ?_) (fun c => ?_)⟩
      · refine ⟨_, rfl, D, _, rfl, SqL.of upd_same, fun L hL => ?_⟩
        have d3 := d2.new (o := .lst (rgV 0 (n : Int)).reverse) hL
        refine ⟨L, ((List.range n).map fun i : Nat => (i : Int)).reverse, none, m + 1, rfl, ?_, List.reverse_perm _, d2.free hL, (let ⟨_, e⟩ := d2.pot.at; ne_of_none e hL : p ≠ L).symm, d3, by omega⟩
        rw [upd_same, ord_rg, List.map_reverse]
      · exact ⟨D, ((List.range n).map fun i : Nat => (i : Int)), none, m + 1, rfl, by rw [upd_same, ord_rg], List.Perm.refl _, D0, nDp, d2, by omega⟩
    · rintro σ H2 ⟨D, os, l, mm, rfl, hx, ho, D0, nDp, d, hmm⟩
      refine ⟨RSt H p ca n 11 wy, ?_, ?_⟩
      · refine ⟨_, rfl, rfl, _, rfl, iteI (fun c => ?_) (fun c => ⟨D, os, l, mm, rfl, hx, ho, D0, nDp, d, hmm⟩)⟩
        refine ⟨small1000 (by decide), fun L hL => ?_⟩
        refine ⟨fun k σ H' => ∃ (D : Addr) (os : List Int), σ = [some (.ref p), some (.int n), some (.int wy), some (.ref D), none, l, none, none, none] ∧ H' D = some (.lst (os.map V.int)) ∧ Dbl n os ∧ H D = none ∧ D ≠ p ∧ Drawn H H' p ca mm ∧ k = 4 - os.length, ⟨3, L, [0], rfl, upd_same, .inl rfl, d.free hL, (let ⟨_, e⟩ := d.pot.at; ne_of_none e hL : p ≠ L).symm, d.new hL, rfl⟩, ?_⟩
        rintro k σ H3 ⟨D, os, rfl, hx, hd, D0, nDp, d, rfl⟩
        refine ⟨_, rfl, D, _, rfl, .inl (SqL.of hx), _, rfl, _, _, rfl, rfl, _, rfl, ?_⟩
        have ll : ((os.map V.int).length : Int) = (os.length : Int) := by rw [List.length_map]
        rw [ll]
        have l4 : os.length ≤ 4 := by rcases hd with rfl | ⟨rfl, _⟩ | ⟨rfl, _⟩ <;> decide
        refine iteD (fun c => ?_) (fun c => ?_)
        · refine ⟨fun σ' H' => ∃ m', m' < 4 - os.length ∧ _, fun σ' H' q => q, ?_⟩
          refine ⟨_, rfl, D, rfl, ⟨_, SqL.of hx⟩, fun A hA => ?_⟩
          have A0 := d.free hA
          have nAp : A ≠ p := (let ⟨_, e⟩ := d.pot.at; ne_of_none e hA : p ≠ A).symm
          have nDA : D ≠ A := ne_of_none hx hA
          refine lc_it (walk_list (xs := os.map V.int)) (fun i H4 => Same H3 H4 ∧ H4 A = some (.lst (((os.take i).map fun k => 2 * k).map V.int))) ?_ (fun _ _ _ q => SqL.of (q.1 _ _ hx)) ?_ ?_
          · exact ⟨newS hA, upd_same⟩
          · rintro i x H4 H5 hi ⟨s4, h4⟩ ⟨rfl, hix⟩
            rw [List.getElem?_map] at hix
            obtain ⟨v, hv, rfl⟩ := Option.map_eq_some_iff.mp hix
            refine ⟨rfl, yes ⟨_, rfl, 2, v, rfl, rfl, .inl (by decide), _, h4, ?_, ?_, ?_⟩⟩
            · rw [List.length_map, List.length_map, List.length_take]
              exact small1000 (by omega)
            · exact fun b o e => by rw [upd_ne (ne_of_none e hA)]; exact s4 _ _ e
            · rw [upd_same, take_succ_map (fun k => 2 * k) hv, List.map_append]
              rfl
          · rintro H4 ⟨s4, h4⟩
            rw [List.length_map, List.take_length] at h4
            have hx4 := s4 _ _ hx
            refine ⟨_, rfl, D, rfl, ⟨_, SqL.of hx4⟩, fun B hB => ?_⟩
            have nAB : A ≠ B := ne_of_none h4 hB
            refine lc_it (walk_list (xs := os.map V.int)) (fun i H5 => Same H4 H5 ∧ H5 B = some (.lst (((os.take i).map fun k => 2 * k + 1).map V.int))) ?_ (fun _ _ _ q => SqL.of (q.1 _ _ hx4)) ?_ ?_
            · exact ⟨newS hB, upd_same⟩
            · rintro i x H5 H6 hi ⟨s5, h5⟩ ⟨rfl, hix⟩
              rw [List.getElem?_map] at hix
              obtain ⟨v, hv, rfl⟩ := Option.map_eq_some_iff.mp hix
              refine ⟨rfl, yes ⟨_, rfl, 2, v, rfl, rfl, .inl (by decide), _, _, rfl, rfl, _, h5, ?_, ?_, ?_⟩⟩
              · rw [List.length_map, List.length_map, List.length_take]
                exact small1000 (by omega)
              · exact fun b o e => by rw [upd_ne (ne_of_none e hB)]; exact s5 _ _ e
              · rw [upd_same, take_succ_map (fun k => 2 * k + 1) hv, List.map_append]
                rfl
            · rintro H5 ⟨s5, h5⟩
              rw [List.length_map, List.take_length] at h5
              refine ⟨A, B, _, _, rfl, rfl, s5 _ _ h4, h5, ?_, fun C hC => ?_⟩
              · rw [List.length_map, List.length_map, List.length_map, List.length_map]
                exact sz _ (by omega)
              · have d5 := (d.same (s4.trans s5))
                refine ⟨4 - (os.map (fun k => 2 * k) ++ os.map fun k => 2 * k + 1).length, ?_, C, _, rfl, ?_, hd.next h3 (by omega), d5.free hC, (let ⟨_, e⟩ := d5.pot.at; ne_of_none e hC : p ≠ C).symm, d5.new hC, rfl⟩
                · have : os.length ≠ 0 := by rcases hd with rfl | ⟨rfl, _⟩ | ⟨rfl, _⟩ <;> decide
                  rw [List.length_append, List.length_map, List.length_map]
                  omega
                · rw [upd_same, List.map_append]
        · refine ⟨_, rfl, D, rfl, ⟨_, SqL.of hx⟩, fun A hA => ?_⟩
          have A0 := d.free hA
          have nAp : A ≠ p := (let ⟨_, e⟩ := d.pot.at; ne_of_none e hA : p ≠ A).symm
          refine lc_it (walk_list (xs := os.map V.int)) (fun i H4 => Same H3 H4 ∧ H4 A = some (.lst (((os.take i).filter fun k => decide (k < (n : Int))).map V.int))) ?_ (fun _ _ _ q => SqL.of (q.1 _ _ hx)) ?_ ?_
          · exact ⟨newS hA, upd_same⟩
          · rintro i x H4 H5 hi ⟨s4, h4⟩ ⟨rfl, hix⟩
            rw [List.getElem?_map] at hix
            obtain ⟨v, hv, rfl⟩ := Option.map_eq_some_iff.mp hix
            refine ⟨rfl, _, rfl, _, rfl, _, _, rfl, rfl, _, rfl, iteD (fun c2 => ?_) (fun c2 => ?_)⟩
            · refine ⟨_, rfl, _, h4, ?_, ?_, ?_⟩
              · rw [List.length_map]
                refine small1000 (Nat.le_trans (List.length_filter_le _ _) ?_)
                rw [List.length_take]
                omega
              · exact fun b o e => by rw [upd_ne (ne_of_none e hA)]; exact s4 _ _ e
              · rw [upd_same, List.take_add_one, hv, List.filter_append, List.map_append]
                show _ = some (HO.lst (_ ++ (List.filter (fun k => decide (k < (n : Int))) [v]).map V.int))
                rw [List.filter_cons, if_pos (decide_eq_true c2)]
                rfl
            · refine ⟨s4, ?_⟩
              rw [h4, List.take_add_one, hv, List.filter_append, List.map_append]
              show _ = some (HO.lst (_ ++ (List.filter (fun k => decide (k < (n : Int))) [v]).map V.int))
              rw [List.filter_cons, if_neg (by rw [decide_eq_false c2]; exact Bool.false_ne_true)]
              show _ = some (HO.lst (_ ++ []))
              rw [List.append_nil]
          · rintro H4 ⟨s4, h4⟩
            rw [List.length_map, List.take_length] at h4
            exact ⟨A, _, l, mm, rfl, h4, hd.done h1 h3 (by omega), A0, nAp, d.same s4, hmm⟩
      · rintro σ H2 ⟨D, os, l, mm, rfl, hx, ho, D0, nDp, d, hmm⟩
        refine ⟨fun σ H' => ∃ (D : Addr) (os : List Int) (l : Option V) (m : Nat), σ = [some (.ref p), some (.int n), some (.int wy), some (.ref D), none, l, none, none, none] ∧
            H' D = some (.lst (os.map V.int)) ∧ Ord n os ∧ H D = none ∧ D ≠ p ∧ Drawn H H' p ca m ∧ m ≤ 20, ?_, ?_⟩
        · refine ⟨_, rfl, _, _, rfl, rfl, _, rfl, iteD (fun c => ?_) (fun c => ⟨D, os, l, mm, rfl, hx, ho, D0, nDp, d, by omega⟩)⟩
          refine ⟨_, rfl, sz 0, fun L hL => ⟨_, _, rfl, ?_⟩⟩
          have L0 := d.free hL
          have nLp : L ≠ p := (let ⟨_, e⟩ := d.pot.at; ne_of_none e hL : p ≠ L).symm
          have nDL : D ≠ L := ne_of_none hx hL
          refine ⟨fun k σ H' => ∃ (left od : List Int) (m : Nat), σ = [some (.ref p), some (.int n), some (.int wy), some (.ref L), none, some (.ref D), none, none, none] ∧ H' L = some (.lst (od.map V.int)) ∧ H' D = some (.lst (left.map V.int)) ∧
              Ord n (left ++ od) ∧ Drawn H H' p ca m ∧ m + left.length ≤ 20 ∧ k = left.length, ⟨os.length, os, [], mm, rfl, upd_same, by rw [upd_ne nDL]; exact hx, by rw [List.append_nil]; exact ho, d.new hL, by rw [ho.len]; omega, rfl⟩, ?_⟩
          rintro k σ H3 ⟨left, od, m3, rfl, hod, hleft, hord, d3, hm3, rfl⟩
          refine ⟨_, rfl, sz 0, fun Z hZ => ?_⟩
          have d4 := d3.new (o := .lst []) hZ
          have s4 : Same H3 (L2.upd H3 Z (.lst [])) := newS hZ
          refine ⟨_, _, .lst (SqL.of (s4 _ _ hleft)) (dpAll_ints left), .lst (SqL.of upd_same) .nil, (fine_ints left).lst, sh_lnil, _, rfl, ?_⟩
          rw [eqv_lnil]
          by_cases c : left = []
          · subst c
            exact iteF ⟨L, od, _, m3, rfl, s4 _ _ hod, hord, L0, nLp, d4, by omega⟩
          · have c' : ¬ left.map PyData.int = [] := fun e => c (List.map_eq_nil_iff.mp e)
            rw [decide_eq_false c']
            have lpos : 0 < left.length := List.length_pos_iff.mpr c
            refine iteT ⟨fun σ' H' => ∃ m', m' < left.length ∧ _, fun σ' H' q => q, ?_⟩
            have hln := hord.len
            rw [List.length_append] at hln
            refine ⟨_, rfl, .inl ⟨rfl, _, SqL.of (s4 _ _ hod)⟩, _, rfl, .inl ⟨rfl, _, SqL.of (s4 _ _ hleft)⟩, _, rfl, _, rfl, D, _, rfl, .inl (SqL.of (s4 _ _ hleft)), p, ca, m3, (left.length : Int), ?_, d4.pot, by omega, by omega, by omega, fun v H5 v0 v1 q5 b5 => ?_⟩
            · rw [List.length_map]
              rfl
            obtain ⟨j, rfl⟩ := Int.eq_ofNat_of_zero_le v0
            have hj : j < left.length := by omega
            have d5 := d4.draw q5 b5
            have hl5 := lst_draw b5 nDp (s4 _ _ hleft)
            have ho5 := lst_draw b5 nLp (s4 _ _ hod)
            refine ⟨D, _, (j : Int), j, .int left[j], rfl, rfl, hl5, by omega, by omega, ?_, by rw [List.getElem?_map, List.getElem?_eq_getElem hj]; rfl, ?_⟩
            · rw [seqIndex_of v0 (by rw [List.length_map]; exact v1)]
              rfl
            · refine ⟨L, _, _, rfl, rfl, by rw [upd_ne nDL.symm]; exact ho5, by rw [List.length_map]; exact small1000 (by omega), (left.eraseIdx j).length, ?_, left.eraseIdx j, od ++ [left[j]], m3 + 1, rfl, ?_, ?_, ?_, ?_, ?_, rfl⟩
              · rw [List.length_eraseIdx_of_lt hj]
                omega
              · rw [upd_same, List.map_append]
                rfl
              · rw [upd_ne nDL, upd_same]
                show _ = some (HO.lst ((left.eraseIdx j).map V.int))
                rw [eraseIdx_mapV]
              · refine List.Perm.trans ?_ hord
                have e1 := eraseIdx_perm hj
                have e2 : (left.eraseIdx j ++ (od ++ [left[j]])).Perm ((left[j] :: left.eraseIdx j) ++ od) := by
                  rw [← List.append_assoc]
                  exact List.perm_append_singleton _ _
                exact e2.trans (e1.append_right od)
              · exact (d5.put D0 nDp.symm).put L0 nLp.symm
              · rw [List.length_eraseIdx_of_lt hj]
                omega
        · rintro σ H3 ⟨D, os, l, m3, rfl, hx, ho, D0, nDp, d3, hm3⟩
          have lo := ho.len
          refine ⟨_, rfl, _, rfl, p, ca, m3, (n : Int), rfl, d3.pot, by omega, by omega, by omega, fun v H4 v0 v1 q4 b4 => ?_⟩
          have d4 := d3.draw q4 b4
          have hx4 := lst_draw b4 nDp hx
          obtain ⟨k, rfl⟩ := Int.eq_ofNat_of_zero_le v0
          have hk : k ≤ (os.map V.int).length := by rw [List.length_map]; omega
          refine ⟨_, rfl, _, rfl, (k : Int), rfl, nop ⟨D, _, rfl, SqL.of hx4, fun A hA => ?_⟩⟩
          have sA : Same H4 (L2.upd H4 A (.lst (cutV (os.map V.int) (some (k : Int)) none))) := newS hA
          have d5 := d4.same sA
          refine ⟨_, rfl, nop ⟨_, rfl, (k : Int), rfl, D, _, rfl, SqL.of (sA _ _ hx4), fun B hB => ?_⟩⟩
          have sB : Same (L2.upd H4 A (.lst (cutV (os.map V.int) (some (k : Int)) none))) _ := newS (o := .lst (cutV (os.map V.int) none (some (k : Int)))) hB
          have d6 := d5.same sB
          refine ⟨A, B, _, _, rfl, rfl, sB _ _ upd_same, upd_same, ?_, fun C hC => ?_⟩
          · have l1 := cutV_length (os.map V.int) (some (k : Int)) none
            have l2 := cutV_length (os.map V.int) none (some (k : Int))
            rw [List.length_map] at l1 l2
            exact sz _ (by omega)
          rw [cut_from os k (by omega), cut_to os k (by omega), ← List.map_append]
          rw [cut_from os k (by omega)] at hB hC
          rw [cut_to os k (by omega)] at hC
          rw [cut_from os k (by omega), cut_to os k (by omega)] at d6
          have hord := ord_rot ho k
          generalize os.drop k ++ os.take k = os2 at hord ⊢
          have d7 := d6.new (o := .lst (os2.map V.int)) hC
          have C0 := d6.free hC
          have nCp : C ≠ p := (let ⟨_, e⟩ := d6.pot.at; ne_of_none e hC : p ≠ C).symm
          have lo2 := hord.len
          refine ⟨_, rfl, p, ca, _, 4, rfl, d7.pot, by omega, by decide, by decide, fun f H5 f0 f1 q5 b5 => ?_⟩
          have d8 := d7.draw q5 b5
          have hx5 := lst_draw b5 nCp upd_same
          obtain ⟨fn, rfl⟩ := Int.eq_ofNat_of_zero_le f0
          refine ⟨sz 0, fun N hN => ?_⟩
          have nCN : C ≠ N := ne_of_none hx5 hN
          have N0 := d8.free hN
          have d9 := d8.new (o := .lst []) hN
          refine ⟨_, rfl, C, rfl, ⟨_, SqL.of (by rw [upd_ne nCN]; exact hx5)⟩, ?_⟩
          refine for_it (walk_list (xs := os2.map V.int)) (fun i σ H' => ∃ kv, σ = [some (.ref p), some (.int n), some (.int wy), some (.ref C), kv, l, some (.int (k : Int)), some (.int (fn : Int)), some (.ref N)] ∧
              H' N = some (.lst (((os2.take i).map fun a => farN n a fn).map V.int)) ∧ H' C = some (.lst (os2.map V.int)) ∧ But p p H H') ⟨_, rfl, upd_same, by rw [upd_ne nCN]; exact hx5, d9.but⟩ (fun _ _ _ _ ⟨_, _, _, q, _⟩ => SqL.of q) ?_ ?_
          · rintro i x σ H6 H7 hi ⟨kv, rfl, h6, c6, b6⟩ ⟨rfl, hix⟩
            rw [List.getElem?_map] at hix
            obtain ⟨v, hv, rfl⟩ := Option.map_eq_some_iff.mp hix
            have hvm : v ∈ os2 := List.mem_of_getElem? hv
            have hvb := hord.mem hvm
            have hsz : (((os2.take i).map fun a => farN n a fn).map V.int).length < sizeLine := by
              rw [List.length_map, List.length_map, List.length_take]
              exact small1000 (by omega)
            have e12 : (10 : Int) ^ (12 : Int).toNat = 1000000000000 := by decide
            have e11 : (9 : Int) * 10 ^ (11 : Int).toNat = 900000000000 := by decide
            have cm : CMul v v := .inl ⟨by omega, by omega⟩
            refine ⟨_, rfl, .inl ⟨rfl, _, SqL.of h6⟩, _, rfl, ⟨_, _, rfl, rfl, ⟨by decide, by decide, by decide⟩, _, rfl, ⟨_, _, rfl, rfl, ⟨_, _, rfl, rfl, _, rfl, ⟨_, _, rfl, rfl, ?_⟩⟩⟩⟩⟩
            refine ⟨_, rfl, _, rfl, ⟨_, _, rfl, rfl, cm, ⟨_, _, rfl, rfl, .inr ⟨by decide, by decide⟩, _, rfl, ⟨_, _, rfl, rfl, ⟨_, _, rfl, rfl, ?_⟩⟩⟩⟩⟩
            refine ⟨_, rfl, ⟨_, _, rfl, rfl, .inl ⟨by decide, by decide⟩, ⟨_, _, rfl, rfl, ⟨by decide, by decide, by decide⟩, ⟨_, _, rfl, rfl, .inl ⟨by decide, by decide⟩, ⟨_, _, rfl, rfl, ?_⟩⟩⟩⟩⟩
            refine ⟨(by show 4 ≤ sizeLine; exact sz 4 (by decide)), fun F hF => ?_⟩
            rw [e12, e11]
            have hfar : atI [V.int v, .int (1000000000000 - (n : Int) + 1 + v), .int (v * v * 1009 + v + 5), .int (31 * v + 900000000000)] (fn : Int) = some (.int (farN n v fn)) := by
              have : fn = 0 ∨ fn = 1 ∨ fn = 2 ∨ fn = 3 := by omega
              rcases this with rfl | rfl | rfl | rfl <;> rfl
            refine ⟨_, rfl, F, _, _, _, rfl, rfl, SqL.of upd_same, hfar, ?_⟩
            have nNF : N ≠ F := ne_of_none h6 hF
            refine ⟨N, _, _, rfl, rfl, by rw [upd_ne nNF]; exact h6, hsz, _, rfl, ?_, ?_, ?_⟩
            · rw [upd_same, take_succ_map (fun a => farN n a fn) hv, List.map_append]
              rfl
            · rw [upd_ne nCN, upd_ne (ne_of_none c6 hF)]
              exact c6
            · refine But.new ?_ N0
              exact b6.same (newS hF)
          · rintro σ H6 ⟨kv, rfl, h6, c6, b6⟩
            rw [List.length_map, List.take_length] at h6
            refine ⟨_, rfl, N, _, rfl, .inl ⟨SqL.of h6, fun t ht => ?_⟩⟩
            refine out (os2.map fun a => farN n a fn) _ _ ⟨t, rfl, upd_same⟩ (by rw [List.length_map]; exact lo2) (fun x hx => ?_) ?_ (b6.same (newS ht))
            · obtain ⟨a, ha, rfl⟩ := List.mem_map.mp hx
              exact farN_bd ⟨by omega, by omega⟩ (hord.mem ha)
            · refine (List.pairwise_map.mpr ?_)
              refine List.Pairwise.imp_of_mem (fun {a b} ha hb q e => q ?_) hord.nodup
              have h1 := hord.mem ha
              have h2 := hord.mem hb
              exact farN_inj ⟨h1.1, by omega⟩ ⟨h2.1, by omega⟩ e
end
end RC
namespace RC
open PySem PySem.Spec PyProof.Rows L2
theorem code_le_lex {B : Int} : ∀ {a b : List Int}, a.length = b.length → TS.Bd B a → TS.Bd B b → HT.lexLt b a = true → TS.code B b < TS.code B a
  | [], [], _, _, _, h => by cases (show false = true from h)
  | [], _ :: _, l, _, _, _ => by cases l
  | _ :: _, [], l, _, _, _ => by cases l
  | x :: a, y :: b, l, ha, hb, h => by
    have l : a.length = b.length := Nat.succ.inj l
    have h : (if y = x then HT.lexLt b a else decide (y < x)) = true := h
    by_cases e : y = x
    · rw [if_pos e] at h
      rw [e]
      exact (TS.code_same l.symm).mpr (code_le_lex l ha.tail hb.tail h)
    · rw [if_neg e] at h
      exact TS.code_lt l.symm hb.tail ha.tail (of_decide_eq_true h)
theorem code_lexLe {B : Int} {a b : List Int} (l : a.length = b.length) (ha : TS.Bd B a) (hb : TS.Bd B b) (h : TS.code B a ≤ TS.code B b) : lexLe a b := by
  unfold lexLe
  cases e : HT.lexLt b a with
  | false => rfl
  | true =>
    have := code_le_lex l ha hb e
    omega
theorem paired_perm {α β : Type} {R : α → β → Prop} {xs ys : List α} (p : ys.Perm xs) : ∀ {ws : List β}, Paired R xs ws → ∃ ws', Paired R ys ws' ∧ ws'.Perm ws := by
  induction p with
  | nil => intro ws h; exact ⟨ws, h, .refl _⟩
  | cons x p ih =>
    intro ws h
    cases h with
    | cons a t =>
      obtain ⟨ws', h1, h2⟩ := ih t
      exact ⟨_ :: ws', .cons a h1, .cons _ h2⟩
  | swap x y l =>
    intro ws h
    cases h with
    | cons a t =>
      cases t with
      | cons b t => exact ⟨_, .cons b (.cons a t), .swap _ _ _⟩
  | trans p1 p2 ih1 ih2 =>
    intro ws h
    obtain ⟨w1, h1, q1⟩ := ih2 h
    obtain ⟨w2, h2, q2⟩ := ih1 h1
    exact ⟨w2, h2, q2.trans q1⟩
theorem paired_mem {α β : Type} {R : α → β → Prop} : ∀ {xs : List α} {ws : List β}, Paired R xs ws → ∀ w ∈ ws, ∃ x ∈ xs, R x w
  | _, _, .nil, w, h => by cases h
  | _, _, .cons a t, w, h => by
    rcases List.mem_cons.mp h with e | e
    · rw [e]; exact ⟨_, List.mem_cons_self, a⟩
    · obtain ⟨x, hx, hr⟩ := paired_mem t w e
      exact ⟨x, List.mem_cons_of_mem _ hx, hr⟩
theorem paired_mem1 {α β : Type} {R : α → β → Prop} : ∀ {xs : List α} {ws : List β}, Paired R xs ws → ∀ x ∈ xs, ∃ w ∈ ws, R x w
  | _, _, .nil, w, h => by cases h
  | _, _, .cons a t, w, h => by
    rcases List.mem_cons.mp h with e | e
    · rw [e]; exact ⟨_, List.mem_cons_self, a⟩
    · obtain ⟨x, hx, hr⟩ := paired_mem1 t w e
      exact ⟨x, List.mem_cons_of_mem _ hx, hr⟩
theorem paired_pw {α β : Type} {R : α → β → Prop} {S : α → α → Prop} {S2 : β → β → Prop} (hs : ∀ x y a b, R x a → R y b → S x y → S2 a b) : ∀ {xs : List α} {ws : List β}, Paired R xs ws → xs.Pairwise S → ws.Pairwise S2
  | _, _, .nil, _ => .nil
  | _, _, .cons a t, h => by
    cases h with
    | cons h1 h2 =>
      refine .cons (fun w hw => ?_) (paired_pw hs t h2)
      obtain ⟨x, hx, hr⟩ := paired_mem t w hw
      exact hs _ _ _ _ a hr (h1 x hx)
theorem paired_unsnoc {α β : Type} {R : α → β → Prop} : ∀ {xs : List α} {ys : List β} {x : α} {y : β}, Paired R (xs ++ [x]) (ys ++ [y]) → Paired R xs ys ∧ R x y
  | [], [], _, _, h => by
    cases h with
    | cons a t => exact ⟨.nil, a⟩
  | [], _ :: ys, _, y, h => by
    have := h.length
    simp at this
  | _ :: xs, [], x, _, h => by
    have := h.length
    simp at this
  | _ :: xs, _ :: ys, _, _, h => by
    cases h with
    | cons a t =>
      obtain ⟨h1, h2⟩ := paired_unsnoc t
      exact ⟨.cons a h1, h2⟩
theorem snoc_of {α : Type} {l : List α} (h : l ≠ []) : ∃ a b, l = a ++ [b] := by
  obtain ⟨a, b, e⟩ := (List.eq_nil_or_concat l).resolve_left h
  exact ⟨a, b, by rw [e, List.concat_eq_append]⟩
/-- the last of sorted readings is the greatest -/
theorem gr_sorted {ns g : List Int} {ws : List (List Int)} (p : (ws ++ [g]).Perm (rots ns)) (hb : ∀ x ∈ rots ns, TS.Bd 100 x ∧ x.length = ns.length) (h : (ws ++ [g]).Pairwise fun a b => TS.code 100 a ≤ TS.code 100 b) :
    g ∈ rots ns ∧ (∀ x ∈ rots ns, lexLe x g) := by
  have gm : g ∈ rots ns := p.mem_iff.mp (List.mem_append_right _ (List.mem_singleton_self _))
  refine ⟨gm, fun x hx => ?_⟩
  have hx2 := p.mem_iff.mpr hx
  rcases List.mem_append.mp hx2 with q | q
  · have := (List.pairwise_append.mp h).2.2 x q g (List.mem_singleton_self _)
    exact code_lexLe ((hb x hx).2.trans (hb g gm).2.symm) (hb x hx).1 (hb g gm).1 this
  · rw [List.mem_singleton.mp q]
    exact lexLe_refl g
theorem gr_count {ns u g : List Int} {ws : List (List Int)} (p : ((ws ++ [u]) ++ [g]).Perm (rots ns)) (hb : ∀ x ∈ rots ns, TS.Bd 100 x ∧ x.length = ns.length) (h : ((ws ++ [u]) ++ [g]).Pairwise fun a b => TS.code 100 a ≤ TS.code 100 b) :
    (1 < (rots ns).count g) ↔ u = g := by
  rw [← p.count_eq]
  have cg : ((ws ++ [u]) ++ [g]).count g = (ws ++ [u]).count g + 1 := by rw [List.count_append, List.count_singleton_self]
  rw [cg]
  constructor
  · intro c
    have c1 : 0 < (ws ++ [u]).count g := by omega
    have m := List.count_pos_iff.mp c1
    have gm : g ∈ rots ns := p.mem_iff.mp (List.mem_append_right _ (List.mem_singleton_self _))
    have um : u ∈ rots ns := p.mem_iff.mp (List.mem_append_left _ (List.mem_append_right _ (List.mem_singleton_self _)))
    have pw := List.pairwise_append.mp h
    have le1 := pw.2.2 u (List.mem_append_right _ (List.mem_singleton_self _)) g (List.mem_singleton_self _)
    rcases List.mem_append.mp m with q | q
    · have le2 := (List.pairwise_append.mp pw.1).2.2 g q u (List.mem_singleton_self _)
      have lu := (hb u um).2.trans (hb g gm).2.symm
      exact lex_anti (code_lexLe lu.symm (hb g gm).1 (hb u um).1 le2) (code_lexLe lu (hb u um).1 (hb g gm).1 le1)
    · exact (List.mem_singleton.mp q).symm
  · intro e
    subst e
    rw [List.count_append, List.count_singleton_self]
    omega
theorem rots_bd {ns : List Int} (h : ∀ x ∈ ns, 0 ≤ x ∧ x ≤ 99) : ∀ r ∈ rots ns, TS.Bd 100 r ∧ r.length = ns.length := by
  intro r hr
  obtain ⟨i, hi, rfl⟩ := List.mem_map.mp hr
  have hi := List.mem_range.mp hi
  refine ⟨fun x hx => ?_, ?_⟩
  · have : x ∈ ns := by
      rcases List.mem_append.mp hx with q | q
      · exact List.mem_of_mem_drop q
      · exact List.mem_of_mem_take q
    have := h x this
    omega
  · show (ns.drop i ++ ns.take i).length = _
    rw [List.length_append, List.length_drop, List.length_take]
    omega
theorem atI_last2 (xs : List V) (u v : V) : atI ((xs ++ [u]) ++ [v]) (-2) = some u := by
  have hl : ((xs ++ [u]) ++ [v]).length = xs.length + 2 := by simp
  have e : ixN ((xs ++ [u]) ++ [v]).length (-2) = some xs.length := by
    rw [hl]
    unfold ixN
    simp
    omega
  unfold atI
  rw [e]
  simp
section
variable {P : Program} {w : World} {K : PySem.W.Frag} {mg : PySem.Str → Option Value} {base : Heap}
def spReading (K : PySem.W.Frag) : Sp := fun vs H Q _ => ∃ (a : Addr) (ns : List Int), vs = [.ref a] ∧ H a = some (.tup (ns.map V.int)) ∧ 1 ≤ ns.length ∧ ns.length ≤ 60 ∧ (∀ x ∈ ns, 0 ≤ x ∧ x ≤ 99) ∧
  ∀ r t H', GR ns r → TupI K H' t r → Same H H' → Q t H'
theorem tupI_inj {K : PySem.W.Frag} {H : Hp} {x : V} {n m : List Int} (h1 : TrI H x n) (h2 : TrI H x m) : n = m := by
  obtain ⟨t, rfl, a⟩ := h1
  obtain ⟨t', e, b⟩ := h2
  cases e
  rw [a] at b
  have e : n.map V.int = m.map V.int := HO.tup.inj (Option.some.inj b)
  exact (List.map_inj_right fun _ _ q => V.int.inj q).mp e
theorem ok_reading (T : Tx K mg) : Okd P w K mg base 1 (He.fAd K ("_law_reading", none)) P_reading (spReading K) := by
  refine okd T 52 d_reading rfl rfl (N := N_reading) sc_reading (fun _ _ _ _ _ _ us hl => match us, hl with | [_], _ => rfl) (fun vs H Q E h => ?_) (fun cdv A outer s H vs Q E hr h => ?_)
  · obtain ⟨a, ns, rfl, _⟩ := h
    rfl
  · obtain ⟨a, ns, rfl, ha, h1, h60, hb, out⟩ := h
    refine ⟨_, pss_cons (ps_set (i := 1) sc_reading.nd rfl (.inl rfl) (pe_callB (cr_sortT (d := ns.length) (B := 100) h1) (by rfl) T.b_sorted (by decide +kernel) (pa_cons
        (pe_lc (own := [("_law_k", 2)]) (g := gName 2) (tt := tYes) (te := tOp (rCatA K) (tSl (rSlA K) (tVar 0) (tPart (tVar 2)) tNoPart) (tSl (rSlA K) (tVar 0) tNoPart (tPart (tVar 2)))) rfl sc_reading.nd
          (pi_range1 rfl T.b_range (pa_cons (pe_callB call_len_seq (by rfl) T.b_len PySem.boot_len (pa_cons (pv 0) pa_nil)) pa_nil))
          (blkOk_by (own := [("_law_k", 2)]) (N := N_reading) (sc := defScope s_reading) (by decide +kernel)) (fun _ _ _ _ _ => by exact pg_name (i := 2) sc_reading.nd rfl (Or.inl rfl)) (fun _ _ _ _ _ => pts_nil)
          (fun _ _ _ _ _ => by exact pe_op op_catA (pe_slice sl_tupA (pv 0) (po_some (pv 2)) po_none) (pe_slice sl_tupA (pv 0) po_none (po_some (pv 2))))) pa_nil)))
      (pss_cons (ps_if (PW.pt (pw_and (pt_cmpR op_gt (pe_callB call_len_seq (by rfl) T.b_len PySem.boot_len (pa_cons (pv 1) pa_nil)) pe_int (nomark _))
        (pw_and1 (pt_cmpR (op_eqT hr.units) (pe_ix ix_list (pv 1) (pe_un un_neg pe_int) (fun _ _ => rfl)) (pe_ix ix_list (pv 1) (pe_un un_neg pe_int) (fun _ _ => rfl)) (nomark _))))) (pss_one (ps_ret (pe_tup pa_nil))) pss_nil)
      (pss_one (ps_ret (pe_ix ix_list (pv 1) (pe_un un_neg pe_int) (fun _ _ => rfl))))), ?_⟩
    refine ⟨_, rfl, a, _, rfl, .inr (SqT.of ha), (ns.length : Int), ?_, by omega, by omega, fun D hD => ?_⟩
    · rw [List.length_map]
    refine lc_it (walk_range (lo := 0) (n := ns.length)) (fun i H1 => Same H H1 ∧ ∃ xs, H1 D = some (.lst xs) ∧ Paired (TrI H1) xs ((rots ns).take i)) ?_ (fun _ _ _ _ => trivial) ?_ ?_
    · exact ⟨newS hD, [], upd_same, by rw [List.take_zero]; exact .nil⟩
    · rintro i x H1 H2 hi ⟨s1, xs, hx, px⟩ ⟨rfl, rfl⟩
      refine ⟨rfl, ?_⟩
      have hix : V.int ((0 : Int) + (i : Int)) = V.int (i : Int) := by rw [Int.zero_add]
      refine yes ⟨_, rfl, _, rfl, (i : Int), hix, nop (rSlA_from (s1 _ _ ha) (by omega) fun t H3 h3 s3 => ?_)⟩
      refine ⟨_, rfl, nop ⟨_, rfl, (i : Int), hix, rSlA_to (s3 _ _ (s1 _ _ ha)) (by omega) fun u H4 h4 s4 => ?_⟩⟩
      refine rCatA_ints (h3.keep (tupsS s4)) h4 (by rw [List.length_drop, List.length_take]; omega) fun z H5 h5 s5 => ?_
      have s15 := (s3.trans s4).trans s5
      refine ⟨xs, s15 _ _ hx, ?_, ?_⟩
      · have l1 := px.length
        rw [List.length_take, rots_len] at l1
        exact small1000 (by omega)
      · have k4 : TupS H5 (upd H5 D (.lst (xs ++ [z]))) := fun b ys e => by rw [upd_ne (ne_of e (s15 _ _ hx) (by intro z; cases z))]; exact e
        refine ⟨fun b o e => ?_, _, upd_same, ?_⟩
        · rw [upd_ne (ne_of_none e hD)]
          exact s15 _ _ (s1 _ _ e)
        · rw [rots_take hi]
          exact paired_snoc (Paired.mapP px fun _ _ z => (z.keep (tupsS s15)).keep k4) (h5.keep k4)
    · rintro H1 ⟨s1, xs, hx, px⟩
      rw [List.take_of_length_le (by rw [rots_len]; exact Nat.le_refl _)] at px
      have lx : xs.length = ns.length := by rw [← rots_len ns]; exact px.length
      have hbd := rots_bd hb
      refine ⟨D, xs, rfl, SqL.of hx, by omega, fun x hxm => ?_, fun ys p hperm hpw hp => ?_⟩
      · obtain ⟨g, gm, gt⟩ := paired_mem1 px x hxm
        exact ⟨g, gt.tupI, (hbd g gm).2, (hbd g gm).1⟩
      · obtain ⟨ws, pw, wperm⟩ := paired_perm hperm px
        have wpw : ws.Pairwise fun a b => TS.code 100 a ≤ TS.code 100 b := paired_pw (fun x y a b r1 r2 q => q a b r1.tupI r2.tupI) pw hpw
        have s2 : Same H1 (upd H1 p (.lst ys)) := newS hp
        have s02 := s1.trans s2
        have ly : ys.length = ns.length := by rw [hperm.length_eq, lx]
        have pw2 := Paired.mapP pw fun _ _ z => z.keep (tupsS s2)
        -- the last
        obtain ⟨yi, yl, rfl⟩ := snoc_of (fun e => by rw [e] at ly; have : 0 = ns.length := ly; omega : ys ≠ [])
        obtain ⟨wi, g, rfl⟩ := snoc_of (fun e => by
          have := pw.length
          rw [e, ly] at this
          have : ns.length = 0 := this
          omega : ws ≠ [])
        obtain ⟨gm, gmax⟩ := gr_sorted wperm hbd wpw
        obtain ⟨pw3, tl⟩ := paired_unsnoc pw2
        refine ⟨_, rfl, p, _, rfl, .inl (SqL.of upd_same), _, _, rfl, rfl, _, rfl, iteD (fun c => ?_) (fun c => ?_)⟩
        · have ne2 : yi ≠ [] := fun e => by
            rw [e] at c
            have c : (1 : Int) < 1 := c
            omega
          obtain ⟨yj, yk, rfl⟩ := snoc_of ne2
          obtain ⟨wj, u, rfl⟩ := snoc_of (fun e => by
            have := pw3.length
            rw [e, List.length_append] at this
            have : yj.length + 1 = 0 := this
            omega : wi ≠ [])
          obtain ⟨_, tk⟩ := paired_unsnoc pw3
          refine ⟨_, rfl, 2, rfl, p, _, _, _, rfl, rfl, SqL.of upd_same, atI_last2 _ _ _, ?_⟩
          refine ⟨_, rfl, 1, rfl, p, _, _, _, rfl, rfl, SqL.of upd_same, atI_last _ _, u, g, tk.tupI, tl.tupI, _, rfl, iteD (fun c2 => ?_) (fun c2 => ?_)⟩
          · refine ⟨sz 0, fun t ht => ?_⟩
            exact out [] _ _ ⟨g, gm, gmax, (if_pos ((gr_count wperm hbd wpw).mpr c2)).symm⟩ (TrI.tupI (ns := []) ⟨t, rfl, upd_same⟩) (s02.trans (newS ht))
          · refine ⟨_, rfl, 1, rfl, p, _, _, _, rfl, rfl, SqL.of upd_same, atI_last _ _, ?_⟩
            exact out g _ _ ⟨g, gm, gmax, (if_neg fun e => c2 ((gr_count wperm hbd wpw).mp e)).symm⟩ tl.tupI s02
        · have e1 : yi = [] := by
            cases yi with
            | nil => rfl
            | cons z zs =>
              exfalso
              refine c ?_
              rw [List.length_append]
              show (1 : Int) < (((z :: zs).length + 1 : Nat) : Int)
              rw [List.length_cons]
              omega
          subst e1
          have e2 : wi = [] := List.eq_nil_of_length_eq_zero (by rw [← pw3.length]; rfl)
          subst e2
          refine ⟨_, rfl, 1, rfl, p, _, _, _, rfl, rfl, SqL.of upd_same, atI_last _ _, ?_⟩
          refine out g _ _ ⟨g, gm, gmax, (if_neg ?_).symm⟩ tl.tupI s02
          rw [← wperm.count_eq]
          show ¬ 1 < List.count g [g]
          rw [List.count_singleton_self]
          omega
end
end RC
namespace RC
open PySem PySem.Spec PyProof.Rows L2
theorem iteB {b : Bool} {A B : Prop} (h1 : b = true → A) (h2 : b = false → B) : if b = true then A else B := by
  cases b with
  | true => exact iteT (h1 rfl)
  | false => exact iteF (h2 rfl)
theorem inV_nat (k : Nat) : ∀ l : List Nat, inV (.int (k : Int)) (l.map fun i : Nat => V.int (i : Int)) = l.contains k
  | [] => rfl
  | a :: l => by
    have ih := inV_nat k l
    unfold inV at ih ⊢
    rw [List.map_cons, List.any_cons, ih, List.contains_cons]
    congr 1
    show decide ((a : Int) = (k : Int)) = (k == a)
    by_cases e : k = a
    · rw [e, decide_eq_true rfl]
      exact (beq_self_eq_true a).symm
    · rw [decide_eq_false (show ¬ (a : Int) = (k : Int) by omega)]
      exact (beq_false_of_ne e).symm
theorem flat_nat : ∀ l : List Nat, (l.map fun i : Nat => V.int (i : Int)).all flatV = true
  | [] => rfl
  | a :: l => by
    rw [List.map_cons, List.all_cons, flat_nat l]
    rfl
theorem map_nat (l : List Nat) : (l.map fun i : Nat => (i : Int)).map V.int = l.map fun i : Nat => V.int (i : Int) := by
  rw [List.map_map]
  rfl
theorem isGt_at {c : List Int} {i j : Nat} {a b : Int} (h1 : c[i]? = some a) (h2 : c[j]? = some b) : isGt c i j = decide (b < a) := by
  unfold isGt
  rw [h1, h2]
theorem stop_some {c : List Int} {some : List Nat} {h : Nat} {side : Int} {i : Nat} (hi : i < c.length - 1) (hp : stopAt c some h side (i + 1) = true) (hn : ∀ j, j < i → stopAt c some h side (j + 1) = false) : stop c some h side = i + 1 := by
  have e : ((List.range (c.length - 1)).find? fun k => stopAt c some h side (k + 1)) = .some i :=
    List.find?_range_eq_some.mpr ⟨hp, List.mem_range.mpr hi, fun j hj => by rw [hn j hj]; rfl⟩
  unfold stop
  rw [e]
theorem stop_none {c : List Int} {some : List Nat} {h : Nat} {side : Int} (hn : ∀ j, j < c.length - 1 → stopAt c some h side (j + 1) = false) : stop c some h side = c.length := by
  have e : ((List.range (c.length - 1)).find? fun k => stopAt c some h side (k + 1)) = .none :=
    List.find?_range_eq_none.mpr fun j hj => by rw [hn j hj]; rfl
  unfold stop
  rw [e]
section
variable {P : Program} {w : World} {K : PySem.W.Frag} {mg : PySem.Str → Option Value} {base : Heap}
def spStop : Sp := fun vs H Q _ => ∃ (a : Addr) (x : V) (c : List Int) (some : List Nat) (h : Nat) (side : Int), vs = [.ref a, x, .int h, .int side] ∧ H a = .some (.tup (c.map V.int)) ∧ TrI H x (some.map fun i : Nat => (i : Int)) ∧ h < c.length ∧ c.length ≤ 60 ∧ (-1 ≤ side ∧ side ≤ 1) ∧
  Q (.int (stop c some h side : Nat)) H
theorem ok_stop (T : Tx K mg) : Okd P w K mg base 1 (He.fAd K ("_law_stop", none)) P_stop spStop := by
  refine okd T 54 d_stop rfl rfl (N := N_stop) sc_stop (fun _ _ _ _ _ _ us hl => match us, hl with | [_, _, _, _], _ => rfl) (fun vs H Q E h => ?_) (fun cdv A outer s H vs Q E hr h => ?_)
  · obtain ⟨a, x, c, some, h, side, rfl, _⟩ := h
    rfl
  · obtain ⟨a, x, c, sm, h, side, rfl, ha, ⟨b, rfl, hb⟩, hlt, h60, hsd, out⟩ := h
    refine ⟨_, pss_cons (ps_for PassesOwn.never rfl (pi_range2 rfl T.b_range (pa_cons pe_int (pa_cons (pe_callB call_len_seq (by rfl) T.b_len PySem.boot_len (pa_cons (pv 0) pa_nil)) pa_nil))) (pg_name (i := 4) sc_stop.nd rfl (.inl rfl))
        (pss_cons (ps_set (i := 5) sc_stop.nd rfl (.inl rfl) (pe_op op_mod (pe_op op_add (pv 2) (pe_op op_mul (pv 3) (pv 4))) (pe_callB call_len_seq (by rfl) T.b_len PySem.boot_len (pa_cons (pv 0) pa_nil))))
        (pss_one (ps_if (PW.pt (pw_and (pt_cmpR op_in_seq (pv 5) (pv 1) (by rfl)) (pw_and1 (pt_cmpR op_gt (pe_ix ix_tup (pv 0) (pv 5) (fun _ _ => rfl)) (pe_ix ix_tup (pv 0) (pv 2) (fun _ _ => rfl)) (nomark _)))))
          (pss_one (ps_ret (pv 4))) pss_nil))))
      (pss_one (ps_ret (pe_callB call_len_seq (by rfl) T.b_len PySem.boot_len (pa_cons (pv 0) pa_nil)))), ?_⟩
    have lc : ((c.map V.int).length : Int) = (c.length : Int) := by rw [List.length_map]
    refine ⟨_, rfl, a, _, rfl, .inr (SqT.of ha), 1, (c.length : Int), ?_, ⟨by omega, by omega, by omega, by omega⟩, ?_⟩
    · rw [lc]
    have en : ((c.length : Int) - 1).toNat = c.length - 1 := by omega
    rw [en]
    refine for_it (walk_range (lo := 1) (n := c.length - 1)) (fun i σ H' => ∃ u v, σ = [some (.ref a), some (.ref b), some (.int h), some (.int side), u, v] ∧ H' = H ∧ ∀ j, j < i → stopAt c sm h side (j + 1) = false) ⟨none, none, rfl, rfl, fun j hj => by omega⟩ (fun _ _ _ _ _ => trivial) ?_ ?_
    · rintro i x σ H1 H2 hi ⟨u, v, rfl, rfl, hn⟩ ⟨rfl, rfl⟩
      have ei : (1 : Int) + (i : Int) = ((i + 1 : Nat) : Int) := by omega
      have cpos : (0 : Int) < ((c.map V.int).length : Int) := by rw [lc]; omega
      have hspot : ((h : Int) + side * (1 + (i : Int))) % ((c.map V.int).length : Int) = ((spot c.length h side (i + 1) : Nat) : Int) := by
        unfold spot
        rw [lc, ei, Int.toNat_of_nonneg (Int.emod_nonneg _ (by omega))]
      have hsl : spot c.length h side (i + 1) < c.length := by
        unfold spot
        have := Int.emod_lt_of_pos ((h : Int) + side * ((i + 1 : Nat) : Int)) (show (0 : Int) < (c.length : Int) by omega)
        omega
      refine ⟨_, rfl, _, rfl, _, rfl, _, _, rfl, rfl, .inl ⟨by omega, by omega⟩, _, _, rfl, rfl, _, rfl, a, _, rfl, .inr (SqT.of ha), _, _, rfl, rfl, cpos, ?_⟩
      obtain ⟨sv, hsv⟩ : ∃ sv, c[spot c.length h side (i + 1)]? = some sv := ⟨_, List.getElem?_eq_getElem hsl⟩
      obtain ⟨hv, hhv⟩ : ∃ hv, c[h]? = some hv := ⟨_, List.getElem?_eq_getElem hlt⟩
      have eq1 : stopAt c sm h side (i + 1) = (inV (.int ((spot c.length h side (i + 1) : Nat) : Int)) (sm.map fun i : Nat => V.int (i : Int)) && decide (hv < sv)) := by
        rw [inV_nat]
        unfold stopAt
        rw [isGt_at hsv hhv]
      refine ⟨_, rfl, _, rfl, b, _, rfl, .inr (SqT.of hb), rfl, by rw [map_nat]; exact flat_nat sm, _, rfl, iteB (fun ec => ?_) (fun ec => ?_)⟩
      · have ec : inV (.int (((h : Int) + side * (1 + (i : Int))) % ((c.map V.int).length : Int))) ((sm.map fun i : Nat => (i : Int)).map V.int) = true := ec
        rw [hspot, map_nat] at ec
        rw [ec, Bool.true_and] at eq1
        refine ⟨_, rfl, _, rfl, a, _, _, _, rfl, rfl, SqT.of ha, (by show atI _ (((h : Int) + side * (1 + (i : Int))) % ((c.map V.int).length : Int)) = _; rw [hspot]; exact atI_nat (by rw [List.getElem?_map, hsv]; rfl)), _, rfl, _, rfl, a, _, _, _, rfl, rfl, SqT.of ha, atI_nat (by rw [List.getElem?_map, hhv]; rfl), _, _, rfl, rfl, _, rfl, iteD (fun c2 => ?_) (fun c2 => ?_)⟩
        · rw [decide_eq_true c2] at eq1
          refine ⟨_, rfl, ?_⟩
          rw [stop_some hi eq1 hn] at out
          show Q (V.int (1 + (i : Int))) _
          rw [ei]
          exact out
        · rw [decide_eq_false c2] at eq1
          refine ⟨_, _, rfl, rfl, fun j hj => ?_⟩
          by_cases q : j < i
          · exact hn j q
          · rw [show j = i by omega]
            exact eq1
      · have ec : inV (.int (((h : Int) + side * (1 + (i : Int))) % ((c.map V.int).length : Int))) ((sm.map fun i : Nat => (i : Int)).map V.int) = false := ec
        rw [hspot, map_nat] at ec
        rw [ec, Bool.false_and] at eq1
        refine ⟨_, _, rfl, rfl, fun j hj => ?_⟩
        by_cases q : j < i
        · exact hn j q
        · rw [show j = i by omega]
          exact eq1
    · rintro σ H1 ⟨u, v, rfl, rfl, hn⟩
      refine ⟨_, rfl, a, _, rfl, .inr (SqT.of ha), ?_⟩
      rw [stop_none hn] at out
      rw [lc]
      exact out
end
end RC
namespace RC
open PySem PySem.Spec PyProof.Rows L2
theorem nextRow_lt {r : List (Nat × Int)} (h1 : 1 < r.length) (h3 : r.length ≤ 3) : (nextRow r).length < r.length := by
  match r, h1, h3 with
  | [x, y], _, _ =>
    have e : nextRow [x, y] = [nextG [x, y] 0, nextG [x, y] 1].filterMap id := rfl
    have e0 : nextG [x, y] 0 = if x.2 < y.2 ∧ x.2 < y.2 then some (x.1, y.2) else none := by simp [nextG]
    have e1 : nextG [x, y] 1 = if y.2 < x.2 ∧ y.2 < x.2 then some (y.1, x.2) else none := by simp [nextG]
    rw [e, e0, e1]
    by_cases c0 : x.2 < y.2
    · rw [if_pos ⟨c0, c0⟩, if_neg (by omega)]
      show 1 < 2
      omega
    · rw [if_neg (by omega)]
      by_cases c1 : y.2 < x.2
      · rw [if_pos ⟨c1, c1⟩]
        show 1 < 2
        omega
      · rw [if_neg (by omega)]
        show 0 < 2
        omega
  | [x, y, z], _, _ =>
    have e : nextRow [x, y, z] = [nextG [x, y, z] 0, nextG [x, y, z] 1, nextG [x, y, z] 2].filterMap id := rfl
    have e0 : nextG [x, y, z] 0 = if x.2 < z.2 ∧ y.2 < z.2 then some (x.1, z.2) else none := by simp [nextG]
    have e1 : nextG [x, y, z] 1 = if y.2 < x.2 ∧ z.2 < x.2 then some (y.1, x.2) else none := by simp [nextG]
    have e2 : nextG [x, y, z] 2 = if z.2 < y.2 ∧ x.2 < y.2 then some (z.1, y.2) else none := by simp [nextG]
    rw [e, e0, e1, e2]
    by_cases c0 : x.2 < z.2 ∧ y.2 < z.2
    · rw [if_pos c0, if_neg (by omega), if_neg (by omega)]
      show 1 < 3
      omega
    · rw [if_neg c0]
      by_cases c1 : y.2 < x.2 ∧ z.2 < x.2
      · rw [if_pos c1, if_neg (by omega)]
        show 1 < 3
        omega
      · rw [if_neg c1]
        by_cases c2 : z.2 < y.2 ∧ x.2 < y.2
        · rw [if_pos c2]
          show 1 < 3
          omega
        · rw [if_neg c2]
          show 0 < 3
          omega

theorem rowsN_next {r : List (Nat × Int)} {f : Nat} (h1 : 1 < r.length) (h3 : r.length ≤ 3) (hf : r.length ≤ f) : ∃ f', (nextRow r).length ≤ f' ∧ rowsN f r = rowsN f' (nextRow r) + 1 := by
  have := nextRow_lt h1 h3
  cases f with
  | zero => omega
  | succ f =>
    refine ⟨f, by omega, ?_⟩
    show (if 1 < r.length then rowsN f (nextRow r) + 1 else 1) = _
    rw [if_pos h1]
theorem rowsN_done {r : List (Nat × Int)} {f : Nat} (h1 : ¬ 1 < r.length) : rowsN f r = 1 := by
  cases f with
  | zero => rfl
  | succ f =>
    show (if 1 < r.length then rowsN f (nextRow r) + 1 else 1) = _
    rw [if_neg h1]
theorem atI_back {xs : List V} {k j : Nat} (hk : k < xs.length) (hj : j ≤ xs.length) (h1 : 1 ≤ j) : atI xs ((k : Int) - (j : Int)) = xs[(k + xs.length - j) % xs.length]? := by
  unfold atI ixN
  by_cases h : j ≤ k
  · rw [if_pos (by omega), if_pos (by omega)]
    have e : (k + xs.length - j) % xs.length = k - j := by
      rw [show k + xs.length - j = (k - j) + xs.length by omega, Nat.add_mod_right]
      exact Nat.mod_eq_of_lt (by omega)
    rw [e]
    have e2 : ((k : Int) - (j : Int)).toNat = k - j := by omega
    rw [e2]
    rfl
  · rw [if_neg (by omega), if_pos (by omega)]
    have e : (k + xs.length - j) % xs.length = k + xs.length - j := Nat.mod_eq_of_lt (by omega)
    rw [e]
    have e2 : ((k : Int) - (j : Int) + (xs.length : Int)).toNat = k + xs.length - j := by omega
    rw [e2]
    rfl
/-- a row of (house, name) -/
def RowAt (H : Hp) (a : Addr) (r : List (Nat × Int)) : Prop := ∃ xs, H a = some (.lst xs) ∧ Paired (fun v (q : Nat × Int) => TrI H v [(q.1 : Int), q.2]) xs r
theorem RowAt.same {H H' : Hp} {a : Addr} {r : List (Nat × Int)} (h : RowAt H a r) (s : Same H H') : RowAt H' a r :=
  let ⟨xs, e, p⟩ := h
  ⟨xs, s _ _ e, Paired.mapP p fun _ _ z => z.keep (tupsS s)⟩
theorem RowAt.put {H : Hp} {a R : Addr} {r : List (Nat × Int)} {ys : List V} {o : HO} (h : RowAt H a r) (hR : H R = some (.lst ys)) (n : a ≠ R) : RowAt (upd H R o) a r :=
  let ⟨xs, e, p⟩ := h
  ⟨xs, by rw [upd_ne n]; exact e, Paired.mapP p fun _ _ z => z.keep fun c zs q => by rw [upd_ne (ne_of q hR (by intro z; cases z))]; exact q⟩
section
variable {P : Program} {w : World} {K : PySem.W.Frag} {mg : PySem.Str → Option Value} {base : Heap}
def spRows (K : PySem.W.Frag) : Sp := fun vs H Q _ => ∃ (a : Addr) (x : V) (c : List Int) (sm : List Nat), vs = [.ref a, x] ∧ H a = some (.tup (c.map V.int)) ∧ TrI H x (sm.map fun i : Nat => (i : Int)) ∧ (∀ h ∈ sm, h < c.length) ∧ sm.length ≤ 3 ∧
  ∀ t xs H', SqL K H' t xs → xs.length = rowsN 4 (row0 c sm) → Same H H' → Q (.ref t) H'
theorem ok_rows (T : Tx K mg) : Okd P w K mg base 1 (He.fAd K ("_law_rows", none)) P_rows (spRows K) := by
  refine okd T 53 d_rows rfl rfl (N := N_rows) sc_rows (fun _ _ _ _ _ _ us hl => match us, hl with | [_, _], _ => rfl) (fun vs H Q E h => ?_) (fun cdv A outer s H vs Q E hr h => ?_)
  · obtain ⟨a, x, c, some, rfl, _⟩ := h
    rfl
  · obtain ⟨a, x, c, sm, rfl, ha, ⟨b, rfl, hb⟩, hin, h3, out⟩ := h
    refine ⟨_, pss_cons (ps_set (i := 3) sc_rows.nd rfl (.inl rfl) (pe_lst (pa_cons
        (pe_lc (own := [("_law_house", 2)]) (g := gName 2) (tt := tYes) (te := tTup (tCons (tVar 2) (tCons (tOp (rIxT K) (tVar 0) (tVar 2)) tNil))) rfl sc_rows.nd (pi_tup (pv 1))
          (blkOk_by (own := [("_law_house", 2)]) (N := N_rows) (sc := defScope s_rows) (by decide +kernel)) (fun _ _ _ _ _ => by exact pg_name (i := 2) sc_rows.nd rfl (Or.inl rfl)) (fun _ _ _ _ _ => pts_nil)
          (fun _ _ _ _ _ => by exact pe_tup (pa_cons (pv 2) (pa_cons (pe_ix ix_tup (pv 0) (pv 2) (fun _ _ => rfl)) pa_nil)))) pa_nil)))
      (pss_cons (ps_while PassesOwn.never (pt_cmpR op_gt (pe_callB call_len_seq (by rfl) T.b_len PySem.boot_len (pa_cons (pe_ix ix_list (pv 3) (pe_un un_neg pe_int) (fun _ _ => rfl)) pa_nil)) pe_int (nomark _))
        (pss_cons (ps_set (i := 4) sc_rows.nd rfl (.inl rfl) (pe_ix ix_list (pv 3) (pe_un un_neg pe_int) (fun _ _ => rfl)))
        (pss_cons (ps_setLc (i := 6) (own := [("_law_house", 2), ("_law_held", 5)]) (g := gTup K 2 (gCons (gName 2) (gCons (gName 5) gNil))) (tt := tYes) (te := tVar 5) rfl sc_rows.nd rfl rfl (sw_true rfl rfl rfl (by decide +kernel)) (pi_list (pv 4))
          (blkOk_by (own := [("_law_house", 2), ("_law_held", 5)]) (N := N_rows) (sc := defScope s_rows) (by decide +kernel))
          (fun _ _ _ _ _ => by exact pg_tup rfl (pgs_cons (pg_name (i := 2) sc_rows.nd rfl (Or.inl rfl)) (pgs_cons (pg_name (i := 5) sc_rows.nd rfl (Or.inl rfl)) pgs_nil))) (fun _ _ _ _ _ => pts_nil) (fun _ _ _ _ _ => by exact pv 5))
        (pss_cons (ps_set (i := 7) sc_rows.nd rfl (.inl rfl) (pe_lst pa_nil))
        (pss_cons (ps_for PassesOwn.never rfl (pi_enum rfl T.b_enumerate (pa_cons (pv 4) pa_nil))
            (pg_tup rfl (pgs_cons (pg_name (i := 8) sc_rows.nd rfl (Or.inl rfl)) (pgs_cons (pg_tup rfl (pgs_cons (pg_name (i := 2) sc_rows.nd rfl (Or.inl rfl)) (pgs_cons (pg_name (i := 5) sc_rows.nd rfl (Or.inl rfl)) pgs_nil))) pgs_nil)))
            (pss_one (ps_if (PW.pt (pw_and (pt_cmpR op_gt (pe_ix ix_list (pv 6) (pe_op op_sub (pv 8) pe_int) (fun _ _ => rfl)) (pv 5) (nomark _))
                (pw_and1 (pt_cmpR op_gt (pe_ix ix_list (pv 6) (pe_op op_sub (pv 8) pe_int) (fun _ _ => rfl)) (pe_ix ix_list (pv 6) (pe_op op_sub (pv 8) pe_int) (fun _ _ => rfl)) (nomark _)))))
              (pss_one (ps_expr (pe_bm PySem.F.plainAttrs_list PySem.F.slot_list_append PySem.F.type_list_append mt_append (pv 7) (pa_cons (pe_tup (pa_cons (pv 2) (pa_cons (pe_ix ix_list (pv 6) (pe_op op_sub (pv 8) pe_int) (fun _ _ => rfl)) pa_nil))) pa_nil)))) pss_nil)))
        (pss_one (ps_expr (pe_bm PySem.F.plainAttrs_list PySem.F.slot_list_append PySem.F.type_list_append mt_append (pv 3) (pa_cons (pv 7) pa_nil)))))))))
      (pss_one (ps_ret (pv 3)))), ?_⟩
    refine ⟨_, rfl, b, rfl, ⟨_, SqT.of hb⟩, fun D hD => ?_⟩
    rw [map_nat] at hb
    refine lc_it (walk_tup (xs := sm.map fun i : Nat => V.int (i : Int))) (fun i H1 => Same H H1 ∧ RowAt H1 D (row0 c (sm.take i))) ?_ (fun _ _ _ q => SqT.of (q.1 _ _ hb)) ?_ ?_
    · exact ⟨newS hD, [], upd_same, .nil⟩
    · rintro i x H1 H2 hi ⟨s1, xs, hx, px⟩ ⟨rfl, hix⟩
      rw [List.getElem?_map] at hix
      obtain ⟨h, hh, rfl⟩ := Option.map_eq_some_iff.mp hix
      have hlt := hin h (List.mem_of_getElem? hh)
      obtain ⟨v, hv⟩ : ∃ v, c[h]? = some v := ⟨_, List.getElem?_eq_getElem hlt⟩
      refine ⟨rfl, yes ⟨_, rfl, _, rfl, _, rfl, a, _, _, _, rfl, rfl, SqT.of (s1 _ _ ha), atI_nat (by rw [List.getElem?_map, hv]; rfl), sz 2, fun t ht => ?_⟩⟩
      have s3 := newS (o := .tup [.int (h : Int), .int v]) ht
      refine ⟨xs, s3 _ _ hx, ?_, fun bb o e => by rw [upd_ne (ne_of_none e hD)]; exact s3 _ _ (s1 _ _ e), xs ++ [.ref t], upd_same, ?_⟩
      · have := px.length
        unfold row0 at this
        rw [List.length_map, List.length_take] at this
        exact small1000 (by omega)
      · have e1 : row0 c (sm.take (i + 1)) = row0 c (sm.take i) ++ [(h, v)] := by
          unfold row0
          rw [List.take_add_one, hh, List.map_append]
          show _ ++ [(h, c.getD h 0)] = _
          rw [List.getD_eq_getElem?_getD, hv]
          rfl
        rw [e1]
        have k4 : TupS H2 (upd (upd H2 t (.tup [.int (h : Int), .int v])) D (.lst (xs ++ [.ref t]))) := fun bb ys e => by
          rw [upd_ne (ne_of e hx (by intro z; cases z))]
          exact s3 _ _ e
        refine paired_snoc (Paired.mapP px fun _ _ z => z.keep k4) ⟨t, rfl, ?_⟩
        rw [upd_ne (ne_of upd_same (s3 _ _ hx) (by intro z; cases z))]
        exact upd_same
    · rintro H1 ⟨s1, r1⟩
      rw [List.length_map, List.take_length] at r1
      refine ⟨sz 1, fun R hR => ?_⟩
      have nDR : D ≠ R := let ⟨_, e, _⟩ := r1; ne_of_none e hR
      have R0 : H R = none := s1.free hR
      refine ⟨fun m σ H' => ∃ (la : Addr) (prev : List V) (r : List (Nat × Int)) (f : Nat) (u2 u4 u5 u6 u7 u8 : Option V), σ = [some (.ref a), some (.ref b), u2, some (.ref R), u4, u5, u6, u7, u8] ∧ H' R = some (.lst (prev ++ [.ref la])) ∧ RowAt H' la r ∧ la ≠ R ∧ Same H H' ∧
          r.length ≤ f ∧ prev.length + rowsN f r = rowsN 4 (row0 c sm) ∧ r.length ≤ 3 ∧ prev.length + r.length ≤ 10 ∧ m = r.length, ⟨_, D, [], row0 c sm, 4, none, none, none, none, none, none, rfl, upd_same, r1.same (newS hR), nDR, s1.trans (newS hR), ?_, Nat.zero_add _, ?_, ?_, rfl⟩, ?_⟩
      · unfold row0; rw [List.length_map]; omega
      · unfold row0; rw [List.length_map]; omega
      · unfold row0; rw [List.length_map]; show 0 + sm.length ≤ 10; omega
      rintro m σ H2 ⟨la, prev, r, f, u2, u4, u5, u6, u7, u8, rfl, hR2, ⟨xs, hx, px⟩, nlR, s2, hf, hcount, hr3, hpl, rfl⟩
      have lx := px.length
      refine ⟨_, rfl, 1, rfl, R, _, _, _, rfl, rfl, SqL.of hR2, atI_last _ _, la, _, rfl, .inl (SqL.of hx), _, _, rfl, rfl, _, rfl, iteD (fun c1 => ?_) (fun c1 => ?_)⟩
      · have h1 : 1 < r.length := by
          have : (1 : Int) < (xs.length : Int) := c1
          omega
        refine ⟨fun σ' H' => ∃ m', m' < r.length ∧ _, fun σ' H' q => q, ?_⟩
        refine ⟨_, rfl, 1, rfl, R, _, _, _, rfl, rfl, SqL.of hR2, atI_last _ _, ?_⟩
        refine ⟨_, rfl, la, rfl, ⟨_, SqL.of hx⟩, fun N hN => ?_⟩
        refine lc_it (walk_list (xs := xs)) (fun i H3 => Same H2 H3 ∧ H3 N = some (.lst ((r.take i).map fun q => V.int q.2))) ?_ (fun _ _ _ q => SqL.of (q.1 _ _ hx)) ?_ ?_
        · exact ⟨newS hN, upd_same⟩
        · rintro i x H3 H4 hi ⟨s3, h3'⟩ ⟨rfl, hix⟩
          obtain ⟨q, hq, ⟨t, rfl, ht⟩⟩ := paired_get px hix
          refine ⟨t, _, rfl, SqT.of (s3 _ _ ht), rfl, _, _, rfl, _, _, rfl, rfl, rfl, yes ⟨_, rfl, _, h3', ?_, ?_, ?_⟩⟩
          · rw [List.length_map, List.length_take]
            exact small1000 (by omega)
          · exact fun bb o e => by rw [upd_ne (ne_of_none e hN)]; exact s3 _ _ e
          · rw [upd_same, take_succ_map (fun q : Nat × Int => V.int q.2) hq]
        · rintro H3 ⟨s3, h3'⟩
          rw [lx, List.take_length] at h3'
          refine ⟨sz 0, fun M hM => ?_⟩
          have nNM : N ≠ M := ne_of_none h3' hM
          have sM : Same H3 (upd H3 M (.lst [])) := newS hM
          have s23 := s3.trans sM
          refine ⟨_, rfl, la, _, rfl, SqL.of (s23 _ _ hx), ?_⟩
          refine for_it (walk_enum (xs := xs)) (fun i σ H4 => ∃ (v2 v5 v8 : Option V), σ = [some (.ref a), some (.ref b), v2, some (.ref R), some (.ref la), v5, some (.ref N), some (.ref M), v8] ∧ Same H2 H4 ∧ H4 N = some (.lst (r.map fun q => V.int q.2)) ∧ RowAt H4 M ((List.range i).filterMap (nextG r)))
            ⟨_, _, _, rfl, s23, sM _ _ h3', [], upd_same, .nil⟩ (fun _ _ _ _ ⟨_, _, _, _, q, _⟩ => SqL.of (q _ _ hx)) ?_ ?_
          · rintro i x σ H4 H5 hi ⟨v2, v5, v8, rfl, s4, h4n, r4⟩ ⟨Tp, z1, z2, rfl, hT, rfl, e1, e2⟩
            cases e1
            have e2 : xs[i]? = some z2 := e2
            obtain ⟨q, hq, ⟨t, rfl, ht⟩⟩ := paired_get px e2
            rw [lx] at hi
            have s5 : Same H4 (upd H4 Tp (.tup [.int (i : Int), .ref t])) := newS hT
            have h5n := s5 _ _ h4n
            have s25 := s4.trans s5
            have ll : (r.map fun q => V.int q.2).length = r.length := List.length_map ..
            have m1 : (i + r.length - 1) % r.length < r.length := Nat.mod_lt _ (by omega)
            have m2 : (i + r.length - 2) % r.length < r.length := Nat.mod_lt _ (by omega)
            obtain ⟨p1, hp1⟩ : ∃ p1, r[(i + r.length - 1) % r.length]? = some p1 := ⟨_, List.getElem?_eq_getElem m1⟩
            obtain ⟨p2, hp2⟩ : ∃ p2, r[(i + r.length - 2) % r.length]? = some p2 := ⟨_, List.getElem?_eq_getElem m2⟩
            have a1 : atI (r.map fun q => V.int q.2) ((i : Int) - 1) = some (.int p1.2) := by
              have := atI_back (xs := r.map fun q => V.int q.2) (k := i) (j := 1) (by rw [ll]; exact hi) (by rw [ll]; omega) (by omega)
              rw [ll, List.getElem?_map, hp1] at this
              exact this
            have a2 : atI (r.map fun q => V.int q.2) ((i : Int) - 2) = some (.int p2.2) := by
              have := atI_back (xs := r.map fun q => V.int q.2) (k := i) (j := 2) (by rw [ll]; exact hi) (by rw [ll]; omega) (by omega)
              rw [ll, List.getElem?_map, hp2] at this
              exact this
            have eg : nextG r i = if q.2 < p1.2 ∧ p2.2 < p1.2 then some (q.1, p1.2) else none := by
              unfold nextG
              rw [hq, hp1, hp2]
            have em : (List.range (i + 1)).filterMap (nextG r) = (List.range i).filterMap (nextG r) ++ (nextG r i).toList := by
              rw [List.range_succ, List.filterMap_append]
              congr 1
            refine ⟨Tp, _, rfl, SqT.of upd_same, rfl, _, _, rfl, _, _, rfl, t, _, rfl, SqT.of (s25 _ _ ht), rfl, _, _, rfl, _, _, rfl, rfl, rfl, ?_⟩
            refine ⟨_, rfl, _, rfl, _, _, rfl, rfl, N, _, _, _, rfl, rfl, SqL.of h5n, a1, _, rfl, _, _, rfl, rfl, _, rfl, iteD (fun c2 => ?_) (fun c2 => ?_)⟩
            · refine ⟨_, rfl, _, rfl, _, _, rfl, rfl, N, _, _, _, rfl, rfl, SqL.of h5n, a1, _, rfl, _, rfl, _, _, rfl, rfl, N, _, _, _, rfl, rfl, SqL.of h5n, a2, _, _, rfl, rfl, _, rfl, iteD (fun c3 => ?_) (fun c3 => ?_)⟩
              · obtain ⟨ys, hy, py⟩ := r4.same s5
                refine ⟨_, rfl, .inl ⟨rfl, _, SqL.of hy⟩, _, rfl, _, rfl, _, rfl, _, _, rfl, rfl, N, _, _, _, rfl, rfl, SqL.of h5n, a1, sz 2, fun t2 ht2 => ?_⟩
                have s6 := newS (o := .tup [.int (q.1 : Int), .int p1.2]) ht2
                refine ⟨M, ys, _, rfl, rfl, s6 _ _ hy, ?_, _, _, _, rfl, ?_, ?_, ys ++ [.ref t2], upd_same, ?_⟩
                · have := py.length
                  have l2 := List.length_filterMap_le (nextG r) (List.range i)
                  rw [List.length_range] at l2
                  exact small1000 (by omega)
                · exact fun bb o e => by
                    rw [upd_ne (ne_of_none (s3 _ _ e) hM)]
                    exact s6 _ _ (s25 _ _ e)
                · rw [upd_ne nNM]
                  exact s6 _ _ h5n
                · rw [em, eg, if_pos ⟨c2, c3⟩]
                  have k7 : TupS (upd H4 Tp (.tup [.int (i : Int), .ref t])) (upd (upd (upd H4 Tp (.tup [.int (i : Int), .ref t])) t2 (.tup [.int (q.1 : Int), .int p1.2])) M (.lst (ys ++ [.ref t2]))) := fun bb zs e => by
                    rw [upd_ne (ne_of e hy (by intro z; cases z))]
                    exact s6 _ _ e
                  refine paired_snoc (Paired.mapP py fun _ _ z => z.keep k7) ⟨t2, rfl, ?_⟩
                  rw [upd_ne (ne_of upd_same (s6 _ _ hy) (by intro z; cases z))]
                  exact upd_same
              · refine ⟨_, _, _, rfl, s25, h5n, ?_⟩
                rw [em, eg, if_neg (fun q => c3 q.2)]
                show RowAt _ M (_ ++ [])
                rw [List.append_nil]
                exact r4.same s5
            · refine ⟨_, _, _, rfl, s25, h5n, ?_⟩
              rw [em, eg, if_neg (fun q => c2 q.1)]
              show RowAt _ M (_ ++ [])
              rw [List.append_nil]
              exact r4.same s5
          · rintro σ H4 ⟨v2, v5, v8, rfl, s4, h4n, r4⟩
            rw [lx] at r4
            have hR4 := s4 _ _ hR2
            have nMR : M ≠ R := fun e => by
              have := s3 _ _ hR2
              rw [← e, hM] at this
              cases this
            have r4 : RowAt H4 M (nextRow r) := r4
            obtain ⟨f', hf', hfe⟩ := rowsN_next h1 hr3 hf
            have hlt := nextRow_lt h1 hr3
            have hpl2 : (prev ++ [V.ref la]).length = prev.length + 1 := by rw [List.length_append]; rfl
            refine ⟨_, rfl, .inl ⟨rfl, _, SqL.of hR4⟩, _, rfl, R, _, _, rfl, rfl, hR4, small1000 (by omega), (nextRow r).length, hlt, M, prev ++ [.ref la], nextRow r, f', _, _, _, _, _, _, rfl, upd_same, r4.put hR4 nMR, nMR, ?_, hf', by omega, by omega, by omega, rfl⟩
            exact fun bb o e => by
              rw [upd_ne (ne_of_none e R0)]
              exact s4 _ _ (s2 _ _ e)
      · refine ⟨_, rfl, ?_⟩
        have h1 : ¬ 1 < r.length := fun q => c1 (by show (1 : Int) < (xs.length : Int); omega)
        rw [rowsN_done h1] at hcount
        exact out R _ _ (SqL.of hR2) (by rw [List.length_append, ← hcount]; rfl) s2
end
end RC
namespace RC
open PySem PySem.Spec PyProof.Rows L2
theorem stop_le {c : List Int} {sm : List Nat} {h : Nat} {side : Int} (h1 : 1 ≤ c.length) : stop c sm h side ≤ c.length := by
  unfold stop
  cases e : (List.range (c.length - 1)).find? fun k => stopAt c sm h side (k + 1) with
  | none => exact Nat.le_refl _
  | some k =>
    have := (List.find?_range_eq_some.mp e).2.1
    have := List.mem_range.mp this
    show k + 1 ≤ _
    omega
/-- where the doubling stands -/
def Far (f : Nat) (far near : Int) : Prop := (f = 4 ∧ far = 1 ∧ near = 0) ∨ (f = 3 ∧ far = 2 ∧ near = 1) ∨ (f = 2 ∧ far = 4 ∧ near = 2) ∨ (f = 1 ∧ far = 8 ∧ near = 4)
theorem min2_eq (a b : Int) : (if b < a then b else a) = min a b := by
  by_cases h : b < a
  · rw [if_pos h, Int.min_def, if_neg (by omega)]
  · rw [if_neg h, Int.min_def, if_pos (by omega)]
section
variable {P : Program} {w : World} {K : PySem.W.Frag} {mg : PySem.Str → Option Value} {base : Heap}
def spTotal (y : Wy) : Sp := fun vs H Q _ => ∃ (a : Addr) (x : V) (c : List Int) (sm : List Nat), vs = [.str (wyS y), .ref a, x] ∧ H a = some (.tup (c.map V.int)) ∧ TrI H x (sm.map fun i : Nat => (i : Int)) ∧ (∀ h ∈ sm, h < c.length) ∧ sm.length ≤ 3 ∧ 1 ≤ c.length ∧ c.length ≤ 3 ∧
  ∀ H', Same H H' → Q (.int (total y c sm)) H'
theorem ok_total (T : Tx K mg) (y : Wy) : Okd P w K mg base 2 (He.fAd K ("_law_total", none)) P_total (spTotal y) := by
  obtain ⟨fdR, GR, bR⟩ := ok_rows (P := P) (w := w) (base := base) T
  obtain ⟨fdS, GS, bS⟩ := ok_stop (P := P) (w := w) (base := base) T
  refine okd T 55 d_total rfl rfl (N := N_total) sc_total (fun _ _ _ _ _ _ us hl => match us, hl with | [_, _, _], _ => rfl) (fun vs H Q E h => ?_) (fun cdv A outer s H vs Q E hr h => ?_)
  · obtain ⟨a, x, c, some, rfl, _⟩ := h
    rfl
  · obtain ⟨a, x, c, sm, rfl, ha, hx, hin, hs3, h1, h3, out⟩ := h
    refine ⟨_, pss_cons (ps_set (i := 3) sc_total.nd rfl (.inl rfl) (pe_callB call_len_seq (by rfl) T.b_len PySem.boot_len (pa_cons (pv 1) pa_nil)))
      (pss_cons (ps_if (pt_cmpR op_eq (pv 0) pe_str (nomark _)) (pss_one (ps_ret (pe_op op_mul (pv 3) (pe_op op_sub (pv 3) pe_int)))) pss_nil)
      (pss_cons (ps_if (pt_cmpR op_eq (pv 0) pe_str (nomark _)) (pss_one (ps_ret (pe_op op_mul (pe_op op_mul pe_int (pv 3)) (pe_callB call_len_seq (by rfl) T.b_len PySem.boot_len (pa_cons (pe_call GR (hr.mono (by decide)) rfl T.g__law_rows (T.kp 53 (d := d_rows) rfl) bR .nil pass0 (pa_cons (pv 1) (pa_cons (pv 2) pa_nil))) pa_nil))))) pss_nil)
      (pss_cons (ps_set (i := 4) sc_total.nd rfl (.inl rfl) (pv 3))
      (pss_cons (ps_for PassesOwn.never rfl (pi_tup (pv 2)) (pg_name (i := 5) sc_total.nd rfl (.inl rfl))
        (pss_cons (ps_par (i := 6) (j := 7) rfl sc_total.nd rfl rfl (by decide) rfl rfl (pa_cons (pe_call GS hr rfl T.g__law_stop (T.kp 54 (d := d_stop) rfl) bS .nil pass0 (pa_cons (pv 1) (pa_cons (pv 2) (pa_cons (pv 5) (pa_cons (pe_un un_neg pe_int) pa_nil)))))
            (pa_cons (pe_call GS hr rfl T.g__law_stop (T.kp 54 (d := d_stop) rfl) bS .nil pass0 (pa_cons (pv 1) (pa_cons (pv 2) (pa_cons (pv 5) (pa_cons pe_int pa_nil))))) pa_nil)) rfl)
        (pss_mid (ps_if (pt_cmpR op_eq (pv 0) pe_str (nomark _))
          (pss_cons (ps_set (i := 4) sc_total.nd rfl (.inl rfl) (pe_op op_add (pv 4) (pv 7)))
          (pss_one (ps_asg (pe_tup (pa_cons pe_int (pa_cons pe_int pa_nil))) (pg_tup rfl (pgs_cons (pg_name (i := 6) sc_total.nd rfl (.inl rfl)) (pgs_cons (pg_name (i := 7) sc_total.nd rfl (.inl rfl)) pgs_nil)))))) pss_nil)
        (pss_cons (ps_asg (pe_tup (pa_cons pe_int (pa_cons pe_int pa_nil))) (pg_tup rfl (pgs_cons (pg_name (i := 8) sc_total.nd rfl (.inl rfl)) (pgs_cons (pg_name (i := 9) sc_total.nd rfl (.inl rfl)) pgs_nil))))
        (pss_one (ps_while PassesOwn.never (pt_cmpR op_lt (pv 9) (pe_callB (call_min2 rfl) (by rfl) T.b_min (by decide +kernel) (pa_cons (pv 6) (pa_cons (pv 7) pa_nil))) (nomark _))
          (pss_cons (ps_for PassesOwn.never rfl (pi_tup (pe_tup (pa_cons (pv 6) (pa_cons (pv 7) pa_nil)))) (pg_name (i := 10) sc_total.nd rfl (.inl rfl))
            (pss_one (ps_set (i := 4) sc_total.nd rfl (.inl rfl) (pe_op op_add (pe_op op_add (pv 4) (pe_callB (call_min2 rfl) (by rfl) T.b_min (by decide +kernel) (pa_cons (pv 8) (pa_cons (pv 10) pa_nil))))
              (pe_op op_mul (pv 8) (pe_callTy call_int1 (by rfl) T.b_int (by decide +kernel) (pa_cons (pe_cmpR op_gt (pv 10) (pv 8) (nomark _)) pa_nil)))))))
          (pss_one (ps_par (i := 8) (j := 9) rfl sc_total.nd rfl rfl (by decide) rfl rfl (pa_cons (pe_op op_mul pe_int (pv 8)) (pa_cons (pv 8) pa_nil)) rfl)))))))))
      (pss_one (ps_ret (pv 4))))))), ?_⟩
    have lc : ((c.map V.int).length : Int) = (c.length : Int) := by rw [List.length_map]
    obtain ⟨b, rfl, hb⟩ := id hx
    refine ⟨_, rfl, a, _, rfl, .inr (SqT.of ha), ?_⟩
    refine ⟨_, rfl, rfl, _, rfl, iteB (fun e => ?_) (fun e => ?_)⟩
    · have ey : y = .whole := by
        cases y with
        | whole => rfl
        | _ => exact absurd e (by decide +kernel)
      subst ey
      refine ⟨_, rfl, _, rfl, _, _, rfl, rfl, _, _, rfl, rfl, .inl ⟨by omega, by omega⟩, ?_⟩
      have := out H (Same.refl H)
      show Q (.int (((c.map V.int).length : Int) * (((c.map V.int).length : Int) - 1))) H
      rw [lc]
      exact this
    have nw : y ≠ .whole := fun ey => by
      subst ey
      exact absurd e (by decide +kernel)
    refine ⟨_, rfl, rfl, _, rfl, iteB (fun e2 => ?_) (fun e2 => ?_)⟩
    · have ey : y = .halves := by
        cases y with
        | halves => rfl
        | _ => exact absurd e2 (by decide +kernel)
      subst ey
      refine ⟨_, rfl, _, _, rfl, rfl, .inl ⟨by decide, by decide⟩, _, rfl, _, rfl, a, _, c, sm, rfl, ha, hx, hin, hs3, fun t xs H1 hxs hl s1 => ⟨t, xs, rfl, .inl hxs, _, _, rfl, rfl, .inl ⟨by omega, by omega⟩, ?_⟩⟩
      have := out H1 s1
      show Q (.int (2 * ((c.map V.int).length : Int) * (xs.length : Int))) H1
      rw [lc, hl]
      exact this
    have nh : y ≠ .halves := fun ey => by
      subst ey
      exact absurd e2 (by decide +kernel)
    have et : total y c sm = sm.foldl (total1 y c sm) (c.length : Int) := by
      cases y with
      | whole => exact absurd rfl nw
      | halves => exact absurd rfl nh
      | round => rfl
      | reach => rfl
    refine ⟨_, rfl, ?_⟩
    refine ⟨_, rfl, b, rfl, ⟨_, SqT.of hb⟩, ?_⟩
    rw [map_nat] at hb
    refine for_it (walk_tup (xs := sm.map fun i : Nat => V.int (i : Int))) (fun i σ H1 => ∃ u5 u6 u7 u8 u9 u10, σ = [some (.str (wyS y)), some (.ref a), some (.ref b), some (.int ((c.map V.int).length : Int)), some (.int ((sm.take i).foldl (total1 y c sm) (c.length : Int))), u5, u6, u7, u8, u9, u10] ∧ Same H H1)
      ⟨none, none, none, none, none, none, by rw [List.take_zero]; show _ = [some (V.str (wyS y)), some (V.ref a), some (V.ref b), some (V.int ((c.map V.int).length : Int)), some (V.int (c.length : Int)), none, none, none, none, none, none]; rw [← lc]; rfl, Same.refl H⟩ (fun _ _ _ _ ⟨_, _, _, _, _, _, _, q⟩ => SqT.of (q _ _ hb)) ?_ ?_
    · rintro i x σ H1 H2 hi ⟨u5, u6, u7, u8, u9, u10, rfl, s1⟩ ⟨rfl, hix⟩
      rw [List.getElem?_map] at hix
      obtain ⟨h, hh, rfl⟩ := Option.map_eq_some_iff.mp hix
      have hlt := hin h (List.mem_of_getElem? hh)
      have ht1 : (sm.take (i + 1)).foldl (total1 y c sm) (c.length : Int) = total1 y c sm ((sm.take i).foldl (total1 y c sm) (c.length : Int)) h := by
        rw [List.take_add_one, hh, List.foldl_append]
        rfl
      generalize (sm.take i).foldl (total1 y c sm) (c.length : Int) = tp at ht1 ⊢
      have ha2 := s1 _ _ ha
      have hx2 := hx.keep (tupsS s1)
      have l1 := stop_le (sm := sm) (h := h) (side := -1) h1
      have l2 := stop_le (sm := sm) (h := h) (side := 1) h1
      refine ⟨_, rfl, _, rfl, _, rfl, 1, rfl, a, _, c, sm, h, -1, rfl, ha2, hx2, hlt, by omega, by decide, _, rfl, _, rfl, _, rfl, a, _, c, sm, h, 1, rfl, ha2, hx2, hlt, by omega, by decide, _, _, rfl, ?_⟩
      refine ⟨fun σ' H' => ∃ (l r t : Int) (u8 u9 u10 : Option V), σ' = [some (.str (wyS y)), some (.ref a), some (.ref b), some (.int ((c.map V.int).length : Int)), some (.int t), some (.int (h : Int)), some (.int l), some (.int r), u8, u9, u10] ∧ Same H H' ∧ l ≤ 3 ∧ r ≤ 3 ∧ reachLoop l r 4 1 0 t = total1 y c sm tp h, ?_, ?_⟩
      · refine ⟨_, rfl, rfl, _, rfl, iteB (fun e3 => ?_) (fun e3 => ?_)⟩
        · have ey : y = .round := by
            cases y with
            | round => rfl
            | _ => exact absurd e3 (by decide +kernel)
          subst ey
          refine ⟨_, rfl, _, rfl, _, _, rfl, rfl, sz 2, fun t ht => ⟨t, _, rfl, SqT.of upd_same, rfl, _, _, rfl, _, _, rfl, rfl, 0, 0, _, _, _, _, rfl, s1.trans (newS ht), by decide, by decide, ?_⟩⟩
          rfl
        · have ey : y = .reach := by
            cases y with
            | reach => rfl
            | round => exact absurd e3 (by decide +kernel)
            | halves => exact absurd rfl nh
            | whole => exact absurd rfl nw
          subst ey
          exact ⟨_, _, _, _, _, _, rfl, s1, by omega, by omega, rfl⟩
      · rintro σ H3 ⟨l, r, t, u8, u9, u10, rfl, s3, hl3, hr3, hrl⟩
        refine ⟨sz 2, fun A hA => ⟨A, _, rfl, SqT.of upd_same, rfl, _, _, rfl, _, _, rfl, rfl, ?_⟩⟩
        refine ⟨fun m σ H' => ∃ (f : Nat) (far near t : Int) (u10 : Option V), σ = [some (.str (wyS y)), some (.ref a), some (.ref b), some (.int ((c.map V.int).length : Int)), some (.int t), some (.int (h : Int)), some (.int l), some (.int r), some (.int far), some (.int near), u10] ∧
            Same H H' ∧ Far f far near ∧ reachLoop l r f far near t = total1 y c sm tp h ∧ m = f, ⟨4, 4, 1, 0, t, _, rfl, s3.trans (newS hA), .inl ⟨rfl, rfl, rfl⟩, hrl, rfl⟩, ?_⟩
        rintro m σ H4 ⟨f, far, near, t, u10, rfl, s4, hfar, hloop, rfl⟩
        refine ⟨_, rfl, _, rfl, _, rfl, _, _, rfl, _, _, rfl, rfl, _, rfl, iteD (fun c1 => ?_) (fun c1 => ?_)⟩
        · rw [min2_eq] at c1
          have cm : near < l ∧ near < r := by
            have := Int.min_le_left l r
            have := Int.min_le_right l r
            omega
          refine ⟨fun σ' H' => ∃ m', m' < m ∧ _, fun σ' H' q => q, ?_⟩
          refine ⟨_, rfl, _, rfl, sz 2, fun B hB => ⟨B, rfl, ⟨_, SqT.of upd_same⟩, ?_⟩⟩
          have sB : Same H4 (upd H4 B (.tup [.int l, .int r])) := newS hB
          refine for_it (walk_tup (xs := [.int l, .int r])) (fun k σ H5 => ∃ u10, σ = [some (.str (wyS y)), some (.ref a), some (.ref b), some (.int ((c.map V.int).length : Int)), some (.int (match k with | 0 => t | 1 => t + oneSide far l | _ => t + oneSide far l + oneSide far r)), some (.int (h : Int)), some (.int l), some (.int r), some (.int far), some (.int near), u10] ∧ H5 = upd H4 B (.tup [.int l, .int r]))
            ⟨_, rfl, rfl⟩ (fun _ _ _ _ ⟨_, _, q⟩ => by rw [q]; exact SqT.of upd_same) ?_ ?_
          · rintro k x σ H5 H6 hk ⟨u, rfl, rfl⟩ ⟨rfl, hx⟩
            have hk2 : k < 2 := hk
            have fb : 1 ≤ far ∧ far ≤ 8 := by rcases hfar with ⟨_, q, _⟩ | ⟨_, q, _⟩ | ⟨_, q, _⟩ | ⟨_, q, _⟩ <;> omega
            have ev : ∀ t s : Int, t + (if s < far then s else far) + far * (if decide (far < s) = true then (1 : Int) else 0) = t + oneSide far s := fun t s => by
              unfold oneSide
              rw [min2_eq, Int.add_assoc]
              congr 2
              by_cases q : far < s
              · rw [decide_eq_true q, if_pos q, if_pos rfl]
              · rw [decide_eq_false q, if_neg q, if_neg Bool.false_ne_true]
            obtain rfl | rfl : k = 0 ∨ k = 1 := by omega
            · cases hx
              refine ⟨_, rfl, _, rfl, _, rfl, _, _, rfl, _, _, rfl, rfl, _, rfl, _, rfl, _, rfl, _, _, rfl, rfl, .inr ⟨_, rfl, _, _, rfl, rfl, .inl ⟨by omega, by omega⟩, _, _, rfl, rfl, some (.int l), ?_, rfl⟩⟩
              exact congrArg (fun z : Int => [some (V.str (wyS y)), some (V.ref a), some (V.ref b), some (V.int ((c.map V.int).length : Int)), some (V.int z), some (V.int (h : Int)), some (V.int l), some (V.int r), some (V.int far), some (V.int near), some (V.int l)]) (ev t l)
            · cases hx
              refine ⟨_, rfl, _, rfl, _, rfl, _, _, rfl, _, _, rfl, rfl, _, rfl, _, rfl, _, rfl, _, _, rfl, rfl, .inr ⟨_, rfl, _, _, rfl, rfl, .inl ⟨by omega, by omega⟩, _, _, rfl, rfl, some (.int r), ?_, rfl⟩⟩
              exact congrArg (fun z : Int => [some (V.str (wyS y)), some (V.ref a), some (V.ref b), some (V.int ((c.map V.int).length : Int)), some (V.int z), some (V.int (h : Int)), some (V.int l), some (V.int r), some (V.int far), some (V.int near), some (V.int r)]) (ev (t + oneSide far l) r)
          · rintro σ H5 ⟨u, rfl, rfl⟩
            have step : ∀ f', m = f' + 1 → reachLoop l r f' (2 * far) far (t + oneSide far l + oneSide far r) = total1 y c sm tp h := fun f' q => by
              rw [← hloop, q]
              show _ = if near < min l r then reachLoop l r f' (2 * far) far (t + oneSide far l + oneSide far r) else t
              rw [if_pos c1]
            have nxt : ∃ f', m = f' + 1 ∧ Far f' (2 * far) far := by
              rcases hfar with ⟨q1, q2, q3⟩ | ⟨q1, q2, q3⟩ | ⟨q1, q2, q3⟩ | ⟨q1, q2, q3⟩
              · exact ⟨3, q1, .inr (.inl ⟨rfl, by omega, q2⟩)⟩
              · exact ⟨2, q1, .inr (.inr (.inl ⟨rfl, by omega, q2⟩))⟩
              · exact ⟨1, q1, .inr (.inr (.inr ⟨rfl, by omega, q2⟩))⟩
              · omega
            obtain ⟨f', q1, q2⟩ := nxt
            exact ⟨_, rfl, 2, far, rfl, rfl, .inl ⟨by decide, by decide⟩, _, rfl, _, _, rfl, f', by omega, f', _, _, _, _, rfl, s4.trans sB, q2, step f' q1, rfl⟩
        · rw [min2_eq] at c1
          have hdone : reachLoop l r m far near t = t := by
            cases m with
            | zero => rfl
            | succ f' =>
              show (if near < min l r then reachLoop l r f' (2 * far) far (t + oneSide far l + oneSide far r) else t) = t
              rw [if_neg c1]
          rw [hdone] at hloop
          refine ⟨some (.int (h : Int)), some (.int l), some (.int r), some (.int far), some (.int near), u10, ?_, s4⟩
          rw [ht1, ← hloop]
    · rintro σ H1 ⟨u5, u6, u7, u8, u9, u10, rfl, s1⟩
      refine ⟨_, rfl, ?_⟩
      rw [List.length_map, List.take_length, ← et]
      exact out H1 s1
end
end RC
namespace RC
open PySem PySem.Spec PyProof.Rows L2
/-! ### a dict whose keys are nested tuples -/
mutual
inductive NIs (H : Hp) : NestedKey → V → Prop
  | non : NIs H .none .non
  | int (i : Int) : NIs H (.num i) (.int i)
  | str (x : PySem.Str) : NIs H (.text x) (.str x)
  | tup {a : Addr} {xs : List V} {ks : List NestedKey} : H a = some (.tup xs) → NAll H ks xs → NIs H (.tup ks) (.ref a)
inductive NAll (H : Hp) : List NestedKey → List V → Prop
  | nil : NAll H [] []
  | cons {k : NestedKey} {v : V} {ks : List NestedKey} {vs : List V} : NIs H k v → NAll H ks vs → NAll H (k :: ks) (v :: vs)
end
mutual
theorem NIs.keep {H H' : Hp} (t : TupS H H') : ∀ (k : NestedKey) (v : V), NIs H k v → NIs H' k v
  | .none, _, h => by cases h; exact .non
  | .num i, _, h => by cases h; exact .int i
  | .text x, _, h => by cases h; exact .str x
  | .tup ks, _, h => by
    cases h with
    | tup e q => exact .tup (t _ _ e) (NAll.keep t ks _ q)
theorem NAll.keep {H H' : Hp} (t : TupS H H') : ∀ (ks : List NestedKey) (vs : List V), NAll H ks vs → NAll H' ks vs
  | [], _, h => by cases h; exact .nil
  | k :: ks, _, h => by
    cases h with
    | cons a q => exact .cons (NIs.keep t k _ a) (NAll.keep t ks _ q)
end
section
variable {X : Cx} {pins : List (Addr × Obj)} {σ : L2.St} {H : Hp} {s : Shared}
mutual
theorem nis_run (I : Inv X pins σ H s) : ∀ (k : NestedKey) (x : V) (u : Value), NIs H k x → RelV x u → NestedIs s.heap k u
  | .none, _, _, h, r => by
    cases h
    cases r
    exact .none
  | .num i, _, _, h, r => by
    cases h
    obtain ⟨t, rfl⟩ := r
    exact .int i t
  | .text x, _, _, h, r => by
    cases h
    obtain ⟨t, rfl⟩ := r
    exact .text x t
  | .tup ks, _, _, h, r => by
    cases h with
    | tup e q =>
      cases r
      obtain ⟨its, rv, ⟨o, ho, hc, n, hd⟩, _⟩ := I.tuple (SqT.of e)
      exact .tup ho hc hd (by simpa using nall_run I ks _ its q rv)
theorem nall_run (I : Inv X pins σ H s) : ∀ (ks : List NestedKey) (xs : List V) (us : List Value), NAll H ks xs → Vals xs us → NestedAll s.heap ks us
  | [], _, _, h, r => by
    cases h
    cases r
    exact .nil
  | k :: ks, _, _, h, r => by
    cases h with
    | cons a q =>
      cases r with
      | cons r1 r2 => exact .cons (nis_run I k _ _ a r1) (nall_run I ks _ _ q r2)
end
end
/-- the dict's own object -/
def metO (P : Program) (w : World) (d : Addr) (xs : List (NestedKey × Addr × Value)) : HO :=
  .ext fun h => (d == sysModules) = false ∧ ∃ o es ep, h.get? d = some o ∧ o.ExactDict ∧ o.data = .dict es ep ∧ es.toList = xs.map (entryOfKey (nestedKind P w)) ∧ (xs.map (·.1)).Nodup
/-- a dict of at most N nested keys, the keys' tuples standing -/
def MetAt (P : Program) (w : World) (H : Hp) (d : Addr) (N : Nat) : Prop := ∃ xs, H d = some (metO P w d xs) ∧ xs.length ≤ N ∧ ∀ x ∈ xs, x.1.depth ≤ 8 ∧ NIs H x.1 (.ref x.2.1)
theorem MetAt.keep {P : Program} {w : World} {H H' : Hp} {d : Addr} {N : Nat} (m : MetAt P w H d N) (t : TupS H H') (e : ∀ o, H d = some o → H' d = some o) : MetAt P w H' d N :=
  let ⟨xs, h1, h2, h3⟩ := m
  ⟨xs, e _ h1, h2, fun x hx => ⟨(h3 x hx).1, NIs.keep t _ _ (h3 x hx).2⟩⟩
theorem MetAt.same {P : Program} {w : World} {H H' : Hp} {d : Addr} {N : Nat} (m : MetAt P w H d N) (s : Same H H') : MetAt P w H' d N := m.keep (tupsS s) fun o e => s _ _ e
theorem MetAt.at {P : Program} {w : World} {H : Hp} {d : Addr} {N : Nat} (m : MetAt P w H d N) : ∃ φ, H d = some (.ext φ) := let ⟨_, h, _⟩ := m; ⟨_, h⟩
section
variable {X : Cx} {pins : List (Addr × Obj)} {σ : L2.St} {H : Hp} {s : Shared} {d : Addr} {N : Nat} {pos : Pos} {i o : Expr} {ty td tv : TE}
theorem met_of (I : Inv X pins σ H s) {xs : List (NestedKey × Addr × Value)} (h1 : H d = some (metO X.prog X.w d xs)) (h3 : ∀ x ∈ xs, x.1.depth ≤ 8 ∧ NIs H x.1 (.ref x.2.1)) : (d == sysModules) = false ∧ s.heap.DictOfH (nestedKind X.prog X.w) d xs := by
  obtain ⟨⟨hd, o, es, ep, e1, e2, e3, e4, e5⟩, _⟩ := I.hok d _ h1
  exact ⟨hd, o, es, ep, e1, e2, e3, e4, fun x hx => ⟨nis_run I _ _ _ (h3 x hx).2 rfl, (h3 x hx).1⟩, e5⟩
/-- {} -/
def tMetNew (P : Program) (w : World) : TE := fun _ H Q => ∀ p, H p = none → Q (.ref p) (upd H p (metO P w p []))
theorem pe_metnew : PE X (.Dict [] [] pos) (tMetNew X.prog X.w) := ⟨fun pins s σ H Q I h => by
  refine wpAny_Dict_empty ⟨.ref s.heap.objs.size, _, I.laid (a := s.heap.objs.size) (o := metO X.prog X.w s.heap.objs.size []) (t' := s.toks) (fun _ _ q => Heap.get?_push_of_some _ q) (Nat.le_refl _) ?_, rfl, h _ (I.hok.fresh (Nat.le_refl _))⟩
  refine ⟨⟨beq_eq_false_iff_ne.mpr (Ne.symm (Nat.ne_of_lt I.big)), _, #[], 0, Heap.get?_push_size _ rfl, ⟨rfl, rfl, rfl⟩, rfl, rfl, List.nodup_nil⟩, ⟨_, Heap.get?_push_size _ rfl⟩, ?_⟩
  rintro ha hb ⟨q1, o, es, ep, q2, q3⟩ k
  exact ⟨q1, o, es, ep, k _ q2, q3⟩⟩
/-- k not in d -/
def tMetNot (P : Program) (w : World) (ty td : TE) : TE := fun σ H Q => ty σ H fun y H1 => td σ H1 fun x H2 => ∃ d N k b, x = .ref d ∧ y = .ref b ∧ MetAt P w H2 d N ∧ NIs H2 k (.ref b) ∧ k.depth ≤ 8 ∧ ∀ c, Q (.bl c) H2
theorem pc_metnot (hu : X.A.units + 64 < cLine) (hi : PE X i ty) (ho : PE X o td) : PC X .NotIn i o (tMetNot X.prog X.w ty td) := by
  refine ⟨fun pins s σ H Q I h => ?_⟩
  refine thn (hi.run pins s σ H _ I h) fun iv s1 ⟨y, H1, I1, ry, q1⟩ => thn (ho.run pins s1 σ H1 _ I1 q1) fun u s2 ⟨x, H2, I2, rx, d, N, k, b, ex, ey, ⟨xs, h1, h2, h3⟩, hk, hk8, q2⟩ => ?_
  subst ex ey
  obtain rfl : u = Value.ref d := rx
  obtain rfl : iv = Value.ref b := ry
  obtain ⟨hd, hm⟩ := met_of I2 h1 h3
  refine notIn_keyed (knd := nestedKind X.prog X.w) (k := k) (by show X.A.units + 1 + 8 < cLine; omega) ⟨nis_run I2 _ _ _ hk rfl, hk8⟩ hd ⟨xs, hm, rfl⟩ ?_
  exact ⟨.bl _, H2, I2.tok _, rfl, q2 _⟩
/-- d[k] = v -/
def sMetPut (P : Program) (w : World) (td ty tv : TE) : TS := fun D σ H => tv σ H fun v H1 => td σ H1 fun x H2 => ty σ H2 fun y H3 => ∃ d N k b, x = .ref d ∧ y = .ref b ∧ MetAt P w H3 d N ∧ N < 100000 ∧ NIs H3 k (.ref b) ∧ k.depth ≤ 8 ∧
  ∀ u, MetAt P w (upd H3 d u) d (N + 1) → D.nx σ (upd H3 d u)
theorem ps_metput {value : Expr} {pos' : Pos} (hu : X.A.units + 64 < cLine) (ho : PE X o td) (hi : PE X i ty) (hv : PE X value tv) (hs : swapsWith value (some (.Subscript o i pos')) pos.line X.env = pure false) :
    PS X (.Assign [.Subscript o i pos'] value pos) (sMetPut X.prog X.w td ty tv) := by
  refine ⟨fun pins s σ H D I h => ?_⟩
  refine wpAny_Assign_Subscript (thn (hv.run pins s σ H _ I h) fun r s1 ⟨v, H1, I1, rv, q1⟩ => thn (ho.run pins s1 σ H1 _ I1 q1) fun u s2 ⟨x, H2, I2, rx, q2⟩ => thn (hi.run pins s2 σ H2 _ I2 q2) fun iv s3 ⟨y, H3, I3, ry, d, N, k, b, ex, ey, ⟨xs, h1, h2, h3⟩, hN, hk, hk8, q3⟩ => ?_) hs
  subst ex ey
  obtain rfl : u = Value.ref d := rx
  obtain rfl : iv = Value.ref b := ry
  obtain ⟨hd, hm⟩ := met_of I3 h1 h3
  have hz : xs.length ≤ sizeLine := by rw [sizeLine_eq]; omega
  refine wpAny_setItem_heap (hsz := hz) (knd := nestedKind X.prog X.w) (k := k) (by show X.A.units + 1 + 8 < cLine; omega) ⟨nis_run I3 _ _ _ hk rfl, hk8⟩ hm fun h' hm' hsb => ?_
  have he : ∃ q, h'.get? d = some q := let ⟨q, _, _, hq, _⟩ := hm'; ⟨q, hq⟩
  have tk : TupS H3 (upd H3 d (metO X.prog X.w d (storedH xs k b r))) := fun c ys e => by
    rw [upd_ne (ne_of e h1 (by intro z; cases z))]
    exact e
  refine ⟨σ, _, d_write I3 (by rw [h1]; exact True.intro) hsb he ?_, q3 (metO X.prog X.w d (storedH xs k b r)) ⟨storedH xs k b r, upd_same, Nat.le_trans (storedH_length xs k b r) (by omega), fun x hx => ?_⟩⟩
  · obtain ⟨o, es, ep, e1, e2, e3, e4, _, e5⟩ := hm'
    refine ⟨⟨hd, o, es, ep, e1, e2, e3, e4, e5⟩, ⟨_, e1⟩, ?_⟩
    rintro ha hb ⟨q1, o, es, ep, q2, q3⟩ k
    exact ⟨q1, o, es, ep, k _ q2, q3⟩
  · rcases mem_storedH_key hx with ⟨y, hy, z1, z2⟩ | ⟨z1, z2⟩
    · rw [z1, z2]
      exact ⟨(h3 y hy).1, NIs.keep tk _ _ (h3 y hy).2⟩
    · rw [z1, z2]
      exact ⟨hk8, NIs.keep tk _ _ hk⟩
end
end RC
namespace RC
open PySem PySem.Spec PyProof.Rows L2
def dI : Deed → List Int
  | .beg h => [(h : Int)]
  | .come h r => [(h : Int), sideOf r]
/-- deeds as tuples -/
abbrev DeedsV (H : Hp) (xs : List V) (ds : List Deed) : Prop := Paired (fun v d => TrI H v (dI d)) xs ds
def RowH (H : Hp) (t : Addr) (row : List Deed) : Prop := ∃ xs, H t = some (.tup xs) ∧ DeedsV H xs row
theorem DeedsV.keep {H H' : Hp} (k : TupS H H') {xs : List V} {ds : List Deed} (h : DeedsV H xs ds) : DeedsV H' xs ds := Paired.mapP h fun _ _ z => z.keep k
theorem RowH.keep {H H' : Hp} (k : TupS H H') {t : Addr} {row : List Deed} (h : RowH H t row) : RowH H' t row := let ⟨xs, e, p⟩ := h; ⟨xs, k _ _ e, DeedsV.keep k p⟩
theorem runRow_app (y : Wy) (c : List Int) (a b : List Deed) : runRow y c (a ++ b) = (runRow y c a).bind fun s => b.foldlM (step y) s := by
  unfold runRow
  rw [List.foldlM_append]
  rfl
theorem runRow_snoc (y : Wy) (c : List Int) (a : List Deed) (d : Deed) : runRow y c (a ++ [d]) = (runRow y c a).bind fun s => step y s d := by
  rw [runRow_app]
  cases runRow y c a with
  | none => rfl
  | some s =>
    show (step y s d).bind (fun t => some t) = step y s d
    cases step y s d <;> rfl
theorem runRow_pre {y : Wy} {c : List Int} {row : List Deed} {st : Sta} (h : runRow y c row = some st) (i : Nat) : ∃ s, runRow y c (row.take i) = some s := by
  have e : row = row.take i ++ row.drop i := (List.take_append_drop i row).symm
  rw [e, runRow_app] at h
  cases q : runRow y c (row.take i) with
  | none => rw [q] at h; cases h
  | some s => exact ⟨s, rfl⟩
theorem RunAt.same {K : PySem.W.Frag} {y : Wy} {H0 H : Hp} {p : Addr} {st : Sta} (R : RunAt K y H0 H p st) : Same H0 H := let ⟨_, _, _, _, _, r⟩ := R; r.same
section
variable {P : Program} {w : World} {K : PySem.W.Frag} {mg : PySem.Str → Option Value} {base : Heap}
def spDone (K : PySem.W.Frag) (y : Wy) : Sp := fun vs H Q _ => ∃ (a t : Addr) (c : List Int) (row : List Deed) (st : Sta), vs = [.str (wyS y), .ref a, .ref t] ∧ H a = some (.tup (c.map V.int)) ∧ RingOk y c ∧ RowH H t row ∧ runRow y c row = some st ∧
  (∀ k s, runRow y c (row.take k) = some s → SmallS s) ∧ ∀ H' p, RunAt K y H H' p st → Q (.ref p) H'
def spDoneA (K : PySem.W.Frag) : Sp := fun vs H Q E => ∃ y, spDone K y vs H Q E
theorem ok_done (T : Tx K mg) : Okd P w K mg base 8 (He.fAd K ("_law_done", none)) P_done (spDoneA K) := by
  refine okd T 56 d_done rfl rfl (N := N_done) sc_done (fun _ _ _ _ _ _ us hl => match us, hl with | [_, _, _], _ => rfl) (fun vs H Q E h => ?_) (fun cdv A outer s H vs Q E hr h => ?_)
  · obtain ⟨y, a, t, c, row, st, rfl, _⟩ := h
    rfl
  · obtain ⟨y, a, t, c, row, st, rfl, ha, hok, ⟨xs, hx, px⟩, hrun, hsm, out⟩ := h
    obtain ⟨fdI, GI, bI⟩ := ok_Ru_init (P := P) (w := w) (base := base) T y
    obtain ⟨fdB, GB, bB⟩ := ok_Ru_begin (P := P) (w := w) (base := base) T y
    obtain ⟨fdC, GC, bC⟩ := ok_Ru_come (P := P) (w := w) (base := base) T y
    refine ⟨_, pss_cons (ps_set (i := 3) sc_done.nd rfl (.inl rfl) (pe_make T.mk_Run GI (hr.mono (by decide)) rfl T.g_Run bI .nil pass0 (pa_cons (pv 0) (pa_cons (pv 1) pa_nil))))
      (pss_cons (ps_for PassesOwn.never rfl (pi_tup (pv 2)) (pg_name (i := 4) sc_done.nd rfl (.inl rfl))
        (pss_one (ps_if (pt_cmpR op_eq (pe_callB call_len_seq (by rfl) T.b_len PySem.boot_len (pa_cons (pv 4) pa_nil)) pe_int (nomark _))
          (pss_one (ps_expr (pe_meth (pv 3) T.c_Run T.m_Run_begin GB hr bB .nil pass0 (pa_cons (pe_ix ix_tup (pv 4) pe_int (fun _ _ => rfl)) pa_nil))))
          (pss_one (ps_expr (pe_meth (pv 3) T.c_Run T.m_Run_come GC hr bC .nil pass0 (pa_cons (pe_ix ix_tup (pv 4) pe_int (fun _ _ => rfl)) (pa_cons (pe_ix ix_tup (pv 4) pe_int (fun _ _ => rfl)) pa_nil))))))))
      (pss_one (ps_ret (pv 3)))), ?_⟩
    refine ⟨_, rfl, _, rfl, fun x dx hx0 hdx nex => ?_⟩
    have s0 : Same H (upd (upd H dx (.own x)) x (.ins (RuC K) dx [])) := fun b o e => by
      rw [upd_ne (ne_of_none e hx0), upd_ne (ne_of_none e hdx)]
      exact e
    refine ⟨H, x, dx, a, c, rfl, s0, hx0, upd_same, ha, hok, fun H1 R1 => ⟨rfl, ?_⟩⟩
    refine ⟨_, rfl, t, rfl, ⟨_, SqT.of (R1.same _ _ hx)⟩, ?_⟩
    refine for_it (walk_tup (xs := xs)) (fun i σ H' => ∃ u st', σ = [some (.str (wyS y)), some (.ref a), some (.ref t), some (.ref x), u] ∧ runRow y c (row.take i) = some st' ∧ RunAt K y H H' x st') ⟨none, _, rfl, rfl, R1⟩
      (fun _ _ _ _ ⟨_, _, _, _, q⟩ => SqT.of (q.same _ _ hx)) ?_ ?_
    · rintro i z σ H2 H3 hi ⟨u, st1, rfl, h1, R2⟩ ⟨rfl, hz⟩
      obtain ⟨d, hd, ⟨td, rfl, ht⟩⟩ := paired_get px hz
      have ht2 := R2.same _ _ ht
      obtain ⟨st2, h2⟩ := runRow_pre hrun (i + 1)
      have hstep : step y st1 d = some st2 := by
        have e : row.take (i + 1) = row.take i ++ [d] := by
          rw [List.take_add_one, hd]
          rfl
        rw [e, runRow_snoc, h1] at h2
        exact h2
      have sm := hsm _ _ h1
      obtain ⟨dxr, hl, rd, hp⟩ : ∃ dxr hl rd, H3 x = some (.ins (RuC K) dxr (runF hl rd)) := by
        obtain ⟨tg, hl, rd, has, ras, r⟩ := R2
        obtain ⟨dx, e⟩ := r.ob
        exact ⟨_, _, _, e⟩
      refine ⟨_, rfl, td, _, rfl, .inr (SqT.of ht2), rfl, _, rfl, ?_⟩
      cases d with
      | beg h =>
        refine iteI (fun e => ?_) (fun e => absurd rfl e)
        exact ⟨_, rfl, x, dxr, _, rfl, hp, (by kernel_rfl), _, rfl, td, _, 0, _, rfl, rfl, SqT.of ht2, rfl, H, x, st1, st2, h, rfl, R2, sm, hstep, fun H4 R4 => ⟨_, _, rfl, h2, R4⟩⟩
      | come h r =>
        refine iteI (fun e => ?_) (fun e => ?_)
        · have e : (2 : Int) = 1 := e
          omega
        · exact ⟨_, rfl, x, dxr, _, rfl, hp, (by kernel_rfl), _, rfl, td, _, 0, _, rfl, rfl, SqT.of ht2, rfl, _, rfl, td, _, 1, _, rfl, rfl, SqT.of ht2, rfl, H, x, st1, st2, h, r, rfl, R2, sm, hstep, fun H4 R4 => ⟨_, _, rfl, h2, R4⟩⟩
    · rintro σ H2 ⟨u, st1, rfl, h1, R2⟩
      rw [px.length, List.take_length, hrun] at h1
      cases h1
      exact ⟨_, rfl, out _ _ R2⟩
end
end RC
namespace RC
open PySem PySem.Spec PyProof.Rows L2
def Deed.house : Deed → Nat
  | .beg h => h
  | .come h _ => h
def busyOf (row : List Deed) (st : Sta) : List Nat := row.map Deed.house ++ begun st
def firsts (row : List Deed) (st : Sta) : List Deed := ((List.range st.n).filter fun h => !(busyOf row st).contains h).map Deed.beg
def waitsB (st : Sta) (h : Nat) (r : Bool) : Bool := match st.roads[idx h r]? with
  | some rd => decide (rd.heard < rd.ls.length)
  | none => false
def comesOf (st : Sta) (h : Nat) : List Deed := ([false, true].filter (waitsB st h)).map (Deed.come h)
def onward (row : List Deed) (st : Sta) : List Deed := firsts row st ++ (List.range st.n).flatMap (comesOf st)
theorem dI0 (d : Deed) : atI ((dI d).map V.int) 0 = some (.int (d.house : Int)) := by cases d <;> rfl
/-! ### letters as data -/
def vD : V → PyData
  | .int i => .int i
  | .str x => .str x
  | _ => .none
def ltD (l : Lt) : PyData := .tuple (l.items.map vD)
theorem lt_dp {K : PySem.W.Frag} {H : Hp} {v : V} {l : Lt} (h : LtAt H v l) : Dp K H v (ltD l) := by
  obtain ⟨a, rfl, ha⟩ := h
  refine .tup (SqT.of ha) ?_
  cases l with
  | probe v r s => exact .cons (.str _) (.cons (.int _) (.cons (.int _) (.cons (.int _) .nil)))
  | back v r => exact .cons (.str _) (.cons (.int _) (.cons (.int _) .nil))
  | _ => exact .cons (.str _) (.cons (.int _) .nil)
theorem lt_fine (l : Lt) : Fine (ltD l) := by
  have s : ∀ x : PySem.Str, PyData.strOk x = true → ∀ ns : List Int, Fine (.tuple (.str x :: ns.map PyData.int)) := fun x hx ns => by
    obtain ⟨f1, f2⟩ := fine_ints ns
    have d0 : ∀ ns : List Int, PyData.depthAll (ns.map PyData.int) = 0 := fun ns => by
      induction ns with
      | nil => rfl
      | cons a t ih =>
        show max 0 (PyData.depthAll (t.map PyData.int)) = 0
        rw [ih]
        rfl
    refine ⟨?_, ?_⟩
    · show (PyData.strOk x && PyData.canLayAll0 (ns.map PyData.int)) = true
      rw [hx, f1]
      rfl
    · show max 0 (PyData.depthAll (ns.map PyData.int)) + 1 ≤ 60
      rw [d0]
      decide
  cases l with
  | name v => exact s "name" (by decide +kernel) [v]
  | chief v => exact s "chief" (by decide +kernel) [v]
  | first v => exact s "first" (by decide +kernel) [v]
  | second v => exact s "second" (by decide +kernel) [v]
  | label v => exact s "label" (by decide +kernel) [v]
  | probe v r t => exact s "probe" (by decide +kernel) [v, r, t]
  | back v r => exact s "back" (by decide +kernel) [v, r]
theorem lts_dp {K : PySem.W.Frag} {H : Hp} : ∀ {vs : List V} {ls : List Lt}, Paired (LtAt H) vs ls → DpAll K H vs (ls.map ltD)
  | _, _, .nil => .nil
  | _, _, .cons h t => .cons (lt_dp h) (lts_dp t)
theorem lts_fine : ∀ ls : List Lt, FineAll (ls.map ltD)
  | [] => FineAll.nil
  | l :: ls => FineAll.cons (lt_fine l) (lts_fine ls)
theorem waits_eq {st : Sta} {h : Nat} {r : Bool} {rod : Rod} (e : st.roads[idx h r]? = some rod) : (!decide ((rod.ls.drop rod.heard).map ltD = [])) = waitsB st h r := by
  unfold waitsB
  rw [e]
  show _ = decide (rod.heard < rod.ls.length)
  by_cases c : rod.heard < rod.ls.length
  · rw [decide_eq_true c, decide_eq_false]
    · rfl
    · intro q
      have q2 := congrArg List.length q
      rw [List.length_map, List.length_drop] at q2
      have q3 : rod.ls.length - rod.heard = 0 := q2
      omega
  · rw [decide_eq_false c, decide_eq_true]
    · rfl
    · rw [List.drop_of_length_le (by omega)]
      rfl
section
variable {P : Program} {w : World} {K : PySem.W.Frag} {mg : PySem.Str → Option Value} {base : Heap}
def spOnward (K : PySem.W.Frag) (y : Wy) : Sp := fun vs H Q _ => ∃ (H0 : Hp) (a t p : Addr) (c : List Int) (row : List Deed) (st : Sta), vs = [.ref a, .ref t, .ref p] ∧ H a = some (.tup (c.map V.int)) ∧ c.length = st.n ∧ RowH H t row ∧ row.length ≤ 900 ∧ RunAt K y H0 H p st ∧
  (∀ rd ∈ st.roads, rd.heard ≤ rd.ls.length) ∧ ∀ H' D xs, H' D = some (.lst xs) → DeedsV H' xs (onward row st) → Same H H' → H D = none → Q (.ref D) H'
def spOnwardA (K : PySem.W.Frag) : Sp := fun vs H Q E => ∃ y, spOnward K y vs H Q E
theorem ok_onward (T : Tx K mg) : Okd P w K mg base 5 (He.fAd K ("_law_onward", none)) P_onward (spOnwardA K) := by
  refine okd T 57 d_onward rfl rfl (N := N_onward) sc_onward (fun _ _ _ _ _ _ us hl => match us, hl with | [_, _, _], _ => rfl) (fun vs H Q E h => ?_) (fun cdv A outer s H vs Q E hr h => ?_)
  · obtain ⟨y, H0, a, t, p, c, row, st, rfl, _⟩ := h
    rfl
  · obtain ⟨y, H0, a, t, p, c, row, st, rfl, ha, hcn, ⟨xs, hx, px⟩, h900, hR, hle, out⟩ := h
    obtain ⟨fdB, GB, bB⟩ := (ok_Ru_begun (P := P) (w := w) (base := base) T y).mono (k := 4) (by decide)
    obtain ⟨fdW, GW, bW⟩ := ok_Ru_waiting (P := P) (w := w) (base := base) T y
    refine ⟨_, pss_cons (ps_set (i := 3) sc_onward.nd rfl (.inr rfl) (pe_op op_cat
        (pe_lc (own := [("_law_deed", 6)]) (g := gName 6) (tt := tYes) (te := tOp (rIxT K) (tVar 6) (tC (.int 0))) rfl sc_onward.nd (pi_tup (pv 1))
          (blkOk_by (own := [("_law_deed", 6)]) (N := N_onward) (sc := defScope s_onward) (by decide +kernel)) (fun _ _ _ _ _ => by exact pg_name (i := 6) sc_onward.nd rfl (Or.inl rfl)) (fun _ _ _ _ _ => pts_nil)
          (fun _ _ _ _ _ => by exact pe_ix ix_tup (pv 6) pe_int (fun _ _ => rfl)))
        (pe_callTy call_list_of (by rfl) T.b_list (by decide +kernel) (pa_cons (pe_meth0 (pv 2) T.c_Run T.m_Run_begun GB hr bB .nil pass0) pa_nil))))
      (pss_cons (ps_setLc (i := 5) (own := [("_law_house", 4)]) (g := gName 4) (tt := tTest (tOp (rIn K true) (tVar 4) (tVar 3))) (te := tTup (tCons (tVar 4) tNil)) rfl sc_onward.nd rfl rfl (sw_true rfl rfl rfl (by decide +kernel))
        (pi_range1 rfl T.b_range (pa_cons (pe_callB call_len_seq (by rfl) T.b_len PySem.boot_len (pa_cons (pv 0) pa_nil)) pa_nil))
        (blkOk_by (own := [("_law_house", 4)]) (N := N_onward) (sc := defScope s_onward) (by decide +kernel)) (fun _ _ _ _ _ => by exact pg_name (i := 4) sc_onward.nd rfl (Or.inl rfl))
        (fun _ _ _ _ _ => by exact pts_one (pt_cmpR op_notIn_seq (pv 4) (pv 3) (by rfl))) (fun _ _ _ _ _ => by exact pe_tup (pa_cons (pv 4) pa_nil)))
      (pss_cons (ps_for PassesOwn.never rfl (pi_range1 rfl T.b_range (pa_cons (pe_callB call_len_seq (by rfl) T.b_len PySem.boot_len (pa_cons (pv 0) pa_nil)) pa_nil)) (pg_name (i := 4) sc_onward.nd rfl (.inr rfl))
        (pss_one (ps_expr (pe_bm PySem.F.plainAttrs_list PySem.F.slot_list_extend PySem.F.type_list_extend mt_extend (pv 5) (pa_cons
          (pe_lc (own := [("_law_side", 7)]) (g := gName 7) (tt := tTest (tOp (rNeD K) (tMeth (RuC K) "waiting" (spWait K y) [] E0 (tVar 2) (tCons (tVar 4) (tCons (tVar 7) tNil))) (tTup tNil))) (te := tTup (tCons (tVar 4) (tCons (tVar 7) tNil))) rfl sc_onward.nd
            (pi_tup (pe_tup (pa_cons (pe_un un_neg pe_int) (pa_cons pe_int pa_nil))))
            (blkOk_by (own := [("_law_side", 7)]) (N := N_onward) (sc := defScope s_onward) (by decide +kernel)) (fun _ _ _ _ _ => by exact pg_name (i := 7) sc_onward.nd rfl (Or.inl rfl))
            (fun _ _ _ _ _ => by exact pts_one (pt_cmpR (op_neD hr.units) (pe_meth (pv 2) T.c_Run T.m_Run_waiting GW hr bW .nil pass0 (pa_cons (pv 4) (pa_cons (pv 7) pa_nil))) (pe_tup pa_nil) (nomark _)))
            (fun _ _ _ _ _ => by exact pe_tup (pa_cons (pv 4) (pa_cons (pv 7) pa_nil)))) pa_nil)))))
      (pss_one (ps_ret (pv 5))))), ?_⟩
    obtain ⟨dxr, hl, rd, hp⟩ : ∃ dxr hl rd, H p = some (.ins (RuC K) dxr (runF hl rd)) := by
      obtain ⟨tg, hl, rd, has, ras, r⟩ := hR
      obtain ⟨dx, e⟩ := r.ob
      exact ⟨_, _, _, e⟩
    have hn64 : st.n ≤ 64 := by
      obtain ⟨tg, hl, rd, has, ras, r⟩ := hR
      exact r.n64
    refine ⟨_, rfl, t, rfl, ⟨_, SqT.of hx⟩, fun A hA => ?_⟩
    refine lc_it (walk_tup (xs := xs)) (fun i H1 => Same H H1 ∧ H1 A = some (.lst (((row.take i).map Deed.house).map fun i : Nat => V.int (i : Int)))) ?_ (fun _ _ _ q => SqT.of (q.1 _ _ hx)) ?_ ?_
    · exact ⟨newS hA, upd_same⟩
    · rintro i z H1 H2 hi ⟨s1, h1⟩ ⟨rfl, hz⟩
      obtain ⟨d, hd, ⟨td, rfl, ht⟩⟩ := paired_get px hz
      refine ⟨rfl, yes ⟨_, rfl, td, _, 0, _, rfl, rfl, SqT.of (s1 _ _ ht), dI0 d, _, h1, ?_, ?_, ?_⟩⟩
      · rw [List.length_map, List.length_map, List.length_take]
        exact small1000 (by omega)
      · exact fun b o e => by rw [upd_ne (ne_of_none e hA)]; exact s1 _ _ e
      · rw [upd_same, take_succ_map Deed.house hd, List.map_append]
        rfl
    · rintro H1 ⟨s1, h1⟩
      rw [px.length, List.take_length] at h1
      refine ⟨_, rfl, p, dxr, _, rfl, s1 _ _ hp, (by kernel_rfl), H0, p, st, rfl, hR.mono s1, fun H2 tb ⟨tbA, etb, htb⟩ s2 => ?_⟩
      subst etb
      rw [map_nat] at htb
      refine ⟨tbA, _, rfl, .inr (SqT.of htb), fun L hL => ?_⟩
      have s3 : Same H2 (upd H2 L (.lst ((begun st).map fun i : Nat => V.int (i : Int)))) := newS hL
      have s13 := (s1.trans s2).trans s3
      have lb : (begun st).length ≤ 64 := Nat.le_trans (List.length_filter_le _ _) (by rw [List.length_range]; exact hn64)
      refine ⟨A, L, _, _, rfl, rfl, s3 _ _ (s2 _ _ h1), upd_same, ?_, fun B hB => ?_⟩
      · rw [List.length_map, List.length_map, List.length_map]
        exact sz _ (by omega)
      obtain ⟨H4, eH4⟩ : ∃ H4, H4 = upd (upd H2 L (.lst ((begun st).map fun i : Nat => V.int (i : Int)))) B (.lst (((row.map Deed.house).map fun i : Nat => V.int (i : Int)) ++ (begun st).map fun i : Nat => V.int (i : Int))) := ⟨_, rfl⟩
      have s4 := newS (o := .lst (((row.map Deed.house).map fun i : Nat => V.int (i : Int)) ++ (begun st).map fun i : Nat => V.int (i : Int))) hB
      have s14 := s13.trans s4
      have hB4 : H4 B = some (.lst ((busyOf row st).map fun i : Nat => V.int (i : Int))) := by
        rw [eH4, upd_same]
        unfold busyOf
        rw [List.map_append]
      rw [← eH4] at s14 ⊢
      refine ⟨_, rfl, a, _, rfl, .inr (SqT.of (s14 _ _ ha)), (st.n : Int), ?_, by omega, by omega, fun F hF => ?_⟩
      · rw [List.length_map, hcn]
      have F0 : H F = none := s14.free hF
      refine lc_it (walk_range (lo := 0) (n := st.n)) (fun i H5 => Same H4 H5 ∧ ∃ zs, H5 F = some (.lst zs) ∧ DeedsV H5 zs (((List.range i).filter fun h => !(busyOf row st).contains h).map Deed.beg)) ?_ (fun _ _ _ _ => trivial) ?_ ?_
      · exact ⟨newS hF, [], upd_same, .nil⟩
      · rintro i z H5 H6 hi ⟨s5, zs, h5, pz⟩ ⟨rfl, rfl⟩
        have ez : V.int (0 + (i : Int)) = V.int (i : Int) := by rw [Int.zero_add]
        refine ⟨rfl, _, rfl, _, rfl, B, _, rfl, .inl (SqL.of (s5 _ _ hB4)), rfl, flat_nat _, _, rfl, iteB (fun e => ?_) (fun e => ?_)⟩
        · have e : (!inV (.int (0 + (i : Int))) ((busyOf row st).map fun i : Nat => V.int (i : Int))) = true := e
          rw [ez, inV_nat] at e
          refine ⟨_, rfl, sz 1, fun td htd => ?_⟩
          have s6 : Same H6 (upd H6 td (.tup [.int (0 + (i : Int))])) := newS htd
          have lz := pz.length
          rw [List.length_map] at lz
          have lz2 := List.length_filter_le (fun h => !(busyOf row st).contains h) (List.range i)
          rw [List.length_range] at lz2
          refine ⟨zs, s6 _ _ h5, small1000 (by omega), ?_, zs ++ [.ref td], upd_same, ?_⟩
          · exact fun b o q => by rw [upd_ne (ne_of_none q hF)]; exact s6 _ _ (s5 _ _ q)
          · rw [filter_range_succ, if_pos e, List.map_append]
            have k7 : TupS H6 (upd (upd H6 td (.tup [.int (0 + (i : Int))])) F (.lst (zs ++ [.ref td]))) := fun b ys q => by
              rw [upd_ne (ne_of q h5 (by intro z; cases z))]
              exact s6 _ _ q
            refine paired_snoc (DeedsV.keep k7 pz) ⟨td, rfl, ?_⟩
            rw [upd_ne (ne_of upd_same (s6 _ _ h5) (by intro z; cases z)), upd_same]
            show some (HO.tup [V.int (0 + (i : Int))]) = some (HO.tup [V.int (i : Int)])
            rw [ez]
        · have e : (!inV (.int (0 + (i : Int))) ((busyOf row st).map fun i : Nat => V.int (i : Int))) = false := e
          rw [ez, inV_nat] at e
          refine ⟨s5, zs, h5, ?_⟩
          rw [filter_range_succ, if_neg (by rw [e]; exact Bool.false_ne_true), List.append_nil]
          exact pz
      · rintro H5 ⟨s5, zs, h5, pz⟩
        have s15 := s14.trans s5
        refine ⟨_, rfl, a, _, rfl, .inr (SqT.of (s15 _ _ ha)), (st.n : Int), ?_, by omega, by omega, ?_⟩
        · rw [List.length_map, hcn]
        refine for_it (walk_range (lo := 0) (n := st.n)) (fun i σ H' => ∃ u4, σ = [some (.ref a), some (.ref t), some (.ref p), some (.ref B), u4, some (.ref F), none, none] ∧ Same H H' ∧ ∃ zs, H' F = some (.lst zs) ∧ zs.length ≤ 64 + 2 * i ∧ DeedsV H' zs (firsts row st ++ (List.range i).flatMap (comesOf st)))
          ⟨none, rfl, s15, zs, h5, ?_, by rw [List.range_zero]; show DeedsV H5 zs (firsts row st ++ []); rw [List.append_nil]; exact pz⟩ (fun _ _ _ _ _ => trivial) ?_ ?_
        · rw [pz.length, List.length_map]
          have := List.length_filter_le (fun h => !(busyOf row st).contains h) (List.range st.n)
          rw [List.length_range] at this
          omega
        · rintro i z σ H6 H7 hi ⟨u4, rfl, s6, zs6, h6, l6, p6⟩ ⟨rfl, rfl⟩
          have ez : V.int (0 + (i : Int)) = V.int (i : Int) := by rw [Int.zero_add]
          refine ⟨_, rfl, .inl ⟨rfl, _, SqL.of h6⟩, 1, rfl, sz 2, fun Sd hSd => ⟨Sd, rfl, ⟨_, SqT.of upd_same⟩, fun C hC => ?_⟩⟩
          have s7 : Same H7 (upd H7 Sd (.tup [.int (-1), .int 1])) := newS hSd
          have hSd7 : upd H7 Sd (.tup [.int (-1), .int 1]) Sd = some (.tup [.int (-1), .int 1]) := upd_same
          have hC : upd H7 Sd (.tup [.int (-1), .int 1]) C = none := hC
          obtain ⟨H8, eH8⟩ : ∃ H8, H8 = upd H7 Sd (.tup [.int (-1), .int 1]) := ⟨_, rfl⟩
          rw [← eH8] at s7 hSd7 hC
          have goal8 := eH8
          refine lc_it (walk_tup (xs := [.int (-1), .int 1])) (fun k H9 => Same H8 H9 ∧ ∃ ys, H9 C = some (.lst ys) ∧ DeedsV H9 ys ((([false, true].take k).filter (waitsB st i)).map (Deed.come i))) ?_ (fun _ _ _ q => SqT.of (q.1 _ _ hSd7)) ?_ ?_
          · rw [eH8]
            rw [eH8] at hC
            exact ⟨newS hC, [], upd_same, .nil⟩
          · rintro k x H9 H10 hk ⟨s9, ys, h9, p9⟩ ⟨rfl, hx9⟩
            have hk2 : k < 2 := hk
            obtain ⟨r, rfl, er⟩ : ∃ r, x = .int (sideOf r) ∧ [false, true].take (k + 1) = [false, true].take k ++ [r] := by
              obtain rfl | rfl : k = 0 ∨ k = 1 := by omega
              · cases hx9
                exact ⟨false, rfl, rfl⟩
              · cases hx9
                exact ⟨true, rfl, rfl⟩
            have lp : ys.length ≤ 2 := by
              rw [p9.length, List.length_map]
              refine Nat.le_trans (List.length_filter_le _ _) ?_
              rw [List.length_take]
              exact Nat.min_le_right _ _
            have s69 : Same H H10 := (s6.trans s7).trans s9
            obtain ⟨rod, hrod⟩ : ∃ rod, st.roads[idx i r]? = some rod := by
              obtain ⟨tg, hl, rd, has, ras, q⟩ := hR
              refine ⟨_, List.getElem?_eq_getElem ?_⟩
              rw [q.l2]
              have : i < st.homes.length := hi
              unfold idx
              cases r
              · show 2 * i + 0 < _
                omega
              · show 2 * i + 1 < _
                omega
            refine ⟨rfl, _, rfl, p, dxr, _, rfl, s69 _ _ hp, (by kernel_rfl), _, rfl, _, rfl, H0, p, st, i, r, rod, (by show [V.ref p, V.int (0 + (i : Int)), V.int (sideOf r)] = _; rw [ez]), hR.mono s69, hi, hrod, hle _ (List.mem_of_getElem? hrod), fun H11 t2 ⟨vs, hv, pv⟩ s11 => ⟨sz 0, fun Ee hE => ?_⟩⟩
            have s12 : Same H11 (upd H11 Ee (.tup [])) := newS hE
            refine ⟨_, _, .tup (SqT.of (s12 _ _ hv)) (lts_dp (Paired.mapP pv fun _ _ z => z.keep (tupsS s12))), .tup (SqT.of upd_same) .nil, (lts_fine _).tup, sh_tnil, _, rfl, ?_⟩
            rw [eqv_tnil, waits_eq hrod]
            have s92 := s11.trans s12
            have h92 := s92 _ _ h9
            have p92 := DeedsV.keep (tupsS s92) p9
            refine iteB (fun e => ?_) (fun e => ?_)
            · refine ⟨_, rfl, _, rfl, sz 2, fun td htd => ?_⟩
              have s13' := newS (o := .tup [.int (0 + (i : Int)), .int (sideOf r)]) htd
              refine ⟨ys, s13' _ _ h92, small1000 (by omega), ?_, ys ++ [.ref td], upd_same, ?_⟩
              · exact fun b o q => by rw [upd_ne (ne_of_none q hC)]; exact s13' _ _ (s92 _ _ (s9 _ _ q))
              · rw [er, List.filter_append, List.map_append]
                have e1 : [r].filter (waitsB st i) = [r] := by rw [List.filter_cons, if_pos e]; rfl
                rw [e1]
                have k7 : TupS (upd H11 Ee (.tup [])) (upd (upd (upd H11 Ee (.tup [])) td (.tup [.int (0 + (i : Int)), .int (sideOf r)])) C (.lst (ys ++ [.ref td]))) := fun b zs q => by
                  rw [upd_ne (ne_of q h92 (by intro z; cases z))]
                  exact s13' _ _ q
                refine paired_snoc (DeedsV.keep k7 p92) ⟨td, rfl, ?_⟩
                rw [upd_ne (ne_of upd_same (s13' _ _ h92) (by intro z; cases z)), upd_same]
                show some (HO.tup [V.int (0 + (i : Int)), V.int (sideOf r)]) = some (HO.tup [V.int (i : Int), V.int (sideOf r)])
                rw [ez]
            · refine ⟨s9.trans s92, ys, h92, ?_⟩
              rw [er, List.filter_append]
              have e1 : [r].filter (waitsB st i) = [] := by rw [List.filter_cons, if_neg (by rw [e]; exact Bool.false_ne_true)]; rfl
              rw [e1, List.append_nil]
              exact p92
          · rintro H9 ⟨s9, ys, h9, p9⟩
            have h6' := s9 _ _ (s7 _ _ h6)
            have p9 : DeedsV H9 ys (comesOf st i) := p9
            have ly : ys.length ≤ 2 := by
              rw [p9.length]
              unfold comesOf
              rw [List.length_map]
              exact List.length_filter_le _ _
            have s79 := s7.trans s9
            have k8 : ∀ o, TupS H9 (upd H9 F (.lst o)) := fun o b zs q => by
              rw [upd_ne (ne_of q h6' (by intro z; cases z))]
              exact q
            refine ⟨F, C, zs6, ys, rfl, rfl, h6', h9, sz _ (by omega), _, rfl, ?_, zs6 ++ ys, upd_same, ?_, ?_⟩
            · exact fun b o q => by rw [upd_ne (ne_of_none q F0)]; exact s79 _ _ (s6 _ _ q)
            · rw [List.length_append]
              omega
            · rw [List.range_succ, List.flatMap_append, ← List.append_assoc]
              have e2 : [i].flatMap (comesOf st) = comesOf st i := by
                rw [List.flatMap_cons, List.flatMap_nil, List.append_nil]
              rw [e2]
              exact paired_app (DeedsV.keep ((tupsS s79).trans (k8 _)) p6) (DeedsV.keep (k8 _) p9)
        · rintro σ H6 ⟨u4, rfl, s6, zs6, h6, l6, p6⟩
          exact ⟨_, rfl, out H6 F zs6 h6 p6 s6 F0⟩
end
end RC
namespace RC
open PySem PySem.Spec PyProof.Rows L2
/-! ### keys -/
def DpK (n : Nat) (ks : List NestedKey) : Prop := NestedKey.depthAll ks ≤ n
theorem depth_app : ∀ (ks ls : List NestedKey) (n : Nat), NestedKey.depthAll ks ≤ n → NestedKey.depthAll ls ≤ n → NestedKey.depthAll (ks ++ ls) ≤ n
  | [], _, _, _, h => h
  | k :: ks, ls, n, h, h2 => by
    have h : max k.depth (NestedKey.depthAll ks) ≤ n := h
    exact Nat.max_le.mpr ⟨(Nat.max_le.mp h).1, depth_app ks ls n (Nat.max_le.mp h).2 h2⟩
theorem nall_app {H : Hp} : ∀ {ks ls : List NestedKey} {xs ys : List V}, NAll H ks xs → NAll H ls ys → NAll H (ks ++ ls) (xs ++ ys)
  | [], _, _, _, h, g => by cases h; exact g
  | k :: ks, _, _, _, h, g => by
    cases h with
    | cons a t => exact .cons a (nall_app t g)
theorem nall_ints {H : Hp} : ∀ ns : List Int, NAll H (ns.map NestedKey.num) (ns.map V.int)
  | [] => .nil
  | n :: ns => .cons (.int n) (nall_ints ns)
theorem depth_ints : ∀ ns : List Int, NestedKey.depthAll (ns.map NestedKey.num) = 0
  | [] => rfl
  | n :: ns => by
    show max 0 (NestedKey.depthAll (ns.map NestedKey.num)) = 0
    rw [depth_ints ns]
    rfl
def NKey (H : Hp) (v : V) (n : Nat) : Prop := ∃ k, NIs H k v ∧ k.depth ≤ n
theorem NKey.keep {H H' : Hp} {v : V} {n : Nat} (t : TupS H H') (h : NKey H v n) : NKey H' v n := let ⟨k, a, b⟩ := h; ⟨k, NIs.keep t k v a, b⟩
def NKeys (H : Hp) (vs : List V) (n : Nat) : Prop := ∃ ks, NAll H ks vs ∧ NestedKey.depthAll ks ≤ n
theorem NKeys.keep {H H' : Hp} {vs : List V} {n : Nat} (t : TupS H H') (h : NKeys H vs n) : NKeys H' vs n := let ⟨k, a, b⟩ := h; ⟨k, NAll.keep t k vs a, b⟩
theorem NKeys.nil {H : Hp} {n : Nat} : NKeys H [] n := ⟨[], .nil, Nat.zero_le _⟩
theorem NKeys.snoc {H : Hp} {vs : List V} {v : V} {n : Nat} (h : NKeys H vs n) (g : NKey H v n) : NKeys H (vs ++ [v]) n := by
  obtain ⟨ks, a, b⟩ := h
  obtain ⟨k, c, d⟩ := g
  exact ⟨ks ++ [k], nall_app a (.cons c .nil), depth_app _ _ _ b (Nat.max_le.mpr ⟨d, Nat.zero_le _⟩)⟩
theorem NKeys.cons {H : Hp} {vs : List V} {v : V} {n : Nat} (g : NKey H v n) (h : NKeys H vs n) : NKeys H (v :: vs) n := by
  obtain ⟨ks, a, b⟩ := h
  obtain ⟨k, c, d⟩ := g
  exact ⟨k :: ks, .cons c a, Nat.max_le.mpr ⟨d, b⟩⟩
theorem NKeys.tup {H : Hp} {vs : List V} {a : Addr} {n : Nat} (h : NKeys H vs n) (e : H a = some (.tup vs)) : NKey H (.ref a) (n + 1) := let ⟨ks, p, q⟩ := h; ⟨.tup ks, .tup e p, Nat.succ_le_succ q⟩
theorem NKey.le {H : Hp} {v : V} {n m : Nat} (h : NKey H v n) (l : n ≤ m) : NKey H v m := let ⟨k, a, b⟩ := h; ⟨k, a, Nat.le_trans b l⟩
theorem nk_int {H : Hp} (i : Int) : NKey H (.int i) 0 := ⟨.num i, .int i, Nat.le_refl _⟩
theorem nk_str {H : Hp} (x : PySem.Str) : NKey H (.str x) 0 := ⟨.text x, .str x, Nat.le_refl _⟩
theorem nks_ints {H : Hp} (ns : List Int) : NKeys H (ns.map V.int) 0 := ⟨_, nall_ints ns, by rw [depth_ints]; exact Nat.le_refl _⟩
theorem nk_lt {H : Hp} {v : V} {l : Lt} (h : LtAt H v l) : NKey H v 1 := by
  obtain ⟨a, rfl, e⟩ := h
  have s : ∀ x : PySem.Str, ∀ ns : List Int, NKeys H (.str x :: ns.map V.int) 0 := fun x ns => NKeys.cons (nk_str x) (nks_ints ns)
  cases l with
  | name v => exact (s "name" [v]).tup e
  | chief v => exact (s "chief" [v]).tup e
  | first v => exact (s "first" [v]).tup e
  | second v => exact (s "second" [v]).tup e
  | label v => exact (s "label" [v]).tup e
  | probe v r t => exact (s "probe" [v, r, t]).tup e
  | back v r => exact (s "back" [v, r]).tup e
theorem nks_lts {H : Hp} : ∀ {vs : List V} {ls : List Lt}, Paired (LtAt H) vs ls → NKeys H vs 1
  | _, _, .nil => .nil
  | _, _, .cons h t => .cons (nk_lt h) (nks_lts t)
theorem nk_lts {H : Hp} {t : Addr} {ls : List Lt} (h : LtsAt H t ls) : NKey H (.ref t) 2 := let ⟨_, e, p⟩ := h; (nks_lts p).tup e
theorem nk_ch {y : Wy} {H : Hp} {v : V} {c : Option (List Int)} (h : ChV y H v c) : NKey H v 1 := by
  cases h with
  | no => exact ⟨.none, .non, Nat.zero_le _⟩
  | nm m h => exact (nk_int m).le (Nat.zero_le _)
  | rd a r w h e g => exact (nks_ints r).tup e
theorem nk_tri {H : Hp} {v : V} {ns : List Int} (h : TrI H v ns) : NKey H v 1 := by
  obtain ⟨a, rfl, e⟩ := h
  exact (nks_ints ns).tup e
section
variable {P : Program} {w : World} {K : PySem.W.Frag} {mg : PySem.Str → Option Value} {base : Heap}
def spKey (K : PySem.W.Frag) (y : Wy) : Sp := fun vs H Q _ => ∃ (H0 : Hp) (a p : Addr) (c : List Int) (st : Sta), vs = [.ref a, .ref p] ∧ H a = some (.tup (c.map V.int)) ∧ c.length = st.n ∧ RunAt K y H0 H p st ∧
  (∀ rd ∈ st.roads, rd.heard ≤ rd.ls.length) ∧ ∀ H' b, NKey H' (.ref b) 8 → Same H H' → Q (.ref b) H'
def spKeyA (K : PySem.W.Frag) : Sp := fun vs H Q E => ∃ y, spKey K y vs H Q E
theorem ok_key (T : Tx K mg) : Okd P w K mg base 5 (He.fAd K ("_law_key", none)) P_key (spKeyA K) := by
  refine okd T 58 d_key rfl rfl (N := N_key) sc_key (fun _ _ _ _ _ _ us hl => match us, hl with | [_, _], _ => rfl) (fun vs H Q E h => ?_) (fun cdv A outer s H vs Q E hr h => ?_)
  · obtain ⟨y, H0, a, p, c, st, rfl, _⟩ := h
    rfl
  · obtain ⟨y, H0, a, p, c, st, rfl, ha, hcn, hR, hle, out⟩ := h
    obtain ⟨fdB, GB, bB⟩ := (ok_Ru_begun (P := P) (w := w) (base := base) T y).mono (k := 4) (by decide)
    obtain ⟨fdW, GW, bW⟩ := ok_Ru_waiting (P := P) (w := w) (base := base) T y
    obtain ⟨fdC, GC, bC⟩ := ok_Ru_carried (P := P) (w := w) (base := base) T y
    obtain ⟨fdN, GN, bN⟩ := (ok_Ru_knows (P := P) (w := w) (base := base) T y).mono (k := 4) (by decide)
    refine ⟨_, pss_cons (ps_set (i := 2) sc_key.nd rfl (.inl rfl) (pe_lst pa_nil))
      (pss_cons (ps_for PassesOwn.never rfl (pi_range1 rfl T.b_range (pa_cons (pe_callB call_len_seq (by rfl) T.b_len PySem.boot_len (pa_cons (pv 0) pa_nil)) pa_nil)) (pg_name (i := 3) sc_key.nd rfl (.inl rfl))
        (pss_cons (ps_for PassesOwn.never rfl (pi_tup (pe_tup (pa_cons (pe_un un_neg pe_int) (pa_cons pe_int pa_nil)))) (pg_name (i := 4) sc_key.nd rfl (.inl rfl))
          (pss_one (ps_expr (pe_bm PySem.F.plainAttrs_list PySem.F.slot_list_append PySem.F.type_list_append mt_append (pv 2) (pa_cons (pe_tup (pa_cons
              (pe_meth (pv 1) T.c_Run T.m_Run_waiting GW hr bW .nil pass0 (pa_cons (pv 3) (pa_cons (pv 4) pa_nil))) (pa_cons
              (pe_meth (pv 1) T.c_Run T.m_Run_carried GC hr bC .nil pass0 (pa_cons (pv 3) (pa_cons (pv 4) pa_nil))) pa_nil))) pa_nil)))))
        (pss_one (ps_expr (pe_bm PySem.F.plainAttrs_list PySem.F.slot_list_append PySem.F.type_list_append mt_append (pv 2) (pa_cons (pe_meth (pv 1) T.c_Run T.m_Run_knows GN hr bN .nil pass0 (pa_cons (pv 3) pa_nil)) pa_nil))))))
      (pss_one (ps_ret (pe_tup (pa_cons (pe_callTy call_tuple_of (by rfl) T.b_tuple (by decide +kernel) (pa_cons (pv 2) pa_nil)) (pa_cons (pe_meth0 (pv 1) T.c_Run T.m_Run_begun GB hr bB .nil pass0) pa_nil)))))), ?_⟩
    obtain ⟨dxr, hl, rd, hp⟩ : ∃ dxr hl rd, H p = some (.ins (RuC K) dxr (runF hl rd)) := by
      obtain ⟨tg, hl, rd, has, ras, r⟩ := hR
      obtain ⟨dx, e⟩ := r.ob
      exact ⟨_, _, _, e⟩
    have hn64 : st.n ≤ 64 := by
      obtain ⟨tg, hl, rd, has, ras, r⟩ := hR
      exact r.n64
    refine ⟨sz 0, fun D hD => ?_⟩
    have s1 : Same H (upd H D (.lst [])) := newS hD
    refine ⟨_, rfl, a, _, rfl, .inr (SqT.of (s1 _ _ ha)), (st.n : Int), ?_, by omega, by omega, ?_⟩
    · rw [List.length_map, hcn]
    refine for_it (walk_range (lo := 0) (n := st.n)) (fun i σ H' => ∃ u3 u4, σ = [some (.ref a), some (.ref p), some (.ref D), u3, u4] ∧ Same H H' ∧ ∃ zs, H' D = some (.lst zs) ∧ zs.length ≤ 3 * i ∧ NKeys H' zs 3)
      ⟨none, none, rfl, s1, [], upd_same, Nat.zero_le _, .nil⟩ (fun _ _ _ _ _ => trivial) ?_ ?_
    · rintro i z σ H1 H2 hi ⟨u3, u4, rfl, s2, zs, h2, l2, n2⟩ ⟨rfl, rfl⟩
      have ez : V.int (0 + (i : Int)) = V.int (i : Int) := by rw [Int.zero_add]
      refine ⟨1, rfl, sz 2, fun Sd hSd => ⟨Sd, rfl, ⟨_, SqT.of upd_same⟩, ?_⟩⟩
      obtain ⟨H8, eH8⟩ : ∃ H8, H8 = upd H2 Sd (.tup [.int (-1), .int 1]) := ⟨_, rfl⟩
      have s7 : Same H2 (upd H2 Sd (.tup [.int (-1), .int 1])) := newS hSd
      have hSd7 : upd H2 Sd (.tup [.int (-1), .int 1]) Sd = some (.tup [.int (-1), .int 1]) := upd_same
      rw [← eH8] at s7 hSd7 ⊢
      refine for_it (walk_tup (xs := [.int (-1), .int 1])) (fun k σ H' => ∃ u4, σ = [some (.ref a), some (.ref p), some (.ref D), some (.int (0 + (i : Int))), u4] ∧ Same H H' ∧ H' Sd = some (.tup [.int (-1), .int 1]) ∧ ∃ zs, H' D = some (.lst zs) ∧ zs.length ≤ 3 * i + k ∧ NKeys H' zs 3)
        ⟨_, rfl, s2.trans s7, hSd7, zs, s7 _ _ h2, l2, n2.keep (tupsS s7)⟩ (fun _ _ _ _ ⟨_, _, _, q, _⟩ => SqT.of q) ?_ ?_
      · rintro k x σ H9 H10 hk ⟨u4, rfl, s9, hS9, ys, h9, l9, n9⟩ ⟨rfl, hx9⟩
        have hk2 : k < 2 := hk
        obtain ⟨r, rfl⟩ : ∃ r, x = .int (sideOf r) := by
          obtain rfl | rfl : k = 0 ∨ k = 1 := by omega
          · cases hx9
            exact ⟨false, rfl⟩
          · cases hx9
            exact ⟨true, rfl⟩
        obtain ⟨rod, hrod⟩ : ∃ rod, st.roads[idx i r]? = some rod := by
          obtain ⟨tg, hl, rd, has, ras, q⟩ := hR
          refine ⟨_, List.getElem?_eq_getElem ?_⟩
          rw [q.l2]
          have : i < st.homes.length := hi
          unfold idx
          cases r
          · show 2 * i + 0 < _
            omega
          · show 2 * i + 1 < _
            omega
        refine ⟨_, rfl, .inl ⟨rfl, _, SqL.of h9⟩, _, rfl, p, dxr, _, rfl, s9 _ _ hp, (by kernel_rfl), _, rfl, _, rfl, H0, p, st, i, r, rod, (by show [V.ref p, V.int (0 + (i : Int)), V.int (sideOf r)] = _; rw [ez]), hR.mono s9, hi, hrod, hle _ (List.mem_of_getElem? hrod), fun H11 t2 hw s11 => ?_⟩
        have s911 := s9.trans s11
        refine ⟨_, rfl, p, dxr, _, rfl, s911 _ _ hp, (by kernel_rfl), _, rfl, _, rfl, H0, p, st, i, r, rod, (by show [V.ref p, V.int (0 + (i : Int)), V.int (sideOf r)] = _; rw [ez]), hR.mono s911, hi, hrod, fun H12 t3 hc s12 => ⟨sz 2, fun tp htp => ?_⟩⟩
        have s13 : Same H12 (upd H12 tp (.tup [.ref t2, .ref t3])) := newS htp
        have s913 := (s11.trans s12).trans s13
        have h13 := s913 _ _ h9
        have k8 : ∀ o, TupS (upd H12 tp (.tup [.ref t2, .ref t3])) (upd (upd H12 tp (.tup [.ref t2, .ref t3])) D (.lst o)) := fun o b zs q => by
          rw [upd_ne (ne_of q h13 (by intro z; cases z))]
          exact q
        refine ⟨D, ys, _, rfl, rfl, h13, small1000 (by omega), _, rfl, ?_, k8 _ _ _ (s913 _ _ hS9), ys ++ [.ref tp], upd_same, ?_, ?_⟩
        · exact fun b o q => by
            rw [upd_ne (ne_of_none q hD)]
            exact s913 _ _ (s9 _ _ q)
        · rw [List.length_append]
          show ys.length + 1 ≤ _
          omega
        · refine NKeys.snoc ((n9.keep (tupsS s913)).keep (k8 _)) ?_
          refine NKey.keep (k8 _) ?_
          have a1 := (nk_lts hw).keep (tupsS (s12.trans s13))
          have a2 := (nk_lts hc).keep (tupsS s13)
          exact (NKeys.cons a1 (NKeys.cons a2 .nil)).tup upd_same
      · rintro σ H9 ⟨u4, rfl, s9, hS9, ys, h9, l9, n9⟩
        have hi2 : i < st.homes.length := hi
        refine ⟨_, rfl, .inl ⟨rfl, _, SqL.of h9⟩, _, rfl, p, dxr, _, rfl, s9 _ _ hp, (by kernel_rfl), _, rfl, H0, p, st, i, st.homes[i], (by show [V.ref p, V.int (0 + (i : Int))] = _; rw [ez]), hR.mono s9, List.getElem?_eq_getElem hi2, fun v hv => ?_⟩
        have k8 : ∀ o, TupS H9 (upd H9 D (.lst o)) := fun o b zs q => by
          rw [upd_ne (ne_of q h9 (by intro z; cases z))]
          exact q
        have l9 : ys.length ≤ 3 * i + 2 := l9
        refine ⟨D, ys, _, rfl, rfl, h9, small1000 (by omega), _, _, rfl, ?_, ys ++ [v], upd_same, ?_, ?_⟩
        · exact fun b o q => by
            rw [upd_ne (ne_of_none q hD)]
            exact s9 _ _ q
        · rw [List.length_append]
          show ys.length + 1 ≤ _
          omega
        · exact NKeys.snoc (n9.keep (k8 _)) (((nk_ch hv).le (by decide)).keep (k8 _))
    · rintro σ H1 ⟨u3, u4, rfl, s2, zs, h2, l2, n2⟩
      refine ⟨_, rfl, D, _, rfl, .inl ⟨SqL.of h2, fun t ht => ?_⟩⟩
      have s3 : Same H1 (upd H1 t (.tup zs)) := newS ht
      refine ⟨_, rfl, p, dxr, _, rfl, s3 _ _ (s2 _ _ hp), (by kernel_rfl), H0, p, st, rfl, hR.mono (s2.trans s3), fun H4 tb htb s4 => ⟨sz 2, fun kt hkt => ?_⟩⟩
      have s5 := newS (o := .tup [.ref t, tb]) hkt
      have s35 := (s3.trans s4).trans s5
      have a1 : NKey (upd H1 t (.tup zs)) (.ref t) 4 := (n2.keep (tupsS s3)).tup upd_same
      have a2 := (nk_tri htb).le (show 1 ≤ 4 by decide)
      exact out _ _ (((NKeys.cons (a1.keep (tupsS (s4.trans s5))) (NKeys.cons (a2.keep (tupsS s5)) .nil)).tup upd_same).le (by decide)) (s2.trans s35)
end
end RC
namespace RC
open PySem PySem.Spec PyProof.Rows L2
/-! ### greatest readings of a turned word -/
theorem gr_perm {w v r : List Int} (p : (rots w).Perm (rots v)) (h : GR w r) : GR v r := by
  obtain ⟨g, gm, gx, e⟩ := h
  refine ⟨g, p.mem_iff.mp gm, fun x hx => gx x (p.mem_iff.mpr hx), ?_⟩
  rw [← p.count_eq]
  exact e
theorem gr_one {w r s : List Int} (h : GR w r) (h2 : GR w s) : r = s := by
  obtain ⟨g, gm, gx, e⟩ := h
  obtain ⟨g2, gm2, gx2, e2⟩ := h2
  have : g = g2 := lex_anti (gx g2 gm2) (gx2 g gm)
  rw [e, e2, this]
theorem rots_rot {c : List Int} (h3 : c.length ≤ 3) {i : Nat} (hi : i < c.length) : (rots (rot c i)).Perm (rots c) := by
  match c, h3, hi with
  | [a], _, hi =>
    have : i = 0 := by
      have : i < 1 := hi
      omega
    subst this
    exact .refl _
  | [a, b], _, hi =>
    have hi : i < 2 := hi
    obtain rfl | rfl : i = 0 ∨ i = 1 := by omega
    · exact .refl _
    · exact .swap _ _ _
  | [a, b, d], _, hi =>
    have hi : i < 3 := hi
    obtain rfl | rfl | rfl : i = 0 ∨ i = 1 ∨ i = 2 := by omega
    · exact .refl _
    · exact List.perm_append_comm (l₁ := [[b, d, a], [d, a, b]]) (l₂ := [[a, b, d]])
    · exact List.perm_append_comm (l₁ := [[d, a, b]]) (l₂ := [[a, b, d], [b, d, a]])
theorem gr_rot {c r s : List Int} (h3 : c.length ≤ 3) {i : Nat} (hi : i < c.length) (h : GR (rot c i) r) (h2 : GR c s) : r = s := gr_one (gr_perm (rots_rot h3 hi) h) h2
theorem isTop_max {c : List Int} {sm : List Nat} {m M : Int} (hin : ∀ h ∈ sm, h < c.length) (ht : isTop c sm m = true) (hM : M ∈ sm.map fun h => c.getD h 0) (hx : ∀ v ∈ sm.map (fun h => c.getD h 0), v ≤ M) : m = M := by
  unfold isTop at ht
  obtain ⟨h1, h2⟩ := Bool.and_eq_true_iff.mp ht
  obtain ⟨i, hi, e⟩ := List.any_eq_true.mp h1
  have e := eq_of_beq e
  obtain ⟨j, hj, ej⟩ := List.mem_map.mp hM
  have le1 : m ≤ M := by
    refine hx m (List.mem_map.mpr ⟨i, hi, ?_⟩)
    show c.getD i 0 = m
    rw [List.getD_eq_getElem?_getD, e]
    rfl
  have le2 : M ≤ m := by
    have z := List.all_eq_true.mp h2 j hj
    have hv : c[j]? = some (c[j]'(hin j hj)) := List.getElem?_eq_getElem _
    rw [hv] at z
    have z := of_decide_eq_true z
    have : c.getD j 0 = c[j]'(hin j hj) := by
      rw [List.getD_eq_getElem?_getD, hv]
      rfl
    have ej : c.getD j 0 = M := ej
    omega
  omega
theorem chv_whole {H : Hp} {u : V} {w : List Int} (h : ChV .whole H u (some w)) : ∃ b r, u = .ref b ∧ H b = some (.tup (r.map V.int)) ∧ GR w r := by
  generalize hx : some w = x at h
  cases h with
  | no => cases hx
  | nm m h => exact absurd rfl h
  | rd b r w' h e g =>
    cases hx
    exact ⟨b, r, rfl, e, g⟩
theorem chv_name {y : Wy} {H : Hp} {u : V} {m : Int} (ny : y ≠ .whole) (h : ChV y H u (some [m])) : u = .int m := by
  generalize hx : some [m] = x at h
  cases h with
  | no => cases hx
  | nm m h =>
    cases hx
    rfl
  | rd b r w' h e g => exact absurd h ny
/-- == of two numbers or of two tuples of ints -/
def rEqX (K : PySem.W.Frag) : R2 := fun x y H Q => rEq x y H Q ∨ rEqT K x y H Q
theorem op_eqX {X : Cx} (hu : X.A.units + 64 < cLine) : OpR X (compareOp .Eq) (rEqX X.K) := by
  intro pins s σ H x y v u Q I rx ry h
  rcases h with h | h
  · exact op_eq pins s σ H x y v u Q I rx ry h
  · exact op_eqT hu pins s σ H x y v u Q I rx ry h
section
variable {P : Program} {w : World} {K : PySem.W.Frag} {mg : PySem.Str → Option Value} {base : Heap}
def spRight (K : PySem.W.Frag) (y : Wy) : Sp := fun vs H Q _ => ∃ (H0 : Hp) (a p : Addr) (c : List Int) (st : Sta), vs = [.str (wyS y), .ref a, .ref p] ∧ H a = some (.tup (c.map V.int)) ∧ c.length = st.n ∧ 1 ≤ c.length ∧ c.length ≤ 3 ∧ RunAt K y H0 H p st ∧
  (y = .whole → ∀ x ∈ c, 0 ≤ x ∧ x ≤ 99) ∧ right y c st = true ∧ begun st ≠ [] ∧ st.roads.all clearB = true ∧ ∀ H', Same H H' → Q (.bl true) H'
def spRightA (K : PySem.W.Frag) : Sp := fun vs H Q E => ∃ y, spRight K y vs H Q E
theorem ok_is_right (T : Tx K mg) : Okd P w K mg base 5 (He.fAd K ("_law_is_right", none)) P_is_right (spRightA K) := by
  refine okd T 59 d_is_right rfl rfl (N := N_is_right) sc_is_right (fun _ _ _ _ _ _ us hl => match us, hl with | [_, _, _], _ => rfl) (fun vs H Q E h => ?_) (fun cdv A outer s H vs Q E hr h => ?_)
  · obtain ⟨y, H0, a, p, c, st, rfl, _⟩ := h
    rfl
  · obtain ⟨y, H0, a, p, c, st, rfl, ha, hcn, h1, h3, hR, hwd, hright, hbeg, hstill, out⟩ := h
    obtain ⟨fdB, GB, bB⟩ := (ok_Ru_begun (P := P) (w := w) (base := base) T y).mono (k := 4) (by decide)
    obtain ⟨fdR, GR', bR⟩ := (ok_reading (P := P) (w := w) (base := base) T).mono (k := 4) (by decide)
    obtain ⟨fdS, GS, bS⟩ := (ok_Ru_sent (P := P) (w := w) (base := base) T y).mono (k := 4) (by decide)
    obtain ⟨fdT, GT, bT⟩ := (ok_total (P := P) (w := w) (base := base) T y).mono (k := 4) (by decide)
    obtain ⟨fdI, GI, bI⟩ := (ok_Ru_still (P := P) (w := w) (base := base) T y).mono (k := 4) (by decide)
    obtain ⟨fdN, GN, bN⟩ := (ok_Ru_knows (P := P) (w := w) (base := base) T y).mono (k := 4) (by decide)
    refine ⟨_, pss_cons (ps_set (i := 3) sc_is_right.nd rfl (.inl rfl) (pe_meth0 (pv 2) T.c_Run T.m_Run_begun GB hr bB .nil pass0))
      (pss_mid (ps_set (i := 4) sc_is_right.nd rfl (.inr rfl) (pe_ifExp (pt_cmpR op_eq (pv 0) pe_str (nomark _)) (pe_call GR' hr rfl T.g__law_reading (T.kp 52 (d := d_reading) rfl) bR .nil pass0 (pa_cons (pv 1) pa_nil))
        (pe_callB (cr_max rfl) (by rfl) T.b_max (by decide +kernel) (pa_cons
          (pe_lc (own := [("_law_house", 5)]) (g := gName 5) (tt := tYes) (te := tOp (rIxT K) (tVar 1) (tVar 5)) rfl sc_is_right.nd (pi_tup (pv 3))
            (blkOk_by (own := [("_law_house", 5)]) (N := N_is_right) (sc := defScope s_is_right) (by decide +kernel)) (fun _ _ _ _ _ => by exact pg_name (i := 5) sc_is_right.nd rfl (Or.inl rfl)) (fun _ _ _ _ _ => pts_nil)
            (fun _ _ _ _ _ => by exact pe_ix ix_tup (pv 1) (pv 5) (fun _ _ => rfl))) pa_nil))))
      (pss_cons (ps_if (PW.pt (pw_or (pt_cmpR op_ne (pe_meth0 (pv 2) T.c_Run T.m_Run_sent GS hr bS .nil pass0) (pe_call GT hr rfl T.g__law_total (T.kp 55 (d := d_total) rfl) bT .nil pass0 (pa_cons (pv 0) (pa_cons (pv 1) (pa_cons (pv 3) pa_nil)))) (nomark _))
        (pw_or1 (pt_cmpR op_notBl (pe_meth0 (pv 2) T.c_Run T.m_Run_is_still GI hr bI .nil pass0) pe_bl (nomark _))))) (pss_one (ps_ret pe_bl)) pss_nil)
      (pss_one (ps_ret (pe_callB (cr_all rfl) (by rfl) T.b_all (by decide +kernel) (pa_cons
        (pe_lc (own := [("_law_house", 5)]) (g := gName 5) (tt := tYes) (te := tOp (rEqX K) (tMeth (RuC K) "knows" (spKnows K y) [] E0 (tVar 2) (tCons (tVar 5) tNil)) (tVar 4)) rfl sc_is_right.nd
          (pi_range1 rfl T.b_range (pa_cons (pe_callB call_len_seq (by rfl) T.b_len PySem.boot_len (pa_cons (pv 1) pa_nil)) pa_nil))
          (blkOk_by (own := [("_law_house", 5)]) (N := N_is_right) (sc := defScope s_is_right) (by decide +kernel)) (fun _ _ _ _ _ => by exact pg_name (i := 5) sc_is_right.nd rfl (Or.inl rfl)) (fun _ _ _ _ _ => pts_nil)
          (fun _ _ _ _ _ => by exact pe_cmpR (op_eqX hr.units) (pe_meth (pv 2) T.c_Run T.m_Run_knows GN hr bN .nil pass0 (pa_cons (pv 5) pa_nil)) (pv 4) (nomark _))) pa_nil)))))), ?_⟩
    obtain ⟨dxr, hl, rd, hp⟩ : ∃ dxr hl rd, H p = some (.ins (RuC K) dxr (runF hl rd)) := by
      obtain ⟨tg, hl, rd, has, ras, r⟩ := hR
      obtain ⟨dx, e⟩ := r.ob
      exact ⟨_, _, _, e⟩
    have hin : ∀ h ∈ begun st, h < c.length := fun h hh => by
      rw [hcn]
      exact List.mem_range.mp (List.mem_filter.mp hh).1
    have lb : (begun st).length ≤ 3 := by
      refine Nat.le_trans (List.length_filter_le _ _) ?_
      rw [List.length_range, ← hcn]
      exact h3
    obtain ⟨hr1, hr2⟩ := Bool.and_eq_true_iff.mp hright
    have hr1 := of_decide_eq_true hr1
    have lc : ((c.map V.int).length : Int) = (c.length : Int) := by rw [List.length_map]
    refine ⟨_, rfl, p, dxr, _, rfl, hp, (by kernel_rfl), H0, p, st, rfl, hR, fun H1 tb ⟨bt, etb, hbt⟩ s1 => ?_⟩
    subst etb
    refine ⟨fun σ' H' => ∃ v, σ' = [some (.str (wyS y)), some (.ref a), some (.ref p), some (.ref bt), some v, none] ∧ Same H1 H' ∧
        ((y = .whole ∧ ∃ r, TupI K H' v r ∧ GR c r) ∨ (y ≠ .whole ∧ ∃ M, v = .int M ∧ (M ∈ (begun st).map fun h => c.getD h 0) ∧ ∀ z ∈ (begun st).map (fun h => c.getD h 0), z ≤ M)), ?_, ?_⟩
    · refine ⟨_, rfl, rfl, _, rfl, iteB (fun e => ?_) (fun e => ?_)⟩
      · have ey : y = .whole := by
          cases y with
          | whole => rfl
          | _ => exact absurd e (by decide +kernel)
        refine ⟨_, rfl, a, c, rfl, s1 _ _ ha, h1, by omega, hwd ey, fun r t H2 hg ht s2 => ⟨t, rfl, s2, .inl ⟨ey, r, ht, hg⟩⟩⟩
      · have ny : y ≠ .whole := fun ey => by
          subst ey
          exact absurd e (by decide +kernel)
        refine ⟨_, rfl, bt, rfl, ⟨_, SqT.of hbt⟩, fun D hD => ?_⟩
        rw [map_nat] at hbt
        refine lc_it (walk_tup (xs := (begun st).map fun i : Nat => V.int (i : Int))) (fun i H2 => Same H1 H2 ∧ H2 D = some (.lst ((((begun st).take i).map fun h => c.getD h 0).map V.int))) ?_ (fun _ _ _ q => SqT.of (q.1 _ _ hbt)) ?_ ?_
        · exact ⟨newS hD, upd_same⟩
        · rintro i z H2 H3 hi ⟨s2, h2⟩ ⟨rfl, hz⟩
          rw [List.getElem?_map] at hz
          obtain ⟨h, hh, rfl⟩ := Option.map_eq_some_iff.mp hz
          have hlt := hin h (List.mem_of_getElem? hh)
          have hv : c[h]? = some (c.getD h 0) := by
            rw [List.getD_eq_getElem?_getD, List.getElem?_eq_getElem hlt]
            rfl
          refine ⟨rfl, yes ⟨_, rfl, _, rfl, a, _, _, _, rfl, rfl, SqT.of (s2 _ _ (s1 _ _ ha)), atI_nat (by rw [List.getElem?_map, hv]; rfl), _, h2, ?_, ?_, ?_⟩⟩
          · rw [List.length_map, List.length_map, List.length_take]
            exact small1000 (by omega)
          · exact fun b o e => by rw [upd_ne (ne_of_none e hD)]; exact s2 _ _ e
          · rw [upd_same, take_succ_map (fun h => c.getD h 0) hh, List.map_append]
            rfl
        · rintro H2 ⟨s2, h2⟩
          rw [List.length_map, List.take_length] at h2
          refine ⟨D, _, rfl, SqL.of h2, ?_, fun M hM hx => ⟨.int M, rfl, s2, .inr ⟨ny, M, rfl, hM, hx⟩⟩⟩
          rw [List.length_map]
          exact List.length_pos_iff.mpr hbeg
    · rintro σ H2 ⟨v, rfl, s2, hdue⟩
      have s12 := s1.trans s2
      refine ⟨_, rfl, p, dxr, _, rfl, s12 _ _ hp, (by kernel_rfl), H0, p, st, rfl, hR.mono s12, fun H3 s3 => ?_⟩
      have s13 := s12.trans s3
      refine ⟨_, rfl, _, rfl, _, rfl, a, .ref bt, c, begun st, rfl, s13 _ _ ha, ⟨bt, rfl, s3 _ _ (s2 _ _ hbt)⟩, hin, lb, h1, h3, fun H4 s4 => ?_⟩
      have s14 := s13.trans s4
      refine ⟨rfl, _, rfl, ?_⟩
      rw [hr1, decide_eq_true (rfl : V.int (total y c (begun st)) = _)]
      refine iteF ⟨_, rfl, p, dxr, _, rfl, s14 _ _ hp, (by kernel_rfl), H0, p, st, rfl, hR.mono s14, fun H5 s5 => ?_⟩
      have s15 := s14.trans s5
      rw [hstill]
      refine ⟨true, true, rfl, rfl, _, rfl, iteF ?_⟩
      refine ⟨_, rfl, a, _, rfl, .inr (SqT.of (s15 _ _ ha)), (c.length : Int), ?_, by omega, by omega, fun D hD => ?_⟩
      · rw [lc]
      have D0 := s15.free hD
      have v5 : (y = .whole ∧ ∃ r, TupI K H5 v r ∧ GR c r) ∨ (y ≠ .whole ∧ ∃ M, v = .int M ∧ (M ∈ (begun st).map fun h => c.getD h 0) ∧ ∀ z ∈ (begun st).map (fun h => c.getD h 0), z ≤ M) := by
        rcases hdue with ⟨e, r, q1, q2⟩ | q
        · exact .inl ⟨e, r, tupI_same ((s3.trans s4).trans s5) q1, q2⟩
        · exact .inr q
      refine lc_it (walk_range (lo := 0) (n := c.length)) (fun i H6 => Same H5 H6 ∧ H6 D = some (.lst ((List.replicate i true).map V.bl))) ?_ (fun _ _ _ _ => trivial) ?_ ?_
      · exact ⟨newS hD, upd_same⟩
      · rintro i z H6 H7 hi ⟨s6, h6⟩ ⟨rfl, rfl⟩
        have ez : V.int (0 + (i : Int)) = V.int (i : Int) := by rw [Int.zero_add]
        have s16 := s15.trans s6
        have hi2 : i < st.homes.length := by
          rw [hcn] at hi
          exact hi
        have hho := List.getElem?_eq_getElem hi2
        generalize st.homes[i] = ho at hho
        refine ⟨rfl, yes ⟨_, rfl, p, dxr, _, rfl, s16 _ _ hp, (by kernel_rfl), _, rfl, H0, p, st, i, ho, (by show [V.ref p, V.int (0 + (i : Int))] = _; rw [ez]), hR.mono s16, hho, fun u hu => ⟨_, rfl, ?_⟩⟩⟩
        have fin : ∃ acc, H7 D = some (.lst acc) ∧ acc.length < sizeLine ∧ (Same H5 (upd H7 D (.lst (acc ++ [.bl true]))) ∧ upd H7 D (.lst (acc ++ [.bl true])) D = some (.lst ((List.replicate (i + 1) true).map V.bl))) := by
          refine ⟨_, h6, ?_, ?_, ?_⟩
          · rw [List.length_map, List.length_replicate]
            exact small1000 (by omega)
          · exact fun b o e => by rw [upd_ne (ne_of_none e hD)]; exact s6 _ _ e
          · rw [upd_same, List.replicate_succ', List.map_append]
            rfl
        rcases v5 with ⟨ey, r, q1, q2⟩ | ⟨ny, M, rfl, hM, hx⟩
        · subst ey
          have kw : ho.chief = some (rot c i) := by
            have z := List.all_eq_true.mp (show ((List.range st.n).all fun i => match st.homes[i]? with | .some ho => ho.chief == .some (rot c i) | .none => true) = true from hr2) i (List.mem_range.mpr hi2)
            rw [hho] at z
            exact eq_of_beq z
          rw [kw] at hu
          obtain ⟨b, r', rfl, e, g⟩ := chv_whole hu
          have er := gr_rot h3 hi g q2
          refine .inr ⟨r', r, ⟨b, rfl, SqT.of e⟩, tupI_same s6 q1, ?_⟩
          rw [decide_eq_true er]
          exact fin
        · have kn : ∃ m, ho.chief = some [m] ∧ isTop c (begun st) m = true := by
            have z : (st.homes.all fun ho => match ho.chief with | .some [m] => isTop c (begun st) m | _ => false) = true := by
              cases y with
              | whole => exact absurd rfl ny
              | _ => exact hr2
            have z := List.all_eq_true.mp z ho (List.mem_of_getElem? hho)
            match hc : ho.chief, z with
            | some [m], z => exact ⟨m, rfl, z⟩
          obtain ⟨m, hc, ht⟩ := kn
          rw [hc] at hu
          obtain rfl := chv_name ny hu
          have em := isTop_max hin ht hM hx
          refine .inl ⟨rfl, ?_⟩
          rw [decide_eq_true (by rw [em] : V.int m = V.int M)]
          exact fin
      · rintro H6 ⟨s6, h6⟩
        refine ⟨D, _, rfl, SqL.of h6, ?_⟩
        have e : (List.replicate c.length true).all id = true := by
          rw [List.all_eq_true]
          intro x hx
          rw [List.mem_replicate] at hx
          rw [hx.2]
          rfl
        rw [e]
        exact out H6 (s15.trans s6)
end
end RC
namespace RC
/-! ### all states that a small ring can reach -/
def deeds (n : Nat) : List Deed := (List.range n).flatMap fun h => [.beg h, .come h false, .come h true]
def waitsD (s : Sta) : Deed → Bool
  | .beg _ => false
  | .come h r => match s.roads[idx h r]? with
    | some rd => decide (rd.heard < rd.ls.length)
    | none => false
def anyOn (s : Sta) : Bool := s.homes.any (·.awake)
def nextOk (y : Wy) (met : List Sta) (s : Sta) (d : Deed) : Bool := match step y s d with
  | some t => met.contains t && anyOn t
  | none => !waitsD s d
def tame (s : Sta) : Bool := (s.roads.all fun r => decide (r.heard ≤ r.ls.length) && decide (r.ls.length ≤ 1000)) && s.homes.all fun h => decide (h.labels.length ≤ 60)
def goodB (y : Wy) (c : List Int) (met : List Sta) (s : Sta) : Bool := (deeds s.n).all (nextOk y met s) && (tame s && (decide (s.n = c.length) && (!(still s && anyOn s) || right y c s)))
def closed (y : Wy) (c : List Int) (met : List Sta) : Bool := met.contains (init c) && met.all (goodB y c met)
def succs (y : Wy) (s : Sta) : List Sta := (deeds s.n).filterMap (step y s)
def grow (y : Wy) : Nat → List Sta → List Sta → List Sta
  | 0, _, met => met
  | _ + 1, [], met => met
  | k + 1, s :: r, met => if met.contains s then grow y k r met else grow y k (succs y s ++ r) (s :: met)
def okC (y : Wy) (c : List Int) : Bool := closed y c (grow y 2000 [init c] [])
def perms : List (List Int) := [[0],[0,1],[1,0],[0,1,2],[0,2,1],[1,0,2],[1,2,0],[2,0,1],[2,1,0]]
theorem okR : perms.all (okC .round) = true := by decide +kernel
theorem okH : perms.all (okC .halves) = true := by decide +kernel
theorem okA : [[0],[0,1],[1,0]].all (okC .reach) = true := by decide +kernel
theorem okW : [[0],[0,1],[0,1,2]].all (okC .whole) = true := by decide +kernel
theorem step_deed {y : Wy} {s t : Sta} {d : Deed} (h : step y s d = some t) : d ∈ deeds s.n := by
  unfold deeds
  rw [List.mem_flatMap]
  cases d with
  | beg i =>
    refine ⟨i, List.mem_range.mpr ?_, by simp⟩
    cases e : s.homes[i]? with
    | none =>
      have h : (match s.homes[i]? with | some ho => if ho.awake || ho.touched then none else some (⟨s.homes.set i (startH y s.n ho).1, tell s.n i s.roads (startH y s.n ho).2⟩ : Sta) | none => none) = some t := h
      rw [e] at h
      cases h
    | some ho => exact (List.getElem?_eq_some_iff.mp e).1
  | come i r =>
    refine ⟨i, List.mem_range.mpr ?_, by cases r <;> simp⟩
    cases e : s.homes[i]? with
    | none =>
      exfalso
      unfold step at h
      simp only [e] at h
      cases h
    | some ho => exact (List.getElem?_eq_some_iff.mp e).1
/-- what holds at every state that a ring can reach -/
structure GoodS (y : Wy) (c : List Int) (s : Sta) : Prop where
  come : ∀ h r, h < s.n → waitsD s (.come h r) = true → ∃ t, step y s (.come h r) = some t
  tam : tame s = true
  len : s.n = c.length
  rgt : still s = true → anyOn s = true → right y c s = true
/-- a ring all of whose runs are good -/
def Sound (y : Wy) (c : List Int) : Prop := ∀ row st, runRow y c row = some st → GoodS y c st ∧ (row ≠ [] → anyOn st = true)
theorem foldlM_snoc {y : Wy} : ∀ (row : List Deed) (s : Sta) (d : Deed), (row ++ [d]).foldlM (step y) s = (row.foldlM (step y) s).bind fun t => step y t d := by
  intro row s d
  rw [List.foldlM_append]
  show Option.bind _ (fun t => Option.bind (step y t d) some) = _
  congr 1
  funext t
  cases step y t d <;> rfl
theorem closed_all {y : Wy} {c : List Int} {met : List Sta} (h : closed y c met = true) : ∀ (n : Nat) (row : List Deed), row.length = n → ∀ st, runRow y c row = some st → st ∈ met ∧ (row ≠ [] → anyOn st = true) := by
  obtain ⟨h0, h1⟩ := Bool.and_eq_true_iff.mp h
  intro n
  induction n with
  | zero =>
    intro row hl st hr
    obtain rfl := List.eq_nil_of_length_eq_zero hl
    have : some (init c) = some st := hr
    cases this
    exact ⟨List.contains_iff_mem.mp h0, fun q => absurd rfl q⟩
  | succ n ih =>
    intro row hl st hr
    obtain ⟨a, d, rfl⟩ : ∃ a d, row = a ++ [d] := by
      rcases List.eq_nil_or_concat row with q | ⟨a, d, q⟩
      · rw [q] at hl; cases hl
      · exact ⟨a, d, by rw [q, List.concat_eq_append]⟩
    rw [List.length_append] at hl
    have hl : a.length = n := Nat.succ.inj hl
    unfold runRow at hr
    rw [foldlM_snoc] at hr
    cases e : a.foldlM (step y) (init c) with
    | none => rw [e] at hr; cases hr
    | some s =>
      rw [e] at hr
      have hr : step y s d = some st := hr
      obtain ⟨hm, _⟩ := ih a hl s e
      have g := List.all_eq_true.mp h1 s hm
      obtain ⟨g1, _⟩ := Bool.and_eq_true_iff.mp g
      have g2 := List.all_eq_true.mp g1 d (step_deed hr)
      unfold nextOk at g2
      rw [hr] at g2
      obtain ⟨g3, g4⟩ := Bool.and_eq_true_iff.mp g2
      exact ⟨List.contains_iff_mem.mp g3, fun _ => g4⟩
theorem closed_sound {y : Wy} {c : List Int} {met : List Sta} (h : closed y c met = true) : Sound y c := by
  intro row st hr
  obtain ⟨hm, ha⟩ := closed_all h _ row rfl st hr
  refine ⟨?_, ha⟩
  obtain ⟨_, h1⟩ := Bool.and_eq_true_iff.mp h
  have g := List.all_eq_true.mp h1 st hm
  obtain ⟨g1, g2⟩ := Bool.and_eq_true_iff.mp g
  obtain ⟨g3, g4⟩ := Bool.and_eq_true_iff.mp g2
  obtain ⟨g5, g6⟩ := Bool.and_eq_true_iff.mp g4
  refine ⟨fun i r hi hd => ?_, g3, of_decide_eq_true g5, fun q1 q2 => ?_⟩
  · have dm : Deed.come i r ∈ deeds st.n := by
      unfold deeds
      rw [List.mem_flatMap]
      exact ⟨i, List.mem_range.mpr hi, by cases r <;> simp⟩
    have g2 := List.all_eq_true.mp g1 _ dm
    unfold nextOk at g2
    cases e : step y st (.come i r) with
    | some t => exact ⟨t, rfl⟩
    | none =>
      rw [e] at g2
      have g2 : (!waitsD st (.come i r)) = true := g2
      rw [hd] at g2
      cases g2
  · rw [q1, q2] at g6
    exact g6
end RC
namespace RC
/-! ### other names, the same runs -/
section
variable (f : Int → Int)
def fL : Lt → Lt
  | .name v => .name (f v)
  | .chief v => .chief (f v)
  | .first v => .first (f v)
  | .second v => .second (f v)
  | .label v => .label (f v)
  | .probe v r s => .probe (f v) r s
  | .back v r => .back (f v) r
def fH (h : Ho) : Ho := ⟨f h.own, h.awake, h.touched, h.chief.map (List.map f), h.crown, f h.held, h.near.map f, h.work, h.far, h.backs, h.labels.map f⟩
def fT (t : Told) : Told := t.map fun p => (p.1, fL f p.2)
def fP (p : Ho × Told) : Ho × Told := (fH f p.1, fT f p.2)
def fR (r : Rod) : Rod := ⟨r.ls.map (fL f), r.heard⟩
def fS (s : Sta) : Sta := ⟨s.homes.map (fH f), s.roads.map (fR f)⟩
def Mono : Prop := ∀ a b, f a < f b ↔ a < b
end
section
variable {f : Int → Int}
theorem Mono.eq (m : Mono f) {a b : Int} : f a = f b ↔ a = b := by
  constructor
  · intro h
    have h1 := m a b
    have h2 := m b a
    omega
  · intro h; rw [h]
theorem fT_app (a b : Told) : fT f (a ++ b) = fT f a ++ fT f b := List.map_append
theorem first_eqv (y : Wy) (n : Nat) (h : Ho) : firstTold y n (fH f h) = fP f (firstTold y n h) := by
  cases y with
  | round => rfl
  | halves => rfl
  | reach => rfl
  | whole =>
    show (if n = 1 then _ else _) = fP f (if n = 1 then _ else _)
    by_cases c : n = 1
    · rw [if_pos c, if_pos c]
      show _ = (fH f { h with chief := some (h.own :: h.labels.reverse) }, ([] : Told))
      unfold fH
      simp
    · rw [if_neg c, if_neg c]
      rfl
theorem start_eqv (y : Wy) (n : Nat) (h : Ho) : startH y n (fH f h) = fP f (startH y n h) := first_eqv y n { h with awake := true }
theorem relayed_eqv (y : Wy) (side : Int) (l : Lt) : relayed y side (fL f l) = fT f (relayed y side l) := by
  cases y with
  | reach =>
    cases l with
    | probe v r s =>
      show (if s < r then _ else _) = fT f (if s < r then _ else _)
      by_cases c : s < r
      · rw [if_pos c, if_pos c]; rfl
      · rw [if_neg c, if_neg c]; rfl
    | _ => rfl
  | _ => cases l <;> rfl
theorem chief_eqv (h : Ho) (v : Int) : heardChief (fH f h) (f v) = fP f (heardChief h v) := by
  obtain ⟨o, a, t, ch, cr, he, ne, wk, fa, ba, la⟩ := h
  cases cr <;> rfl
theorem back_eqv (h : Ho) : cameBack (fH f h) = fP f (cameBack h) := by
  show (if h.backs + 1 < 2 then _ else _) = fP f (if h.backs + 1 < 2 then _ else _)
  by_cases c : h.backs + 1 < 2
  · rw [if_pos c, if_pos c]; rfl
  · rw [if_neg c, if_neg c]; rfl
theorem second_eqv (m : Mono f) (h : Ho) (v : Int) : heardSecond (fH f h) (f v) = (heardSecond h v).map (fP f) := by
  cases c : h.near with
  | none =>
    have e1 : (fH f h).near = none := by show h.near.map f = none; rw [c]; rfl
    unfold heardSecond
    rw [e1, c]
    rfl
  | some k =>
    have e1 : (fH f h).near = some (f k) := by show h.near.map f = _; rw [c]; rfl
    unfold heardSecond
    rw [e1, c]
    show (if f h.held < f k ∧ f v < f k then _ else _) = Option.map (fP f) (if h.held < k ∧ v < k then _ else _)
    have q0 : (f h.held < f k ∧ f v < f k) ↔ (h.held < k ∧ v < k) := by rw [m, m]
    by_cases q : h.held < k ∧ v < k
    · rw [if_pos (q0.mpr q), if_pos q]
      simp only [Option.map_some, fP, firstTold, fT, fH, c]
      rfl
    · rw [if_neg fun z => q (q0.mp z), if_neg q]
      simp only [Option.map_some, fP, fT, fH, c]
      rfl
theorem awake_eqv (y : Wy) (m : y ≠ .whole → Mono f) (n : Nat) (h : Ho) (side : Int) (l : Lt) : heardAwake y n (fH f h) side (fL f l) = (heardAwake y n h side l).map (fP f) := by
  cases y with
  | round =>
    have m := m (by simp)
    cases l with
    | name v =>
      show some (if f v = f h.own then _ else if f h.own < f v then _ else _) = Option.map (fP f) (some (if v = h.own then _ else if h.own < v then _ else _))
      by_cases c : v = h.own
      · rw [if_pos (m.eq.mpr c), if_pos c]; rfl
      · rw [if_neg fun z => c (m.eq.mp z), if_neg c]
        by_cases d : h.own < v
        · rw [if_pos ((m _ _).mpr d), if_pos d]; rfl
        · rw [if_neg fun z => d ((m _ _).mp z), if_neg d]; rfl
    | _ => rfl
  | halves =>
    have m := m (by simp)
    cases l with
    | first v =>
      show (if h.work = true then (if f v = f h.held then _ else _) else _) = Option.map (fP f) (if h.work = true then (if v = h.held then _ else _) else _)
      cases w : h.work with
      | true =>
        rw [if_pos rfl, if_pos rfl]
        by_cases c : v = h.held
        · rw [if_pos (m.eq.mpr c), if_pos c]; rfl
        · rw [if_neg fun z => c (m.eq.mp z), if_neg c]
          show some _ = some _
          unfold fP fH
          simp only [fT, w]
          rfl
      | false =>
        rw [if_neg Bool.false_ne_true, if_neg Bool.false_ne_true]
        show some _ = some _
        unfold fP fH
        simp only [fT, w]
        rfl
    | second v =>
      show (if h.work = true then heardSecond (fH f h) (f v) else _) = Option.map (fP f) (if h.work = true then heardSecond h v else _)
      rw [second_eqv m]
      cases w : h.work with
      | true => rfl
      | false =>
        rw [if_neg Bool.false_ne_true, if_neg Bool.false_ne_true]
        show some _ = some _
        unfold fP fH
        simp only [fT, w]
        rfl
    | _ => rfl
  | reach =>
    have m := m (by simp)
    cases l with
    | probe v r s =>
      show (if f v = f h.own then _ else if f v < f h.own then _ else some (fH f h, relayed .reach side (fL f (.probe v r s)))) = Option.map (fP f) (if v = h.own then _ else if v < h.own then _ else _)
      rw [relayed_eqv]
      by_cases c : v = h.own
      · rw [if_pos (m.eq.mpr c), if_pos c]
        obtain ⟨o, a, t, ch, cr, he, ne, wk, fa, ba, la⟩ := h
        cases cr <;> rfl
      · rw [if_neg fun z => c (m.eq.mp z), if_neg c]
        by_cases d : v < h.own
        · rw [if_pos ((m _ _).mpr d), if_pos d]; rfl
        · rw [if_neg fun z => d ((m _ _).mp z), if_neg d]; rfl
    | back v r =>
      show (if f v = f h.own then some (cameBack (fH f h)) else _) = Option.map (fP f) (if v = h.own then _ else _)
      rw [back_eqv]
      by_cases c : v = h.own
      · rw [if_pos (m.eq.mpr c), if_pos c]; rfl
      · rw [if_neg fun z => c (m.eq.mp z), if_neg c]; rfl
    | _ => rfl
  | whole =>
    cases l with
    | label v =>
      have el : h.labels.map f ++ [f v] = (h.labels ++ [v]).map f := by rw [List.map_append]; rfl
      show (if ((h.labels.map f ++ [f v]).length : Int) < (n : Int) - 1 then _ else _) = Option.map (fP f) (if ((h.labels ++ [v]).length : Int) < (n : Int) - 1 then _ else _)
      rw [el, List.length_map]
      by_cases c : ((h.labels ++ [v]).length : Int) < (n : Int) - 1
      · rw [if_pos c, if_pos c]
        unfold fH fP
        simp [fH, fT]
      · rw [if_neg c, if_neg c]
        unfold fH fP
        simp [fH, fT]
    | _ => rfl
theorem fits_eqv (y : Wy) (l : Lt) : fits y (fL f l) = fits y l := by cases y <;> cases l <;> rfl
theorem hear_mid (y : Wy) (m : y ≠ .whole → Mono f) (n : Nat) (h : Ho) (side : Int) (l : Lt) : (match fL f l with | .chief v => some (heardChief (fH f h) v) | l => if (fH f h).awake = true then heardAwake y n (fH f h) side l else some (fH f h, relayed y side l)) =
    Option.map (fP f) (match l with | .chief v => some (heardChief h v) | l => if h.awake = true then heardAwake y n h side l else some (h, relayed y side l)) := by
  have gen : ∀ l, (if (fH f h).awake = true then heardAwake y n (fH f h) side (fL f l) else some (fH f h, relayed y side (fL f l))) = Option.map (fP f) (if h.awake = true then heardAwake y n h side l else some (h, relayed y side l)) := fun l => by
    rw [awake_eqv y m, relayed_eqv]
    show (if h.awake = true then _ else _) = _
    cases h.awake <;> rfl
  cases l with
  | chief v =>
    show some (heardChief (fH f h) (f v)) = Option.map (fP f) (some (heardChief h v))
    rw [chief_eqv]
    rfl
  | name v => exact gen (.name v)
  | first v => exact gen (.first v)
  | second v => exact gen (.second v)
  | label v => exact gen (.label v)
  | probe v r s => exact gen (.probe v r s)
  | back v r => exact gen (.back v r)
theorem hear_eqv (y : Wy) (m : y ≠ .whole → Mono f) (n : Nat) (h : Ho) (side : Int) (l : Lt) : hear y n (fH f h) side (fL f l) = (hear y n h side l).map (fP f) := by
  unfold hear
  rw [fits_eqv]
  cases c : fits y l with
  | false => rfl
  | true =>
    rw [if_pos rfl, if_pos rfl]
    cases y with
    | whole =>
      have e : (if (fH f h).awake = true then (fH f h, ([] : Told)) else startH .whole n (fH f h)) = fP f (if h.awake = true then (h, []) else startH .whole n h) := by
        rw [start_eqv]
        show (if h.awake = true then _ else _) = _
        cases h.awake <;> rfl
      show (heardAwake .whole n (if (fH f h).awake = true then (fH f h, ([] : Told)) else startH .whole n (fH f h)).1 side (fL f l)).map _ = Option.map (fP f) ((heardAwake .whole n (if h.awake = true then (h, []) else startH .whole n h).1 side l).map _)
      rw [e]
      generalize (if h.awake = true then (h, []) else startH .whole n h) = p
      show (heardAwake .whole n (fH f p.1) side (fL f l)).map (fun q => (q.1, fT f p.2 ++ q.2)) = Option.map (fP f) ((heardAwake .whole n p.1 side l).map fun q => (q.1, p.2 ++ q.2))
      rw [awake_eqv .whole m]
      cases heardAwake .whole n p.1 side l with
      | none => rfl
      | some q =>
        show some (fH f q.1, fT f p.2 ++ fT f q.2) = some (fP f (q.1, p.2 ++ q.2))
        unfold fP
        rw [fT_app]
    | round => exact hear_mid .round m n { h with touched := true } side l
    | halves => exact hear_mid .halves m n { h with touched := true } side l
    | reach => exact hear_mid .reach m n { h with touched := true } side l
theorem putOn_eqv (rs : List Rod) (i : Nat) (l : Lt) : putOn (rs.map (fR f)) i (fL f l) = (putOn rs i l).map (fR f) := by
  unfold putOn
  rw [List.getElem?_map]
  cases rs[i]? with
  | none => rfl
  | some r =>
    show (rs.map (fR f)).set i ⟨(r.ls.map (fL f)) ++ [fL f l], r.heard⟩ = (rs.set i ⟨r.ls ++ [l], r.heard⟩).map (fR f)
    rw [List.map_set]
    congr 1
    unfold fR
    rw [List.map_append]
    rfl
theorem tell_eqv (n h : Nat) : ∀ (t : Told) (rs : List Rod), tell n h (rs.map (fR f)) (fT f t) = (tell n h rs t).map (fR f)
  | [], _ => rfl
  | p :: t, rs => by
    show tell n h (tell1 n h (rs.map (fR f)) (p.1, fL f p.2)) (fT f t) = (tell n h (tell1 n h rs p) t).map (fR f)
    have e : tell1 n h (rs.map (fR f)) (p.1, fL f p.2) = (tell1 n h rs p).map (fR f) := putOn_eqv rs _ p.2
    rw [e]
    exact tell_eqv n h t _
theorem n_eqv (s : Sta) : (fS f s).n = s.n := List.length_map ..
theorem beg_some {y : Wy} {s : Sta} {h : Nat} {ho : Ho} (e : s.homes[h]? = some ho) : step y s (.beg h) = if (ho.awake || ho.touched) = true then none else some ⟨s.homes.set h (startH y s.n ho).1, tell s.n h s.roads (startH y s.n ho).2⟩ := by
  unfold step
  simp only [e]
theorem beg_none {y : Wy} {s : Sta} {h : Nat} (e : s.homes[h]? = none) : step y s (.beg h) = none := by
  unfold step
  simp only [e]
theorem come_some {y : Wy} {s : Sta} {h : Nat} {r : Bool} {ho : Ho} {rd : Rod} {l : Lt} (e : s.homes[h]? = some ho) (e2 : s.roads[idx h r]? = some rd) (e3 : rd.ls[rd.heard]? = some l) :
    step y s (.come h r) = (hear y s.n ho (sideOf r) l).map fun p => ⟨s.homes.set h p.1, tell s.n h (s.roads.set (idx h r) { rd with heard := rd.heard + 1 }) p.2⟩ := by
  unfold step
  simp only [e, e2, e3]
  cases hear y s.n ho (sideOf r) l <;> rfl
theorem come_none1 {y : Wy} {s : Sta} {h : Nat} {r : Bool} (e : s.homes[h]? = none) : step y s (.come h r) = none := by
  unfold step
  simp only [e]
theorem come_none2 {y : Wy} {s : Sta} {h : Nat} {r : Bool} (e : s.roads[idx h r]? = none) : step y s (.come h r) = none := by
  unfold step
  simp only [e]
  cases s.homes[h]? <;> rfl
theorem come_none3 {y : Wy} {s : Sta} {h : Nat} {r : Bool} {rd : Rod} (e2 : s.roads[idx h r]? = some rd) (e3 : rd.ls[rd.heard]? = none) : step y s (.come h r) = none := by
  unfold step
  simp only [e2]
  cases s.homes[h]? with
  | none => rfl
  | some ho => simp only [e3]
theorem homes_at {s : Sta} {h : Nat} {o : Option Ho} (e : s.homes[h]? = o) : (fS f s).homes[h]? = o.map (fH f) := by
  show (s.homes.map (fH f))[h]? = _
  rw [List.getElem?_map, e]
theorem roads_at {s : Sta} {h : Nat} {o : Option Rod} (e : s.roads[h]? = o) : (fS f s).roads[h]? = o.map (fR f) := by
  show (s.roads.map (fR f))[h]? = _
  rw [List.getElem?_map, e]
theorem step_eqv (y : Wy) (m : y ≠ .whole → Mono f) (s : Sta) (d : Deed) : step y (fS f s) d = (step y s d).map (fS f) := by
  cases d with
  | beg h =>
    cases e : s.homes[h]? with
    | none => rw [beg_none e, beg_none (homes_at e)]; rfl
    | some ho =>
      rw [beg_some e, beg_some (homes_at e)]
      show (if (ho.awake || ho.touched) = true then none else _) = _
      cases (ho.awake || ho.touched) with
      | true => rfl
      | false =>
        rw [if_neg Bool.false_ne_true, if_neg Bool.false_ne_true]
        rw [n_eqv, start_eqv]
        show some (⟨(s.homes.map (fH f)).set h (fH f (startH y s.n ho).1), tell s.n h (s.roads.map (fR f)) (fT f (startH y s.n ho).2)⟩ : Sta) = some (⟨(s.homes.set h (startH y s.n ho).1).map (fH f), (tell s.n h s.roads (startH y s.n ho).2).map (fR f)⟩ : Sta)
        rw [List.map_set, tell_eqv]
  | come h r =>
    cases e : s.homes[h]? with
    | none => rw [come_none1 e, come_none1 (homes_at e)]; rfl
    | some ho =>
      cases e2 : s.roads[idx h r]? with
      | none => rw [come_none2 e2, come_none2 (roads_at e2)]; rfl
      | some rd =>
        cases e3 : rd.ls[rd.heard]? with
        | none =>
          rw [come_none3 e2 e3, come_none3 (roads_at e2) (by show (rd.ls.map (fL f))[rd.heard]? = none; rw [List.getElem?_map, e3]; rfl)]
          rfl
        | some l =>
          rw [come_some e e2 e3, come_some (homes_at e) (roads_at e2) (l := fL f l) (by show (rd.ls.map (fL f))[rd.heard]? = _; rw [List.getElem?_map, e3]; rfl), n_eqv, hear_eqv y m]
          cases hear y s.n ho (sideOf r) l with
          | none => rfl
          | some p =>
            show some (⟨(s.homes.map (fH f)).set h (fH f p.1), tell s.n h ((s.roads.map (fR f)).set (idx h r) (fR f { rd with heard := rd.heard + 1 })) (fT f p.2)⟩ : Sta) = some (⟨(s.homes.set h p.1).map (fH f), (tell s.n h (s.roads.set (idx h r) { rd with heard := rd.heard + 1 }) p.2).map (fR f)⟩ : Sta)
            have e4 : (s.roads.map (fR f)).set (idx h r) (fR f { rd with heard := rd.heard + 1 }) = (s.roads.set (idx h r) { rd with heard := rd.heard + 1 }).map (fR f) := List.map_set.symm
            rw [e4, tell_eqv, List.map_set (l := s.homes)]
theorem init_eqv (c : List Int) : init (c.map f) = fS f (init c) := by
  unfold init fS
  congr 1
  · rw [List.map_map, List.map_map]
    rfl
  · rw [List.map_replicate, List.length_map]
    rfl
theorem row_eqv (y : Wy) (m : y ≠ .whole → Mono f) : ∀ (row : List Deed) (s : Sta), row.foldlM (step y) (fS f s) = (row.foldlM (step y) s).map (fS f)
  | [], _ => rfl
  | d :: row, s => by
    rw [List.foldlM_cons, List.foldlM_cons, step_eqv y m]
    cases step y s d with
    | none => rfl
    | some t => exact row_eqv y m row t
theorem runRow_eqv (y : Wy) (m : y ≠ .whole → Mono f) (c : List Int) (row : List Deed) : runRow y (c.map f) row = (runRow y c row).map (fS f) := by
  unfold runRow
  rw [init_eqv]
  exact row_eqv y m row _
/-! ### what is asked, of other names -/
theorem isOn_eqv (s : Sta) (h : Nat) : isOn (fS f s) h = isOn s h := by
  unfold isOn
  cases e : s.homes[h]? with
  | none => rw [homes_at e]; rfl
  | some ho => rw [homes_at e]; rfl
theorem begun_eqv (s : Sta) : begun (fS f s) = begun s := by
  unfold begun
  rw [n_eqv]
  congr 1
  funext h
  exact isOn_eqv s h
theorem sent_eqv (s : Sta) : sent (fS f s) = sent s := by
  unfold sent
  show ((s.roads.map (fR f)).map fun r => r.ls.length).sum = _
  rw [List.map_map]
  congr 2
  funext r
  exact List.length_map ..
theorem still_eqv (s : Sta) : still (fS f s) = still s := by
  unfold still
  show (s.roads.map (fR f)).all _ = _
  rw [List.all_map]
  congr 1
  funext r
  show decide ((r.ls.map (fL f)).length ≤ r.heard) = _
  rw [List.length_map]
theorem anyOn_eqv (s : Sta) : anyOn (fS f s) = anyOn s := by
  unfold anyOn
  show (s.homes.map (fH f)).any _ = _
  rw [List.any_map]
  rfl
theorem tame_eqv (s : Sta) : tame (fS f s) = tame s := by
  unfold tame
  show ((s.roads.map (fR f)).all _ && (s.homes.map (fH f)).all _) = _
  rw [List.all_map, List.all_map]
  congr 2
  · funext r
    show (decide (r.heard ≤ (r.ls.map (fL f)).length) && decide ((r.ls.map (fL f)).length ≤ 1000)) = _
    rw [List.length_map]
  · funext h
    show decide ((h.labels.map f).length ≤ 60) = _
    rw [List.length_map]
theorem waits_eqv (s : Sta) (d : Deed) : waitsD (fS f s) d = waitsD s d := by
  cases d with
  | beg h => rfl
  | come h r =>
    show (match (fS f s).roads[idx h r]? with | some rd => decide (rd.heard < rd.ls.length) | none => false) = (match s.roads[idx h r]? with | some rd => decide (rd.heard < rd.ls.length) | none => false)
    cases e : s.roads[idx h r]? with
    | none =>
      rw [roads_at e]
      rfl
    | some rd =>
      rw [roads_at e]
      show decide (rd.heard < (rd.ls.map (fL f)).length) = _
      rw [List.length_map]
theorem isGt_eqv (m : Mono f) (c : List Int) (i j : Nat) : isGt (c.map f) i j = isGt c i j := by
  unfold isGt
  rw [List.getElem?_map, List.getElem?_map]
  cases c[i]? with
  | none => rfl
  | some a =>
    cases c[j]? with
    | none => rfl
    | some b =>
      show decide (f b < f a) = decide (b < a)
      exact decide_eq_decide.mpr (m b a)
theorem stop_eqv (m : Mono f) (c : List Int) (sm : List Nat) (h : Nat) (side : Int) : stop (c.map f) sm h side = stop c sm h side := by
  unfold stop stopAt
  rw [List.length_map]
  congr 1
  congr 1
  funext k
  rw [isGt_eqv m]
def fG (f : Int → Int) (q : Nat × Int) : Nat × Int := (q.1, f q.2)
theorem nextG_eqv (m : Mono f) (r : List (Nat × Int)) (k : Nat) : nextG (r.map (fG f)) k = (nextG r k).map (fG f) := by
  unfold nextG
  rw [List.length_map, List.getElem?_map, List.getElem?_map, List.getElem?_map]
  cases r[k]? with
  | none => rfl
  | some a =>
    cases r[(k + r.length - 1) % r.length]? with
    | none => rfl
    | some p =>
      cases r[(k + r.length - 2) % r.length]? with
      | none => rfl
      | some q =>
        show (if f a.2 < f p.2 ∧ f q.2 < f p.2 then _ else _) = Option.map (fG f) (if a.2 < p.2 ∧ q.2 < p.2 then _ else _)
        have q0 : (f a.2 < f p.2 ∧ f q.2 < f p.2) ↔ (a.2 < p.2 ∧ q.2 < p.2) := by rw [m, m]
        by_cases c : a.2 < p.2 ∧ q.2 < p.2
        · rw [if_pos (q0.mpr c), if_pos c]
          rfl
        · rw [if_neg fun z => c (q0.mp z), if_neg c]
          rfl
theorem next_eqv (m : Mono f) (r : List (Nat × Int)) : nextRow (r.map (fG f)) = (nextRow r).map (fG f) := by
  unfold nextRow
  rw [List.length_map, List.map_filterMap]
  congr 1
  funext k
  exact nextG_eqv m r k
theorem rowsN_eqv (m : Mono f) : ∀ (n : Nat) (r : List (Nat × Int)), rowsN n (r.map (fG f)) = rowsN n r
  | 0, _ => rfl
  | n + 1, r => by
    show (if 1 < (r.map (fG f)).length then rowsN n (nextRow (r.map (fG f))) + 1 else 1) = if 1 < r.length then rowsN n (nextRow r) + 1 else 1
    rw [List.length_map, next_eqv m, rowsN_eqv m n]
theorem row0_eqv (c : List Int) (sm : List Nat) (h : ∀ i ∈ sm, i < c.length) : row0 (c.map f) sm = (row0 c sm).map (fG f) := by
  unfold row0
  rw [List.map_map]
  refine List.map_congr_left fun i hi => ?_
  show (i, (c.map f).getD i 0) = (i, f (c.getD i 0))
  rw [List.getD_eq_getElem?_getD, List.getD_eq_getElem?_getD, List.getElem?_map, List.getElem?_eq_getElem (h i hi)]
  rfl
theorem total_eqv (y : Wy) (m : y ≠ .whole → Mono f) (c : List Int) (sm : List Nat) (h : ∀ i ∈ sm, i < c.length) : total y (c.map f) sm = total y c sm := by
  cases y with
  | whole =>
    show ((c.map f).length : Int) * (((c.map f).length : Int) - 1) = _
    rw [List.length_map]
    rfl
  | halves =>
    show 2 * ((c.map f).length : Int) * (rowsN 4 (row0 (c.map f) sm) : Int) = _
    rw [List.length_map, row0_eqv c sm h, rowsN_eqv (m (by simp))]
    rfl
  | round =>
    show sm.foldl (total1 .round (c.map f) sm) ((c.map f).length : Int) = sm.foldl (total1 .round c sm) (c.length : Int)
    rw [List.length_map]
    congr 1
    funext t h
    show t + (stop (c.map f) sm h 1 : Int) = t + (stop c sm h 1 : Int)
    rw [stop_eqv (m (by simp))]
  | reach =>
    show sm.foldl (total1 .reach (c.map f) sm) ((c.map f).length : Int) = sm.foldl (total1 .reach c sm) (c.length : Int)
    rw [List.length_map]
    congr 1
    funext t h
    show reachLoop (stop (c.map f) sm h (-1)) (stop (c.map f) sm h 1) 4 1 0 t = reachLoop (stop c sm h (-1)) (stop c sm h 1) 4 1 0 t
    rw [stop_eqv (m (by simp)), stop_eqv (m (by simp))]
theorem isTop_eqv (m : Mono f) (c : List Int) (sm : List Nat) (v : Int) : isTop (c.map f) sm (f v) = isTop c sm v := by
  unfold isTop
  congr 1
  · congr 1
    funext h
    rw [List.getElem?_map]
    cases c[h]? with
    | none => rfl
    | some a =>
      show (some (f a) == some (f v)) = (some a == some v)
      by_cases e : a = v
      · rw [e, beq_self_eq_true, beq_self_eq_true]
      · have e2 : f a ≠ f v := fun z => e (m.eq.mp z)
        rw [show (some (f a) == some (f v)) = false from beq_false_of_ne fun z => e2 (Option.some.inj z), show (some a == some v) = false from beq_false_of_ne fun z => e (Option.some.inj z)]
  · congr 1
    funext h
    rw [List.getElem?_map]
    cases c[h]? with
    | none => rfl
    | some a =>
      show decide (f a ≤ f v) = decide (a ≤ v)
      refine decide_eq_decide.mpr ?_
      have := m v a
      omega
theorem knows_eqv (y : Wy) (m : y ≠ .whole → Mono f) (c : List Int) (s : Sta) (h : knowsRight y c s = true) : knowsRight y (c.map f) (fS f s) = true := by
  have gen : Mono f → (s.homes.all fun ho => match ho.chief with | .some [v] => isTop c (begun s) v | _ => false) = true → ((fS f s).homes.all fun ho => match ho.chief with | .some [v] => isTop (c.map f) (begun (fS f s)) v | _ => false) = true := fun m h => by
    show ((s.homes.map (fH f)).all _) = true
    rw [List.all_map]
    refine List.all_eq_true.mpr fun ho hm => ?_
    have z := List.all_eq_true.mp h ho hm
    show (match ho.chief.map (List.map f) with | .some [v] => isTop (c.map f) (begun (fS f s)) v | _ => false) = true
    rw [begun_eqv]
    match hc : ho.chief, z with
    | some [v], z =>
      have z : isTop c (begun s) v = true := z
      show isTop (c.map f) (begun s) (f v) = true
      rw [isTop_eqv m]
      exact z
  cases y with
  | round => exact gen (m (by simp)) h
  | halves => exact gen (m (by simp)) h
  | reach => exact gen (m (by simp)) h
  | whole =>
    show ((List.range (fS f s).n).all fun i => match (fS f s).homes[i]? with | .some ho => ho.chief == .some (rot (c.map f) i) | .none => true) = true
    rw [n_eqv]
    refine List.all_eq_true.mpr fun i hi => ?_
    have z := List.all_eq_true.mp (show ((List.range s.n).all fun i => match s.homes[i]? with | .some ho => ho.chief == .some (rot c i) | .none => true) = true from h) i hi
    cases e : s.homes[i]? with
    | none => rw [homes_at e]; rfl
    | some ho =>
      rw [e] at z
      have z : (ho.chief == some (rot c i)) = true := z
      rw [homes_at e]
      show (ho.chief.map (List.map f) == some (rot (c.map f) i)) = true
      rw [eq_of_beq z]
      have er : rot (c.map f) i = (rot c i).map f := by
        unfold rot
        rw [List.map_append, List.map_drop, List.map_take]
      rw [er]
      exact beq_self_eq_true _
theorem right_eqv (y : Wy) (m : y ≠ .whole → Mono f) (c : List Int) (s : Sta) (hl : s.n = c.length) (h : right y c s = true) : right y (c.map f) (fS f s) = true := by
  obtain ⟨h1, h2⟩ := Bool.and_eq_true_iff.mp h
  have hin : ∀ i ∈ begun s, i < c.length := fun i hi => by
    rw [← hl]
    exact List.mem_range.mp (List.mem_filter.mp hi).1
  refine Bool.and_eq_true_iff.mpr ⟨?_, knows_eqv y m c s h2⟩
  rw [sent_eqv, begun_eqv, total_eqv y m c _ hin]
  exact h1
theorem sound_map {y : Wy} {c : List Int} (m : y ≠ .whole → Mono f) (h : Sound y c) : Sound y (c.map f) := by
  intro row st hr
  rw [runRow_eqv y m] at hr
  obtain ⟨s, hs, rfl⟩ := Option.map_eq_some_iff.mp hr
  obtain ⟨g, ha⟩ := h row s hs
  refine ⟨⟨fun i r hi hd => ?_, ?_, ?_, fun q1 q2 => ?_⟩, fun q => ?_⟩
  · rw [waits_eqv] at hd
    rw [n_eqv] at hi
    obtain ⟨t, ht⟩ := g.come i r hi hd
    exact ⟨fS f t, by rw [step_eqv y m, ht]; rfl⟩
  · rw [tame_eqv]; exact g.tam
  · rw [n_eqv, List.length_map]; exact g.len
  · rw [still_eqv] at q1
    rw [anyOn_eqv] at q2
    exact right_eqv y m c s g.len (g.rgt q1 q2)
  · rw [anyOn_eqv]
    exact ha q
end
/-! ### any small ring is another's image -/
def ln (lo : Int) (k : Int) : Int := lo + k
theorem mono1 (x : Int) : Mono fun k => x + k := fun a b => by
  show x + a < x + b ↔ a < b
  omega
theorem mono2 {x y : Int} (h : x < y) : Mono fun k => if k ≤ 0 then x + k else y + (k - 1) := fun a b => by
  show (if a ≤ 0 then x + a else y + (a - 1)) < (if b ≤ 0 then x + b else y + (b - 1)) ↔ a < b
  split <;> split <;> omega
theorem mono3 {x y z : Int} (h : x < y) (h2 : y < z) : Mono fun k => if k ≤ 0 then x + k else if k ≤ 1 then y else z + (k - 2) := fun a b => by
  show (if a ≤ 0 then x + a else if a ≤ 1 then y else z + (a - 2)) < (if b ≤ 0 then x + b else if b ≤ 1 then y else z + (b - 2)) ↔ a < b
  split <;> split <;> (try split) <;> (try split) <;> omega
theorem sound_of {y : Wy} {L : List (List Int)} (h : L.all (okC y) = true) {c : List Int} (hc : c ∈ L) : Sound y c := closed_sound (List.all_eq_true.mp h c hc)
theorem f1 (a : Int) : [0].map (fun k => a + k) = [a] := by
  show [a + 0] = [a]
  rw [Int.add_zero]
theorem f2 (x y : Int) : [0, 1].map (fun k : Int => if k ≤ 0 then x + k else y + (k - 1)) = [x, y] := by
  show [x + 0, y + (1 - 1)] = [x, y]
  rw [Int.add_zero, Int.sub_self, Int.add_zero]
theorem f2' (x y : Int) : [1, 0].map (fun k : Int => if k ≤ 0 then x + k else y + (k - 1)) = [y, x] := by
  show [y + (1 - 1), x + 0] = [y, x]
  rw [Int.add_zero, Int.sub_self, Int.add_zero]
def three (x y z : Int) (k : Int) : Int := if k ≤ 0 then x + k else if k ≤ 1 then y else z + (k - 2)
theorem three0 (x y z : Int) : three x y z 0 = x := by show x + 0 = x; rw [Int.add_zero]
theorem three1 (x y z : Int) : three x y z 1 = y := rfl
theorem three2 (x y z : Int) : three x y z 2 = z := by show z + (2 - 2) = z; rw [Int.sub_self, Int.add_zero]
theorem sound_two {y : Wy} (a b : Int) (ne : a ≠ b) (h : ∀ c ∈ [[0, 1], [1, 0]], Sound y c) : Sound y [a, b] := by
  by_cases l : a < b
  · rw [← f2 a b]
    exact sound_map (fun _ => mono2 l) (h _ (by simp))
  · rw [← f2' b a]
    exact sound_map (fun _ => mono2 (by omega)) (h _ (by simp))
theorem sound_three {y : Wy} (a b d : Int) (n1 : a ≠ b) (n2 : a ≠ d) (n3 : b ≠ d) (h : ∀ c ∈ perms, Sound y c) : Sound y [a, b, d] := by
  have go : ∀ (x v z i j k : Int), x < v → v < z → [i, j, k] ∈ perms → three x v z i = a → three x v z j = b → three x v z k = d → Sound y [a, b, d] := fun x v z i j k h1 h2 hm e1 e2 e3 => by
    have e : [i, j, k].map (three x v z) = [a, b, d] := by
      show [three x v z i, three x v z j, three x v z k] = _
      rw [e1, e2, e3]
    rw [← e]
    exact sound_map (fun _ => mono3 h1 h2) (h _ hm)
  by_cases l1 : a < b
  · by_cases l2 : b < d
    · exact go a b d 0 1 2 l1 l2 (by decide) (three0 ..) (three1 ..) (three2 ..)
    · by_cases l3 : a < d
      · exact go a d b 0 2 1 l3 (by omega) (by decide) (three0 ..) (three2 ..) (three1 ..)
      · exact go d a b 1 2 0 (by omega) l1 (by decide) (three1 ..) (three2 ..) (three0 ..)
  · by_cases l2 : a < d
    · exact go b a d 1 0 2 (by omega) l2 (by decide) (three1 ..) (three0 ..) (three2 ..)
    · by_cases l3 : b < d
      · exact go b d a 2 0 1 l3 (by omega) (by decide) (three2 ..) (three0 ..) (three1 ..)
      · exact go d b a 2 1 0 (by omega) (by omega) (by decide) (three2 ..) (three1 ..) (three0 ..)
theorem sound_all (y : Wy) (c : List Int) (h1 : 1 ≤ c.length) (h3 : c.length ≤ (if y = .reach then 2 else 3)) (hd : y ≠ .whole → c.Nodup) : Sound y c := by
  by_cases w : y = .whole
  · subst w
    have base : ∀ c0 ∈ [[0],[0,1],[0,1,2]], Sound .whole c0 := fun c0 hc => sound_of okW hc
    have h3 : c.length ≤ 3 := h3
    match c, h1, h3 with
    | [a], _, _ =>
      have e : [0].map (fun k : Int => [a].getD k.toNat 0) = [a] := rfl
      rw [← e]
      exact sound_map (fun q => absurd rfl q) (base [0] (by simp))
    | [a, b], _, _ =>
      have e : [0, 1].map (fun k : Int => [a, b].getD k.toNat 0) = [a, b] := rfl
      rw [← e]
      exact sound_map (fun q => absurd rfl q) (base [0, 1] (by simp))
    | [a, b, d], _, _ =>
      have e : [0, 1, 2].map (fun k : Int => [a, b, d].getD k.toNat 0) = [a, b, d] := rfl
      rw [← e]
      exact sound_map (fun q => absurd rfl q) (base [0, 1, 2] (by simp))
  · have hd := hd w
    have base1 : Sound y [0] ∧ ∀ c ∈ [[0, 1], [1, 0]], Sound y c := by
      cases y with
      | whole => exact absurd rfl w
      | round => exact ⟨sound_of okR (by decide), fun c hc => sound_of okR (by
          rcases List.mem_cons.mp hc with e | hc
          · rw [e]; decide
          · rw [List.mem_singleton.mp hc]; decide)⟩
      | halves => exact ⟨sound_of okH (by decide), fun c hc => sound_of okH (by
          rcases List.mem_cons.mp hc with e | hc
          · rw [e]; decide
          · rw [List.mem_singleton.mp hc]; decide)⟩
      | reach => exact ⟨sound_of okA (by decide), fun c hc => sound_of okA (by
          rcases List.mem_cons.mp hc with e | hc
          · rw [e]; decide
          · rw [List.mem_singleton.mp hc]; decide)⟩
    match c, h1, h3, hd with
    | [a], _, _, _ =>
      rw [← f1 a]
      exact sound_map (fun _ => mono1 a) base1.1
    | [a, b], _, _, hd =>
      have ne : a ≠ b := by
        have := (List.nodup_cons.mp hd).1
        simpa using this
      exact sound_two a b ne base1.2
    | [a, b, d], _, h3, hd =>
      have n1 := (List.nodup_cons.mp hd).1
      have n2 := (List.nodup_cons.mp (List.nodup_cons.mp hd).2).1
      have n1 : a ≠ b ∧ a ≠ d := by simpa using n1
      have n2 : b ≠ d := by simpa using n2
      cases y with
      | whole => exact absurd rfl w
      | round => exact sound_three a b d n1.1 n1.2 n2 fun c hc => sound_of okR hc
      | halves => exact sound_three a b d n1.1 n1.2 n2 fun c hc => sound_of okH hc
      | reach =>
        have h3 : 3 ≤ 2 := h3
        omega
    | a :: b :: d :: e :: r, _, h3, _ =>
      exfalso
      have h3 : r.length + 4 ≤ (if y = .reach then 2 else 3) := h3
      split at h3 <;> omega
end RC
namespace RC
open PySem PySem.Spec PyProof.Rows L2
theorem step_other {y : Wy} {s t : Sta} {d : Deed} (h : step y s d = some t) {i : Nat} (ne : i ≠ d.house) : t.homes[i]? = s.homes[i]? := by
  cases d with
  | beg j =>
    have ne : i ≠ j := ne
    cases e : s.homes[j]? with
    | none => rw [beg_none e] at h; cases h
    | some ho =>
      rw [beg_some e] at h
      cases q : (ho.awake || ho.touched) with
      | true => rw [q, if_pos rfl] at h; cases h
      | false =>
        rw [q, if_neg Bool.false_ne_true] at h
        cases h
        exact List.getElem?_set_ne ne.symm
  | come j r =>
    have ne : i ≠ j := ne
    cases e : s.homes[j]? with
    | none => rw [come_none1 e] at h; cases h
    | some ho =>
      cases e2 : s.roads[idx j r]? with
      | none => rw [come_none2 e2] at h; cases h
      | some rd =>
        cases e3 : rd.ls[rd.heard]? with
        | none => rw [come_none3 e2 e3] at h; cases h
        | some l =>
          rw [come_some e e2 e3] at h
          obtain ⟨p, _, rfl⟩ := Option.map_eq_some_iff.mp h
          exact List.getElem?_set_ne ne.symm
theorem row_other {y : Wy} {c : List Int} : ∀ (n : Nat) (row : List Deed), row.length = n → ∀ st, runRow y c row = some st → ∀ i, i ∉ row.map Deed.house → st.homes[i]? = (init c).homes[i]? := by
  intro n
  induction n with
  | zero =>
    intro row hl st hr i _
    obtain rfl := List.eq_nil_of_length_eq_zero hl
    have : some (init c) = some st := hr
    cases this
    rfl
  | succ n ih =>
    intro row hl st hr i hi
    have hne : row ≠ [] := fun e => by
      rw [e] at hl
      cases hl
    obtain ⟨a, d, rfl⟩ := snoc_of hne
    rw [List.length_append] at hl
    have hl : a.length = n := Nat.succ.inj hl
    rw [runRow_snoc] at hr
    cases e : runRow y c a with
    | none => rw [e] at hr; cases hr
    | some s =>
      rw [e] at hr
      have hr : step y s d = some st := hr
      rw [List.map_append] at hi
      rw [step_other hr (fun q => hi (List.mem_append_right _ (by rw [q]; exact List.mem_singleton_self _)))]
      exact ih a hl s e i fun q => hi (List.mem_append_left _ q)
theorem onward_ok {y : Wy} {c : List Int} (S : Sound y c) {row : List Deed} {st : Sta} (hr : runRow y c row = some st) : ∀ d ∈ onward row st, ∃ t, runRow y c (row ++ [d]) = some t := by
  intro d hd
  obtain ⟨g, _⟩ := S row st hr
  rw [runRow_snoc, hr]
  show ∃ t, step y st d = some t
  rcases List.mem_append.mp hd with q | q
  · obtain ⟨h, hh, rfl⟩ := List.mem_map.mp q
    obtain ⟨h1, h2⟩ := List.mem_filter.mp hh
    have hn := List.mem_range.mp h1
    have hnb : h ∉ busyOf row st := fun z => by
      have : (busyOf row st).contains h = true := List.contains_iff_mem.mpr z
      rw [this] at h2
      cases h2
    have hlt : h < c.length := by rw [← g.len]; exact hn
    have e := row_other _ row rfl st hr h fun z => hnb (List.mem_append_left _ z)
    have e1 : (init c).homes[h]? = some (newHo c[h]) := by
      show (c.map newHo)[h]? = _
      rw [List.getElem?_map, List.getElem?_eq_getElem hlt]
      rfl
    rw [e1] at e
    exact ⟨_, beg_some e⟩
  · obtain ⟨h, hh, hc⟩ := List.mem_flatMap.mp q
    obtain ⟨r, hr2, rfl⟩ := List.mem_map.mp hc
    obtain ⟨_, hw⟩ := List.mem_filter.mp hr2
    exact g.come h r (List.mem_range.mp hh) hw
theorem tame_road {s : Sta} (h : tame s = true) : ∀ rd ∈ s.roads, rd.heard ≤ rd.ls.length ∧ rd.ls.length ≤ 1000 := fun rd hr => by
  have := List.all_eq_true.mp (Bool.and_eq_true_iff.mp h).1 rd hr
  obtain ⟨a, b⟩ := Bool.and_eq_true_iff.mp this
  exact ⟨of_decide_eq_true a, of_decide_eq_true b⟩
theorem tame_small {s : Sta} (h : tame s = true) : SmallS s := ⟨fun rd hr => (tame_road h rd hr).2, fun ho hm => of_decide_eq_true (List.all_eq_true.mp (Bool.and_eq_true_iff.mp h).2 ho hm)⟩
theorem still_of {st : Sta} {row : List Deed} (hl : st.roads.length = 2 * st.n) (tm : tame st = true) (h : ∀ d ∈ onward row st, (dI d).length = 1) : st.roads.all clearB = true ∧ still st = true := by
  have go : ∀ rd ∈ st.roads, rd.heard = rd.ls.length := fun rd hr => by
    obtain ⟨j, hj, e⟩ := List.getElem_of_mem hr
    have le := (tame_road tm rd hr).1
    by_cases c : rd.heard < rd.ls.length
    · exfalso
      have hjn : j / 2 < st.n := by omega
      obtain ⟨r, er⟩ : ∃ r, idx (j / 2) r = j := by
        by_cases p : j % 2 = 0
        · exact ⟨false, by show 2 * (j / 2) + 0 = j; omega⟩
        · exact ⟨true, by show 2 * (j / 2) + 1 = j; omega⟩
      have hw : waitsB st (j / 2) r = true := by
        unfold waitsB
        rw [er, List.getElem?_eq_getElem hj, e]
        exact decide_eq_true c
      have hm : Deed.come (j / 2) r ∈ onward row st := List.mem_append_right _ (List.mem_flatMap.mpr ⟨j / 2, List.mem_range.mpr hjn, List.mem_map.mpr ⟨r, List.mem_filter.mpr ⟨by cases r <;> decide, hw⟩, rfl⟩⟩)
      have := h _ hm
      cases this
    · omega
  exact ⟨List.all_eq_true.mpr fun rd hr => decide_eq_true (go rd hr), List.all_eq_true.mpr fun rd hr => decide_eq_true (Nat.le_of_eq (go rd hr).symm)⟩
theorem begun_ne {s : Sta} (h : anyOn s = true) : begun s ≠ [] := by
  obtain ⟨ho, hm, ha⟩ := List.any_eq_true.mp h
  obtain ⟨i, hi, e⟩ := List.getElem_of_mem hm
  intro q
  have : i ∈ begun s := List.mem_filter.mpr ⟨List.mem_range.mpr hi, by rw [on_at s (List.getElem?_eq_getElem hi), e]; exact ha⟩
  rw [q] at this
  cases this
end RC
namespace RC
open PySem PySem.Spec PyProof.Rows L2
/-- a thing that is no part of the run is written -/
theorem RunAt.put {K : PySem.W.Frag} {y : Wy} {H0 H : Hp} {p d : Addr} {st : Sta} {φ : Heap → Prop} {u : HO} (R : RunAt K y H0 H p st) (hd : H0 d = some (.ext φ)) : RunAt K y (fun _ => none) (upd H d u) p st := by
  obtain ⟨tg, hl, rd, has, ras, R⟩ := R
  have hdH := R.same _ _ hd
  have td : tg d = none := by
    cases c : tg d with
    | none => rfl
    | some x =>
      have := R.fresh d (by rw [c]; simp)
      rw [hd] at this
      cases this
  have nt : ∀ {b t}, tg b = some t → b ≠ d := fun {b t} e z => by
    rw [z, td] at e
    cases e
  have k : TupS H (upd H d u) := fun b xs e => by
    rw [upd_ne (ne_of e hdH (by intro z; cases z))]
    exact e
  refine ⟨tg, hl, rd, has, ras, ⟨fun b o e => (by cases e), fun b _ => rfl, fun b q => ?_, ?_, R.tp, ?_, R.th, ?_, R.tr, R.lh, R.lr, R.l2, R.n0, R.n64, fun i q ho h1 h2 => ?_, fun j q r h1 h2 => ?_⟩⟩
  · by_cases c : b = d
    · exact ⟨_, by rw [c]; exact upd_same⟩
    · obtain ⟨o, e⟩ := R.alive b q
      exact ⟨o, by rw [upd_ne c]; exact e⟩
  · obtain ⟨dx, e⟩ := R.ob
    exact ⟨dx, by rw [upd_ne (nt R.tp)]; exact e⟩
  · rw [upd_ne (nt R.th)]; exact R.hob
  · rw [upd_ne (nt R.tr)]; exact R.rob
  · obtain ⟨a, b, c⟩ := R.hou i q ho h1 h2
    refine ⟨⟨?_, fun w => ?_⟩, b, c⟩
    · obtain ⟨dx, cv, e, g⟩ := a.ob
      exact ⟨dx, cv, by rw [upd_ne (nt b)]; exact e, g.keep k⟩
    · rw [if_pos w] at c
      rw [upd_ne (nt c)]
      exact a.lab w
  · obtain ⟨⟨dx, a⟩, b, c, vs, e, pv⟩ := R.rod j q r h1 h2
    exact ⟨⟨dx, by rw [upd_ne (nt b)]; exact a⟩, b, c, vs, by rw [upd_ne (nt c)]; exact e, Paired.mapP pv fun _ _ z => z.keep k⟩
theorem RunAt.len {K : PySem.W.Frag} {y : Wy} {H0 H : Hp} {p : Addr} {st : Sta} (R : RunAt K y H0 H p st) : st.roads.length = 2 * st.n := let ⟨_, _, _, _, _, r⟩ := R; r.l2
theorem comes_len (st : Sta) : ∀ n : Nat, ((List.range n).flatMap (comesOf st)).length ≤ 2 * n
  | 0 => Nat.le_refl _
  | n + 1 => by
    rw [List.range_succ, List.flatMap_append, List.length_append]
    have e2 : [n].flatMap (comesOf st) = comesOf st n := by rw [List.flatMap_cons, List.flatMap_nil, List.append_nil]
    rw [e2]
    have h1 := comes_len st n
    have h2 : (comesOf st n).length ≤ 2 := by
      unfold comesOf
      rw [List.length_map]
      exact List.length_filter_le _ _
    omega
theorem onward_len (row : List Deed) (st : Sta) : (onward row st).length ≤ 3 * st.n := by
  unfold onward firsts
  rw [List.length_append, List.length_map]
  have h1 := List.length_filter_le (fun h => !(busyOf row st).contains h) (List.range st.n)
  rw [List.length_range] at h1
  have h2 := comes_len st st.n
  omega
/-- == of a list with an empty one -/
def rEqNil : R2 := fun x y H Q => ∃ (a b : Addr) (xs : List V), x = .ref a ∧ y = .ref b ∧ H a = some (.lst xs) ∧ H b = some (.lst []) ∧ Q (.bl (decide (xs.length = 0))) H
theorem op_eqNil {X : Cx} (hu : X.A.units + 64 < cLine) : OpR X (compareOp .Eq) rEqNil := by
  intro pins s σ H x y v u Q I rx ry h
  obtain ⟨a, b, xs, rfl, rfl, ha, hb, q⟩ := h
  cases rx
  cases ry
  obtain ⟨its, r, hl, _⟩ := I.list (SqL.of (K := X.K) ha)
  obtain ⟨its2, r2, hl2, _⟩ := I.list (SqL.of (K := X.K) hb)
  have e2 : its2 = [] := List.eq_nil_of_length_eq_zero r2.length.symm
  subst e2
  have el := r.length
  cases xs with
  | nil =>
    have e1 : its = [] := List.eq_nil_of_length_eq_zero el.symm
    subst e1
    exact SeqAt.eq_listAt (e := fun _ => true) hl.isList hl2.isList rfl (by omega) (fun j h1 _ => absurd h1 (Nat.not_lt_zero _)) ⟨.bl true, H, I, rfl, q⟩
  | cons z zs =>
    refine SeqAt.eq_list_lengthsAt hl.isList hl2.isList ?_ (by omega) ⟨.bl false, H, I, rfl, ?_⟩
    · cases its with
      | nil => cases el
      | cons w ws => rfl
    · have e3 : decide ((z :: zs).length = 0) = false := decide_eq_false (by rw [List.length_cons]; omega)
      rw [e3] at q
      exact q
/-- deeds as data -/
theorem deeds_dp {K : PySem.W.Frag} {H : Hp} : ∀ {vs : List V} {ds : List Deed}, DeedsV H vs ds → DpAll K H vs (ds.map fun d => PyData.tuple ((dI d).map PyData.int))
  | _, _, .nil => .nil
  | _, _, .cons ⟨t, e, h⟩ r => by
    subst e
    exact .cons (.tup (SqT.of h) (dpAll_ints _)) (deeds_dp r)
theorem deeds_fine : ∀ ds : List Deed, FineAll (ds.map fun d => PyData.tuple ((dI d).map PyData.int))
  | [] => FineAll.nil
  | d :: ds => by
    refine FineAll.cons ⟨(fine_ints (dI d)).1, ?_⟩ (deeds_fine ds)
    cases d with
    | beg h =>
      show max 0 0 + 1 ≤ 60
      decide
    | come h r =>
      show max 0 (max 0 0) + 1 ≤ 60
      decide
abbrev RowsV (H : Hp) (xs : List V) (rows : List (List Deed)) : Prop := Paired (fun v row => ∃ t, v = V.ref t ∧ RowH H t row) xs rows
theorem RowsV.keep {H H' : Hp} (k : TupS H H') {xs : List V} {rows : List (List Deed)} (h : RowsV H xs rows) : RowsV H' xs rows := Paired.mapP h fun _ _ ⟨t, e, r⟩ => ⟨t, e, r.keep k⟩
theorem rows_put {H : Hp} {d : Addr} {φ : Heap → Prop} {u : HO} (e : H d = some (.ext φ)) : TupS H (upd H d u) := fun b xs q => by
  rw [upd_ne (ne_of q e (by intro z; cases z))]
  exact q
theorem lst_put {H : Hp} {d : Addr} {ys : List V} {u : HO} (e : H d = some (.lst ys)) : TupS H (upd H d u) := fun b xs q => by
  rw [upd_ne (ne_of q e (by intro z; cases z))]
  exact q
/-- row + (deed,) -/
theorem rCatA_row {K : PySem.W.Frag} {H : Hp} {Q : VK} {t e : Addr} {row : List Deed} {td : V} {d : Deed} (hr : RowH H t row) (he : H e = some (.tup [td])) (hd : TrI H td (dI d)) (hz : row.length ≤ 900)
    (q : ∀ t' H', RowH H' t' (row ++ [d]) → Same H H' → Q (.ref t') H') : rCatA K (.ref t) (.ref e) H Q := by
  obtain ⟨xs, hx, px⟩ := hr
  have lx := px.length
  refine ⟨t, e, xs, [td], rfl, rfl, SqT.of hx, SqT.of he, sz _ (by show xs.length + 1 ≤ 1000; omega), fun e0 => ?_, fun _ e1 => (by cases e1), fun _ _ n hn => ?_⟩
  · subst e0
    have e2 : row = [] := List.eq_nil_of_length_eq_zero lx.symm
    subst e2
    exact q e H ⟨[td], he, .cons hd .nil⟩ (Same.refl H)
  · have s := newS (o := .tup (xs ++ [td])) hn
    exact q n _ ⟨xs ++ [td], upd_same, paired_snoc (DeedsV.keep (tupsS s) px) (hd.keep (tupsS s))⟩ s
abbrev wyL : List V := [.str "round", .str "halves", .str "reach", .str "whole"]
theorem way_of {i : Int} (h0 : 0 ≤ i) (h4 : i < 4) : ∃ y, atI wyL i = some (.str (wyS y)) := by
  have : i = 0 ∨ i = 1 ∨ i = 2 ∨ i = 3 := by omega
  rcases this with rfl | rfl | rfl | rfl
  · exact ⟨.round, rfl⟩
  · exact ⟨.halves, rfl⟩
  · exact ⟨.reach, rfl⟩
  · exact ⟨.whole, rfl⟩
theorem way_at (y : Wy) : ∃ j : Nat, wyL[j]? = some (.str (wyS y)) ∧ eqV (.str (wyS y)) (.str (wyS y)) = true ∧ (∀ (m : Nat) (z : V), m < j → wyL[m]? = some z → eqV z (.str (wyS y)) = false) ∧ atI [V.int 3, .int 3, .int 2, .int 3] (j : Int) = some (.int (if y = .reach then 2 else 3)) := by
  cases y with
  | round => exact ⟨0, rfl, by decide +kernel, fun m z h => absurd h (Nat.not_lt_zero _), rfl⟩
  | halves =>
    refine ⟨1, rfl, by decide +kernel, fun m z h e => ?_, rfl⟩
    obtain rfl : m = 0 := by omega
    cases e
    decide +kernel
  | reach =>
    refine ⟨2, rfl, by decide +kernel, fun m z h e => ?_, rfl⟩
    obtain rfl | rfl : m = 0 ∨ m = 1 := by omega
    · cases e
      decide +kernel
    · cases e
      decide +kernel
  | whole =>
    refine ⟨3, rfl, by decide +kernel, fun m z h e => ?_, rfl⟩
    obtain rfl | rfl | rfl : m = 0 ∨ m = 1 ∨ m = 2 := by omega
    · cases e
      decide +kernel
    · cases e
      decide +kernel
    · cases e
      decide +kernel
def lenB (d : Deed) : Bool := decide (V.int (((dI d).map V.int).length : Int) = V.int 1)
theorem lenB_one {d : Deed} (h : lenB d = true) : (dI d).length = 1 := by
  have := V.int.inj (of_decide_eq_true h)
  rw [List.length_map] at this
  omega
section
variable {P : Program} {w : World} {K : PySem.W.Frag} {mg : PySem.Str → Option Value}
def spLaw (K : PySem.W.Frag) : Sp := fun vs H Q _ => ∃ (a : Addr) (ns : List Int), vs = [.ref a] ∧ SqL K H a (ns.map V.int) ∧ ∀ H', Q (.bl true) H'
theorem okdB (T : Tx K mg) (i : Nat) (d : He.DefD) (hd : fn[i]? = some d) (h0 : d.dfl = []) {N ps : List PySem.Str} {k : Nat} {sp : Sp} (S : FnScope N ps d.scope)
    (hb : ∀ (kV doc pm : Value) (an : Option Addr) (cdv ct : Value) (us : List Value), us.length = ps.length → bindArgs (PySem.W.fnOf d.name d.qual d.params d.body d.scope .none kV doc pm an cdv ct) ⟨us, []⟩ = pure (ps.zip us))
    (len : ∀ vs H Q E, sp vs H Q E → vs.length = ps.length)
    (body : ∀ (base : Heap) (cdv : Value) (A : Around) (outer : List Env) (s : Shared) (H : Hp) (vs : List V) (Q : VK) (E : XK), Room k (A.deeper (envOfC d.qual d.scope s.heap.objs.size (He.fAd K d.at_) cdv)) → sp vs H Q E →
      ∃ t, PSs (cxOf CX0 P w K mg base N d.qual d.scope (He.fAd K d.at_) cdv A outer s H E).nox d.body t ∧ t { nx := fun _ H' => Q .non H', rt := Q } (start N vs) H) :
    ∃ fd, (∀ (s : Shared) (us : List Value), us.length = ps.length → BindsTo s fd ⟨us, []⟩ (ps.zip us)) ∧ ∀ base, FnOk P w K mg base CX0 (k + 1) (He.fAd K d.at_) fd ps sp := by
  obtain ⟨fd, F⟩ := T.s.c.def_ i hd
  have e : d.dvs K = [] := by
    unfold He.DefD.dvs
    rw [h0]
    rfl
  rw [e] at F
  refine ⟨fd, FunD.bindsA (ps := ps) F hb, fun base => F.ok S len (fun cdv A outer s H vs Q E hr h => ?_)⟩
  obtain ⟨t, h1, h2⟩ := body base cdv A outer s H vs Q E hr h
  exact ⟨t, h1.nox, h2⟩
theorem ok_law (T : Tx K mg) : ∃ fd, (∀ (s : Shared) (us : List Value), us.length = P_law.length → BindsTo s fd ⟨us, []⟩ (P_law.zip us)) ∧ ∀ base, FnOk P w K mg base CX0 9 (He.fAd K ("law", none)) fd P_law (spLaw K) := by
  refine okdB T 60 d_law rfl rfl (N := N_law) sc_law (fun _ _ _ _ _ _ us hl => match us, hl with | [_], _ => rfl) (fun vs H Q E h => ?_) (fun base cdv A outer s H vs Q E hr h => ?_)
  · obtain ⟨a, ns, rfl, _⟩ := h
    rfl
  · obtain ⟨sa, ns, rfl, hsa, out⟩ := h
    obtain ⟨fdP, GP, bP⟩ := (ok_pot (P := P) (w := w) (base := base) T).mono (k := 8) (by decide)
    obtain ⟨fdD, GD, bD⟩ := (ok_draw (P := P) (w := w) (base := base) T).mono (k := 8) (by decide)
    obtain ⟨fdW, GW, bW⟩ := (ok_word (P := P) (w := w) (base := base) T).mono (k := 8) (by decide)
    obtain ⟨fdR, GR', bR⟩ := (ok_ring (P := P) (w := w) (base := base) T).mono (k := 8) (by decide)
    obtain ⟨fdN, GN, bN⟩ := ok_done (P := P) (w := w) (base := base) T
    obtain ⟨fdK, GK, bK⟩ := (ok_key (P := P) (w := w) (base := base) T).mono (k := 8) (by decide)
    obtain ⟨fdO, GO, bO⟩ := (ok_onward (P := P) (w := w) (base := base) T).mono (k := 8) (by decide)
    obtain ⟨fdI, GI, bI⟩ := (ok_is_right (P := P) (w := w) (base := base) T).mono (k := 8) (by decide)
    refine ⟨_, pss_cons (ps_set (i := 1) sc_law.nd rfl (.inl rfl) (pe_call GP hr rfl T.g__law_pot (T.kp 48 (d := d_pot) rfl) bP .nil pass0 (pa_cons (pv 0) pa_nil)))
      (pss_cons (ps_set (i := 2) sc_law.nd rfl (.inl rfl) (pe_ix ix_list (pe_lst (pa_cons pe_str (pa_cons pe_str (pa_cons pe_str (pa_cons pe_str pa_nil))))) (pe_call GD hr rfl T.g__law_draw (T.kp 49 (d := d_draw) rfl) bD .nil pass0 (pa_cons (pv 1) (pa_cons pe_int pa_nil))) (fun _ _ => rfl)))
      (pss_cons (ps_set (i := 3) sc_law.nd rfl (.inl rfl) (pe_op op_add pe_int (pe_call GD hr rfl T.g__law_draw (T.kp 49 (d := d_draw) rfl) bD .nil pass0 (pa_cons (pv 1) (pa_cons
        (pe_ix ix_list (pe_lst (pa_cons pe_int (pa_cons pe_int (pa_cons pe_int (pa_cons pe_int pa_nil)))))
          (pe_bm PySem.F.plainAttrs_list PySem.F.slot_list_index PySem.F.type_list_index mt_index (pe_lst (pa_cons pe_str (pa_cons pe_str (pa_cons pe_str (pa_cons pe_str pa_nil))))) (pa_cons (pv 2) pa_nil)) (fun _ _ => rfl)) pa_nil)))))
      (pss_mid (ps_set (i := 4) sc_law.nd rfl (.inl rfl) (pe_ifExp (pt_cmpR op_eq (pv 2) pe_str (nomark _))
        (pe_call GW hr rfl T.g__law_word (T.kp 51 (d := d_word) rfl) bW .nil pass0 (pa_cons (pv 1) (pa_cons (pv 3) pa_nil)))
        (pe_call GR' hr rfl T.g__law_ring (T.kp 50 (d := d_ring) rfl) bR .nil pass0 (pa_cons (pv 1) (pa_cons (pv 3) pa_nil)))))
      (pss_cons (ps_par (i := 5) (j := 6) rfl sc_law.nd rfl rfl (by decide) rfl rfl (pa_cons pe_metnew (pa_cons (pe_lst (pa_cons (pe_tup pa_nil) pa_nil)) pa_nil)) rfl)
      (pss_cons (ps_for PassesOwn.never rfl (pi_range1 rfl T.b_range (pa_cons pe_int pa_nil)) (pg_name (i := 7) sc_law.nd rfl (.inl rfl))
        (pss_cons (ps_if (pt_cmpR (op_eqNil hr.units) (pv 6) (pe_lst pa_nil) (nomark _)) (pss_one (ps_ret pe_bl)) pss_nil)
        (pss_cons (ps_set (i := 8) sc_law.nd rfl (.inr rfl) (pe_bm0 PySem.F.plainAttrs_list PySem.F.slot_list_pop PySem.F.type_list_pop mt_pop (pv 6)))
        (pss_cons (ps_set (i := 9) sc_law.nd rfl (.inl rfl) (pe_call GN hr rfl T.g__law_done (T.kp 56 (d := d_done) rfl) bN .nil pass0 (pa_cons (pv 2) (pa_cons (pv 4) (pa_cons (pv 8) pa_nil)))))
        (pss_cons (ps_set (i := 10) sc_law.nd rfl (.inl rfl) (pe_call GK hr rfl T.g__law_key (T.kp 58 (d := d_key) rfl) bK .nil pass0 (pa_cons (pv 4) (pa_cons (pv 9) pa_nil))))
        (pss_one (ps_if (pt_cmp (pc_metnot hr.units (pv 10) (pv 5)) (by rfl))
          (pss_cons (ps_metput hr.units (pv 5) (pv 10) pe_bl rfl)
          (pss_cons (ps_set (i := 11) sc_law.nd rfl (.inl rfl) (pe_call GO hr rfl T.g__law_onward (T.kp 57 (d := d_onward) rfl) bO .nil pass0 (pa_cons (pv 4) (pa_cons (pv 8) (pa_cons (pv 9) pa_nil)))))
          (pss_mid (ps_if (PW.pt (pw_and (pt_cmpR (op_neD hr.units) (pv 8) (pe_tup pa_nil) (nomark _)) (pw_and (pt_val (pe_callB (cr_all rfl) (by rfl) T.b_all (by decide +kernel) (pa_cons
              (pe_lc (own := [("_law_deed", 12)]) (g := gName 12) (tt := tYes) (te := tOp rEq (tCB (fun xs H_1 Q => ∃ p ys, xs = [V.ref p] ∧ (SqL K H_1 p ys ∨ SqT K H_1 p ys) ∧ Q (V.int ys.length) H_1) (tCons (tVar 12) tNil)) (tC (.int 1))) rfl sc_law.nd (pi_list (pv 11))
                (blkOk_by (own := [("_law_deed", 12)]) (N := N_law) (sc := defScope s_law) (by decide +kernel)) (fun _ _ _ _ _ => by exact pg_name (i := 12) sc_law.nd rfl (Or.inl rfl)) (fun _ _ _ _ _ => pts_nil)
                (fun _ _ _ _ _ => by exact pe_cmpR op_eq (pe_callB call_len_seq (by rfl) T.b_len PySem.boot_len (pa_cons (pv 12) pa_nil)) pe_int (nomark _))) pa_nil)))
              (pw_and1 (pt_not (pt_val (pe_call GI hr rfl T.g__law_is_right (T.kp 59 (d := d_is_right) rfl) bI .nil pass0 (pa_cons (pv 2) (pa_cons (pv 4) (pa_cons (pv 9) pa_nil)))))))))) (pss_one (ps_ret pe_bl)) pss_nil)
          (pss_one (ps_expr (pe_bm PySem.F.plainAttrs_list PySem.F.slot_list_extend PySem.F.type_list_extend mt_extend (pv 6) (pa_cons
            (pe_lc (own := [("_law_deed", 12)]) (g := gName 12) (tt := tYes) (te := tOp (rCatA K) (tVar 8) (tTup (tCons (tVar 12) tNil))) rfl sc_law.nd (pi_list (pv 11))
              (blkOk_by (own := [("_law_deed", 12)]) (N := N_law) (sc := defScope s_law) (by decide +kernel)) (fun _ _ _ _ _ => by exact pg_name (i := 12) sc_law.nd rfl (Or.inl rfl)) (fun _ _ _ _ _ => pts_nil)
              (fun _ _ _ _ _ => by exact pe_op op_catA (pv 8) (pe_tup (pa_cons (pv 12) pa_nil)))) pa_nil))))))) pss_nil)))))))
      (pss_one (ps_ret pe_bl))))))), ?_⟩
    refine ⟨_, rfl, sa, ns, rfl, hsa, fun H1 p ca q1 s1 => ?_⟩
    refine ⟨sz 4, fun L1 hL1 => ?_⟩
    have sL1 := newS (o := .lst wyL) hL1
    have q1' := q1.same sL1
    refine ⟨_, rfl, p, ca, 0, 4, rfl, q1', by decide, by decide, by decide, fun i H2 i0 i4 q2 b2 => ?_⟩
    have nL1p : L1 ≠ p := (let ⟨_, e⟩ := q1.at; ne_of_none e hL1 : p ≠ L1).symm
    obtain ⟨y, hy⟩ := way_of i0 i4
    refine ⟨L1, _, _, _, rfl, rfl, SqL.of (lst_draw b2 nL1p upd_same), hy, ?_⟩
    obtain ⟨j, hj, hjj, hjn, hcap⟩ := way_at y
    refine ⟨_, rfl, sz 4, fun M hM => ?_⟩
    have sM := newS (o := .lst [V.int 3, .int 3, .int 2, .int 3]) hM
    refine ⟨sz 4, fun S hS => ?_⟩
    have sS := newS (o := .lst wyL) hS
    refine ⟨.inl ⟨rfl, _, SqL.of upd_same⟩, _, rfl, S, wyL, .str (wyS y), j, _, rfl, rfl, SqL.of upd_same, rfl, rfl, hj, hjj, hjn, ?_⟩
    refine ⟨M, _, _, _, rfl, rfl, SqL.of (sS _ _ upd_same), hcap, ?_⟩
    have q3 := (q2.same sM).same sS
    refine ⟨p, ca, 1, (if y = .reach then 2 else 3), rfl, q3, by decide, by split <;> decide, by split <;> decide, fun v H3 v0 v1 q4 b4 => ?_⟩
    refine ⟨1, v, rfl, rfl, ?_⟩
    obtain ⟨k, rfl⟩ := Int.eq_ofNat_of_zero_le v0
    obtain ⟨n, hn⟩ : ∃ n : Nat, n = k + 1 := ⟨_, rfl⟩
    have hn1 : 1 ≤ n := by omega
    have hncap : n ≤ (if y = .reach then 2 else 3) := by
      by_cases c : y = .reach
      · rw [if_pos c] at v1 ⊢
        omega
      · rw [if_neg c] at v1 ⊢
        omega
    have hn3 : n ≤ 3 := by
      by_cases c : y = .reach
      · rw [if_pos c] at hncap
        omega
      · rw [if_neg c] at hncap
        exact hncap
    have en : V.int (1 + (k : Int)) = V.int (n : Int) := by
      congr 1
      omega
    refine ⟨fun σ' H' => ∃ (c : List Int) (ra : Addr), σ' = [some (.ref sa), some (.ref p), some (.str (wyS y)), some (.int (1 + (k : Int))), some (.ref ra), none, none, none, none, none, none, none, none] ∧ H' ra = some (.tup (c.map V.int)) ∧ c.length = n ∧ RingOk y c, ?_, ?_⟩
    · refine ⟨_, rfl, rfl, _, rfl, iteB (fun e => ?_) (fun e => ?_)⟩
      · have ey : y = .whole := by
          cases y with
          | whole => rfl
          | _ => exact absurd e (by decide +kernel)
        refine ⟨_, rfl, _, rfl, p, ca, 2, n, (by show [V.ref p, V.int (1 + (k : Int))] = _; rw [en]), q4, by decide, hn1, hn3, fun ms t H4 ⟨ra, et, hra⟩ hl hb b5 => ?_⟩
        subst et
        exact ⟨ms, ra, rfl, hra, hl, by omega, by omega, fun x hx => by rw [if_pos ey]; exact hb x hx, fun ny => absurd ey ny⟩
      · have ny : y ≠ .whole := fun ey => by
          subst ey
          exact absurd e (by decide +kernel)
        refine ⟨_, rfl, _, rfl, p, ca, 2, n, (by show [V.ref p, V.int (1 + (k : Int))] = _; rw [en]), q4, by decide, hn1, hn3, fun ms t H4 ⟨ra, et, hra⟩ hl hb hnd b5 => ?_⟩
        subst et
        exact ⟨ms, ra, rfl, hra, hl, by omega, by omega, fun x hx => by rw [if_neg ny]; exact hb x hx, fun _ => hnd⟩
    rintro σ H4 ⟨c, ra, rfl, hra, hcl, hok⟩
    have S : Sound y c := sound_all y c hok.1 (by rw [hcl]; exact hncap) hok.2.2.2
    refine fun d hd => ⟨sz 0, fun e0 he0 => ⟨sz 1, fun L hL => ⟨_, _, rfl, ?_⟩⟩⟩
    have s5 : Same H4 (upd H4 d (metO P w d [])) := newS hd
    have s6 := newS (o := .tup []) he0
    have s7 := newS (o := .lst [.ref e0]) hL
    have hd6 := s6 _ _ (upd_same : upd H4 d (metO P w d []) d = _)
    have nLd : L ≠ d := (ne_of_none hd6 hL).symm
    refine ⟨900, rfl, by decide, by decide, ?_⟩
    refine for_it (walk_range (lo := 0) (n := 900)) (fun i σ H' => ∃ u7 u8 u9 u10 u11, σ = [some (.ref sa), some (.ref p), some (.str (wyS y)), some (.int (1 + (k : Int))), some (.ref ra), some (.ref d), some (.ref L), u7, u8, u9, u10, u11, none] ∧ H' ra = some (.tup (c.map V.int)) ∧ MetAt P w H' d i ∧
        ∃ xs rows, H' L = some (.lst xs) ∧ RowsV H' xs rows ∧ xs.length ≤ 1 + 9 * i ∧ ∀ row ∈ rows, row.length ≤ i ∧ ∃ st, runRow y c row = some st)
      ⟨none, none, none, none, none, rfl, s7 _ _ (s6 _ _ (s5 _ _ hra)), ⟨[], s7 _ _ hd6, Nat.le_refl _, fun x hx => by cases hx⟩, [.ref e0], [[]], upd_same, .cons ⟨e0, rfl, [], s7 _ _ upd_same, .nil⟩ .nil, (by show 1 ≤ 1; decide), fun row hrow => by
        rw [List.mem_singleton.mp hrow]
        exact ⟨Nat.le_refl _, _, rfl⟩⟩ (fun _ _ _ _ _ => trivial) ?_ ?_
    · rintro i z σ H5 H6 hi ⟨u7, u8, u9, u10, u11, rfl, ha, hmet, xs, rows, hL5, hrows, hlx, hall⟩ ⟨rfl, rfl⟩
      refine ⟨_, rfl, sz 0, fun Z hZ => ?_⟩
      have sZ : Same H6 (upd H6 Z (.lst [])) := newS hZ
      refine ⟨L, Z, xs, rfl, rfl, sZ _ _ hL5, upd_same, _, rfl, iteD (fun e => ?_) (fun ne => ?_)⟩
      · exact out _
      obtain ⟨xi, xv, rfl⟩ := snoc_of (fun e => ne (by rw [e]; rfl) : xs ≠ [])
      obtain ⟨ri, row, rfl⟩ := snoc_of (fun e => by
        have := hrows.length
        rw [e, List.length_append] at this
        have : xi.length + 1 = 0 := this
        omega : rows ≠ [])
      obtain ⟨hri, t, rfl, hrow⟩ := paired_unsnoc hrows
      obtain ⟨hrl, st, hrun⟩ := hall row (List.mem_append_right _ (List.mem_singleton_self _))
      refine ⟨_, rfl, .inl ⟨rfl, _, SqL.of (sZ _ _ hL5)⟩, L, _, .ref t, rfl, rfl, sZ _ _ hL5, by simp, ?_⟩
      rw [List.dropLast_concat]
      have kp : TupS (upd H6 Z (.lst [])) (upd (upd H6 Z (.lst [])) L (.lst xi)) := lst_put (sZ _ _ hL5)
      obtain ⟨H7, eH7⟩ : ∃ H7, H7 = upd (upd H6 Z (.lst [])) L (.lst xi) := ⟨_, rfl⟩
      rw [← eH7] at kp ⊢
      have k67 : TupS H6 H7 := (tupsS sZ).trans kp
      have ha7 := k67 _ _ ha
      have hrow7 := hrow.keep k67
      have hri7 := RowsV.keep k67 hri
      have hL7 : H7 L = some (.lst xi) := by rw [eH7]; exact upd_same
      have hmet7 : MetAt P w H7 d i := hmet.keep k67 fun o e => by
        have nd : d ≠ L := fun z => by
          obtain ⟨φ, eφ⟩ := hmet.at
          rw [z, hL5] at eφ
          cases eφ
        rw [eH7, upd_ne nd]
        exact sZ _ _ e
      obtain ⟨g, hon⟩ := S row st hrun
      have heard := fun rd hr => (tame_road g.tam rd hr).1
      refine ⟨_, rfl, _, rfl, _, rfl, y, ra, t, c, row, st, rfl, ha7, hok, hrow7, hrun, fun kk s hs => tame_small (S _ _ hs).1.tam, fun H8 pr R8 => ?_⟩
      have s78 := R8.same
      refine ⟨_, rfl, _, rfl, y, H7, ra, pr, c, st, rfl, s78 _ _ ha7, g.len.symm, R8, heard, fun H9 b nk s89 => ?_⟩
      have s79 := s78.trans s89
      have R9 := R8.mono s89
      have hmet9 := hmet7.same s79
      obtain ⟨key, nis, k8⟩ := nk
      refine ⟨_, rfl, _, rfl, d, i, key, b, rfl, rfl, hmet9, nis, k8, fun cc => ⟨cc, rfl, iteB (fun _ => ?_) (fun _ => ?_)⟩⟩
      · refine ⟨_, rfl, _, rfl, d, i, key, b, rfl, rfl, hmet9, by omega, nis, k8, fun u hmu => ?_⟩
        obtain ⟨φ9, e9⟩ := hmet9.at
        have k9 : TupS H9 (upd H9 d u) := rows_put e9
        obtain ⟨φ7, e7⟩ := hmet7.at
        have RA : RunAt K y (fun _ => none) (upd H9 d u) pr st := R9.put e7
        have nLd' : L ≠ d := ne_of hL7 e7 (by intro z; cases z)
        obtain ⟨HA, eHA⟩ : ∃ HA, HA = upd H9 d u := ⟨_, rfl⟩
        rw [← eHA] at k9 hmu RA ⊢
        have kA : TupS H7 HA := (tupsS s79).trans k9
        have haA := kA _ _ ha7
        have hLA : HA L = some (.lst xi) := by
          rw [eHA, upd_ne nLd']
          exact s79 _ _ hL7
        have hrowA := hrow7.keep kA
        have hriA := RowsV.keep kA hri7
        refine ⟨_, rfl, _, rfl, _, rfl, y, fun _ => none, ra, t, pr, c, row, st, rfl, haA, g.len.symm, hrowA, by omega, RA, heard, fun HB D zs hD hds sAB D0 => ?_⟩
        refine ⟨fun σ' H' => σ' = [some (.ref sa), some (.ref p), some (.str (wyS y)), some (.int (1 + (k : Int))), some (.ref ra), some (.ref d), some (.ref L), some (.int (0 + (i : Int))), some (.ref t), some (.ref pr), some (.ref b), some (.ref D), none] ∧ Same HB H', ?_, ?_⟩
        · obtain ⟨rxs, hrx, prx⟩ := hrowA
          refine ⟨_, rfl, sz 0, fun E0 hE0 => ?_⟩
          have sE : Same HB (upd HB E0 (.tup [])) := newS hE0
          have sAE := sAB.trans sE
          refine ⟨_, _, .tup (SqT.of (sAE _ _ hrx)) (deeds_dp (DeedsV.keep (tupsS sAE) prx)), .tup (SqT.of upd_same) .nil, (deeds_fine row).tup, sh_tnil, _, rfl, ?_⟩
          rw [eqv_tnil]
          refine iteB (fun e1 => ?_) (fun _ => iteF ⟨rfl, sE⟩)
          have hrne : row ≠ [] := fun e => by
            rw [e] at e1
            exact absurd e1 (by decide)
          obtain ⟨HC, eHC⟩ : ∃ HC, HC = upd HB E0 (.tup []) := ⟨_, rfl⟩
          rw [← eHC] at sE sAE ⊢
          refine ⟨_, rfl, D, rfl, ⟨_, SqL.of (sE _ _ hD)⟩, fun A0 hA0 => ?_⟩
          have hdsC := DeedsV.keep (tupsS sE) hds
          have lz := hds.length
          have lon := onward_len row st
          rw [g.len, hcl] at lon
          refine lc_it (walk_list (xs := zs)) (fun j H' => Same HC H' ∧ H' A0 = some (.lst ((((onward row st).take j).map lenB).map V.bl))) ?_ (fun _ _ _ q => SqL.of (q.1 _ _ (sE _ _ hD))) ?_ ?_
          · exact ⟨newS hA0, upd_same⟩
          · rintro j x H10 H11 hj ⟨s10, h10⟩ ⟨rfl, hx10⟩
            obtain ⟨dd, hdd, td, rfl, htd⟩ := paired_get hdsC hx10
            refine ⟨rfl, yes ⟨_, rfl, td, _, rfl, .inr (SqT.of (s10 _ _ htd)), rfl, _, h10, ?_, ?_, ?_⟩⟩
            · rw [List.length_map, List.length_map, List.length_take]
              exact small1000 (by omega)
            · exact fun b o e => by rw [upd_ne (ne_of_none e hA0)]; exact s10 _ _ e
            · rw [upd_same, take_succ_map lenB hdd, List.map_append]
              rfl
          · rintro H10 ⟨s10, h10⟩
            rw [lz, List.take_length] at h10
            refine ⟨A0, _, rfl, SqL.of h10, _, rfl, iteB (fun e2 => ?_) (fun _ => iteF ⟨rfl, sE.trans s10⟩)⟩
            have h1len : ∀ dd ∈ onward row st, (dI dd).length = 1 := fun dd hm => by
              have := List.all_eq_true.mp e2 (lenB dd) (List.mem_map.mpr ⟨dd, hm, rfl⟩)
              exact lenB_one this
            obtain ⟨hst1, hst2⟩ := still_of RA.len g.tam h1len
            have sA10 := sAE.trans s10
            refine ⟨_, rfl, _, rfl, _, rfl, y, fun _ => none, ra, pr, c, st, rfl, sA10 _ _ haA, g.len.symm, hok.1, by omega, RA.mono sA10, fun ey x hx => ?_, g.rgt hst2 (hon hrne), begun_ne (hon hrne), hst1, fun H11 s11 => ⟨true, rfl, iteF ⟨rfl, (sE.trans s10).trans s11⟩⟩⟩
            have := hok.2.2.1 x hx
            rw [if_pos ey] at this
            exact this
        · rintro σ HC ⟨rfl, sBC⟩
          have sAC := sAB.trans sBC
          have hLC := sAC _ _ hLA
          have hDC := sBC _ _ hD
          have hdsC := DeedsV.keep (tupsS sBC) hds
          have hrowC := hrowA.keep (tupsS sAC)
          have lz := hds.length
          have lon := onward_len row st
          rw [g.len, hcl] at lon
          refine ⟨_, rfl, .inl ⟨rfl, _, SqL.of hLC⟩, _, rfl, D, rfl, ⟨_, SqL.of hDC⟩, fun A0 hA0 => ?_⟩
          refine lc_it (walk_list (xs := zs)) (fun j H' => Same HC H' ∧ ∃ ys, H' A0 = some (.lst ys) ∧ RowsV H' ys (((onward row st).take j).map fun dd => row ++ [dd])) ?_ (fun _ _ _ q => SqL.of (q.1 _ _ hDC)) ?_ ?_
          · exact ⟨newS hA0, [], upd_same, .nil⟩
          · rintro j x H10 H11 hj ⟨s10, ys, h10, p10⟩ ⟨rfl, hx10⟩
            obtain ⟨dd, hdd, td, rfl, htd⟩ := paired_get hdsC hx10
            refine ⟨rfl, yes ⟨_, rfl, _, rfl, sz 1, fun e1 he1 => ?_⟩⟩
            have s12 := newS (o := .tup [.ref td]) he1
            have s1012 := s10.trans s12
            refine rCatA_row (d := dd) (td := .ref td) (hrowC.keep (tupsS s1012)) upd_same ⟨td, rfl, s1012 _ _ htd⟩ (by omega) fun t' H13 hr13 s13 => ?_
            have s1113 := s12.trans s13
            have h13 := s1113 _ _ h10
            have k14 : TupS H13 (upd H13 A0 (.lst (ys ++ [.ref t']))) := lst_put h13
            have lp := p10.length
            rw [List.length_map, List.length_take] at lp
            refine ⟨ys, h13, small1000 (by omega), ?_, ys ++ [.ref t'], upd_same, ?_⟩
            · exact fun b o e => by rw [upd_ne (ne_of_none e hA0)]; exact s1113 _ _ (s10 _ _ e)
            · rw [take_succ_map (fun dd => row ++ [dd]) hdd]
              exact paired_snoc (RowsV.keep ((tupsS s1113).trans k14) p10) ⟨t', rfl, hr13.keep k14⟩
          · rintro H10 ⟨s10, ys, h10, p10⟩
            rw [lz, List.take_length] at p10
            have hL10 := s10 _ _ hLC
            have k11 : ∀ o, TupS H10 (upd H10 L (.lst o)) := fun o => lst_put hL10
            have lp := p10.length
            rw [List.length_map] at lp
            have hlx' : xi.length + 1 ≤ 1 + 9 * i := by
              rw [List.length_append] at hlx
              exact hlx
            have sA10 := sAC.trans s10
            refine ⟨L, A0, xi, ys, rfl, rfl, hL10, h10, ?_, ?_⟩
            · rw [sizeLine_eq]
              omega
            · refine ⟨_, _, _, _, _, rfl, k11 _ _ _ (sA10 _ _ haA), ?_, xi ++ ys, ri ++ (onward row st).map (fun dd => row ++ [dd]), upd_same, ?_, ?_, ?_⟩
              · refine (hmu.same sA10).keep (k11 _) fun o e => ?_
                rw [upd_ne nLd'.symm]
                exact e
              · exact paired_app (RowsV.keep ((tupsS sA10).trans (k11 _)) hriA) (RowsV.keep (k11 _) p10)
              · rw [List.length_append]
                omega
              · intro rw' hrw'
                rcases List.mem_append.mp hrw' with q | q
                · obtain ⟨a1, a2⟩ := hall rw' (List.mem_append_left _ q)
                  exact ⟨by omega, a2⟩
                · obtain ⟨dd, hdd, rfl⟩ := List.mem_map.mp q
                  obtain ⟨st', hst'⟩ := onward_ok S hrun dd hdd
                  refine ⟨?_, st', hst'⟩
                  rw [List.length_append]
                  show row.length + 1 ≤ i + 1
                  omega
      · refine ⟨_, _, _, _, _, rfl, s79 _ _ ha7, ?_, xi, ri, s79 _ _ hL7, RowsV.keep (tupsS s79) hri7, ?_, fun rw' hrw' => ?_⟩
        · obtain ⟨zs, h1, h2, h3⟩ := hmet9
          exact ⟨zs, h1, Nat.le_succ_of_le h2, h3⟩
        · rw [List.length_append] at hlx
          have hlx : xi.length + 1 ≤ 1 + 9 * i := hlx
          omega
        · obtain ⟨a1, a2⟩ := hall rw' (List.mem_append_left _ hrw')
          exact ⟨by omega, a2⟩
    · rintro σ H5 ⟨u7, u8, u9, u10, u11, rfl, _⟩
      exact out H5
end
end RC
open PySem PySem.W PySem.Calls PyProof.Rows
theorem PySem.Challenge.cw_ringchief_k32_whole_all_orders_of_small_holds : PySem.Challenge.rw_ringchief_k32_whole_all_orders_of_small.Holds := by
  w_on; o_law
  refine HandSHeadRun.head_any (r := RC.R) (q := RC.qv) (H := RC.hk) (ob := RC.ob) (M := 6000) (loose := RC.loose) (d := HandSHeadRun.topDef RC.R.prog 50) (kwd := []) RC.ob_eq
    (by kernel_rfl) (fun s => by kernel_rfl) RC.run (by kernel_rfl) (by kernel_rfl) (by kernel_rfl) (by rfl) (by first | assumption | decide +kernel) (by decide +kernel) ⟨rfl, rfl, rfl, rfl, rfl, by decide +kernel⟩ ?hw ?hc
  case hw => w_witness2
  case hc =>
    refine L2.walk_ofE (l := PySem.Challenge.rw_ringchief_k32_whole_all_orders_of_small) (n := 63) (k := 9) (x := "_law_script") (CX := L2.CX0) rfl (by decide) (by kernel_rfl) ⟨rfl, by decide, by decide⟩ ?F (fun _ _ _ _ z => z)
    intro w mg fa h Y G hmg0
    obtain ⟨K, KX, c⟩ := Y
    have hmg : mg ("law" : PySem.Str) = some (.ref fa) := by
      have e : (HandSHeadRun.topDef RC.R.prog 50).name = ("law" : PySem.Str) := by kernel_rfl
      rw [← e]
      exact hmg0
    have T := RC.Tx.of KX G c
    have e := hmg.symm.trans T.g_law
    cases e
    obtain ⟨fd, hb, hF⟩ := RC.ok_law (P := (PySem.Challenge.rw_ringchief_k32_whole_all_orders_of_small).prog) (w := w) T
    exact ⟨K, fd, RC.spLaw K, KX, fun s v => hb s [v] rfl, fun H a ns hl _ hS => ⟨a, ns, rfl, hS, fun _ => rfl⟩, fun base _ _ => hF base⟩
